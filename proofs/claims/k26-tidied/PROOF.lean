import PyProof.Rows.All
import Wide.All
import OpenK.AllK
import Wide.FinOn
import HandS.ForSpec
import HandS.ForMost
import HandS.IsInst
import HandS.Deep
import HandS.Conv
import HandS.TupAny
import HandS.TupMul
import KE.KeyNested
import KE.KDictKeyed
import PyProof.P3In
import HandS.Flow
import HandS.Zip
import HandS.Strs
import PyProof.ReprLen
import KE.GoesMore
import HandS.Iter
import HandS.SortInts
import KE.KTurns
import HandS.Comp
import HandS.Wide
import HandS.TryMany
import HandS.Dict
import HandS.Small
import HandS.WordsDict
import HandS.ExcIs
import HandS.TupLe
import HandS.TupSets
import HandS.DictComp
import KE.GoesZip
import HandS.SetFor
import HandS.TryOnly
import PySem.Challenge.RW_looksfar_k26_tidied
set_option Elab.async false
set_option linter.all false
set_option maxRecDepth 100000
set_option maxHeartbeats 4000000
namespace L3
open PySem PySem.Spec PyProof.Rows L2
/-! ### values, with tuples by value -/
inductive D where
  | non | bl (b : Bool) | int (i : Int) | str (x : Str) | tup (ds : List D) | ref (a : Addr) | ty (n : String)
inductive MO where
  | lst (ds : List D) | ro (ds : List D) | dT (kvs : List (D × D)) | dK (kvs : List (Key × D))
abbrev MH := Addr → Option MO
abbrev En := List (Option D)
abbrev Fg := PySem.W.Frag
def updM (M : MH) (a : Addr) (o : MO) : MH := fun b => if b = a then some o else M b
theorem updM_same {M : MH} {a : Addr} {o : MO} : updM M a o a = some o := by unfold updM; rw [if_pos rfl]
theorem updM_ne {M : MH} {a b : Addr} {o : MO} (h : b ≠ a) : updM M a o b = M b := by unfold updM; rw [if_neg h]
theorem updM_updM {M : MH} {a : Addr} {o u : MO} : updM (updM M a o) a u = updM M a u := by
  funext b; unfold updM; split <;> rfl
theorem neM {M : MH} {a b : Addr} {o : MO} (h : M a = some o) (h' : M b = none) : a ≠ b := by
  intro e; subst e; rw [h] at h'; cases h'
/-- less is known -/
def Sub (M M' : MH) : Prop := ∀ b o, M b = some o → M' b = some o
theorem Sub.refl (M : MH) : Sub M M := fun _ _ h => h
theorem Sub.trans {M M1 M2 : MH} (a : Sub M M1) (b : Sub M1 M2) : Sub M M2 := fun c o h => b c o (a c o h)
theorem Sub.new {M M' : MH} {p : Addr} {o : MO} (s : Sub M M') (h : M p = none) : Sub M (updM M' p o) := fun b u e => by
  rw [updM_ne (neM e h)]
  exact s b u e
theorem Sub.free {M M' : MH} (s : Sub M M') {p : Addr} (h : M' p = none) : M p = none := by
  cases q : M p with
  | none => rfl
  | some o => rw [s p o q] at h; cases h
/-! ### tuples whose object is known: it has no dict of its own -/
def NewT (xs : List V) (H : Hp) (Q : VK) : Prop := ∀ (p : Addr) (o : Obj), H p = none → o.dict = none → Q (.ref p) (upd H p (.frz o (.tup xs)))
section
variable {X : Cx} {a : Expr} {es : List Expr} {pos p : Pos} {ta : TE} {t : TA}
theorem tup_pushed {pins : List (Addr × Obj)} {σ : L2.St} {H : Hp} {s : Shared} {Q : VK} {xs : List V} {its : List Value} (I : Inv X pins σ H s) (r : Vals xs its) (z : xs.length ≤ sizeLine) (q : NewT xs H Q) :
    EP X pins σ Q (.ref s.heap.objs.size) { s with heap := s.heap.push { cls := .type "tuple", data := .seq its.toArray } } :=
  ⟨.ref s.heap.objs.size, upd H s.heap.objs.size (.frz { cls := .type "tuple", data := .seq its.toArray } (.tup xs)), I.laid (t' := s.toks) (fun _ _ e => Heap.get?_push_of_some _ e) (Nat.le_refl _) ⟨Heap.get?_push_size _ rfl, z, its, r, ⟨_, Heap.get?_push_size _ rfl, rfl, _, rfl⟩⟩, rfl,
    q _ _ (I.hok.fresh (Nat.le_refl _)) rfl⟩
def tTupD (t : TA) : TE := fun σ H Q => t σ H fun xs H1 => xs.length ≤ sizeLine ∧ NewT xs H1 Q
theorem pe_tupD {x1} (h : PA X es t) : PE X (.Tuple es x1 pos) (tTupD t) :=
  ⟨fun pins s σ H Q I hq => wpAny_Tuple_spliced (thn (h.run pos pins s σ H _ I hq) fun us s1 ⟨xs, H1, I1, r, z, q⟩ => ⟨by rw [← r.length]; exact z, tup_pushed I1 r z q⟩)⟩
def rCatD (K : Fg) : R2 := fun x y H Q => ∃ a b xs ys, x = .ref a ∧ y = .ref b ∧ SqT K H a xs ∧ SqT K H b ys ∧ xs.length + ys.length ≤ sizeLine ∧ (xs = [] → Q (.ref b) H) ∧ (xs ≠ [] → ys = [] → Q (.ref a) H) ∧ (xs ≠ [] → ys ≠ [] → NewT (xs ++ ys) H Q)
theorem op_catD : OpR X (binaryOp .Add) (rCatD X.K) := by
  rintro pins s σ H x y v u Q I rx ry ⟨a, b, xs, ys, rfl, rfl, ha, hb, hz, q0, q1, q2⟩
  cases rx
  cases ry
  obtain ⟨its, r1, p1, _⟩ := I.tuple ha
  obtain ⟨its2, r2, p2, _⟩ := I.tuple hb
  by_cases hx : xs = []
  · subst hx
    cases r1
    exact cat_tup0 p1 p2 ⟨.ref b, H, I, rfl, q0 rfl⟩
  · exact HT.cat_tup p1 p2 (fun z => hx (r1.nil_iff.mp z)) (fun z => ⟨.ref a, H, I, rfl, q1 hx (r2.nil_iff.mp z)⟩) (fun z => tup_pushed I (r1.append r2) (by rw [List.length_append]; exact hz) (q2 hx fun w => z (r2.nil_iff.mpr w))) (by rw [← r1.length, ← r2.length]; exact hz)
def rSlD (K : Fg) : V → Option Int → Option Int → Hp → VK → Prop := fun x lo hi H Q => ∃ a xs, x = .ref a ∧ SqT K H a xs ∧ (HT.sIx xs.length 0 lo = 0 ∧ HT.sIx xs.length xs.length hi = xs.length → Q (.ref a) H) ∧
  (¬ (HT.sIx xs.length 0 lo = 0 ∧ HT.sIx xs.length xs.length hi = xs.length) → NewT (cutV xs lo hi) H Q)
theorem sl_tupD : SlR X (rSlD X.K) := by
  rintro pins s σ H x v vl vu lo hi sl Q I rx hs pl pu ⟨a, xs, rfl, hx, q1, q2⟩
  cases rx
  obtain ⟨its, r, ht, hz⟩ := I.tuple hx
  have hlen : its.toArray.size = xs.length := List.size_toArray.trans r.length.symm
  refine ⟨"tuple", _, PyProof.Rows.slot_tuple_getitem.lookup, ht.typeIs, ?_⟩
  by_cases hw : HT.sIx xs.length 0 lo = 0 ∧ HT.sIx xs.length xs.length hi = xs.length
  · exact getItem_tuple_whole ht hs pl pu (by rw [hlen]; exact hw) ⟨.ref a, H, I, rfl, q1 hw⟩
  · refine HT.getItem_tuple_cut ht hs pl pu (by rw [hlen]; exact hw) (hlen ▸ ?_) (by rw [hlen]; exact hz)
    exact tup_pushed I ((r.drop _).take _) (Nat.le_trans (cutV_length xs lo hi) hz) (q2 hw)
def kTupD (K : Fg) (x : V) (H : Hp) (Q : VK) : Prop := (∃ p xs, x = .ref p ∧ SqL K H p xs ∧ NewT xs H Q) ∨ (∃ p xs, x = .ref p ∧ SqT K H p xs ∧ Q (.ref p) H)
theorem rl_tupleD (pins : List (Addr × Obj)) (s : Shared) (σ : L2.St) (H : Hp) (x : V) (v : Value) (Q : VK) (I : Inv X pins σ H s) (r : RelV x v) (h : kTupD X.K x H Q) : wpAny (model X.prog X.w) X.A (call (.type "tuple") [v]) (EP X pins σ Q) X.xe s := by
  rcases h with ⟨p, xs, rfl, hs, q⟩ | ⟨p, xs, rfl, hs, q⟩
  · cases (show v = .ref p from r)
    obtain ⟨its, rv, pl, hz⟩ := I.list hs
    exact call_tuple_list pl.isList (fun h' hk => tup_pushed (I.kept (t' := s.toks) hk) rv hz q) (by rw [List.size_toArray, ← rv.length]; exact hz)
  · cases (show v = .ref p from r)
    exact call_tuple_tup (I.tuple hs).choose_spec.2.1 ⟨.ref p, H, I, rfl, q⟩
theorem pe_tupleD (hg : Gl X "tuple") (hm : X.mg "tuple" = none) (ha : PE X a ta) (na : starEach [a] X.env = (false, eval a X.env) :: starEach [] X.env := by rfl) : PE X (.Call (.Name "tuple" p) [a] [] pos) (tThen ta (kTupD X.K)) :=
  ⟨fun pins s σ H Q I h => Call_ (ld_blt I hg hm boot_tuple (PyProof.Rows.callWith_type1 (one_arg ha I h (fun v s2 x H2 I2 r q => rl_tupleD pins s2 σ H2 x v Q I2 r q) na) na))⟩
def rRepD (K : Fg) : R2 := fun x y H Q => ∃ l k xs, x = .ref l ∧ y = .int k ∧ SqT K H l xs ∧ xs ≠ [] ∧ 2 ≤ k ∧ k ≤ 1000 ∧ xs.length ≤ 1000 ∧ NewT (List.replicate k.toNat xs).flatten H Q
theorem op_repD : OpR X (binaryOp .Mult) (rRepD X.K) := by
  rintro pins s σ H x y v u Q I rx ry ⟨l, k, xs, rfl, rfl, hT, hne, h1, h2, hz, q⟩
  cases rx
  obtain ⟨t, rfl⟩ := ry
  obtain ⟨its, r, ⟨⟨cls, dd, data, sl⟩, ho, hc, n, hd⟩, hs⟩ := I.tuple hT
  simp only at hc hd
  subst hc hd
  have many : its.toArray.size = xs.length := List.size_toArray.trans r.length.symm
  have some_ : its.toArray.isEmpty = false := by
    cases its with
    | nil => exact absurd (List.eq_nil_of_length_eq_zero r.length) hne
    | cons _ _ => rfl
  have prod : ((its.toArray.size : Nat) : Int) * k ≤ 1000000 := by
    rw [many]
    have : ((xs.length : Nat) : Int) * k ≤ 1000 * k := Int.mul_le_mul_of_nonneg_right (by omega) (by omega)
    omega
  have flat : ∀ {α : Type} (ys : List α), ys.length = xs.length → (List.replicate k.toNat ys).flatten.length ≤ sizeLine := fun ys e => by
    rw [PyProof.Rows.lm_len_rep_flat, e, sizeLine_eq]
    have : k.toNat * xs.length ≤ 1000 * 1000 := Nat.mul_le_mul (by omega) hz
    omega
  have d0 : (decide (k < -(2 ^ 63)) || decide (k ≥ 2 ^ 63)) = false := by simp; omega
  have d1 : (its.toArray.isEmpty || k == 1) = false := by rw [some_, Bool.false_or]; exact beq_eq_false_iff_ne.mpr (by omega)
  have d2 : (decide (k ≤ 0) || its.toArray.isEmpty) = false := by rw [some_, Bool.or_false]; exact decide_eq_false (by omega)
  have d4 : Builtin.Tuple.tupleTooMany (((its.toArray.size : Nat) : Int) * k) = false := by unfold Builtin.Tuple.tupleTooMany; rw [sizeLine_eq]; exact decide_eq_false (by omega)
  have times : wpAny (model X.prog X.w) X.A (call (.builtin "tuple.__mul__") [.ref l, .int k t]) (EP X pins σ Q) X.xe s :=
    call_meets PySem.F.slot_tuple_mul ⟨_, ho, rfl⟩ PySem.F.entry_tuple_mul (PySem.F.args_tuple_mul_2 _ _) (tuple_mulW l its.toArray n dd sl k t d0 d1 d2 (by omega) d4 (by rw [size_rep, List.size_toArray]; exact flat its r.length.symm)) ⟨ho, by rw [size_rep]; exact tup_pushed I (r.rep k.toNat) (flat xs rfl) q⟩
  exact wpAny_binaryOp_repeat_ref (T := "tuple") (U := "int") (by decide) ⟨_, ho, rfl⟩ (fun s' => typeIs_int s' k t) noFill_tuple_mul PySem.F.fills_int_mul PySem.F.slot_int_rmul repeat_tuple PySem.F.slot_int_index.lookup
    (call_meets PySem.F.slot_int_rmul (typeIs_int s k t) PySem.F.entry_int_rmul (PySem.F.args_int_rmul_2 _ _) (int_rmul_tuple k t l its.toArray n dd sl) ⟨ho, rfl, ⟨_, ho, rfl⟩, times⟩)
/-- what is known of a tuple: its items, and that it has no dict -/
def Dl (K : Fg) (H : Hp) (a : Addr) : Prop := (∃ o u, H a = some (.frz o u) ∧ o.dict = none) ∨ ∃ o, K.lookup a = some o ∧ o.cls = .type "tuple" ∧ o.dict = none
def SqD (K : Fg) (H : Hp) (a : Addr) (vs : List V) : Prop := SqT K H a vs ∧ Dl K H a
theorem SqD.of {K : Fg} {H : Hp} {a : Addr} {o : Obj} {vs : List V} (h : o.dict = none) : SqD K (upd H a (.frz o (.tup vs))) a vs := ⟨.inl (.inr ⟨o, upd_same⟩), .inl ⟨o, _, upd_same, h⟩⟩
end
mutual
def Rv (K : Fg) (H : Hp) : D → V → Prop
  | .non, v => v = .non
  | .bl b, v => v = .bl b
  | .int i, v => v = .int i
  | .str x, v => v = .str x
  | .tup ds, v => ∃ a vs, v = .ref a ∧ SqD K H a vs ∧ Rvs K H ds vs
  | .ref a, v => v = .ref a
  | .ty n, v => v = .ty n
def Rvs (K : Fg) (H : Hp) : List D → List V → Prop
  | [], vs => vs = []
  | d :: ds, vs => ∃ v r, vs = v :: r ∧ Rv K H d v ∧ Rvs K H ds r
end
/-- tuples and locked things stay -/
structure Tps (H H' : Hp) : Prop where
  t : ∀ p xs, H p = some (.tup xs) → H' p = some (.tup xs)
  f : ∀ p o u, H p = some (.frz o u) → H' p = some (.frz o u)
theorem Tps.refl (H : Hp) : Tps H H := ⟨fun _ _ h => h, fun _ _ _ h => h⟩
theorem Tps.trans {H H1 H2 : Hp} (a : Tps H H1) (b : Tps H1 H2) : Tps H H2 := ⟨fun p xs h => b.t p xs (a.t p xs h), fun p o u h => b.f p o u (a.f p o u h)⟩
theorem Tps.new {H : Hp} {p : Addr} {o : HO} (h : H p = none) : Tps H (upd H p o) :=
  ⟨fun q xs e => by rw [upd_ne (ne_of_none e h)]; exact e, fun q u x e => by rw [upd_ne (ne_of_none e h)]; exact e⟩
theorem Tps.lst {H : Hp} {p : Addr} {o : HO} {vs : List V} (h : H p = some (.lst vs)) : Tps H (upd H p o) :=
  ⟨fun q xs e => by rw [upd_ne (ne_of e h (by intro z; cases z))]; exact e, fun q u x e => by rw [upd_ne (ne_of e h (by intro z; cases z))]; exact e⟩
theorem Tps.ext {H : Hp} {p : Addr} {o : HO} {φ : Heap → Prop} (h : H p = some (.ext φ)) : Tps H (upd H p o) :=
  ⟨fun q xs e => by rw [upd_ne (ne_of e h (by intro z; cases z))]; exact e, fun q u x e => by rw [upd_ne (ne_of e h (by intro z; cases z))]; exact e⟩
theorem Tps.seq {K : Fg} {H H' : Hp} {a : Addr} {vs : List V} (t : Tps H H') (h : SqT K H a vs) : SqT K H' a vs := by
  rcases h with (h | ⟨o, h⟩) | h
  · exact .inl (.inl (t.t _ _ h))
  · exact .inl (.inr ⟨o, t.f _ _ _ h⟩)
  · exact .inr h
theorem Tps.sqd {K : Fg} {H H' : Hp} {a : Addr} {vs : List V} (t : Tps H H') (h : SqD K H a vs) : SqD K H' a vs := ⟨t.seq h.1, h.2.imp (fun ⟨o, u, e, d⟩ => ⟨o, u, t.f _ _ _ e, d⟩) id⟩
section
variable {K : Fg} {H H' : Hp}
mutual
theorem Rv.mono (t : Tps H H') : ∀ (d : D) (v : V), Rv K H d v → Rv K H' d v
  | .non, _, h => h
  | .bl _, _, h => h
  | .int _, _, h => h
  | .str _, _, h => h
  | .tup ds, v, h => by
    unfold Rv at h ⊢
    obtain ⟨a, vs, e, s, r⟩ := h
    exact ⟨a, vs, e, t.sqd s, Rvs.mono t ds vs r⟩
  | .ref _, _, h => h
  | .ty _, _, h => h
theorem Rvs.mono (t : Tps H H') : ∀ (ds : List D) (vs : List V), Rvs K H ds vs → Rvs K H' ds vs
  | [], _, h => h
  | d :: ds, vs, h => by
    unfold Rvs at h ⊢
    obtain ⟨v, r, e, h1, h2⟩ := h
    exact ⟨v, r, e, Rv.mono t d v h1, Rvs.mono t ds r h2⟩
end
theorem Rvs.nil : Rvs K H [] [] := by unfold Rvs; rfl
theorem Rvs.cons {d : D} {v : V} {ds : List D} {vs : List V} (h : Rv K H d v) (r : Rvs K H ds vs) : Rvs K H (d :: ds) (v :: vs) := by
  unfold Rvs
  exact ⟨v, vs, rfl, h, r⟩
theorem Rvs.length : ∀ {ds : List D} {vs : List V}, Rvs K H ds vs → ds.length = vs.length
  | [], _, h => by unfold Rvs at h; subst h; rfl
  | d :: ds, _, h => by
    unfold Rvs at h
    obtain ⟨v, r, rfl, _, h2⟩ := h
    rw [List.length_cons, List.length_cons, Rvs.length h2]
theorem Rvs.get : ∀ {ds : List D} {vs : List V} {i : Nat} {d : D}, Rvs K H ds vs → ds[i]? = some d → ∃ v, vs[i]? = some v ∧ Rv K H d v
  | [], _, _, _, _, e => by simp at e
  | d :: ds, _, 0, _, h, e => by
    unfold Rvs at h
    obtain ⟨v, r, rfl, h1, _⟩ := h
    simp at e
    subst e
    exact ⟨v, rfl, h1⟩
  | d :: ds, _, i + 1, x, h, e => by
    unfold Rvs at h
    obtain ⟨v, r, rfl, _, h2⟩ := h
    obtain ⟨w, e1, e2⟩ := Rvs.get (i := i) (d := x) h2 (by simpa using e)
    exact ⟨w, by simpa using e1, e2⟩
theorem Rvs.app : ∀ {ds es : List D} {vs ws : List V}, Rvs K H ds vs → Rvs K H es ws → Rvs K H (ds ++ es) (vs ++ ws)
  | [], _, _, _, h, s => by unfold Rvs at h; subst h; exact s
  | d :: ds, es, _, ws, h, s => by
    unfold Rvs at h
    obtain ⟨v, r, rfl, h1, h2⟩ := h
    exact Rvs.cons h1 (Rvs.app h2 s)
theorem Rvs.take : ∀ {ds : List D} {vs : List V} (n : Nat), Rvs K H ds vs → Rvs K H (ds.take n) (vs.take n)
  | _, _, 0, _ => by simpa using Rvs.nil
  | [], _, n + 1, h => by unfold Rvs at h; subst h; simpa using Rvs.nil
  | d :: ds, _, n + 1, h => by
    unfold Rvs at h
    obtain ⟨v, r, rfl, h1, h2⟩ := h
    exact Rvs.cons h1 (Rvs.take n h2)
theorem Rvs.drop : ∀ {ds : List D} {vs : List V} (n : Nat), Rvs K H ds vs → Rvs K H (ds.drop n) (vs.drop n)
  | _, _, 0, h => h
  | [], _, n + 1, h => by unfold Rvs at h; subst h; simpa using Rvs.nil
  | d :: ds, _, n + 1, h => by
    unfold Rvs at h
    obtain ⟨v, r, rfl, _, h2⟩ := h
    exact Rvs.drop n h2
theorem Rvs.set {d : D} {v : V} (q : Rv K H d v) : ∀ {ds : List D} {vs : List V} (n : Nat), Rvs K H ds vs → Rvs K H (ds.set n d) (vs.set n v)
  | [], _, n, h => by unfold Rvs at h; subst h; simpa using Rvs.nil
  | x :: ds, _, 0, h => by
    unfold Rvs at h
    obtain ⟨w, r, rfl, _, h2⟩ := h
    exact Rvs.cons q h2
  | x :: ds, _, n + 1, h => by
    unfold Rvs at h
    obtain ⟨w, r, rfl, h1, h2⟩ := h
    exact Rvs.cons h1 (Rvs.set q n h2)
theorem Rvs.nil_inv {vs : List V} (h : Rvs K H [] vs) : vs = [] := by unfold Rvs at h; exact h
theorem Rvs.cons_inv {d : D} {ds : List D} {vs : List V} (h : Rvs K H (d :: ds) vs) : ∃ v r, vs = v :: r ∧ Rv K H d v ∧ Rvs K H ds r := by unfold Rvs at h; exact h
theorem Rv.tup_invD {ds : List D} {v : V} (h : Rv K H (.tup ds) v) : ∃ a vs, v = .ref a ∧ SqD K H a vs ∧ Rvs K H ds vs := by unfold Rv at h; exact h
theorem Rv.tup_inv {ds : List D} {v : V} (h : Rv K H (.tup ds) v) : ∃ a vs, v = .ref a ∧ SqT K H a vs ∧ Rvs K H ds vs := by unfold Rv at h; obtain ⟨a, vs, e, s, r⟩ := h; exact ⟨a, vs, e, s.1, r⟩
theorem Rv.int_inv {i : Int} {v : V} (h : Rv K H (.int i) v) : v = .int i := by unfold Rv at h; exact h
theorem Rv.bl_inv {b : Bool} {v : V} (h : Rv K H (.bl b) v) : v = .bl b := by unfold Rv at h; exact h
theorem Rv.str_inv {x : Str} {v : V} (h : Rv K H (.str x) v) : v = .str x := by unfold Rv at h; exact h
theorem Rv.non_inv {v : V} (h : Rv K H .non v) : v = .non := by unfold Rv at h; exact h
theorem Rv.ref_inv {a : Addr} {v : V} (h : Rv K H (.ref a) v) : v = .ref a := by unfold Rv at h; exact h
theorem Rv.ty_inv {n : String} {v : V} (h : Rv K H (.ty n) v) : v = .ty n := by unfold Rv at h; exact h
theorem Rv.int {i : Int} : Rv K H (.int i) (.int i) := by unfold Rv; rfl
theorem Rv.bl {b : Bool} : Rv K H (.bl b) (.bl b) := by unfold Rv; rfl
theorem Rv.str {x : Str} : Rv K H (.str x) (.str x) := by unfold Rv; rfl
theorem Rv.non : Rv K H .non .non := by unfold Rv; rfl
theorem Rv.ref {a : Addr} : Rv K H (.ref a) (.ref a) := by unfold Rv; rfl
theorem Rv.ty {n : String} : Rv K H (.ty n) (.ty n) := by unfold Rv; rfl
theorem Rv.tup {ds : List D} {a : Addr} {vs : List V} (s : SqD K H a vs) (r : Rvs K H ds vs) : Rv K H (.tup ds) (.ref a) := by unfold Rv; exact ⟨a, vs, rfl, s, r⟩
theorem Rvs.ints : ∀ {ns : List Int}, Rvs K H (ns.map D.int) (ns.map V.int)
  | [] => Rvs.nil
  | n :: ns => Rvs.cons Rv.int Rvs.ints
end
/-! ### keys that are tuples of ints and None (of any depth to 8) -/
mutual
def nk : D → NestedKey
  | .tup ds => .tup (nks ds)
  | .int i => .num i
  | .bl b => .num (if b = true then 1 else 0)
  | .non => .none
  | .str x => .text x
  | .ref _ => .none
  | .ty _ => .none
def nks : List D → List NestedKey
  | [] => []
  | d :: ds => nk d :: nks ds
end
mutual
def kOk : D → Bool
  | .tup ds => kOks ds
  | .int _ | .bl _ | .non => true
  | .str _ | .ref _ | .ty _ => false
def kOks : List D → Bool
  | [] => true
  | d :: ds => kOk d && kOks ds
end
mutual
/-- hash of a key without texts: of no world -/
def hashN : NestedKey → Int
  | .none => reduceHash 0xFCA86420
  | .num i => hashInt i
  | .text _ => 0
  | .tup ks => reduceHash (Builtin.Tuple.tupleHashOf (hashNs ks))
def hashNs : List NestedKey → List Int
  | [] => []
  | k :: ks => hashN k :: hashNs ks
end
def keyD : D → Bool
  | .tup ds => kOk (.tup ds) && decide ((nk (.tup ds)).depth ≤ 8)
  | _ => false
def entN (x : NestedKey × Addr × Value) : DictEntry := ⟨hashN x.1, .ref x.2.1, x.2.2⟩
/-- the dict's object, its entries -/
def RawN (a : Addr) (xs : List (NestedKey × Addr × Value)) (h : Heap) : Prop := (a == sysModules) = false ∧ ∃ o es ep, h.get? a = some o ∧ o.ExactDict ∧ o.data = .dict es ep ∧ es.toList = xs.map entN ∧ (xs.map (·.1)).Nodup
/-- an entry is as told -/
def EntR (K : Fg) (H : Hp) (p : D × D) (x : NestedKey × Addr × Value) : Prop := x.1 = nk p.1 ∧ keyD p.1 = true ∧ Rv K H p.1 (.ref x.2.1) ∧ ∃ v, Rv K H p.2 v ∧ RelV v x.2.2
/-- an object as it is known -/
def RO (K : Fg) (H : Hp) (a : Addr) : MO → Prop
  | .lst ds => ∃ vs, H a = some (.lst vs) ∧ Rvs K H ds vs
  | .ro ds => ∃ vs o, H a = some (.frz o (.lst vs)) ∧ Rvs K H ds vs
  | .dT kvs => ∃ xs, H a = some (.ext (RawN a xs)) ∧ xs.length ≤ sizeLine ∧ Paired (EntR K H) kvs xs
  | .dK kvs => ∃ ks vs, H a = some (.dK ks) ∧ ks.map (·.1) = kvs.map (·.1) ∧ vs = ks.map (·.2) ∧ Rvs K H (kvs.map (·.2)) vs
def Abs (K : Fg) (M : MH) (H : Hp) : Prop := ∀ a o, M a = some o → RO K H a o
section
variable {K : Fg} {H H' : Hp} {M M' : MH} {a p : Addr}
theorem RO.mono (t : Tps H H') (e : H' a = H a) : ∀ (o : MO), RO K H a o → RO K H' a o
  | .lst ds, h => by obtain ⟨vs, h1, h2⟩ := h; exact ⟨vs, e.trans h1, h2.mono t⟩
  | .ro ds, h => by obtain ⟨vs, o, h1, h2⟩ := h; exact ⟨vs, o, e.trans h1, h2.mono t⟩
  | .dT ds, h => by obtain ⟨xs, h1, hz, h2⟩ := h; exact ⟨xs, e.trans h1, hz, Paired.mapP h2 fun p x ⟨a1, a2, a3, v, a4, a5⟩ => ⟨a1, a2, a3.mono t, v, a4.mono t, a5⟩⟩
  | .dK ds, h => by obtain ⟨ks, vs, h1, h2, h3, h4⟩ := h; exact ⟨ks, vs, e.trans h1, h2, h3, h4.mono t⟩
theorem RO.some (o : MO) (h : RO K H a o) : H a ≠ none := by
  cases o with
  | lst ds => obtain ⟨vs, h1, _⟩ := h; rw [h1]; intro z; cases z
  | ro ds => obtain ⟨vs, o, h1, _⟩ := h; rw [h1]; intro z; cases z
  | dT ds => obtain ⟨xs, h1, _⟩ := h; rw [h1]; intro z; cases z
  | dK ds => obtain ⟨ks, vs, h1, _⟩ := h; rw [h1]; intro z; cases z
theorem Abs.sub (h : Abs K M' H) (s : Sub M M') : Abs K M H := fun a o e => h a o (s a o e)
theorem Abs.fresh (h : Abs K M H) (e : H p = none) : M p = none := by
  cases q : M p with
  | none => rfl
  | some o => exact absurd e ((h p o q).some)
/-- a new untracked thing (a tuple) -/
theorem Abs.tupN (h : Abs K M H) {o : HO} (e : H p = none) : Abs K M (upd H p o) := fun a u q => (h a u q).mono (Tps.new e) (upd_ne (neM q (h.fresh e)))
theorem Abs.upd (h : Abs K M H) {o : HO} {u : MO} (t : Tps H (L2.upd H p o)) (r : RO K (L2.upd H p o) p u) : Abs K (updM M p u) (L2.upd H p o) := fun a x q => by
  by_cases hb : a = p
  · subst hb
    rw [updM_same] at q
    cases q
    exact r
  · rw [updM_ne hb] at q
    exact (h a x q).mono t (upd_ne hb)
theorem Abs.lstN (h : Abs K M H) {ds : List D} {vs : List V} (e : H p = none) (r : Rvs K H ds vs) : Abs K (updM M p (.lst ds)) (L2.upd H p (.lst vs)) :=
  h.upd (Tps.new e) ⟨vs, upd_same, r.mono (Tps.new e)⟩
theorem Abs.lstU (h : Abs K M H) {ds : List D} {vs ws : List V} (e : H p = some (.lst ws)) (r : Rvs K H ds vs) : Abs K (updM M p (.lst ds)) (L2.upd H p (.lst vs)) :=
  h.upd (Tps.lst e) ⟨vs, upd_same, r.mono (Tps.lst e)⟩
theorem Abs.lst (h : Abs K M H) {ds : List D} (e : M p = some (.lst ds)) : ∃ vs, H p = some (.lst vs) ∧ Rvs K H ds vs := h p _ e
/-- a list that is read -/
def LstM (M : MH) (a : Addr) (ds : List D) : Prop := M a = some (.lst ds) ∨ M a = some (.ro ds)
theorem Abs.rd (h : Abs K M H) {ds : List D} (e : LstM M p ds) : ∃ vs, SqL K H p vs ∧ Rvs K H ds vs := by
  rcases e with e | e
  · obtain ⟨vs, h1, h2⟩ := h p _ e
    exact ⟨vs, .inl (.inl h1), h2⟩
  · obtain ⟨vs, o, h1, h2⟩ := h p _ e
    exact ⟨vs, .inl (.inr ⟨o, h1⟩), h2⟩
end
/-- the names -/
structure SE (K : Fg) (H : Hp) (σ : L2.St) (env : En) : Prop where
  len : σ.length = env.length
  get : ∀ (i : Nat) (d : D), env[i]? = some (some d) → ∃ v, σ[i]? = some (some v) ∧ Rv K H d v
section
variable {K : Fg} {H H' : Hp} {σ : L2.St} {env : En}
theorem SE.mono (s : SE K H σ env) (t : Tps H H') : SE K H' σ env := ⟨s.len, fun i d e => let ⟨v, e1, r⟩ := s.get i d e; ⟨v, e1, r.mono t⟩⟩
theorem SE.set (s : SE K H σ env) {d : D} {v : V} (i : Nat) (r : Rv K H d v) : SE K H (σ.set i (some v)) (env.set i (some d)) := by
  refine ⟨by simpa using s.len, fun j x e => ?_⟩
  rw [List.getElem?_set] at e
  by_cases hj : i = j
  · subst hj
    rw [if_pos rfl] at e
    by_cases hl : i < env.length
    · rw [if_pos hl] at e
      cases e
      exact ⟨v, by rw [List.getElem?_set_self (by rw [s.len]; exact hl)], r⟩
    · rw [if_neg hl] at e
      cases e
  · rw [if_neg hj] at e
    obtain ⟨w, e1, r1⟩ := s.get j x e
    exact ⟨w, by rw [List.getElem?_set_ne hj]; exact e1, r1⟩
theorem SE.unset (s : SE K H σ env) (i : Nat) : SE K H (σ.set i none) (env.set i none) := by
  refine ⟨by simpa using s.len, fun j x e => ?_⟩
  rw [List.getElem?_set] at e
  by_cases hj : i = j
  · subst hj
    rw [if_pos rfl] at e
    split at e <;> cases e
  · rw [if_neg hj] at e
    obtain ⟨w, e1, r1⟩ := s.get j x e
    exact ⟨w, by rw [List.getElem?_set_ne hj]; exact e1, r1⟩
/-- names forgotten -/
def wipeE (env : En) : List Nat → En
  | [] => env
  | i :: r => wipeE (env.set i none) r
theorem SE.start {ds : List D} {vs : List V} (N : List Str) (r : Rvs K H ds vs) : SE K H (L2.start N vs) (ds.map some ++ List.replicate (N.length - ds.length) none) := by
  have hl := r.length
  refine ⟨by unfold L2.start; simp [hl], fun i d e => ?_⟩
  unfold L2.start
  by_cases hi : i < ds.length
  · rw [List.getElem?_append_left (by simpa using hi), List.getElem?_map] at e
    cases q : ds[i]? with
    | none => rw [q] at e; cases e
    | some x =>
      rw [q] at e
      cases e
      obtain ⟨v, e1, r1⟩ := r.get q
      exact ⟨v, by rw [List.getElem?_append_left (by rw [List.length_map, ← hl]; exact hi), List.getElem?_map, e1]; rfl, r1⟩
  · rw [List.getElem?_append_right (by simpa using hi), List.getElem?_replicate] at e
    split at e <;> cases e
end
/-! ### wishes -/
abbrev W3 := Value → Option Addr → En → MH → Prop
def LW (K : Fg) (H : Hp) (W : W3) (W2 : WX) : Prop := ∀ cls dd σ' H' env' M', Tps H H' → SE K H' σ' env' → Abs K M' H' → W cls dd env' M' → W2 cls dd σ' H'
theorem LW.mono {K : Fg} {H H' : Hp} {W : W3} {W2 : WX} (l : LW K H W W2) (t : Tps H H') : LW K H' W W2 := fun cls dd σ' H2 env' M' t2 s a w => l cls dd σ' H2 env' M' (t.trans t2) s a w
abbrev Q3 := D → MH → Prop
abbrev E3 := W3 → En → MH → Q3 → Prop
abbrev T3 := W3 → En → MH → (Bool → MH → Prop) → Prop
abbrev A3 := W3 → En → MH → (List D → MH → Prop) → Prop
structure Ends3 where
  nx : En → MH → Prop
  rt : Q3
  bk : En → MH → Prop := fun _ _ => False
  ct : En → MH → Prop := fun _ _ => False
abbrev S3 := W3 → Ends3 → En → MH → Prop
abbrev G3 := W3 → D → En → MH → (En → MH → Prop) → Prop
abbrev I3 := W3 → En → MH → (List D → (MH → Prop) → MH → Prop) → Prop
/-- a value has come -/
def Got (K : Fg) (H : Hp) (Q : Q3) (Q2 : VK) : Prop := ∀ d v H' M', Tps H H' → Abs K M' H' → Rv K H' d v → Q d M' → Q2 v H'
def lowE (K : Fg) (W2 : WX) (t : E3) : TE := fun σ H Q2 => ∃ env M W Q, SE K H σ env ∧ Abs K M H ∧ LW K H W W2 ∧ t W env M Q ∧ Got K H Q Q2
def lowT (K : Fg) (W2 : WX) (t : T3) : TT := fun σ H Q2 => ∃ env M W Q, SE K H σ env ∧ Abs K M H ∧ LW K H W W2 ∧ t W env M Q ∧ ∀ b H' M', Tps H H' → Abs K M' H' → Q b M' → Q2 b H'
def lowA (K : Fg) (W2 : WX) (t : A3) : TA := fun σ H Q2 => ∃ env M W Q, SE K H σ env ∧ Abs K M H ∧ LW K H W W2 ∧ t W env M Q ∧ ∀ ds vs H' M', Tps H H' → Abs K M' H' → Rvs K H' ds vs → Q ds M' → Q2 vs H'
def Nxt (K : Fg) (H : Hp) (q : En → MH → Prop) (q2 : L2.St → Hp → Prop) : Prop := ∀ σ' H' env' M', Tps H H' → SE K H' σ' env' → Abs K M' H' → q env' M' → q2 σ' H'
structure LE (K : Fg) (H : Hp) (D3 : Ends3) (D2 : Ends) : Prop where
  nx : Nxt K H D3.nx D2.nx
  rt : Got K H D3.rt D2.rt
  bk : Nxt K H D3.bk D2.bk
  ct : Nxt K H D3.ct D2.ct
theorem Got.mono {K : Fg} {H H' : Hp} {Q : Q3} {Q2 : VK} (g : Got K H Q Q2) (t : Tps H H') : Got K H' Q Q2 := fun d v H2 M' t2 a r q => g d v H2 M' (t.trans t2) a r q
theorem Nxt.mono {K : Fg} {H H' : Hp} {q : En → MH → Prop} {q2 : L2.St → Hp → Prop} (g : Nxt K H q q2) (t : Tps H H') : Nxt K H' q q2 := fun σ H2 e M' t2 s a r => g σ H2 e M' (t.trans t2) s a r
theorem LE.mono {K : Fg} {H H' : Hp} {D3 : Ends3} {D2 : Ends} (l : LE K H D3 D2) (t : Tps H H') : LE K H' D3 D2 := ⟨l.nx.mono t, l.rt.mono t, l.bk.mono t, l.ct.mono t⟩
def lowS (K : Fg) (W2 : WX) (t : S3) : TS := fun D2 σ H => ∃ env M W D3, SE K H σ env ∧ Abs K M H ∧ LW K H W W2 ∧ t W D3 env M ∧ LE K H D3 D2
def lowG (K : Fg) (W2 : WX) (t : G3) : TG := fun v σ H Q2 => ∃ d env M W Q, Rv K H d v ∧ SE K H σ env ∧ Abs K M H ∧ LW K H W W2 ∧ t W d env M Q ∧ Nxt K H Q Q2
/-- what the iterator J gives: ds, while keep is true -/
structure ItOk (K : Fg) (H1 : Hp) (ds : List D) (keep : MH → Prop) (J : It) : Prop where
  step : ∀ i d H M, ds[i]? = some d → Tps H1 H → Abs K M H → keep M → J.go i H ∧ ∀ x H', J.yld i H x H' → Tps H H' ∧ Abs K M H' ∧ Rv K H' d x
  stop : ∀ H M, Tps H1 H → Abs K M H → keep M → J.stop ds.length H
def lowI (K : Fg) (W2 : WX) (t : I3) : TI := fun σ H R => ∃ env M W Q, SE K H σ env ∧ Abs K M H ∧ LW K H W W2 ∧ t W env M Q ∧ ∀ ds keep J H' M', Tps H H' → Abs K M' H' → Q ds keep M' → ItOk K H' ds keep J → R J H'
/-! ### the judgements -/
def DE (X : Cx) (e : Expr) (t : E3) : Prop := ∀ W2, Takes X W2 → PE X e (lowE X.K W2 t)
def DT (X : Cx) (e : Expr) (t : T3) : Prop := ∀ W2, Takes X W2 → PT X e (lowT X.K W2 t)
def DW (X : Cx) (e : Expr) (t : T3) : Prop := ∀ W2, Takes X W2 → PW X e (lowT X.K W2 t)
def DA (X : Cx) (es : List Expr) (t : A3) : Prop := ∀ W2, Takes X W2 → PA X es (lowA X.K W2 t)
def DG (X : Cx) (e : Expr) (t : G3) : Prop := ∀ W2, Takes X W2 → PG X e (lowG X.K W2 t)
def DI (X : Cx) (tg e : Expr) (t : I3) : Prop := ∀ W2, Takes X W2 → PI X tg e (lowI X.K W2 t)
def Pass (X : Cx) : Prop := PassesOwn (model X.prog X.w) X.A X.env X.xe
def DS (X : Cx) (st : Stmt) (t : S3) : Prop := ∀ W2, Takes X W2 → Pass X → PS X st (lowS X.K W2 t)
def DSs (X : Cx) (st : List Stmt) (t : S3) : Prop := ∀ W2, Takes X W2 → Pass X → PSs X st (lowS X.K W2 t)
theorem _root_.L2.PE.imp {X : Cx} {e : Expr} {t t' : TE} (h : PE X e t) (k : ∀ σ H Q, t' σ H Q → t σ H Q) : PE X e t' := ⟨fun pins s σ H Q I q => h.run pins s σ H Q I (k σ H Q q)⟩
theorem _root_.L2.PT.imp {X : Cx} {e : Expr} {t t' : TT} (h : PT X e t) (k : ∀ σ H Q, t' σ H Q → t σ H Q) : PT X e t' := ⟨fun pins s σ H Q I q => h.run pins s σ H Q I (k σ H Q q)⟩
theorem _root_.L2.PW.imp {X : Cx} {e : Expr} {t t' : TT} (h : PW X e t) (k : ∀ σ H Q, t' σ H Q → t σ H Q) : PW X e t' := ⟨fun wh pins s σ H Q I q => h.run wh pins s σ H Q I (k σ H Q q)⟩
theorem _root_.L2.PA.imp {X : Cx} {e : List Expr} {t t' : TA} (h : PA X e t) (k : ∀ σ H Q, t' σ H Q → t σ H Q) : PA X e t' := ⟨fun pos pins s σ H Q I q => h.run pos pins s σ H Q I (k σ H Q q)⟩
theorem _root_.L2.PG.imp {X : Cx} {e : Expr} {t t' : TG} (h : PG X e t) (k : ∀ v σ H Q, t' v σ H Q → t v σ H Q) : PG X e t' := ⟨fun pins s σ H v u Q I r q => h.run pins s σ H v u Q I r (k v σ H Q q)⟩
theorem _root_.L2.PI.imp {X : Cx} {tg e : Expr} {t t' : TI} (h : PI X tg e t) (k : ∀ σ H Q, t' σ H Q → t σ H Q) : PI X tg e t' := ⟨fun pins s σ H Q I q => h.run pins s σ H Q I (k σ H Q q)⟩
theorem _root_.L2.PS.imp {X : Cx} {e : Stmt} {t t' : TS} (h : PS X e t) (k : ∀ D σ H, t' D σ H → t D σ H) : PS X e t' := ⟨fun pins s σ H D I q => h.run pins s σ H D I (k D σ H q)⟩
theorem _root_.L2.PSs.imp {X : Cx} {e : List Stmt} {t t' : TS} (h : PSs X e t) (k : ∀ D σ H, t' D σ H → t D σ H) : PSs X e t' := ⟨fun pins s σ H D I q => h.run pins s σ H D I (k D σ H q)⟩
theorem _root_.L2.PE.or {X : Cx} {e : Expr} {t t' : TE} (h : PE X e t) (h' : PE X e t') : PE X e (fun σ H Q => t σ H Q ∨ t' σ H Q) := ⟨fun pins s σ H Q I q => q.elim (h.run pins s σ H Q I) (h'.run pins s σ H Q I)⟩
theorem _root_.L2.PI.or {X : Cx} {tg e : Expr} {t t' : TI} (h : PI X tg e t) (h' : PI X tg e t') : PI X tg e (fun σ H Q => t σ H Q ∨ t' σ H Q) := ⟨fun pins s σ H Q I q => q.elim (h.run pins s σ H Q I) (h'.run pins s σ H Q I)⟩
section
variable {K : Fg} {W2 : WX} {σ : L2.St} {H : Hp} {env : En} {M : MH} {W : W3} {t : E3} {Q : Q3} {Q2 : VK}
/-- handing on to a part -/
theorem toE (s : SE K H σ env) (a : Abs K M H) (l : LW K H W W2) (q : t W env M Q) (g : Got K H Q Q2) : lowE K W2 t σ H Q2 := ⟨env, M, W, Q, s, a, l, q, g⟩
end
end L3

namespace L3
open PySem PySem.Spec PyProof.Rows L2
/-- by cases on a bool -/
def Br (b : Bool) (A B : Prop) : Prop := (b = true → A) ∧ (b = false → B)
theorem Br.tt {A B : Prop} (h : A) : Br true A B := ⟨fun _ => h, (fun e => nomatch e)⟩
theorem Br.ff {A B : Prop} (h : B) : Br false A B := ⟨(fun e => nomatch e), fun _ => h⟩
theorem Br.yes {b : Bool} {A B : Prop} (e : b = true) (h : A) : Br b A B := by subst e; exact Br.tt h
theorem Br.no {b : Bool} {A B : Prop} (e : b = false) (h : B) : Br b A B := by subst e; exact Br.ff h
theorem Br.ite {b : Bool} {A B : Prop} (h : Br b A B) : if b = true then A else B := by
  cases b with
  | true => rw [if_pos rfl]; exact h.1 rfl
  | false => rw [if_neg Bool.false_ne_true]; exact h.2 rfl
section
variable {X : Cx} {e a b c : Expr} {es : List Expr} {pos p : Pos} {t ta tb tc : E3}
/-! ### names, constants -/
def e3Var (i : Nat) : E3 := fun _ env M Q => match env[i]? with | some (some d) => Q d M | _ => False
def e3C (d : D) : E3 := fun _ _ M Q => Q d M
theorem d_of_tC {v : V} {d : D} (h : PE X e (tC v)) (r : ∀ H, Rv X.K H d v) : DE X e (e3C d) := fun W2 _ => h.imp fun σ H Q2 ⟨env, M, W, Q, s, a, l, q, g⟩ => g d v H M (Tps.refl H) a (r H) q
theorem dv (i : Nat) {x : Str} (hN : X.N[i]? = some x := by rfl) (hv : Vis X.env.scope x := by first | exact Or.inl rfl | exact Or.inr (Or.inl rfl) | exact Or.inr (Or.inr rfl)) (hd : (x == ("__debug__" : Str)) = false := by decide)
    (hcd : (x == ("__classdict__" : Str)) = false := by decide) : DE X (.Name x pos) (e3Var i) := fun W2 _ => (pe_var (i := i) hN hv hd hcd).imp fun σ H Q2 ⟨env, M, W, Q, s, a, l, q, g⟩ => by
  unfold e3Var at q
  split at q
  · rename_i d e
    obtain ⟨v, e1, r⟩ := s.get i d e
    exact ⟨v, e1, g d v H M (Tps.refl H) a r q⟩
  · exact q.elim
theorem d_int {i : Int} {j} : DE X (.Constant (.int i) j pos) (e3C (.int i)) := d_of_tC pe_int fun _ => Rv.int
theorem d_bl {i : Bool} {j} : DE X (.Constant (.bool i) j pos) (e3C (.bl i)) := d_of_tC pe_bl fun _ => Rv.bl
theorem d_non {j} : DE X (.Constant .none j pos) (e3C .non) := d_of_tC pe_non fun _ => Rv.non
theorem d_str {x : Str} {j} : DE X (.Constant (.str x) j pos) (e3C (.str x)) := d_of_tC pe_str fun _ => Rv.str
theorem d_globI {x : Str} {i : Int} {u : Value} (hg : Gl X x) (hm : X.mg x = some u) (r : RelV (.int i) u) (hd : (x == ("__debug__" : Str)) = false := by decide) : DE X (.Name x pos) (e3C (.int i)) := d_of_tC (pe_glob hg hm r hd) fun _ => Rv.int
theorem d_globC {x : Str} {C : Addr} (hg : Gl X x) (hm : X.mg x = some (.ref C)) (hd : (x == ("__debug__" : Str)) = false := by decide) : DE X (.Name x pos) (e3C (.ref C)) := d_of_tC (pe_glob hg hm (v := .ref C) rfl hd) fun _ => Rv.ref
theorem d_ty {x : Str} {n : String} (hg : Gl X x) (hm : X.mg x = none) (hv : bootBuiltins x = some (.type n)) (hn : x ≠ "__name__" := by decide) (hd : (x == ("__debug__" : Str)) = false := by decide) : DE X (.Name x pos) (e3C (.ty n)) :=
  d_of_tC (pe_bltn hg hm hv (v := .ty n) rfl hn hd) fun _ => Rv.ty
/-! ### operators -/
def OpL (K : Fg) (r : R2) (r3 : D → D → MH → Q3 → Prop) : Prop := ∀ d e v u H M Q Q2, Rv K H d v → Rv K H e u → Abs K M H → r3 d e M Q → Got K H Q Q2 → r v u H Q2
def e3Op (r3 : D → D → MH → Q3 → Prop) (ta tb : E3) : E3 := fun W env M Q => ta W env M fun d M1 => tb W env M1 fun e M2 => r3 d e M2 Q
theorem op_low {r : R2} {r3 : D → D → MH → Q3 → Prop} {W2 : WX} (hl : OpL X.K r r3) {σ : L2.St} {H : Hp} {Q2 : VK} (h : lowE X.K W2 (e3Op r3 ta tb) σ H Q2) : tOp r (lowE X.K W2 ta) (lowE X.K W2 tb) σ H Q2 := by
  obtain ⟨env, M, W, Q, s, a, l, q, g⟩ := h
  refine ⟨env, M, W, _, s, a, l, q, fun d v H1 M1 t1 a1 r1 q1 => ?_⟩
  exact ⟨env, M1, W, _, s.mono t1, a1, l.mono t1, q1, fun e u H2 M2 t2 a2 r2 q2 => hl d e v u H2 M2 Q Q2 (r1.mono t2) r2 a2 q2 (g.mono (t1.trans t2))⟩
theorem d_op {op : Operator} {r : R2} {r3 : D → D → MH → Q3 → Prop} (ho : OpR X (binaryOp op) r) (hl : OpL X.K r r3) (ha : DE X a ta) (hb : DE X b tb) : DE X (.BinOp a op b pos) (e3Op r3 ta tb) :=
  fun W2 tk => (pe_op ho (ha W2 tk) (hb W2 tk)).imp fun σ H Q2 h => op_low hl h
theorem d_cmp {op : CmpOp} {r : R2} {r3 : D → D → MH → Q3 → Prop} (ho : OpR X (compareOp op) r) (hl : OpL X.K r r3) (ha : DE X a ta) (hb : DE X b tb) (hm : behindInMarks op b = false := by first | exact nomark _ | with_unfolding_all rfl | rfl) : DE X (.Compare a [op] [b] pos) (e3Op r3 ta tb) :=
  fun W2 tk => (pe_cmpR ho (ha W2 tk) (hb W2 tk) hm).imp fun σ H Q2 h => op_low hl h
def t3Test (t : E3) : T3 := fun W env M Q => t W env M fun d M1 => match d with | .bl b => Q b M1 | _ => False
theorem test_low {W2 : WX} {σ : L2.St} {H : Hp} {Q2 : Bool → Hp → Prop} (h : lowT X.K W2 (t3Test t) σ H Q2) : lowE X.K W2 t σ H (fun x H' => ∃ k, x = .bl k ∧ Q2 k H') := by
  obtain ⟨env, M, W, Q, s, a, l, q, g⟩ := h
  refine ⟨env, M, W, _, s, a, l, q, fun d v H1 M1 t1 a1 r1 q1 => ?_⟩
  cases d with
  | bl b => exact ⟨b, r1.bl_inv, g b H1 M1 t1 a1 q1⟩
  | _ => exact q1.elim
theorem t_cmp {op : CmpOp} {r : R2} {r3 : D → D → MH → Q3 → Prop} (ho : OpR X (compareOp op) r) (hl : OpL X.K r r3) (ha : DE X a ta) (hb : DE X b tb) (hm : behindInMarks op b = false := by first | exact nomark _ | with_unfolding_all rfl | rfl) : DT X (.Compare a [op] [b] pos) (t3Test (e3Op r3 ta tb)) :=
  fun W2 tk => (pt_cmpR ho (ha W2 tk) (hb W2 tk) hm).imp fun σ H Q2 h => op_low hl (test_low h)
theorem t_val (h : DE X e t) (he : ∀ whole, isTrue e X.env whole = (do let v ← whole; standAt e.pos; holding [v] (truthy v)) := by intro _; rfl) : DT X e (t3Test t) :=
  fun W2 tk => (pt_val (h W2 tk) he).imp fun σ H Q2 h => test_low h
def e3Chain (r r' : D → D → MH → Q3 → Prop) (ta tb tc : E3) : E3 := fun W env M Q => ta W env M fun d M1 => tb W env M1 fun e M2 => r d e M2 fun z M3 => match z with
  | .bl k => Br k (tc W env M3 fun f M4 => r' e f M4 Q) (Q (.bl false) M3)
  | _ => False
theorem chain_low {r r' : R2} {q q' : D → D → MH → Q3 → Prop} {W2 : WX} (hl : OpL X.K r q) (hl' : OpL X.K r' q') {σ : L2.St} {H : Hp} {Q2 : VK} (h : lowE X.K W2 (e3Chain q q' ta tb tc) σ H Q2) : tChain r r' (lowE X.K W2 ta) (lowE X.K W2 tb) (lowE X.K W2 tc) σ H Q2 := by
  obtain ⟨env, M, W, Q, s, a, l, q, g⟩ := h
  refine ⟨env, M, W, _, s, a, l, q, fun d v H1 M1 t1 a1 r1 q1 => ?_⟩
  refine ⟨env, M1, W, _, s.mono t1, a1, l.mono t1, q1, fun e u H2 M2 t2 a2 r2 q2 => ?_⟩
  refine hl d e v u H2 M2 _ _ (r1.mono t2) r2 a2 q2 fun z w H3 M3 t3 a3 r3 q3 => ?_
  have t123 := (t1.trans t2).trans t3
  cases z with
  | bl k =>
    refine ⟨k, r3.bl_inv, ?_⟩
    cases k with
    | true =>
      rw [if_pos rfl]
      refine ⟨env, M3, W, _, s.mono t123, a3, l.mono t123, q3.1 rfl, fun f w' H4 M4 t4 a4 r4 q4 => ?_⟩
      exact hl' e f u w' H4 M4 Q Q2 (r2.mono (t3.trans t4)) r4 a4 q4 (g.mono (t123.trans t4))
    | false =>
      rw [if_neg Bool.false_ne_true]
      exact g _ _ H3 M3 t123 a3 Rv.bl (q3.2 rfl)
  | _ => exact q3.elim
theorem d_chain {op op' : CmpOp} {r r' : R2} {q q' : D → D → MH → Q3 → Prop} (ho : OpR X (compareOp op) r) (hl : OpL X.K r q) (ho' : OpR X (compareOp op') r') (hl' : OpL X.K r' q') (ha : DE X a ta) (hb : DE X b tb) (hc : DE X c tc)
    (hm : lastMarks [op, op'] [b, c] = false := by with_unfolding_all rfl) : DE X (.Compare a [op, op'] [b, c] pos) (e3Chain q q' ta tb tc) :=
  fun W2 tk => (pe_chain ho ho' (ha W2 tk) (hb W2 tk) (hc W2 tk) hm).imp fun σ H Q2 h => chain_low hl hl' h
theorem t_chain {op op' : CmpOp} {r r' : R2} {q q' : D → D → MH → Q3 → Prop} (ho : OpR X (compareOp op) r) (hl : OpL X.K r q) (ho' : OpR X (compareOp op') r') (hl' : OpL X.K r' q') (ha : DE X a ta) (hb : DE X b tb) (hc : DE X c tc)
    (hm : lastMarks [op, op'] [b, c] = false := by with_unfolding_all rfl) : DT X (.Compare a [op, op'] [b, c] pos) (t3Test (e3Chain q q' ta tb tc)) :=
  fun W2 tk => (pt_chain ho ho' (ha W2 tk) (hb W2 tk) (hc W2 tk) hm).imp fun σ H Q2 h => chain_low hl hl' (test_low h)
/-! ### the operators' meanings -/
variable {K : Fg}
def r3Add : D → D → MH → Q3 → Prop
  | .int i, .int j, M, Q => Q (.int (i + j)) M
  | .tup xs, .tup ys, M, Q => xs.length + ys.length ≤ sizeLine ∧ Q (.tup (xs ++ ys)) M
  | .str x, .str y, M, Q => x.length + y.length ≤ sizeLine ∧ Q (.str (x ++ y)) M
  | .ref a, .ref b, M, Q => ∃ xs ys, M a = some (.lst xs) ∧ M b = some (.lst ys) ∧ xs.length + ys.length ≤ sizeLine ∧ ∀ p, M p = none → Q (.ref p) (updM M p (.lst (xs ++ ys)))
  | _, _, _, _ => False
theorem opl_add : OpL K (fun x y H Q => rI0 (fun i j => .int (i + j)) x y H Q ∨ (rCatD K x y H Q ∨ ((fun x y H Q => ∃ i j, x = .str i ∧ y = .str j ∧ i.length + j.length ≤ sizeLine ∧ Q (.str (i ++ j)) H) x y H Q ∨ rCat x y H Q))) r3Add := by
  intro d e v u H M Q Q2 rd re a q g
  unfold r3Add at q
  split at q
  · cases rd.int_inv; cases re.int_inv
    exact .inl ⟨_, _, rfl, rfl, g _ _ H M (Tps.refl H) a Rv.int q⟩
  · rename_i xs ys
    obtain ⟨p, vs, rfl, hs, hv⟩ := rd.tup_inv
    obtain ⟨p', vs', rfl, hs', hv'⟩ := re.tup_inv
    have hl := hv.length
    have hl' := hv'.length
    refine .inr (.inl ⟨p, p', vs, vs', rfl, rfl, hs, hs', by omega, fun e0 => ?_, fun n0 e0 => ?_, fun n0 n1 t ot nt dt => ?_⟩)
    · subst e0
      have : xs = [] := by cases xs with | nil => rfl | cons _ _ => simp at hl
      subst this
      exact g _ _ H M (Tps.refl H) a re q.2
    · subst e0
      have : ys = [] := by cases ys with | nil => rfl | cons _ _ => simp at hl'
      subst this
      refine g _ _ H M (Tps.refl H) a rd ?_
      have := q.2
      rw [List.append_nil] at this
      exact this
    · exact g _ _ _ M (Tps.new nt) (a.tupN nt) (Rv.tup (SqD.of dt) ((hv.app hv').mono (Tps.new nt))) q.2
  · cases rd.str_inv; cases re.str_inv
    exact .inr (.inr (.inl ⟨_, _, rfl, rfl, q.1, g _ _ H M (Tps.refl H) a Rv.str q.2⟩))
  · obtain ⟨xs, ys, h1, h2, hz, q⟩ := q
    cases rd.ref_inv; cases re.ref_inv
    obtain ⟨vs, e1, r1⟩ := a.lst h1
    obtain ⟨vs', e2, r2⟩ := a.lst h2
    have hl := r1.length
    have hl' := r2.length
    refine .inr (.inr (.inr ⟨_, _, vs, vs', rfl, rfl, e1, e2, by omega, fun p np => ?_⟩))
    exact g _ _ _ _ (Tps.new np) (a.lstN np (r1.app r2)) Rv.ref (q p (a.fresh np))
  · exact q.elim
theorem ho_add : OpR X (binaryOp .Add) (fun x y H Q => rI0 (fun i j => .int (i + j)) x y H Q ∨ (rCatD X.K x y H Q ∨ ((fun x y H Q => ∃ i j, x = .str i ∧ y = .str j ∧ i.length + j.length ≤ sizeLine ∧ Q (.str (i ++ j)) H) x y H Q ∨ rCat x y H Q))) :=
  op_add.or (op_catD.or (op_add_str.or op_cat))
theorem d_add (ha : DE X a ta) (hb : DE X b tb) : DE X (.BinOp a .Add b pos) (e3Op r3Add ta tb) := d_op ho_add opl_add ha hb
def r3Int (C : Int → Int → Prop) (f : Int → Int → Int) : D → D → MH → Q3 → Prop
  | .int i, .int j, M, Q => C i j ∧ Q (.int (f i j)) M
  | _, _, _, _ => False
theorem opl_int {C : Int → Int → Prop} {f : Int → Int → Int} : OpL K (rI C fun i j => .int (f i j)) (r3Int C f) := by
  intro d e v u H M Q Q2 rd re a q g
  unfold r3Int at q
  split at q
  · cases rd.int_inv; cases re.int_inv
    exact ⟨_, _, rfl, rfl, q.1, g _ _ H M (Tps.refl H) a Rv.int q.2⟩
  · exact q.elim
def r3Int0 (f : Int → Int → Int) : D → D → MH → Q3 → Prop
  | .int i, .int j, M, Q => Q (.int (f i j)) M
  | _, _, _, _ => False
theorem opl_int0 {f : Int → Int → Int} : OpL K (rI0 fun i j => .int (f i j)) (r3Int0 f) := by
  intro d e v u H M Q Q2 rd re a q g
  unfold r3Int0 at q
  split at q
  · cases rd.int_inv; cases re.int_inv
    exact ⟨_, _, rfl, rfl, g _ _ H M (Tps.refl H) a Rv.int q⟩
  · exact q.elim
def r3Mul : D → D → MH → Q3 → Prop
  | .int i, .int j, M, Q => CMul i j ∧ Q (.int (i * j)) M
  | .tup xs, .int k, M, Q => xs ≠ [] ∧ 2 ≤ k ∧ k ≤ 1000 ∧ xs.length ≤ 1000 ∧ Q (.tup (List.replicate k.toNat xs).flatten) M
  | .ref l, .int k, M, Q => ∃ xs, M l = some (.lst xs) ∧ 0 ≤ k ∧ k < 2 ^ 63 ∧ xs.length * k.toNat ≤ sizeLine ∧ ∀ p, M p = none → Q (.ref p) (updM M p (.lst (List.replicate k.toNat xs).flatten))
  | _, _, _, _ => False
theorem Rvs.rep {H : Hp} {ds : List D} {vs : List V} (r : Rvs K H ds vs) : ∀ n, Rvs K H (List.replicate n ds).flatten (List.replicate n vs).flatten
  | 0 => Rvs.nil
  | n + 1 => by
    rw [List.replicate_succ, List.replicate_succ, List.flatten_cons, List.flatten_cons]
    exact r.app (Rvs.rep r n)
theorem opl_mul : OpL K (fun x y H Q => rI CMul (fun i j => .int (i * j)) x y H Q ∨ (rRepD K x y H Q ∨ rRep x y H Q)) r3Mul := by
  intro d e v u H M Q Q2 rd re a q g
  unfold r3Mul at q
  split at q
  · cases rd.int_inv; cases re.int_inv
    exact .inl ⟨_, _, rfl, rfl, q.1, g _ _ H M (Tps.refl H) a Rv.int q.2⟩
  · cases re.int_inv
    obtain ⟨n0, k1, k2, hz, q⟩ := q
    obtain ⟨p, vs, rfl, hs, hv⟩ := rd.tup_inv
    have hl := hv.length
    refine .inr (.inl ⟨p, _, vs, rfl, rfl, hs, ?_, k1, k2, by omega, fun t ot nt dt => ?_⟩)
    · intro z
      subst z
      exact n0 (by cases hv.length.symm ▸ (rfl : ([] : List V).length = 0); exact List.eq_nil_of_length_eq_zero (by simpa using hl))
    · exact g _ _ _ M (Tps.new nt) (a.tupN nt) (Rv.tup (SqD.of dt) ((hv.rep _).mono (Tps.new nt))) q
  · cases rd.ref_inv; cases re.int_inv
    obtain ⟨xs, h1, k0, k1, hz, q⟩ := q
    obtain ⟨vs, e1, r1⟩ := a.lst h1
    have hl := r1.length
    refine .inr (.inr ⟨_, _, vs, rfl, rfl, e1, by omega, k1, by rw [← hl]; exact hz, fun p np => ?_⟩)
    exact g _ _ _ _ (Tps.new np) (a.lstN np (r1.rep _)) Rv.ref (q p (a.fresh np))
  · exact q.elim
theorem d_mul (ha : DE X a ta) (hb : DE X b tb) : DE X (.BinOp a .Mult b pos) (e3Op r3Mul ta tb) := d_op (op_mul.or (op_repD.or op_rep)) opl_mul ha hb
def r3Sub : D → D → MH → Q3 → Prop
  | .int i, .int j, M, Q => Q (.int (i - j)) M
  | _, _, _, _ => False
theorem opl_Sub : OpL K (rI0 fun i j => .int (i - j)) r3Sub := by
  intro d e v u H M Q Q2 rd re a q g
  unfold r3Sub at q
  split at q
  · cases rd.int_inv; cases re.int_inv
    exact ⟨_, _, rfl, rfl, g _ _ H M (Tps.refl H) a Rv.int q⟩
  · exact q.elim
theorem d_sub (ha : DE X a ta) (hb : DE X b tb) : DE X (.BinOp a .Sub b pos) (e3Op r3Sub ta tb) := d_op op_sub opl_Sub ha hb
def r3Mod : D → D → MH → Q3 → Prop
  | .int i, .int j, M, Q => 0 < j ∧ Q (.int (i % j)) M
  | _, _, _, _ => False
theorem opl_Mod : OpL K (rI (fun i j => 0 < j) fun i j => .int (i % j)) r3Mod := by
  intro d e v u H M Q Q2 rd re a q g
  unfold r3Mod at q
  split at q
  · cases rd.int_inv; cases re.int_inv
    exact ⟨_, _, rfl, rfl, q.1, g _ _ H M (Tps.refl H) a Rv.int q.2⟩
  · exact q.elim
theorem d_mod (ha : DE X a ta) (hb : DE X b tb) : DE X (.BinOp a .Mod b pos) (e3Op r3Mod ta tb) := d_op op_mod opl_Mod ha hb
def r3Div : D → D → MH → Q3 → Prop
  | .int i, .int j, M, Q => (0 < j ∧ j < 1073741824) ∧ Q (.int (i / j)) M
  | _, _, _, _ => False
theorem opl_Div : OpL K (rI (fun i j => (0 < j ∧ j < 1073741824)) fun i j => .int (i / j)) r3Div := by
  intro d e v u H M Q Q2 rd re a q g
  unfold r3Div at q
  split at q
  · cases rd.int_inv; cases re.int_inv
    exact ⟨_, _, rfl, rfl, q.1, g _ _ H M (Tps.refl H) a Rv.int q.2⟩
  · exact q.elim
theorem d_fdiv (ha : DE X a ta) (hb : DE X b tb) : DE X (.BinOp a .FloorDiv b pos) (e3Op r3Div ta tb) := d_op op_fdiv opl_Div ha hb
def r3Pow : D → D → MH → Q3 → Prop
  | .int i, .int j, M, Q => (0 ≤ j ∧ j ≤ 1000000 ∧ i.natAbs < 2 ^ 64) ∧ Q (.int (i ^ j.toNat)) M
  | _, _, _, _ => False
theorem opl_Pow : OpL K (rI (fun i j => (0 ≤ j ∧ j ≤ 1000000 ∧ i.natAbs < 2 ^ 64)) fun i j => .int (i ^ j.toNat)) r3Pow := by
  intro d e v u H M Q Q2 rd re a q g
  unfold r3Pow at q
  split at q
  · cases rd.int_inv; cases re.int_inv
    exact ⟨_, _, rfl, rfl, q.1, g _ _ H M (Tps.refl H) a Rv.int q.2⟩
  · exact q.elim
theorem d_pow (ha : DE X a ta) (hb : DE X b tb) : DE X (.BinOp a .Pow b pos) (e3Op r3Pow ta tb) := d_op op_pow opl_Pow ha hb
def r3Shl : D → D → MH → Q3 → Prop
  | .int i, .int j, M, Q => (0 ≤ j ∧ j ≤ 1000000 ∧ i.natAbs < 2 ^ 64) ∧ Q (.int (i * 2 ^ j.toNat)) M
  | _, _, _, _ => False
theorem opl_Shl : OpL K (rI (fun i j => (0 ≤ j ∧ j ≤ 1000000 ∧ i.natAbs < 2 ^ 64)) fun i j => .int (i * 2 ^ j.toNat)) r3Shl := by
  intro d e v u H M Q Q2 rd re a q g
  unfold r3Shl at q
  split at q
  · cases rd.int_inv; cases re.int_inv
    exact ⟨_, _, rfl, rfl, q.1, g _ _ H M (Tps.refl H) a Rv.int q.2⟩
  · exact q.elim
theorem d_shl (ha : DE X a ta) (hb : DE X b tb) : DE X (.BinOp a .LShift b pos) (e3Op r3Shl ta tb) := d_op op_shl opl_Shl ha hb
def r3Shr : D → D → MH → Q3 → Prop
  | .int i, .int j, M, Q => 0 ≤ j ∧ Q (.int (i / 2 ^ j.toNat)) M
  | _, _, _, _ => False
theorem opl_Shr : OpL K (rI (fun i j => 0 ≤ j) fun i j => .int (i / 2 ^ j.toNat)) r3Shr := by
  intro d e v u H M Q Q2 rd re a q g
  unfold r3Shr at q
  split at q
  · cases rd.int_inv; cases re.int_inv
    exact ⟨_, _, rfl, rfl, q.1, g _ _ H M (Tps.refl H) a Rv.int q.2⟩
  · exact q.elim
theorem d_shr (ha : DE X a ta) (hb : DE X b tb) : DE X (.BinOp a .RShift b pos) (e3Op r3Shr ta tb) := d_op op_shr opl_Shr ha hb
def r3Band : D → D → MH → Q3 → Prop
  | .int i, .int j, M, Q => Q (.int (Builtin.bitAnd i j)) M
  | _, _, _, _ => False
theorem opl_Band : OpL K (rI0 fun i j => .int (Builtin.bitAnd i j)) r3Band := by
  intro d e v u H M Q Q2 rd re a q g
  unfold r3Band at q
  split at q
  · cases rd.int_inv; cases re.int_inv
    exact ⟨_, _, rfl, rfl, g _ _ H M (Tps.refl H) a Rv.int q⟩
  · exact q.elim
theorem d_band (ha : DE X a ta) (hb : DE X b tb) : DE X (.BinOp a .BitAnd b pos) (e3Op r3Band ta tb) := d_op op_and opl_Band ha hb
def r3Bor : D → D → MH → Q3 → Prop
  | .int i, .int j, M, Q => Q (.int (Builtin.bitOr i j)) M
  | _, _, _, _ => False
theorem opl_Bor : OpL K (rI0 fun i j => .int (Builtin.bitOr i j)) r3Bor := by
  intro d e v u H M Q Q2 rd re a q g
  unfold r3Bor at q
  split at q
  · cases rd.int_inv; cases re.int_inv
    exact ⟨_, _, rfl, rfl, g _ _ H M (Tps.refl H) a Rv.int q⟩
  · exact q.elim
theorem d_bor (ha : DE X a ta) (hb : DE X b tb) : DE X (.BinOp a .BitOr b pos) (e3Op r3Bor ta tb) := d_op op_or opl_Bor ha hb
/-! ### data for == and in -/
mutual
inductive Py (M : MH) : D → PyData → Prop
  | non : Py M .non .none
  | bl (b : Bool) : Py M (.bl b) (.bool b)
  | int (i : Int) : Py M (.int i) (.int i)
  | str (x : Str) : Py M (.str x) (.str x)
  | tup {ds : List D} {ps : List PyData} : Pys M ds ps → Py M (.tup ds) (.tuple ps)
  | ref {a : Addr} {ds : List D} {ps : List PyData} : LstM M a ds → Pys M ds ps → Py M (.ref a) (.list ps)
inductive Pys (M : MH) : List D → List PyData → Prop
  | nil : Pys M [] []
  | cons {d : D} {ds : List D} {p : PyData} {ps : List PyData} : Py M d p → Pys M ds ps → Pys M (d :: ds) (p :: ps)
end
mutual
theorem Py.dp {H : Hp} {M : MH} (a : Abs K M H) : ∀ (p : PyData) (d : D) (v : V), Py M d p → Rv K H d v → Dp K H v p
  | .none, _, _, h, r => by cases h; cases r.non_inv; exact .non
  | .bool b, _, _, h, r => by cases h; cases r.bl_inv; exact .bl b
  | .int i, _, _, h, r => by cases h; cases r.int_inv; exact .int i
  | .str x, _, _, h, r => by cases h; cases r.str_inv; exact .str x
  | .tuple ps, _, _, h, r => by
    cases h with
    | tup h =>
      obtain ⟨p, vs, rfl, hs, hv⟩ := r.tup_inv
      exact .tup hs (Pys.dp a ps _ _ h hv)
  | .list ps, _, _, h, r => by
    cases h with
    | ref hl h =>
      cases r.ref_inv
      obtain ⟨vs, hs, hv⟩ := a.rd hl
      exact .lst hs (Pys.dp a ps _ _ h hv)
  | .dict _, _, _, h, _ => by cases h
theorem Pys.dp {H : Hp} {M : MH} (a : Abs K M H) : ∀ (ps : List PyData) (ds : List D) (vs : List V), Pys M ds ps → Rvs K H ds vs → DpAll K H vs ps
  | [], _, _, h, r => by cases h; cases r.nil_inv; exact .nil
  | p :: ps, _, _, h, r => by
    cases h with
    | cons h1 h2 =>
      obtain ⟨v, vs, rfl, r1, r2⟩ := r.cons_inv
      exact .cons (Py.dp a p _ _ h1 r1) (Pys.dp a ps _ _ h2 r2)
end
@[irreducible] def r3Eq : D → D → MH → Q3 → Prop
  | .int i, .int j, M, Q => Q (.bl (decide (i = j))) M
  | .bl i, .bl j, M, Q => Q (.bl (i == j)) M
  | .str i, .str j, M, Q => Q (.bl (decide (i = j))) M
  | d, e, M, Q => ∃ p q, Py M d p ∧ Py M e q ∧ SeqAt.shaped p = true ∧ SeqAt.shaped q = true ∧ Q (.bl (PyData.eqv p q)) M
@[irreducible] def r3Ne : D → D → MH → Q3 → Prop
  | .int i, .int j, M, Q => Q (.bl (!decide (i = j))) M
  | .bl i, .bl j, M, Q => Q (.bl (!(i == j))) M
  | .str i, .str j, M, Q => Q (.bl (!decide (i = j))) M
  | d, e, M, Q => ∃ p q, Py M d p ∧ Py M e q ∧ SeqAt.shaped p = true ∧ SeqAt.shaped q = true ∧ Q (.bl (!PyData.eqv p q)) M
theorem opl_eq : OpL K (fun x y H Q => rEq x y H Q ∨ rEqD K x y H Q) r3Eq := by
  intro d e v u H M Q Q2 rd re a q g
  unfold r3Eq at q
  split at q
  · cases rd.int_inv; cases re.int_inv
    refine .inl ⟨rfl, g _ _ H M (Tps.refl H) a Rv.bl ?_⟩
    rename_i i j
    have e1 : decide (V.int i = V.int j) = decide (i = j) := by
      by_cases h : i = j
      · subst h; simp
      · simp [h]
    rw [e1]; exact q
  · cases rd.bl_inv; cases re.bl_inv
    refine .inl ⟨rfl, g _ _ H M (Tps.refl H) a Rv.bl ?_⟩
    rename_i i j
    have e1 : decide (V.bl i = V.bl j) = (i == j) := by cases i <;> cases j <;> rfl
    rw [e1]; exact q
  · cases rd.str_inv; cases re.str_inv
    refine .inl ⟨rfl, g _ _ H M (Tps.refl H) a Rv.bl ?_⟩
    rename_i i j
    have e1 : decide (V.str i = V.str j) = decide (i = j) := by
      by_cases h : i = j
      · subst h; simp
      · simp [h]
    rw [e1]; exact q
  · obtain ⟨p, q', h1, h2, s1, s2, q⟩ := q
    exact .inr ⟨p, q', Py.dp a p _ _ h1 rd, Py.dp a q' _ _ h2 re, s1, s2, g _ _ H M (Tps.refl H) a Rv.bl q⟩
theorem opl_ne : OpL K (fun x y H Q => rNe x y H Q ∨ rNeD K x y H Q) r3Ne := by
  intro d e v u H M Q Q2 rd re a q g
  unfold r3Ne at q
  split at q
  · cases rd.int_inv; cases re.int_inv
    refine .inl ⟨rfl, g _ _ H M (Tps.refl H) a Rv.bl ?_⟩
    rename_i i j
    have e1 : decide (V.int i = V.int j) = decide (i = j) := by
      by_cases h : i = j
      · subst h; simp
      · simp [h]
    rw [e1]; exact q
  · cases rd.bl_inv; cases re.bl_inv
    refine .inl ⟨rfl, g _ _ H M (Tps.refl H) a Rv.bl ?_⟩
    rename_i i j
    have e1 : decide (V.bl i = V.bl j) = (i == j) := by cases i <;> cases j <;> rfl
    rw [e1]; exact q
  · cases rd.str_inv; cases re.str_inv
    refine .inl ⟨rfl, g _ _ H M (Tps.refl H) a Rv.bl ?_⟩
    rename_i i j
    have e1 : decide (V.str i = V.str j) = decide (i = j) := by
      by_cases h : i = j
      · subst h; simp
      · simp [h]
    rw [e1]; exact q
  · obtain ⟨p, q', h1, h2, s1, s2, q⟩ := q
    exact .inr ⟨p, q', Py.dp a p _ _ h1 rd, Py.dp a q' _ _ h2 re, s1, s2, g _ _ H M (Tps.refl H) a Rv.bl q⟩
theorem ho_eq {k : Nat} (hr : Room k X.A) : OpR X (compareOp .Eq) (fun x y H Q => rEq x y H Q ∨ rEqD X.K x y H Q) := op_eq.or (op_eqD hr.units)
theorem ho_ne {k : Nat} (hr : Room k X.A) : OpR X (compareOp .NotEq) (fun x y H Q => rNe x y H Q ∨ rNeD X.K x y H Q) := op_ne.or (op_neD hr.units)
def r3Cmp (f : Int → Int → Bool) : D → D → MH → Q3 → Prop
  | .int i, .int j, M, Q => Q (.bl (f i j)) M
  | _, _, _, _ => False
theorem opl_cmp {f : Int → Int → Bool} : OpL K (rI0 fun i j => .bl (f i j)) (r3Cmp f) := by
  intro d e v u H M Q Q2 rd re a q g
  unfold r3Cmp at q
  split at q
  · cases rd.int_inv; cases re.int_inv
    exact ⟨_, _, rfl, rfl, g _ _ H M (Tps.refl H) a Rv.bl q⟩
  · exact q.elim
def r3Lt : D → D → MH → Q3 → Prop
  | .int i, .int j, M, Q => Q (.bl (decide (i < j))) M
  | _, _, _, _ => False
theorem opl_Lt : OpL K (rI0 fun i j => .bl (decide (i < j))) r3Lt := by
  intro d e v u H M Q Q2 rd re a q g
  unfold r3Lt at q
  split at q
  · cases rd.int_inv; cases re.int_inv
    exact ⟨_, _, rfl, rfl, g _ _ H M (Tps.refl H) a Rv.bl q⟩
  · exact q.elim
def r3Le : D → D → MH → Q3 → Prop
  | .int i, .int j, M, Q => Q (.bl (decide (i ≤ j))) M
  | _, _, _, _ => False
theorem opl_Le : OpL K (rI0 fun i j => .bl (decide (i ≤ j))) r3Le := by
  intro d e v u H M Q Q2 rd re a q g
  unfold r3Le at q
  split at q
  · cases rd.int_inv; cases re.int_inv
    exact ⟨_, _, rfl, rfl, g _ _ H M (Tps.refl H) a Rv.bl q⟩
  · exact q.elim
def r3Gt : D → D → MH → Q3 → Prop
  | .int i, .int j, M, Q => Q (.bl (decide (j < i))) M
  | _, _, _, _ => False
theorem opl_Gt : OpL K (rI0 fun i j => .bl (decide (j < i))) r3Gt := by
  intro d e v u H M Q Q2 rd re a q g
  unfold r3Gt at q
  split at q
  · cases rd.int_inv; cases re.int_inv
    exact ⟨_, _, rfl, rfl, g _ _ H M (Tps.refl H) a Rv.bl q⟩
  · exact q.elim
def r3Ge : D → D → MH → Q3 → Prop
  | .int i, .int j, M, Q => Q (.bl (decide (j ≤ i))) M
  | _, _, _, _ => False
theorem opl_Ge : OpL K (rI0 fun i j => .bl (decide (j ≤ i))) r3Ge := by
  intro d e v u H M Q Q2 rd re a q g
  unfold r3Ge at q
  split at q
  · cases rd.int_inv; cases re.int_inv
    exact ⟨_, _, rfl, rfl, g _ _ H M (Tps.refl H) a Rv.bl q⟩
  · exact q.elim
def isNonD : D → Bool
  | .non => true
  | _ => false
def r3Is : D → D → MH → Q3 → Prop
  | d, .non, M, Q => Q (.bl (isNonD d)) M
  | _, _, _, _ => False
def r3IsNot : D → D → MH → Q3 → Prop
  | d, .non, M, Q => Q (.bl (!isNonD d)) M
  | _, _, _, _ => False
theorem isNonD_rel {H : Hp} {d : D} {v : V} (r : Rv K H d v) : decide (v = .non) = isNonD d := by
  cases d with
  | non => cases r.non_inv; rfl
  | bl b => cases r.bl_inv; rfl
  | int b => cases r.int_inv; rfl
  | str b => cases r.str_inv; rfl
  | tup b => obtain ⟨_, _, rfl, _⟩ := r.tup_inv; rfl
  | ref b => cases r.ref_inv; rfl
  | ty b => cases r.ty_inv; rfl
theorem opl_is : OpL K (fun x y H Q => y = .non ∧ Q (.bl (decide (x = .non))) H) r3Is := by
  intro d e v u H M Q Q2 rd re a q g
  unfold r3Is at q
  split at q
  · refine ⟨re.non_inv, ?_⟩
    rw [isNonD_rel rd]
    exact g _ _ H M (Tps.refl H) a Rv.bl q
  · exact q.elim
theorem opl_isnot : OpL K (fun x y H Q => y = .non ∧ Q (.bl (!decide (x = .non))) H) r3IsNot := by
  intro d e v u H M Q Q2 rd re a q g
  unfold r3IsNot at q
  split at q
  · refine ⟨re.non_inv, ?_⟩
    rw [isNonD_rel rd]
    exact g _ _ H M (Tps.refl H) a Rv.bl q
  · exact q.elim
/-! ### in: a list or a tuple of data -/
def rInT (K : Fg) : R2 := fun x y H Q => ∃ d ds, Dp K H x d ∧ Dp K H y (.tuple ds) ∧ SeqAt.shaped d = true ∧ SeqAt.shaped (.tuple ds) = true ∧ Q (.bl (ds.any fun z => PyData.eqv z d)) H
def rNotInT (K : Fg) : R2 := fun x y H Q => ∃ d ds, Dp K H x d ∧ Dp K H y (.tuple ds) ∧ SeqAt.shaped d = true ∧ SeqAt.shaped (.tuple ds) = true ∧ Q (.bl (!ds.any fun z => PyData.eqv z d)) H
theorem canLayT {ds : List PyData} (h : SeqAt.shaped (.tuple ds) = true) : PyData.canLayAll0 ds = true := by
  have := SeqAt.canLay_of_shaped h
  simpa [PyData.canLay0] using this
theorem op_inT (hu : X.A.units + 65 < cLine) : OpR X (compareOp .In) (rInT X.K) := by
  intro pins s σ H x y v u Q I rx ry h
  obtain ⟨d, ds, hd, he, sd, se, q⟩ := h
  obtain ⟨as, r1⟩ := Dp.reads I d x v hd rx
  obtain ⟨bs, r2⟩ := Dp.reads I (.tuple ds) y u he ry
  exact SeqAt.in_tuple_reads r2 r1 (canLayT se) (SeqAt.canLay_of_shaped sd) (room_in_shaped sd hu) ⟨.bl _, H, I, rfl, q⟩
theorem op_notInT (hu : X.A.units + 65 < cLine) : OpR X (compareOp .NotIn) (rNotInT X.K) := by
  intro pins s σ H x y v u Q I rx ry h
  obtain ⟨d, ds, hd, he, sd, se, q⟩ := h
  obtain ⟨as, r1⟩ := Dp.reads I d x v hd rx
  obtain ⟨bs, r2⟩ := Dp.reads I (.tuple ds) y u he ry
  exact SeqAt.notIn_tuple_reads r2 r1 (canLayT se) (SeqAt.canLay_of_shaped sd) (room_in_shaped sd hu) ⟨.bl _, H, I, rfl, q⟩
def Seq3 (M : MH) (ds : List D) : D → Prop
  | .tup es => es = ds
  | .ref a => LstM M a ds
  | _ => False
@[irreducible] def r3In (neg : Bool) : D → D → MH → Q3 → Prop := fun d e M Q => ∃ p ds ps, Py M d p ∧ Seq3 M ds e ∧ Pys M ds ps ∧ SeqAt.shaped p = true ∧ SeqAt.shaped (.list ps) = true ∧ SeqAt.shaped (.tuple ps) = true ∧ Q (.bl (neg ^^ ps.any fun z => PyData.eqv z p)) M
theorem opl_in : OpL K (fun x y H Q => rInD K x y H Q ∨ rInT K x y H Q) (r3In false) := by
  intro d e v u H M Q Q2 rd re a q g
  unfold r3In at q
  obtain ⟨p, ds, ps, h1, h2, h3, s1, s2, s3, q⟩ := q
  rw [Bool.false_xor] at q
  cases e with
  | tup es =>
    obtain rfl : es = ds := h2
    exact .inr ⟨p, ps, Py.dp a p _ _ h1 rd, Py.dp a (.tuple ps) _ _ (.tup h3) re, s1, s3, g _ _ H M (Tps.refl H) a Rv.bl q⟩
  | ref l => exact .inl ⟨p, ps, Py.dp a p _ _ h1 rd, Py.dp a (.list ps) _ _ (.ref h2 h3) re, s1, s2, g _ _ H M (Tps.refl H) a Rv.bl q⟩
  | _ => exact h2.elim
theorem opl_notin : OpL K (fun x y H Q => rNotInD K x y H Q ∨ rNotInT K x y H Q) (r3In true) := by
  intro d e v u H M Q Q2 rd re a q g
  unfold r3In at q
  obtain ⟨p, ds, ps, h1, h2, h3, s1, s2, s3, q⟩ := q
  rw [Bool.true_xor] at q
  cases e with
  | tup es =>
    obtain rfl : es = ds := h2
    exact .inr ⟨p, ps, Py.dp a p _ _ h1 rd, Py.dp a (.tuple ps) _ _ (.tup h3) re, s1, s3, g _ _ H M (Tps.refl H) a Rv.bl q⟩
  | ref l => exact .inl ⟨p, ps, Py.dp a p _ _ h1 rd, Py.dp a (.list ps) _ _ (.ref h2 h3) re, s1, s2, g _ _ H M (Tps.refl H) a Rv.bl q⟩
  | _ => exact h2.elim
theorem Room.u65 {k : Nat} {A : Around} (r : Room k A) : A.units + 65 < cLine := by have := r.un; omega
theorem ho_in {k : Nat} (hr : Room k X.A) : OpR X (compareOp .In) (fun x y H Q => rInD X.K x y H Q ∨ rInT X.K x y H Q) := (op_inD (Room.u65 hr)).or (op_inT (Room.u65 hr))
theorem ho_notin {k : Nat} (hr : Room k X.A) : OpR X (compareOp .NotIn) (fun x y H Q => rNotInD X.K x y H Q ∨ rNotInT X.K x y H Q) := (op_notInD (Room.u65 hr)).or (op_notInT (Room.u65 hr))
end
end L3

namespace L3
open PySem PySem.Spec PyProof.Rows L2
section
variable {X : Cx} {e a b c o i : Expr} {es : List Expr} {pos p : Pos} {t ta tb tc : E3} {u : A3} {K : Fg}
/-! ### argument lists, displays -/
def a3Nil : A3 := fun _ _ M Q => Q [] M
def a3Cons (t : E3) (u : A3) : A3 := fun W env M Q => t W env M fun d M1 => u W env M1 fun ds M2 => Q (d :: ds) M2
theorem da_nil : DA X [] a3Nil := fun W2 _ => pa_nil.imp fun σ H Q2 ⟨env, M, W, Q, s, a, l, q, g⟩ => g [] [] H M (Tps.refl H) a Rvs.nil q
theorem da_cons (ha : DE X e t) (hr : DA X es u) (hs : starEach (e :: es) X.env = (false, eval e X.env) :: starEach es X.env := by rfl) : DA X (e :: es) (a3Cons t u) := fun W2 tk =>
  (pa_cons (ha W2 tk) (hr W2 tk) hs).imp fun σ H Q2 ⟨env, M, W, Q, s, a, l, q, g⟩ => ⟨env, M, W, _, s, a, l, q, fun d v H1 M1 t1 a1 r1 q1 =>
    ⟨env, M1, W, _, s.mono t1, a1, l.mono t1, q1, fun ds vs H2 M2 t2 a2 r2 q2 => g _ _ H2 M2 (t1.trans t2) a2 (Rvs.cons (r1.mono t2) r2) q2⟩⟩
def e3Tup (u : A3) : E3 := fun W env M Q => u W env M fun ds M1 => ds.length ≤ sizeLine ∧ Q (.tup ds) M1
def e3Lst (u : A3) : E3 := fun W env M Q => u W env M fun ds M1 => ds.length ≤ sizeLine ∧ ∀ p, M1 p = none → Q (.ref p) (updM M1 p (.lst ds))
theorem d_tup {x1} (h : DA X es u) : DE X (.Tuple es x1 pos) (e3Tup u) := fun W2 tk => (pe_tupD (h W2 tk)).imp fun σ H Q2 ⟨env, M, W, Q, s, a, l, q, g⟩ =>
  ⟨env, M, W, _, s, a, l, q, fun ds vs H1 M1 t1 a1 r1 q1 => ⟨by rw [← r1.length]; exact q1.1, fun p op np dp => g _ _ _ M1 (t1.trans (Tps.new np)) (a1.tupN np) (Rv.tup (SqD.of dp) (r1.mono (Tps.new np))) q1.2⟩⟩
theorem d_lst (h : DA X es u) : DE X (.List es pos) (e3Lst u) := fun W2 tk => (pe_lst (h W2 tk)).imp fun σ H Q2 ⟨env, M, W, Q, s, a, l, q, g⟩ =>
  ⟨env, M, W, _, s, a, l, q, fun ds vs H1 M1 t1 a1 r1 q1 => ⟨by rw [← r1.length]; exact q1.1, fun p np => g _ _ _ _ (t1.trans (Tps.new np)) (a1.lstN np r1) Rv.ref (q1.2 p (a1.fresh np))⟩⟩
/-! ### subscripts -/
def r3Ix : D → D → MH → Q3 → Prop
  | .tup ds, .int i, M, Q => ∃ d, atI ds i = some d ∧ Q d M
  | .ref l, .int i, M, Q => ∃ ds d, LstM M l ds ∧ atI ds i = some d ∧ Q d M
  | _, _, _, _ => False
theorem Rvs.at {H : Hp} {ds : List D} {vs : List V} {i : Int} {d : D} (r : Rvs K H ds vs) (h : atI ds i = some d) : ∃ v, atI vs i = some v ∧ Rv K H d v := by
  unfold atI at h ⊢
  rw [← r.length]
  cases q : ixN ds.length i with
  | none => rw [q] at h; cases h
  | some j =>
    rw [q] at h
    obtain ⟨v, e, r'⟩ := r.get (i := j) (d := d) h
    exact ⟨v, e, r'⟩
theorem opl_ix : OpL K (fun x y H Q => rIxT K x y H Q ∨ rIxL K x y H Q) r3Ix := by
  intro d e v u H M Q Q2 rd re a q g
  unfold r3Ix at q
  split at q
  · obtain ⟨x, hx, q⟩ := q
    cases re.int_inv
    obtain ⟨p, vs, rfl, hs, hv⟩ := rd.tup_inv
    obtain ⟨y, hy, ry⟩ := hv.at hx
    exact .inl ⟨p, vs, _, y, rfl, rfl, hs, hy, g _ _ H M (Tps.refl H) a ry q⟩
  · obtain ⟨ds, x, hl, hx, q⟩ := q
    cases re.int_inv
    cases rd.ref_inv
    obtain ⟨vs, hs, hv⟩ := a.rd hl
    obtain ⟨y, hy, ry⟩ := hv.at hx
    exact .inr ⟨_, vs, _, y, rfl, rfl, hs, hy, g _ _ H M (Tps.refl H) a ry q⟩
  · exact q.elim
theorem d_ix (ha : DE X a ta) (hb : DE X b tb) (hs : PlainIx b := by exact fun _ _ => rfl) : DE X (.Subscript a b pos) (e3Op r3Ix ta tb) :=
  fun W2 tk => (pe_ix (ix_tup.or ix_list) (ha W2 tk) (hb W2 tk) hs).imp fun σ H Q2 h => op_low opl_ix h
/-! ### slices -/
abbrev O3 := W3 → En → MH → (Option Int → MH → Prop) → Prop
def lowO (K : Fg) (W2 : WX) (t : O3) : TO := fun σ H Q2 => ∃ env M W Q, SE K H σ env ∧ Abs K M H ∧ LW K H W W2 ∧ t W env M Q ∧ ∀ o H' M', Tps H H' → Abs K M' H' → Q o M' → Q2 o H'
def DO (X : Cx) (e : Option Expr) (t : O3) : Prop := ∀ W2, Takes X W2 → PO X e (lowO X.K W2 t)
theorem _root_.L2.PO.imp {X : Cx} {e : Option Expr} {t t' : TO} (h : PO X e t) (k : ∀ σ H Q, t' σ H Q → t σ H Q) : PO X e t' := ⟨fun pins s σ H Q I q => h.run pins s σ H Q I (k σ H Q q)⟩
def o3None : O3 := fun _ _ M Q => Q none M
def o3Some (t : E3) : O3 := fun W env M Q => t W env M fun d M1 => match d with | .int i => Q (some i) M1 | _ => False
theorem do_none : DO X none o3None := fun W2 _ => po_none.imp fun σ H Q2 ⟨env, M, W, Q, s, a, l, q, g⟩ => g _ H M (Tps.refl H) a q
theorem do_some (h : DE X e t) : DO X (some e) (o3Some t) := fun W2 tk => (po_some (h W2 tk)).imp fun σ H Q2 ⟨env, M, W, Q, s, a, l, q, g⟩ =>
  ⟨env, M, W, _, s, a, l, q, fun d v H1 M1 t1 a1 r1 q1 => by
    cases d with
    | int i => exact ⟨i, r1.int_inv, g _ H1 M1 t1 a1 q1⟩
    | _ => exact q1.elim⟩
def cutD (ds : List D) (lo hi : Option Int) : List D := (ds.drop (HT.sIx ds.length 0 lo)).take (HT.sIx ds.length ds.length hi - HT.sIx ds.length 0 lo)
def r3Sl : D → Option Int → Option Int → MH → Q3 → Prop
  | .tup ds, lo, hi, M, Q => Q (.tup (cutD ds lo hi)) M
  | .ref l, lo, hi, M, Q => ∃ ds, LstM M l ds ∧ ∀ p, M p = none → Q (.ref p) (updM M p (.lst (cutD ds lo hi)))
  | _, _, _, _, _ => False
def e3Sl (t : E3) (tl th : O3) : E3 := fun W env M Q => t W env M fun d M1 => tl W env M1 fun lo M2 => th W env M2 fun hi M3 => r3Sl d lo hi M3 Q
theorem Rvs.cut {H : Hp} {ds : List D} {vs : List V} (r : Rvs K H ds vs) (lo hi : Option Int) : Rvs K H (cutD ds lo hi) (cutV vs lo hi) := by
  unfold cutD cutV
  rw [r.length]
  exact (r.drop _).take _
theorem d_sl {lo hi : Option Expr} {tl th : O3} {p2} (ha : DE X a t) (hl : DO X lo tl) (hh : DO X hi th) : DE X (.Subscript a (.Slice lo hi none p2) pos) (e3Sl t tl th) := fun W2 tk =>
  (pe_slice (sl_tupD.or sl_list) (ha W2 tk) (hl W2 tk) (hh W2 tk)).imp fun σ H Q2 ⟨env, M, W, Q, s, a, l, q, g⟩ => by
    refine ⟨env, M, W, _, s, a, l, q, fun d v H1 M1 t1 a1 r1 q1 => ?_⟩
    refine ⟨env, M1, W, _, s.mono t1, a1, l.mono t1, q1, fun lo H2 M2 t2 a2 q2 => ?_⟩
    have t12 := t1.trans t2
    refine ⟨env, M2, W, _, s.mono t12, a2, l.mono t12, q2, fun hi H3 M3 t3 a3 q3 => ?_⟩
    have g3 := g.mono (t12.trans t3)
    have r3 := r1.mono (t2.trans t3)
    unfold r3Sl at q3
    split at q3
    · rename_i ds
      obtain ⟨p, vs, rfl, hs, hv⟩ := r3.tup_invD
      refine .inl ⟨p, vs, rfl, hs.1, fun w => ?_, fun w p op np dp => ?_⟩
      · refine g3 _ _ H3 M3 (Tps.refl H3) a3 (Rv.tup hs ?_) q3
        have e : cutV vs lo hi = vs := by
          unfold cutV
          rw [w.1, w.2, List.drop_zero, Nat.sub_zero, List.take_length]
        have := hv.cut lo hi
        rw [e] at this
        exact this
      · exact g3 _ _ _ M3 (Tps.new np) (a3.tupN np) (Rv.tup (SqD.of dp) ((hv.cut lo hi).mono (Tps.new np))) q3
    · obtain ⟨ds, hl, q3⟩ := q3
      cases r3.ref_inv
      obtain ⟨vs, hs, hv⟩ := a3.rd hl
      exact .inr ⟨_, vs, rfl, hs, fun p np => g3 _ _ _ _ (Tps.new np) (a3.lstN np (hv.cut lo hi)) Rv.ref (q3 p (a3.fresh np))⟩
    · exact q3.elim
/-! ### and, or, not, if .. else -/
def t3And (t u : T3) : T3 := fun W env M Q => t W env M fun b M1 => Br b (u W env M1 Q) (Q false M1)
def t3Or (t u : T3) : T3 := fun W env M Q => t W env M fun b M1 => Br b (Q true M1) (u W env M1 Q)
def t3Not (t : T3) : T3 := fun W env M Q => t W env M fun b M1 => Q (!b) M1
variable {tA tB : T3} {rest : List Expr}
theorem w_one (h : DT X a tA) {op : BoolOp} : DW X (.BoolOp op [a] pos) tA := fun W2 tk => by
  cases op with
  | And => exact pw_and1 (h W2 tk)
  | Or => exact pw_or1 (h W2 tk)
theorem w_and (ha : DT X a tA) (hb : DW X (.BoolOp .And (b :: rest) pos) tB) : DW X (.BoolOp .And (a :: b :: rest) pos) (t3And tA tB) := fun W2 tk => (pw_and (ha W2 tk) (hb W2 tk)).imp fun σ H Q2 ⟨env, M, W, Q, s, a, l, q, g⟩ =>
  ⟨env, M, W, _, s, a, l, q, fun b H1 M1 t1 a1 q1 => by
    cases b with
    | true => rw [if_pos rfl]; exact ⟨env, M1, W, Q, s.mono t1, a1, l.mono t1, q1.1 rfl, fun b H2 M2 t2 a2 q2 => g b H2 M2 (t1.trans t2) a2 q2⟩
    | false => rw [if_neg Bool.false_ne_true]; exact g _ H1 M1 t1 a1 (q1.2 rfl)⟩
theorem w_or (ha : DT X a tA) (hb : DW X (.BoolOp .Or (b :: rest) pos) tB) : DW X (.BoolOp .Or (a :: b :: rest) pos) (t3Or tA tB) := fun W2 tk => (pw_or (ha W2 tk) (hb W2 tk)).imp fun σ H Q2 ⟨env, M, W, Q, s, a, l, q, g⟩ =>
  ⟨env, M, W, _, s, a, l, q, fun b H1 M1 t1 a1 q1 => by
    cases b with
    | false => rw [if_neg Bool.false_ne_true]; exact ⟨env, M1, W, Q, s.mono t1, a1, l.mono t1, q1.2 rfl, fun b H2 M2 t2 a2 q2 => g b H2 M2 (t1.trans t2) a2 q2⟩
    | true => rw [if_pos rfl]; exact g _ H1 M1 t1 a1 (q1.1 rfl)⟩
theorem t_w (h : DW X e tA) : DT X e tA := fun W2 tk => (h W2 tk).pt
theorem t_not (h : DT X a tA) : DT X (.UnaryOp .Not a pos) (t3Not tA) := fun W2 tk => (pt_not (h W2 tk)).imp fun σ H Q2 ⟨env, M, W, Q, s, a, l, q, g⟩ =>
  ⟨env, M, W, _, s, a, l, q, fun b H1 M1 t1 a1 q1 => g _ H1 M1 t1 a1 q1⟩
def e3And (t u : E3) : E3 := fun W env M Q => t W env M fun d M1 => match d with | .bl b => Br b (u W env M1 Q) (Q (.bl false) M1) | _ => False
def e3Or (t u : E3) : E3 := fun W env M Q => t W env M fun d M1 => match d with | .bl b => Br b (Q (.bl true) M1) (u W env M1 Q) | _ => False
def e3Not (t : E3) : E3 := fun W env M Q => t W env M fun d M1 => match d with | .bl b => Q (.bl (!b)) M1 | _ => False
theorem d_one {op : BoolOp} (h : DE X a t) : DE X (.BoolOp op [a] pos) t := fun W2 tk => pe_one (h W2 tk)
theorem d_and (ha : DE X a ta) (hb : DE X (.BoolOp .And (b :: rest) pos) tb) : DE X (.BoolOp .And (a :: b :: rest) pos) (e3And ta tb) := fun W2 tk => (pe_and (ha W2 tk) (hb W2 tk)).imp fun σ H Q2 ⟨env, M, W, Q, s, a, l, q, g⟩ =>
  ⟨env, M, W, _, s, a, l, q, fun d v H1 M1 t1 a1 r1 q1 => by
    cases d with
    | bl b =>
      refine ⟨b, r1.bl_inv, ?_⟩
      cases b with
      | true => rw [if_pos rfl]; exact ⟨env, M1, W, Q, s.mono t1, a1, l.mono t1, q1.1 rfl, g.mono t1⟩
      | false => rw [if_neg Bool.false_ne_true]; exact g _ _ H1 M1 t1 a1 Rv.bl (q1.2 rfl)
    | _ => exact q1.elim⟩
theorem d_or (ha : DE X a ta) (hb : DE X (.BoolOp .Or (b :: rest) pos) tb) : DE X (.BoolOp .Or (a :: b :: rest) pos) (e3Or ta tb) := fun W2 tk => (pe_or (ha W2 tk) (hb W2 tk)).imp fun σ H Q2 ⟨env, M, W, Q, s, a, l, q, g⟩ =>
  ⟨env, M, W, _, s, a, l, q, fun d v H1 M1 t1 a1 r1 q1 => by
    cases d with
    | bl b =>
      refine ⟨b, r1.bl_inv, ?_⟩
      cases b with
      | false => rw [if_neg Bool.false_ne_true]; exact ⟨env, M1, W, Q, s.mono t1, a1, l.mono t1, q1.2 rfl, g.mono t1⟩
      | true => rw [if_pos rfl]; exact g _ _ H1 M1 t1 a1 Rv.bl (q1.1 rfl)
    | _ => exact q1.elim⟩
theorem d_not (ha : DE X a ta) : DE X (.UnaryOp .Not a pos) (e3Not ta) := fun W2 tk => (pe_not (ha W2 tk)).imp fun σ H Q2 ⟨env, M, W, Q, s, a, l, q, g⟩ =>
  ⟨env, M, W, _, s, a, l, q, fun d v H1 M1 t1 a1 r1 q1 => by
    cases d with
    | bl b => exact ⟨b, r1.bl_inv, g _ _ H1 M1 t1 a1 Rv.bl q1⟩
    | _ => exact q1.elim⟩
def e3If (c : T3) (t u : E3) : E3 := fun W env M Q => c W env M fun b M1 => Br b (t W env M1 Q) (u W env M1 Q)
theorem d_ifExp (hc : DT X c tA) (ha : DE X a ta) (hb : DE X b tb) : DE X (.IfExp c a b pos) (e3If tA ta tb) := fun W2 tk => (pe_ifExp (hc W2 tk) (ha W2 tk) (hb W2 tk)).imp fun σ H Q2 ⟨env, M, W, Q, s, a, l, q, g⟩ =>
  ⟨env, M, W, _, s, a, l, q, fun b H1 M1 t1 a1 q1 => by
    cases b with
    | true => rw [if_pos rfl]; exact ⟨env, M1, W, Q, s.mono t1, a1, l.mono t1, q1.1 rfl, g.mono t1⟩
    | false => rw [if_neg Bool.false_ne_true]; exact ⟨env, M1, W, Q, s.mono t1, a1, l.mono t1, q1.2 rfl, g.mono t1⟩⟩
def e3Neg (t : E3) : E3 := fun W env M Q => t W env M fun d M1 => match d with | .int i => Q (.int (-i)) M1 | _ => False
theorem d_neg (ha : DE X a ta) : DE X (.UnaryOp .USub a pos) (e3Neg ta) := fun W2 tk => (pe_un un_neg (ha W2 tk)).imp fun σ H Q2 ⟨env, M, W, Q, s, a, l, q, g⟩ =>
  ⟨env, M, W, _, s, a, l, q, fun d v H1 M1 t1 a1 r1 q1 => by
    cases d with
    | int b => exact ⟨b, r1.int_inv, g _ _ H1 M1 t1 a1 Rv.int q1⟩
    | _ => exact q1.elim⟩
/-! ### built-in calls by values -/
def CallL (K : Fg) (r : List V → Hp → VK → Prop) (r3 : List D → MH → Q3 → Prop) : Prop := ∀ ds vs H M Q Q2, Rvs K H ds vs → Abs K M H → r3 ds M Q → Got K H Q Q2 → r vs H Q2
def e3CB (r3 : List D → MH → Q3 → Prop) (u : A3) : E3 := fun W env M Q => u W env M fun ds M1 => r3 ds M1 Q
theorem cb_low {r : List V → Hp → VK → Prop} {r3 : List D → MH → Q3 → Prop} {W2 : WX} (hl : CallL X.K r r3) {σ : L2.St} {H : Hp} {Q2 : VK} (h : lowE X.K W2 (e3CB r3 u) σ H Q2) : tCB r (lowA X.K W2 u) σ H Q2 := by
  obtain ⟨env, M, W, Q, s, a, l, q, g⟩ := h
  exact ⟨env, M, W, _, s, a, l, q, fun ds vs H1 M1 t1 a1 r1 q1 => hl ds vs H1 M1 Q Q2 r1 a1 q1 (g.mono t1)⟩
theorem d_cb {id : String} {x : Str} {r : List V → Hp → VK → Prop} {r3 : List D → MH → Q3 → Prop} (hc : CallR X (.builtin id) r) (hl : CallL X.K r r3) (hg : Gl X x) (hm : X.mg x = none) (hv : bootBuiltins x = some (.builtin id)) (ha : DA X (e :: es) u)
    (hn : x ≠ "__name__" := by decide) (hdb : (x == ("__debug__" : Str)) = false := by decide) (he : starEach (e :: es) X.env = (false, eval e X.env) :: starEach es X.env := by rfl) (hpl : (backTo pos (starEach es X.env)).any (·.1) = false := by rfl) :
    DE X (.Call (.Name x p) (e :: es) [] pos) (e3CB r3 u) := fun W2 tk => (pe_callB hc hg hm hv (ha W2 tk) hn hdb he hpl).imp fun σ H Q2 h => cb_low hl h
theorem d_cty {T : String} {x : Str} {r : List V → Hp → VK → Prop} {r3 : List D → MH → Q3 → Prop} (hc : CallR X (.type T) r) (hl : CallL X.K r r3) (hg : Gl X x) (hm : X.mg x = none) (hv : bootBuiltins x = some (.type T)) (ha : DA X (e :: es) u)
    (hn : x ≠ "__name__" := by decide) (hdb : (x == ("__debug__" : Str)) = false := by decide) (he : starEach (e :: es) X.env = (false, eval e X.env) :: starEach es X.env := by rfl) (hpl : (backTo pos (starEach es X.env)).any (·.1) = false := by rfl) :
    DE X (.Call (.Name x p) (e :: es) [] pos) (e3CB r3 u) := fun W2 tk => (pe_callTy hc hg hm hv (ha W2 tk) hn hdb he hpl).imp fun σ H Q2 h => cb_low hl h
theorem one_inv {H : Hp} {d : D} {vs : List V} (r : Rvs K H [d] vs) : ∃ v, vs = [v] ∧ Rv K H d v := by
  obtain ⟨v, r', rfl, h, t⟩ := r.cons_inv
  cases t.nil_inv
  exact ⟨v, rfl, h⟩
theorem two_inv {H : Hp} {d e : D} {vs : List V} (r : Rvs K H [d, e] vs) : ∃ v w, vs = [v, w] ∧ Rv K H d v ∧ Rv K H e w := by
  obtain ⟨v, r', rfl, h, t⟩ := r.cons_inv
  obtain ⟨w, rfl, h'⟩ := one_inv t
  exact ⟨v, w, rfl, h, h'⟩
def c3Len : List D → MH → Q3 → Prop
  | [.tup ds], M, Q => Q (.int ds.length) M
  | [.ref l], M, Q => ∃ ds, LstM M l ds ∧ Q (.int ds.length) M
  | [.str x], M, Q => x.length ≤ sizeLine ∧ Q (.int x.length) M
  | _, _, _ => False
theorem cl_len : CallL K (fun xs H Q => (fun xs H Q => ∃ p ys, xs = [.ref p] ∧ (SqL K H p ys ∨ SqT K H p ys) ∧ Q (.int ys.length) H) xs H Q ∨ (fun xs H Q => ∃ z, xs = [.str z] ∧ z.length ≤ sizeLine ∧ Q (.int z.length) H) xs H Q) c3Len := by
  intro ds vs H M Q Q2 r a q g
  unfold c3Len at q
  split at q
  · obtain ⟨v, rfl, rr⟩ := one_inv r
    obtain ⟨p, vs, rfl, hs, hv⟩ := rr.tup_inv
    refine .inl ⟨p, vs, rfl, .inr hs, g _ _ H M (Tps.refl H) a ?_ q⟩
    rw [hv.length]; exact Rv.int
  · obtain ⟨v, rfl, rr⟩ := one_inv r
    obtain ⟨ds, hl, q⟩ := q
    cases rr.ref_inv
    obtain ⟨vs, hs, hv⟩ := a.rd hl
    refine .inl ⟨_, vs, rfl, .inl hs, g _ _ H M (Tps.refl H) a ?_ q⟩
    rw [hv.length]; exact Rv.int
  · obtain ⟨v, rfl, rr⟩ := one_inv r
    cases rr.str_inv
    exact .inr ⟨_, rfl, q.1, g _ _ H M (Tps.refl H) a Rv.int q.2⟩
  · exact q.elim
theorem d_len (hm : X.mg "len" = none) (ha : DA X [e] u) (hg : Gl X "len" := by rfl) (he : starEach (e :: []) X.env = (false, eval e X.env) :: starEach [] X.env := by rfl) (hpl : (backTo pos (starEach [] X.env)).any (·.1) = false := by rfl) : DE X (.Call (.Name "len" p) [e] [] pos) (e3CB c3Len u) :=
  d_cb (call_len_seq.or call_len_str) cl_len hg hm PySem.boot_len ha (by decide) (by decide) he hpl
def c3Int : List D → MH → Q3 → Prop
  | [.int i], M, Q => Q (.int i) M
  | [.bl b], M, Q => Q (.int (if b then 1 else 0)) M
  | _, _, _ => False
theorem cl_int : CallL K (fun xs H Q => (∃ i, xs = [.int i] ∧ Q (.int i) H) ∨ ∃ k, xs = [.bl k] ∧ Q (.int (if k then 1 else 0)) H) c3Int := by
  intro ds vs H M Q Q2 r a q g
  unfold c3Int at q
  split at q
  · obtain ⟨v, rfl, rr⟩ := one_inv r
    cases rr.int_inv
    exact .inl ⟨_, rfl, g _ _ H M (Tps.refl H) a Rv.int q⟩
  · obtain ⟨v, rfl, rr⟩ := one_inv r
    cases rr.bl_inv
    exact .inr ⟨_, rfl, g _ _ H M (Tps.refl H) a Rv.int q⟩
  · exact q.elim
theorem boot_int' : bootBuiltins "int" = some (.type "int") := by decide +kernel
theorem boot_abs' : bootBuiltins "abs" = some (.builtin "abs") := by decide +kernel
theorem boot_list' : bootBuiltins "list" = some (.type "list") := by decide +kernel
theorem boot_isinstance' : bootBuiltins "isinstance" = some (.builtin "isinstance") := by decide +kernel
theorem boot_all' : bootBuiltins "all" = some (.builtin "all") := by decide +kernel
theorem boot_any' : bootBuiltins "any" = some (.builtin "any") := by decide +kernel
theorem boot_sum' : bootBuiltins "sum" = some (.builtin "sum") := by decide +kernel
theorem boot_sorted' : bootBuiltins "sorted" = some (.builtin "sorted") := by decide +kernel
theorem d_intc (hm : X.mg "int" = none) (ha : DA X [e] u) (hg : Gl X "int" := by rfl) (he : starEach (e :: []) X.env = (false, eval e X.env) :: starEach [] X.env := by rfl) (hpl : (backTo pos (starEach [] X.env)).any (·.1) = false := by rfl) : DE X (.Call (.Name "int" p) [e] [] pos) (e3CB c3Int u) :=
  d_cty call_int1 cl_int hg hm boot_int' ha (by decide) (by decide) he hpl
def c3Abs : List D → MH → Q3 → Prop
  | [.int i], M, Q => Q (.int (if i < 0 then -i else i)) M
  | _, _, _ => False
theorem cl_abs : CallL K (fun xs H Q => ∃ i, xs = [.int i] ∧ Q (.int (if i < 0 then -i else i)) H) c3Abs := by
  intro ds vs H M Q Q2 r a q g
  unfold c3Abs at q
  split at q
  · obtain ⟨v, rfl, rr⟩ := one_inv r
    cases rr.int_inv
    exact ⟨_, rfl, g _ _ H M (Tps.refl H) a Rv.int q⟩
  · exact q.elim
theorem d_abs (hm : X.mg "abs" = none) (ha : DA X [e] u) (hg : Gl X "abs" := by rfl) (he : starEach (e :: []) X.env = (false, eval e X.env) :: starEach [] X.env := by rfl) (hpl : (backTo pos (starEach [] X.env)).any (·.1) = false := by rfl) : DE X (.Call (.Name "abs" p) [e] [] pos) (e3CB c3Abs u) :=
  d_cb call_abs cl_abs hg hm boot_abs' ha (by decide) (by decide) he hpl
/-- a value's type -/
def tyD (M : MH) : D → String → Prop
  | .non, n => n = "NoneType"
  | .bl _, n => n = "bool"
  | .int _, n => n = "int"
  | .str _, n => n = "str"
  | .tup _, n => n = "tuple"
  | .ref a, n => (n = "list" ∧ ∃ ds, LstM M a ds) ∨ (n = "dict" ∧ ((∃ kvs, M a = some (.dT kvs) ∧ False) ∨ ∃ kvs, M a = some (.dK kvs)))
  | .ty _, _ => False
theorem tyD_ok {H : Hp} {M : MH} {d : D} {v : V} {n : String} (a : Abs K M H) (r : Rv K H d v) (h : tyD M d n) : TyX K H v (.type n) := by
  cases d with
  | non => cases r.non_inv; obtain rfl : n = _ := h; exact .base .non
  | bl b => cases r.bl_inv; obtain rfl : n = _ := h; exact .base (.bl _)
  | int b => cases r.int_inv; obtain rfl : n = _ := h; exact .base (.int _)
  | str b => cases r.str_inv; obtain rfl : n = _ := h; exact .base (.str _)
  | tup b =>
    obtain ⟨p, vs, rfl, hs, _⟩ := r.tup_inv
    obtain rfl : n = _ := h
    rcases hs with (hs | ⟨o, hs⟩) | ⟨o, its, m, hk, hc, _⟩
    · exact .base (.tup hs)
    · exact .fTuple hs
    · exact .kTuple hk hc
  | ref l =>
    cases r.ref_inv
    rcases h with ⟨rfl, ds, hl⟩ | ⟨rfl, h⟩
    · rcases hl with e | e
      · obtain ⟨vs, h1, _⟩ := a _ _ e
        exact .base (.lst h1)
      · obtain ⟨vs, o, h1, _⟩ := a _ _ e
        exact .base (.frz h1)
    · rcases h with ⟨kvs, _, e⟩ | ⟨kvs, e⟩
      · exact e.elim
      · obtain ⟨ks, vs, h1, _⟩ := a _ _ e
        exact .base (.dK h1)
  | ty b => exact h.elim
@[irreducible] def c3Isi : List D → MH → Q3 → Prop
  | [d, .ty n], M, Q => ∃ m b, tyD M d m ∧ kitB m n = some b ∧ Q (.bl b) M
  | _, _, _ => False
theorem cl_isi : CallL K (rIsi K) c3Isi := by
  intro ds vs H M Q Q2 r a q g
  unfold c3Isi at q
  split at q
  · obtain ⟨v, w, rfl, r1, r2⟩ := two_inv r
    cases r2.ty_inv
    obtain ⟨m, b, h1, h2, q⟩ := q
    exact ⟨v, _, _, _, b, rfl, .ty _, tyD_ok a r1 h1, kit_ty h2, g _ _ H M (Tps.refl H) a Rv.bl q⟩
  · exact q.elim
theorem d_isi {e2 : Expr} (hm : X.mg "isinstance" = none) (ha : DA X [e, e2] u) (hg : Gl X "isinstance" := by rfl) (he : starEach (e :: [e2]) X.env = (false, eval e X.env) :: starEach [e2] X.env := by rfl) (hpl : (backTo pos (starEach [e2] X.env)).any (·.1) = false := by rfl) : DE X (.Call (.Name "isinstance" p) [e, e2] [] pos) (e3CB c3Isi u) :=
  d_cb call_isi cl_isi hg hm boot_isinstance' ha (by decide) (by decide) he hpl
def c3List : List D → MH → Q3 → Prop
  | [.tup ds], M, Q => ∀ p, M p = none → Q (.ref p) (updM M p (.lst ds))
  | [.ref l], M, Q => ∃ ds, LstM M l ds ∧ ∀ p, M p = none → Q (.ref p) (updM M p (.lst ds))
  | _, _, _ => False
theorem cl_list : CallL K (fun xs H Q => ∃ p ys, xs = [.ref p] ∧ (SqL K H p ys ∨ SqT K H p ys) ∧ ∀ l, H l = none → Q (.ref l) (upd H l (.lst ys))) c3List := by
  intro ds vs H M Q Q2 r a q g
  unfold c3List at q
  split at q
  · obtain ⟨v, rfl, rr⟩ := one_inv r
    obtain ⟨p, vs, rfl, hs, hv⟩ := rr.tup_inv
    exact ⟨p, vs, rfl, .inr hs, fun l nl => g _ _ _ _ (Tps.new nl) (a.lstN nl hv) Rv.ref (q l (a.fresh nl))⟩
  · obtain ⟨v, rfl, rr⟩ := one_inv r
    obtain ⟨ds, hl, q⟩ := q
    cases rr.ref_inv
    obtain ⟨vs, hs, hv⟩ := a.rd hl
    exact ⟨_, vs, rfl, .inl hs, fun l nl => g _ _ _ _ (Tps.new nl) (a.lstN nl hv) Rv.ref (q l (a.fresh nl))⟩
  · exact q.elim
theorem d_list (hm : X.mg "list" = none) (ha : DA X [e] u) (hg : Gl X "list" := by rfl) (he : starEach (e :: []) X.env = (false, eval e X.env) :: starEach [] X.env := by rfl) (hpl : (backTo pos (starEach [] X.env)).any (·.1) = false := by rfl) : DE X (.Call (.Name "list" p) [e] [] pos) (e3CB c3List u) :=
  d_cty call_list_of cl_list hg hm boot_list' ha (by decide) (by decide) he hpl
def k3Tup : D → MH → Q3 → Prop
  | .tup ds, M, Q => Q (.tup ds) M
  | .ref l, M, Q => ∃ ds, LstM M l ds ∧ Q (.tup ds) M
  | _, _, _ => False
def e3TupOf (t : E3) : E3 := fun W env M Q => t W env M fun d M1 => k3Tup d M1 Q
theorem d_tuple (hm : X.mg "tuple" = none) (ha : DE X a t) (hg : Gl X "tuple" := by rfl) (na : starEach [a] X.env = (false, eval a X.env) :: starEach [] X.env := by rfl) : DE X (.Call (.Name "tuple" p) [a] [] pos) (e3TupOf t) := fun W2 tk =>
  (pe_tupleD hg hm (ha W2 tk) na).imp fun σ H Q2 ⟨env, M, W, Q, s, a, l, q, g⟩ => by
    refine ⟨env, M, W, _, s, a, l, q, fun d v H1 M1 t1 a1 r1 q1 => ?_⟩
    have g1 := g.mono t1
    unfold k3Tup at q1
    split at q1
    · obtain ⟨p, vs, rfl, hs, hv⟩ := r1.tup_inv
      exact .inr ⟨p, vs, rfl, hs, g1 _ _ H1 M1 (Tps.refl H1) a1 r1 q1⟩
    · obtain ⟨ds, hl, q1⟩ := q1
      cases r1.ref_inv
      obtain ⟨vs, hs, hv⟩ := a1.rd hl
      exact .inl ⟨_, vs, rfl, hs, fun p op np dp => g1 _ _ _ M1 (Tps.new np) (a1.tupN np) (Rv.tup (SqD.of dp) (hv.mono (Tps.new np))) q1⟩
    · exact q1.elim
def bls (bs : List Bool) : List D := bs.map D.bl
theorem Rvs.blsV {H : Hp} : ∀ {bs : List Bool} {vs : List V}, Rvs K H (bls bs) vs → vs = bs.map V.bl
  | [], _, h => h.nil_inv
  | b :: bs, _, h => by
    obtain ⟨v, r, rfl, h1, h2⟩ := Rvs.cons_inv (d := .bl b) (ds := bls bs) h
    rw [h1.bl_inv, Rvs.blsV h2]; rfl
theorem Rvs.intsV {H : Hp} : ∀ {bs : List Int} {vs : List V}, Rvs K H (bs.map D.int) vs → vs = bs.map V.int
  | [], _, h => h.nil_inv
  | b :: bs, _, h => by
    obtain ⟨v, r, rfl, h1, h2⟩ := Rvs.cons_inv (d := .int b) (ds := bs.map D.int) h
    rw [h1.int_inv, Rvs.intsV h2]; rfl
def c3All : List D → MH → Q3 → Prop
  | [.ref l], M, Q => ∃ bs, LstM M l (bls bs) ∧ Q (.bl (bs.all id)) M
  | _, _, _ => False
theorem cl_all : CallL K (rAll K) c3All := by
  intro ds vs H M Q Q2 r a q g
  unfold c3All at q
  split at q
  · obtain ⟨v, rfl, rr⟩ := one_inv r
    obtain ⟨bs, hl, q⟩ := q
    cases rr.ref_inv
    obtain ⟨vs, hs, hv⟩ := a.rd hl
    rw [hv.blsV] at hs
    exact ⟨_, bs, rfl, hs, g _ _ H M (Tps.refl H) a Rv.bl q⟩
  · exact q.elim
theorem d_all (hc : X.calm = true) (hm : X.mg "all" = none) (ha : DA X [e] u) (hg : Gl X "all" := by rfl) (he : starEach (e :: []) X.env = (false, eval e X.env) :: starEach [] X.env := by rfl) (hpl : (backTo pos (starEach [] X.env)).any (·.1) = false := by rfl) : DE X (.Call (.Name "all" p) [e] [] pos) (e3CB c3All u) :=
  d_cb (cr_all hc) cl_all hg hm boot_all' ha (by decide) (by decide) he hpl
/-! ### calls of defs -/
abbrev Sp3 := List D → MH → Q3 → (Value → Option Addr → MH → Prop) → Prop
def lowF (K : Fg) (sp : Sp3) : Sp := fun vs H Q2 E2 => ∃ ds M Q E, Rvs K H ds vs ∧ Abs K M H ∧ sp ds M Q E ∧ Got K H Q Q2 ∧ ∀ cls dd H' M', Tps H H' → Abs K M' H' → E cls dd M' → E2 cls dd H'
/-- room, and no built-in under way that shows or compares -/
structure RoomG (k : Nat) (A : Around) : Prop where
  r : Room k A
  g : A.guards = some []
theorem RoomG.mono {i k : Nat} {A : Around} (z : RoomG k A) (h : i ≤ k) : RoomG i A := ⟨z.r.mono h, z.g⟩
theorem RoomG.down {k : Nat} {A : Around} (z : RoomG (k + 1) A) (env : Env) : RoomG k (A.deeper env) := ⟨z.r.deeper env, z.g⟩
/-- room also in an except suite -/
structure RoomU (A : Around) : Prop where
  un : A.units + 200 < cLine
  g : A.guards = some []
theorem RoomG.low {k : Nat} {A : Around} (z : RoomG k A) : RoomU A := ⟨by have := z.r.un; omega, z.g⟩
theorem RoomU.mark {A : Around} (z : RoomU A) (v : Option Value) : RoomU (A.mark v) := ⟨z.un, z.g⟩
theorem RoomU.units {A : Around} (z : RoomU A) : A.units + 64 < cLine := by have := z.un; omega
/-- a def keeps its promise wherever it is called -/
structure Fn3 (P : Program) (w : World) (K : Fg) (mg : Str → Option Value) (base : Heap) (k : Nat) (f : Addr) (fd : FuncData) (ps : List Str) (sp : Sp3) : Prop where
  many : ∀ ds M Q E, sp ds M Q E → ds.length = ps.length
  runs : ∀ (A : Around) (outer : List Env) (s : Shared) (H : Hp) (ar : Args) (ws : List Value) (zs : List V) (Q2 : VK) (E2 : XK), RoomG k A → Env0 P w K mg base A outer s H → BindsTo s fd ar (ps.zip ws) → Vals zs ws → lowF K sp zs H Q2 E2 →
    codeAny (model P w) A (.call (.ref f) ar) (CR (L2.CX P w) outer P w H s Q2 E2) s
theorem Fn3.mono {P : Program} {w : World} {K : Fg} {mg : Str → Option Value} {base : Heap} {i k : Nat} {f : Addr} {fd : FuncData} {ps : List Str} {sp : Sp3} (F : Fn3 P w K mg base i f fd ps sp) (h : i ≤ k) : Fn3 P w K mg base k f fd ps sp :=
  ⟨F.many, fun A outer s H ar ws zs Q2 E2 z => F.runs A outer s H ar ws zs Q2 E2 (z.mono h)⟩
theorem Fn3.imp {P : Program} {w : World} {K : Fg} {mg : Str → Option Value} {base : Heap} {k : Nat} {f : Addr} {fd : FuncData} {ps : List Str} {sp sp' : Sp3} (F : Fn3 P w K mg base k f fd ps sp) (h : ∀ ds M Q E, sp' ds M Q E → sp ds M Q E) : Fn3 P w K mg base k f fd ps sp' :=
  ⟨fun ds M Q E q => F.many ds M Q E (h _ _ _ _ q), fun A outer s H ar ws zs Q2 E2 z e b v ⟨ds, M, Q, E, r, a, q, g⟩ => F.runs A outer s H ar ws zs Q2 E2 z e b v ⟨ds, M, Q, E, r, a, h _ _ _ _ q, g⟩⟩
theorem low_many {K : Fg} {sp : Sp3} {n : Nat} (hm : ∀ ds M Q E, sp ds M Q E → ds.length = n) {zs : List V} {H : Hp} {Q2 : VK} {E2 : XK} (h : lowF K sp zs H Q2 E2) : zs.length = n := by
  obtain ⟨ds, M, Q, E, r, _, q, _⟩ := h
  rw [← r.length]
  exact hm ds M Q E q
/-- the callee is entered with its arguments bound, and comes back -/
theorem enter3 {k : Nat} {f : Addr} {fd : FuncData} {ps : List Str} {sp : Sp3} {pins : List (Addr × Obj)} {σ : L2.St} {H : Hp} {s : Shared} {Q2 : VK} {W2 : WX} {ar : Args} {ws : List Value} {zs : List V} (F : Fn3 X.prog X.w X.K X.mg X.base k f fd ps sp) (hr : RoomG k X.A) (tk : Takes X W2)
    (I : Inv X pins σ H s) (hb : BindsTo s fd ar (ps.zip ws)) (rv : Vals zs ws) (h : lowF X.K sp zs H Q2 (WE W2 σ)) : codeAny (model X.prog X.w) X.A (.call (.ref f) ar) (fun r s' => match r with
      | .ok (.ret u) => EP X pins σ Q2 u s'
      | .ok _ => False
      | .error x => X.xe x s') s :=
  codeAny_mono (F.runs X.A X.stack s H ar ws zs Q2 (WE W2 σ) hr I.env0 hb rv h) fun r s' hq => match r, hq with
    | .ok (.ret _), hq => I.after hq
    | .ok .next, hq => False.elim hq
    | .ok .brk, hq => False.elim hq
    | .ok .cont, hq => False.elim hq
    | .error x, hq => passAt tk σ pins H s x s' I hq
def e3Call (sp : Sp3) (u : A3) : E3 := fun W env M Q => u W env M fun ds M1 => sp ds M1 Q fun cls dd M' => W cls dd env M'
theorem d_call {k : Nat} {f : Addr} {fd : FuncData} {ps : List Str} {sp : Sp3} {x : Str} (F : Fn3 X.prog X.w X.K X.mg X.base k f fd ps sp) (hr : RoomG k X.A) (hm : X.mg x = some (.ref f)) (hk : PySem.W.keepIn X.K (.ref f) = true) (hb : Binds X.K fd ps [])
    (ha : DA X (e :: es) u) (hg : Gl X x := by rfl) (hdb : (x == ("__debug__" : Str)) = false := by decide) (he : starEach (e :: es) X.env = (false, eval e X.env) :: starEach es X.env := by rfl) (hpl : (backTo pos (starEach es X.env)).any (·.1) = false := by rfl) :
    DE X (.Call (.Name x p) (e :: es) [] pos) (e3Call sp u) := fun W2 tk => by
  refine ⟨fun pins s σ H Q2 I ⟨env, M, W, Q, se, a, l, q, g⟩ => wpAny_Call_Name_kw (ld_glob I hg hm ?_ hdb)⟩
  have low : lowA X.K W2 u σ H fun vs H1 => lowF X.K sp vs H1 Q2 (WE W2 σ) := ⟨env, M, W, _, se, a, l, q, fun ds vs H1 M1 t1 a1 r1 q1 => ⟨ds, M1, Q, _, r1, a1, q1, g.mono t1, fun cls dd H' M' t2 a2 w => l cls dd σ H' env M' (t1.trans t2) (se.mono (t1.trans t2)) a2 w⟩⟩
  refine PySem.W.callWith_K (h₀ := X.base) I.ok.mod.kin hk (thn ((ha W2 tk).run pos pins s σ H _ I low) fun us s1 ⟨vs, H1, I1, r, q2⟩ => ⟨I1.kIn, ?_⟩) he hpl
  have hn : us.length = ps.length := r.length.symm.trans (low_many F.many q2)
  have b := hb s1 us I1.kIn (by simpa using hn)
  rw [List.append_nil] at b
  refine wpAny_call (codeAny_mono (enter3 F hr tk I1 b r q2) fun r s' hq => ?_)
  match r, hq with
  | .ok (.ret _), hq => exact hq
  | .ok .next, hq => exact False.elim hq
  | .ok .brk, hq => exact False.elim hq
  | .ok .cont, hq => exact False.elim hq
  | .error _, hq => exact hq
end
end L3

namespace L3
open PySem PySem.Spec PyProof.Rows L2
section
variable {X : Cx} {e a b c o : Expr} {es : List Expr} {pos p : Pos} {t ta tb tc : E3} {u : A3} {K : Fg} {st : Stmt} {sts body : List Stmt} {s1 s2 : S3} {tA tB : T3} {g g' : G3}
/-! ### statements -/
abbrev En3 := Ends3
def s3Nil : S3 := fun _ D env M => D.nx env M
def s3Seq (t u : S3) : S3 := fun W D env M => t W { nx := fun env' M' => u W D env' M', rt := D.rt, bk := D.bk, ct := D.ct } env M
theorem dss_nil : DSs X [] s3Nil := fun W2 _ _ => pss_nil.imp fun D2 σ H ⟨env, M, W, D3, s, a, l, q, le⟩ => le.nx σ H env M (Tps.refl H) s a q
theorem dss_cons (h1 : DS X st s1) (h2 : DSs X sts s2) : DSs X (st :: sts) (s3Seq s1 s2) := fun W2 tk hp => (pss_cons (h1 W2 tk hp) (h2 W2 tk hp)).imp fun D2 σ H ⟨env, M, W, D3, s, a, l, q, le⟩ =>
  ⟨env, M, W, _, s, a, l, q, ⟨fun σ' H' env' M' t s' a' q' => ⟨env', M', W, D3, s', a', l.mono t, q', le.mono t⟩, le.rt, le.bk, le.ct⟩⟩
theorem dss_one (h1 : DS X st s1) : DSs X [st] s1 := fun W2 tk hp => pss_one (h1 W2 tk hp)
def s3Asg (t : E3) (i : Nat) : S3 := fun W D env M => t W env M fun d M1 => D.nx (env.set i (some d)) M1
theorem ds_set {i : Nat} {x : Str} {pos' : Pos} (hN : X.N.Nodup) (he : DE X e t) (hi : X.N[i]? = some x := by rfl) (hx : Loc X.env.scope x := by first | exact Or.inl rfl | exact Or.inr rfl) (hs : swapsWith e (some (.Name x pos')) pos.line X.env = pure false := by rfl) (hf : X.fn x = true ∨ X.env.scope.names.lookup x = some .local := by first | exact .inl rfl | exact .inr rfl) :
    DS X (.Assign [.Name x pos'] e pos) (s3Asg t i) := fun W2 tk hp => (ps_set hN hi hx (he W2 tk) hs hf).imp fun D2 σ H ⟨env, M, W, D3, s, a, l, q, le⟩ =>
  ⟨env, M, W, _, s, a, l, q, fun d v H1 M1 t1 a1 r1 q1 => le.nx _ H1 _ M1 t1 ((s.mono t1).set i r1) a1 q1⟩
def s3AsgG (t : E3) (g : G3) : S3 := fun W D env M => t W env M fun d M1 => g W d env M1 D.nx
theorem ds_asg {tg : Expr} (he : DE X e t) (hg : DG X tg g) (hs : swapsWithSole [tg] e pos.line X.env = pure false := by rfl) (hw : swappedStores [tg] e X.env = pure none := by rfl)
    (h1 : (assignEach [tg] X.env).map (·.2) = [assign tg X.env] := by rfl) : DS X (.Assign [tg] e pos) (s3AsgG t g) := fun W2 tk hp => (ps_asg (he W2 tk) (hg W2 tk) hs hw h1).imp fun D2 σ H ⟨env, M, W, D3, s, a, l, q, le⟩ =>
  ⟨env, M, W, _, s, a, l, q, fun d v H1 M1 t1 a1 r1 q1 => ⟨d, env, M1, W, _, r1, s.mono t1, a1, l.mono t1, q1, le.nx.mono t1⟩⟩
def s3Expr (t : E3) : S3 := fun W D env M => t W env M fun _ M1 => D.nx env M1
theorem ds_expr (he : DE X e t) (hs : swapsWith e none pos.line X.env = pure false := by rfl) : DS X (.Expr e pos) (s3Expr t) := fun W2 tk hp => (ps_expr (he W2 tk) hs).imp fun D2 σ H ⟨env, M, W, D3, s, a, l, q, le⟩ =>
  ⟨env, M, W, _, s, a, l, q, fun d v H1 M1 t1 a1 r1 q1 => le.nx σ H1 env M1 t1 (s.mono t1) a1 q1⟩
def s3Ret (t : E3) : S3 := fun W D env M => t W env M D.rt
theorem ds_ret (he : DE X e t) : DS X (.Return (some e) pos) (s3Ret t) := fun W2 tk hp => (ps_ret (he W2 tk)).imp fun D2 σ H ⟨env, M, W, D3, s, a, l, q, le⟩ => ⟨env, M, W, _, s, a, l, q, le.rt⟩
def s3RetN : S3 := fun _ D _ M => D.rt .non M
theorem ds_retN : DS X (.Return none pos) s3RetN := fun W2 tk hp => ps_retN.imp fun D2 σ H ⟨env, M, W, D3, s, a, l, q, le⟩ => le.rt _ _ H M (Tps.refl H) a Rv.non q
def s3If (c : T3) (t u : S3) : S3 := fun W D env M => c W env M fun b M1 => Br b (t W D env M1) (u W D env M1)
theorem ds_if {xs ys : List Stmt} (hc : DT X c tA) (ha : DSs X xs s1) (hb : DSs X ys s2) : DS X (.If c xs ys pos) (s3If tA s1 s2) := fun W2 tk hp => (ps_if (hc W2 tk) (ha W2 tk hp) (hb W2 tk hp)).imp fun D2 σ H ⟨env, M, W, D3, s, a, l, q, le⟩ =>
  ⟨env, M, W, _, s, a, l, q, fun b H1 M1 t1 a1 q1 => by
    cases b with
    | true => rw [if_pos rfl]; exact ⟨env, M1, W, D3, s.mono t1, a1, l.mono t1, q1.1 rfl, le.mono t1⟩
    | false => rw [if_neg Bool.false_ne_true]; exact ⟨env, M1, W, D3, s.mono t1, a1, l.mono t1, q1.2 rfl, le.mono t1⟩⟩
theorem ds_pass : DS X (.Pass pos) s3Nil := fun W2 _ _ => ps_pass.imp fun D2 σ H ⟨env, M, W, D3, s, a, l, q, le⟩ => le.nx σ H env M (Tps.refl H) s a q
def s3Brk : S3 := fun _ D env M => D.bk env M
def s3Cont : S3 := fun _ D env M => D.ct env M
theorem ds_break : DS X (.Break pos) s3Brk := fun W2 _ _ => ps_break.imp fun D2 σ H ⟨env, M, W, D3, s, a, l, q, le⟩ => le.bk σ H env M (Tps.refl H) s a q
theorem ds_continue : DS X (.Continue pos) s3Cont := fun W2 _ _ => ps_continue.imp fun D2 σ H ⟨env, M, W, D3, s, a, l, q, le⟩ => le.ct σ H env M (Tps.refl H) s a q
/-! ### targets -/
def g3Name (i : Nat) : G3 := fun _ d env M Q => Q (env.set i (some d)) M
theorem dg_name {i : Nat} {x : Str} (hN : X.N.Nodup) (hi : X.N[i]? = some x := by rfl) (hx : Loc X.env.scope x := by first | exact Or.inl rfl | exact Or.inr rfl) (hf : X.fn x = true ∨ X.env.scope.names.lookup x = some .local := by first | exact .inl rfl | exact .inr rfl) : DG X (.Name x pos) (g3Name i) := fun W2 tk =>
  (pg_name hN hi hx hf).imp fun v σ H Q2 ⟨d, env, M, W, Q, r, s, a, l, q, n⟩ => n _ H _ M (Tps.refl H) (s.set i r) a q
abbrev Gs3 := W3 → List D → En → MH → (En → MH → Prop) → Prop
def lowGs (K : Fg) (W2 : WX) (t : Gs3) : TGs := fun vs σ H Q2 => ∃ ds env M W Q, Rvs K H ds vs ∧ SE K H σ env ∧ Abs K M H ∧ LW K H W W2 ∧ t W ds env M Q ∧ Nxt K H Q Q2
def DGs (X : Cx) (es : List Expr) (t : Gs3) : Prop := ∀ W2, Takes X W2 → PGs X es (lowGs X.K W2 t)
theorem _root_.L2.PGs.imp {X : Cx} {e : List Expr} {t t' : TGs} (h : PGs X e t) (k : ∀ v σ H Q, t' v σ H Q → t v σ H Q) : PGs X e t' := ⟨fun pins s σ H v u Q I r q => h.run pins s σ H v u Q I r (k v σ H Q q)⟩
def g3sNil : Gs3 := fun _ ds env M Q => ds = [] ∧ Q env M
def g3sCons (g : G3) (gs : Gs3) : Gs3 := fun W ds env M Q => match ds with | d :: r => g W d env M fun env' M' => gs W r env' M' Q | [] => False
theorem dgs_nil : DGs X [] g3sNil := fun W2 tk => pgs_nil.imp fun vs σ H Q2 ⟨ds, env, M, W, Q, r, s, a, l, q, n⟩ => by
  obtain ⟨rfl, q⟩ := q
  exact ⟨r.nil_inv, n σ H env M (Tps.refl H) s a q⟩
theorem dgs_cons {gs : Gs3} (h1 : DG X e g) (h2 : DGs X es gs) (hs : (assignEach (e :: es) X.env).map (·.2) = assign e X.env :: (assignEach es X.env).map (·.2) := by rfl) : DGs X (e :: es) (g3sCons g gs) := fun W2 tk =>
  (pgs_cons (h1 W2 tk) (h2 W2 tk) hs).imp fun vs σ H Q2 ⟨ds, env, M, W, Q, r, s, a, l, q, n⟩ => by
    cases ds with
    | nil => exact q.elim
    | cons d ds =>
      obtain ⟨v, vr, rfl, r1, r2⟩ := r.cons_inv
      exact ⟨v, vr, rfl, d, env, M, W, _, r1, s, a, l, q, fun σ' H' env' M' t s' a' q' => ⟨ds, env', M', W, Q, r2.mono t, s', a', l.mono t, q', n.mono t⟩⟩
def g3Tup (k : Nat) (gs : Gs3) : G3 := fun W d env M Q => match d with | .tup ds => ds.length = k ∧ gs W ds env M Q | _ => False
theorem dg_tup {k : Nat} {gs : Gs3} {n : Nat} (hc : X.calm = true) (h : DGs X es gs) (hn : (assignEach es X.env).length = n := by rfl) (hst : (assignEach es X.env).findIdx? (·.1) = none := by rfl) : DG X (.Tuple es k pos) (g3Tup n gs) := fun W2 tk =>
  (pg_tup hc (h W2 tk) hn hst).imp fun v σ H Q2 ⟨d, env, M, W, Q, r, s, a, l, q, n⟩ => by
    cases d with
    | tup ds =>
      obtain ⟨p, vs, rfl, hs, hv⟩ := r.tup_inv
      exact ⟨p, vs, rfl, hs, by rw [← hv.length]; exact q.1, ds, env, M, W, Q, hv, s, a, l, q.2, n⟩
    | _ => exact q.elim
def g3SubL (to ti : E3) : G3 := fun W d env M Q => to W env M fun od M1 => ti W env M1 fun i M2 => match od, i with
  | .ref l, .int k => ∃ ds j, M2 l = some (.lst ds) ∧ ixN ds.length k = some j ∧ Q env (updM M2 l (.lst (ds.set j d)))
  | _, _ => False
theorem dg_subL {i : Expr} (ho : DE X o ta) (hi : DE X i tb) (ha : ∀ v, assign (.Subscript o i pos) X.env v = (do
      let ov ← holding [v] (eval o X.env)
      let iv ← holding [v, ov] (eval i X.env)
      standAt pos
      holding [v, ov, iv] (setItem ov iv v)
      release [v, ov, iv] []) := by intro _; rfl) : DG X (.Subscript o i pos) (g3SubL ta tb) := fun W2 tk => (pg_sub (ho W2 tk) (hi W2 tk) set_list ha).imp fun v σ H Q2 ⟨d, env, M, W, Q, r, s, a, l, q, n⟩ => by
    refine ⟨env, M, W, _, s, a, l, q, fun od ov H1 M1 t1 a1 r1 q1 => ?_⟩
    refine ⟨env, M1, W, _, s.mono t1, a1, l.mono t1, q1, fun i iv H2 M2 t2 a2 r2 q2 => ?_⟩
    have t12 := t1.trans t2
    split at q2
    · obtain ⟨ds, j, hl, hj, q2⟩ := q2
      cases r1.ref_inv; cases r2.int_inv
      obtain ⟨vs, h1, hv⟩ := a2.lst hl
      exact ⟨_, vs, _, j, rfl, rfl, h1, by rw [← hv.length]; exact hj, n σ _ env _ (t12.trans (Tps.lst h1)) (s.mono (t12.trans (Tps.lst h1))) (a2.lstU h1 (hv.set (r.mono t12) j)) q2⟩
    · exact q2.elim
/-! ### for -/
def Loop (ds : List D) (keep : MH → Prop) (g : G3) (tb : S3) (W : W3) (D3 : Ends3) (env : En) (M : MH) : Prop := ∃ Inv : Nat → En → MH → Prop, Inv 0 env M ∧
  (∀ i d env' M', ds[i]? = some d → Inv i env' M' → keep M' ∧ g W d env' M' fun env2 M2 => tb W { nx := Inv (i + 1), rt := D3.rt, bk := D3.nx, ct := Inv (i + 1) } env2 M2) ∧
  ∀ env' M', Inv ds.length env' M' → keep M' ∧ D3.nx env' M'
def s3For (ti : I3) (g : G3) (tb : S3) : S3 := fun W D3 env M => ti W env M fun ds keep M1 => Loop ds keep g tb W D3 env M1
theorem ds_for {tg iter : Expr} {ti : I3} (hc : X.calm = true) (hi : DI X tg iter ti) (hg : DG X tg g) (hb : DSs X body s1) (hs : ∀ x, foldedSetIterable iter X.env x = pure x := by intro _; rfl) : DS X (.For tg iter body [] pos) (s3For ti g s1) := fun W2 tk hp =>
  (ps_for hp hc (hi W2 tk) (hg W2 tk) (hb W2 tk hp) hs).imp fun D2 σ H ⟨env, M, W, D3, s, a, l, q, le⟩ => by
    refine ⟨env, M, W, _, s, a, l, q, fun ds keep J H1 M1 t1 a1 q1 ok => ?_⟩
    obtain ⟨Inv, h0, hst, hd⟩ := q1
    refine ⟨fun i m σ' H' => m = ds.length - i ∧ i ≤ ds.length ∧ ∃ env' M', Tps H1 H' ∧ SE X.K H' σ' env' ∧ Abs X.K M' H' ∧ Inv i env' M', ⟨ds.length, by simp, Nat.zero_le _, env, M1, Tps.refl _, s.mono t1, a1, h0⟩, ?_⟩
    rintro i m σ' H' ⟨rfl, hi, env', M', t2, s', a', iv⟩
    have t12 := t1.trans t2
    by_cases hlt : i < ds.length
    · have hx : ds[i]? = some ds[i] := List.getElem?_eq_getElem hlt
      obtain ⟨hk, hg⟩ := hst i _ env' M' hx iv
      obtain ⟨go, yl⟩ := ok.step i _ H' M' hx t2 a' hk
      refine .inr ⟨go, fun σ2 H2 => ∃ env2 M2, Tps H1 H2 ∧ SE X.K H2 σ2 env2 ∧ Abs X.K M2 H2 ∧ Inv (i + 1) env2 M2, fun σ2 H2 hn => ⟨ds.length - (i + 1), by omega, rfl, hlt, hn⟩, fun x H2 y => ?_⟩
      obtain ⟨t3, a3, r3⟩ := yl x H2 y
      have t123 := t12.trans t3
      refine ⟨ds[i], env', M', W, _, r3, s'.mono t3, a3, l.mono t123, hg, fun σ4 H4 env4 M4 t4 s4 a4 q4 => ?_⟩
      have t1234 := t123.trans t4
      have tt := (t2.trans t3).trans t4
      refine ⟨env4, M4, W, _, s4, a4, l.mono t1234, q4, ⟨fun σ5 H5 env5 M5 t5 s5 a5 q5 => ⟨env5, M5, tt.trans t5, s5, a5, q5⟩, le.rt.mono t1234, le.nx.mono t1234, fun σ5 H5 env5 M5 t5 s5 a5 q5 => ⟨env5, M5, tt.trans t5, s5, a5, q5⟩⟩⟩
    · have e : i = ds.length := by omega
      subst e
      obtain ⟨hk, hn⟩ := hd env' M' iv
      exact .inl ⟨ok.stop H' M' t2 a' hk, le.nx σ' H' env' M' t12 s' a' hn⟩
/-! ### what is walked -/
def True3 : MH → Prop := fun _ => True
def i3Seq (t : E3) : I3 := fun W env M Q => t W env M fun d M1 => match d with
  | .tup ds => Q ds True3 M1
  | .ref l => ∃ ds, LstM M1 l ds ∧ Q ds (fun M' => LstM M' l ds) M1
  | _ => False
theorem itok_tup {H : Hp} {p : Addr} {ds : List D} {vs : List V} (hs : SqT K H p vs) (hv : Rvs K H ds vs) : ItOk K H ds True3 (Itt K p) where
  step := fun i d H' M' hd t a _ => by
    obtain ⟨v, hv', r⟩ := hv.get hd
    refine ⟨⟨vs, v, t.seq hs, hv'⟩, fun x H2 y => ?_⟩
    obtain ⟨rfl, y⟩ := y
    have e := y vs (t.seq hs)
    rw [hv'] at e
    cases e
    exact ⟨Tps.refl _, a, r.mono t⟩
  stop := fun H' M' t a _ => ⟨vs, t.seq hs, Nat.le_of_eq hv.length.symm⟩
theorem itok_lst {H : Hp} {p : Addr} {ds : List D} : ItOk K H ds (fun M' => LstM M' p ds) (Itl K p) where
  step := fun i d H' M' hd t a hk => by
    obtain ⟨vs, hs, hv⟩ := a.rd hk
    obtain ⟨v, hv', r⟩ := hv.get hd
    refine ⟨⟨vs, v, hs, hv'⟩, fun x H2 y => ?_⟩
    obtain ⟨rfl, y⟩ := y
    have e := y vs hs
    rw [hv'] at e
    cases e
    exact ⟨Tps.refl _, a, r⟩
  stop := fun H' M' t a hk => by
    obtain ⟨vs, hs, hv⟩ := a.rd hk
    exact ⟨vs, hs, Nat.le_of_eq hv.length.symm⟩

/-- a list or a tuple, as it comes -/
def iSeq (K : Fg) (tl : TE) : TI := fun σ H R => tl σ H fun x H1 => ∃ a, x = .ref a ∧ (((∃ xs, SqT K H1 a xs) ∧ R (Itt K a) H1) ∨ ((∃ xs, SqL K H1 a xs) ∧ R (Itl K a) H1))
theorem pi_seq {tg l : Expr} {tl : TE} (hl : PE X l tl) : PI X tg l (iSeq X.K tl) := by
  refine ⟨fun pins s σ H R I h => ?_⟩
  refine thn (hl.run pins s σ H _ I h) fun v s1 ⟨x, H1, I1, r1, q1⟩ => ?_
  obtain ⟨a, e, q1⟩ := q1
  subst e
  cases r1
  rcases q1 with ⟨⟨xs, hq⟩, q⟩ | ⟨⟨xs, hq⟩, q⟩
  · obtain ⟨its, rv, p, hz⟩ := I1.tuple hq
    refine wpAny_pyIter_tuple (show s1.heap.IsTuple a its.toArray from p) ?_
    refine ⟨s1.heap.objs.size, [s1.heap.objs.size], _, _, H1, rfl, I1.kept (t' := s1.toks) fun b o e => Heap.get?_push_of_some _ e, turn_tuple a _, ⟨_, Heap.get?_push_size _ rfl, rfl, rfl⟩, fun b hb => ?_, q⟩
    have e : b = s1.heap.objs.size := by simpa using hb
    subst e
    exact I1.fpOk (Nat.le_refl _) (I1.hok.fresh (Nat.le_refl _))
  · obtain ⟨its, rv, p, hz⟩ := I1.list hq
    refine wpAny_pyIter_list p.isList ?_
    refine ⟨s1.heap.objs.size, [s1.heap.objs.size], _, _, H1, rfl, I1.kept (t' := s1.toks) fun b o e => Heap.get?_push_of_some _ e, turn_list a _, ⟨_, Heap.get?_push_size _ rfl, rfl, rfl⟩, fun b hb => ?_, q⟩
    have e : b = s1.heap.objs.size := by simpa using hb
    subst e
    exact I1.fpOk (Nat.le_refl _) (I1.hok.fresh (Nat.le_refl _))
theorem di_seq {tg : Expr} (h : DE X e t) : DI X tg e (i3Seq t) := fun W2 tk => (pi_seq (h W2 tk)).imp fun σ H R ⟨env, M, W, Q, s, a, l, q, k⟩ => by
  refine ⟨env, M, W, _, s, a, l, q, fun d v H1 M1 t1 a1 r1 q1 => ?_⟩
  split at q1
  · rename_i ds
    obtain ⟨p, vs, rfl, hs, hv⟩ := r1.tup_inv
    exact ⟨p, rfl, .inl ⟨⟨vs, hs⟩, k ds _ _ H1 M1 t1 a1 q1 (itok_tup hs hv)⟩⟩
  · obtain ⟨ds, hl, q1⟩ := q1
    cases r1.ref_inv
    obtain ⟨vs, hs, hv⟩ := a1.rd hl
    exact ⟨_, rfl, .inr ⟨⟨vs, hs⟩, k ds _ _ H1 M1 t1 a1 q1 itok_lst⟩⟩
  · exact q1.elim
/-- lo, lo + 1, .., n of them -/
def rngD (lo : Int) (n : Nat) : List D := (List.range n).map fun i => D.int (lo + (i : Nat))
theorem rngD_length {lo : Int} {n : Nat} : (rngD lo n).length = n := by unfold rngD; simp
theorem rngD_get {lo : Int} {n i : Nat} {d : D} (h : (rngD lo n)[i]? = some d) : i < n ∧ d = .int (lo + (i : Nat)) := by
  unfold rngD at h
  rw [List.getElem?_map] at h
  by_cases hi : i < n
  · rw [List.getElem?_range hi] at h
    cases h
    exact ⟨hi, rfl⟩
  · rw [List.getElem?_eq_none (by simpa using hi)] at h
    cases h
theorem itok_rng {H : Hp} {lo : Int} {n : Nat} : ItOk K H (rngD lo n) True3 (Itr lo n) where
  step := fun i d H' M' hd t a _ => by
    obtain ⟨hi, rfl⟩ := rngD_get hd
    refine ⟨hi, fun x H2 y => ?_⟩
    obtain ⟨rfl, rfl⟩ := y
    exact ⟨Tps.refl _, a, Rv.int⟩
  stop := fun H' M' t a _ => by rw [rngD_length]; exact Nat.le_refl n
def i3Rng1 (u : A3) : I3 := fun W env M Q => u W env M fun ds M1 => match ds with
  | [.int j] => -(2 ^ 62) ≤ j ∧ j < 2 ^ 62 ∧ Q (rngD 0 j.toNat) True3 M1
  | _ => False
def i3Rng2 (u : A3) : I3 := fun W env M Q => u W env M fun ds M1 => match ds with
  | [.int i, .int j] => (-(2 ^ 62) ≤ i ∧ i < 2 ^ 62 ∧ -(2 ^ 62) ≤ j ∧ j < 2 ^ 62) ∧ Q (rngD i (j - i).toNat) True3 M1
  | _ => False
theorem di_rng1 {tg a : Expr} (hm : X.mg "range" = none) (ha : DA X [a] u) (hg : Gl X "range" := by rfl) (hs : starEach [a] X.env = [(false, eval a X.env)] := by rfl) : DI X tg (.Call (.Name "range" p) [a] [] pos) (i3Rng1 u) := fun W2 tk =>
  (pi_range1 hg hm (ha W2 tk) hs).imp fun σ H R ⟨env, M, W, Q, s, a, l, q, k⟩ => ⟨env, M, W, _, s, a, l, q, fun ds vs H1 M1 t1 a1 r1 q1 => by
    split at q1
    · obtain ⟨v, rfl, rr⟩ := one_inv r1
      cases rr.int_inv
      exact ⟨_, rfl, q1.1, q1.2.1, k _ _ _ H1 M1 t1 a1 q1.2.2 itok_rng⟩
    · exact q1.elim⟩
theorem di_rng2 {tg a b : Expr} (hm : X.mg "range" = none) (ha : DA X [a, b] u) (hg : Gl X "range" := by rfl) (hs : starEach [a, b] X.env = [(false, eval a X.env), (false, eval b X.env)] := by rfl) (hs2 : starEach [b] X.env = [(false, eval b X.env)] := by rfl) : DI X tg (.Call (.Name "range" p) [a, b] [] pos) (i3Rng2 u) := fun W2 tk =>
  (pi_range2 hg hm (ha W2 tk) hs hs2).imp fun σ H R ⟨env, M, W, Q, s, a, l, q, k⟩ => ⟨env, M, W, _, s, a, l, q, fun ds vs H1 M1 t1 a1 r1 q1 => by
    split at q1
    · obtain ⟨v, w, rfl, rr, rr'⟩ := two_inv r1
      cases rr.int_inv; cases rr'.int_inv
      exact ⟨_, _, rfl, q1.1, k _ _ _ H1 M1 t1 a1 q1.2 itok_rng⟩
    · exact q1.elim⟩
/-! ### comprehensions -/
theorem SE.wipe {H : Hp} {σ : L2.St} {env : En} (s : SE K H σ env) : ∀ vs : List Nat, SE K H (L2.wipe σ vs) (vs.foldr (fun i e => e.set i none) env)
  | [] => s
  | v :: vs => (SE.wipe s vs).unset v
abbrev wipe3 (env : En) (vs : List Nat) : En := vs.foldr (fun i e => e.set i none) env
theorem wipe_set {σ : L2.St} {i : Nat} {v : Option V} : ∀ {vs : List Nat}, i ∈ vs → L2.wipe (σ.set i v) vs = L2.wipe σ vs
  | [], h => by simp at h
  | w :: vs, h => by
    unfold L2.wipe
    by_cases hi : i ∈ vs
    · rw [wipe_set hi]
    · have e : i = w := by simpa [hi] using h
      subst e
      have comm : ∀ (us : List Nat), L2.wipe (σ.set i v) us = (L2.wipe σ us).set i v ∨ i ∈ us := by
        intro us
        induction us with
        | nil => exact .inl rfl
        | cons a us ih =>
          by_cases ha : a = i
          · exact .inr (by simp [ha])
          · rcases ih with ih | ih
            · left
              unfold L2.wipe
              rw [ih, List.set_comm _ _ (fun z => ha z.symm)]
            · exact .inr (by simp [ih])
      rcases comm vs with q | q
      · rw [q, List.set_set]
      · exact absurd q hi
theorem wipe_wipe {σ : L2.St} : ∀ {vs ws : List Nat}, (∀ i ∈ vs, i ∈ ws) → L2.wipe (L2.wipe σ vs) ws = L2.wipe σ ws
  | [], ws, _ => rfl
  | v :: vs, ws, h => by
    show L2.wipe ((L2.wipe σ vs).set v none) ws = _
    rw [wipe_set (h v (by simp)), wipe_wipe fun i hi => h i (by simp [hi])]
abbrev W0 : W3 := fun _ _ _ _ => False
theorem LW0 {H : Hp} : LW K H W0 (fun _ _ _ _ => False) := fun _ _ _ _ _ _ _ _ _ z => z
def DTs (X : Cx) (ifs : List Expr) (t : T3) : Prop := ∀ W2, Takes X W2 → PTs X ifs (lowT X.K W2 t)
theorem _root_.L2.PTs.imp {X : Cx} {e : List Expr} {t t' : TT} (h : PTs X e t) (k : ∀ σ H Q, t' σ H Q → t σ H Q) : PTs X e t' := ⟨fun pins s σ H Q I q => h.run pins s σ H Q I (k σ H Q q)⟩
def t3Yes : T3 := fun _ _ M Q => Q true M
theorem dts_nil : DTs X [] t3Yes := fun W2 tk => pts_nil.imp fun σ H Q2 ⟨env, M, W, Q, s, a, l, q, g⟩ => g true H M (Tps.refl H) a q
theorem dts_one (h : DT X e tA) : DTs X [e] tA := fun W2 tk => pts_one (h W2 tk)
def LoopC (ds : List D) (keep : MH → Prop) (i : Nat) (tt : T3) (te : E3) (env : En) (p : Addr) (M : MH) (Q : MH → Prop) : Prop := ∃ Inv : Nat → List D → MH → Prop, Inv 0 [] (updM M p (.lst [])) ∧
  (∀ k d acc M', ds[k]? = some d → Inv k acc M' → M' p = some (.lst acc) → keep M' ∧ tt W0 (env.set i (some d)) M' fun b M3 => Br b
    (te W0 (env.set i (some d)) M3 fun y M4 => ∃ acc', M4 p = some (.lst acc') ∧ acc'.length < sizeLine ∧ Inv (k + 1) (acc' ++ [y]) (updM M4 p (.lst (acc' ++ [y]))))
    (∃ acc', M3 p = some (.lst acc') ∧ Inv (k + 1) acc' M3)) ∧
  ∀ acc M', Inv ds.length acc M' → M' p = some (.lst acc) → keep M' ∧ Q M'
def e3Lc (ti : I3) (i : Nat) (tt : T3) (te : E3) (vs : List Nat) : E3 := fun W env M Q => ti W env M fun ds keep M1 => ∀ p, M1 p = none → LoopC ds keep i tt te (wipe3 env vs) p M1 fun M' => Q (.ref p) M'
theorem lc_low {ti : I3} {i : Nat} {tt : T3} {te : E3} {vs : List Nat} {W2 W2b : WX} (hv : i ∈ vs) (hW : W2b = fun _ _ _ _ => False) {σ : L2.St} {H : Hp} {Q2 : VK} (h : lowE X.K W2 (e3Lc ti i tt te vs) σ H Q2) :
    tLc (lowI X.K W2 ti) (gName i) (lowT X.K W2b tt) (lowE X.K W2b te) vs σ H Q2 := by
  subst hW
  obtain ⟨env, M, W, Q, s, a, l, q, g⟩ := h
  refine ⟨env, M, W, _, s, a, l, q, fun ds keep J H1 M1 t1 a1 q1 ok => ?_⟩
  intro Dd nD
  obtain ⟨Inv, h0, hst, hd⟩ := q1 Dd (a1.fresh nD)
  have sw := (s.mono t1).wipe vs
  refine ⟨fun k m H' => m = ds.length - k ∧ k ≤ ds.length ∧ ∃ acc M', Tps H1 H' ∧ Abs X.K M' H' ∧ Inv k acc M' ∧ M' Dd = some (.lst acc), ⟨ds.length, by simp, Nat.zero_le _, [], _, Tps.new nD, a1.lstN nD Rvs.nil, h0, updM_same⟩, ?_⟩
  rintro k m H' ⟨rfl, hk, acc, M', t2, a', iv, hD⟩
  by_cases hlt : k < ds.length
  · have hx : ds[k]? = some ds[k] := List.getElem?_eq_getElem hlt
    obtain ⟨hkeep, hg⟩ := hst k _ acc M' hx iv hD
    obtain ⟨go, yl⟩ := ok.step k _ H' M' hx t2 a' hkeep
    refine .inr ⟨go, fun H2 => ∃ acc M2, Tps H1 H2 ∧ Abs X.K M2 H2 ∧ Inv (k + 1) acc M2 ∧ M2 Dd = some (.lst acc), fun H2 hn => ⟨ds.length - (k + 1), by omega, rfl, hlt, hn⟩, fun x H2 y => ?_⟩
    obtain ⟨t3, a3, r3⟩ := yl x H2 y
    have t23 := t2.trans t3
    refine ⟨?_, ?_⟩
    · rw [wipe_set hv, wipe_wipe fun _ h => h]
    · have s2 : SE X.K H2 ((L2.wipe σ vs).set i (some x)) ((wipe3 env vs).set i (some ds[k])) := (sw.mono t23).set i r3
      refine ⟨_, M', W0, _, s2, a3, LW0, hg, fun b H3 M3 t4 a4 q4 => ?_⟩
      cases b with
      | true =>
        rw [if_pos rfl]
        refine ⟨_, M3, W0, _, s2.mono t4, a4, LW0, q4.1 rfl, fun d v H4 M4 t5 a5 r5 q5 => ?_⟩
        obtain ⟨acc', e1, hz, iv'⟩ := q5
        obtain ⟨ws, hw, rw'⟩ := a5.lst e1
        exact ⟨ws, hw, by rw [← rw'.length]; exact hz, acc' ++ [d], _, ((t23.trans t4).trans t5).trans (Tps.lst hw), a5.lstU hw (rw'.app (Rvs.cons r5 Rvs.nil)), iv', updM_same⟩
      | false =>
        rw [if_neg Bool.false_ne_true]
        obtain ⟨acc', e1, iv'⟩ := q4.2 rfl
        exact ⟨acc', M3, t23.trans t4, a4, iv', e1⟩
  · have e : k = ds.length := by omega
    subst e
    obtain ⟨hkeep, hq⟩ := hd acc M' iv hD
    exact .inl ⟨ok.stop H' M' t2 a' hkeep, g _ _ H' M' (t1.trans t2) a' Rv.ref hq⟩
theorem takesF {X : Cx} : Takes X (fun _ _ _ _ => False) := takes0
theorem d_lc {elt iter : Expr} {ifs : List Expr} {scope : Scope} {x : Str} {i : Nat} {p' : Pos} {ti : I3} {tt : T3} {te : E3} (own : List (Str × Nat)) (hc : X.calm = true) (hN : X.N.Nodup) (hi : DI X (.Name x p') iter ti) (ok : BlkOk X.N X.env.scope scope own) (hv : i ∈ own.map (·.2))
    (hg : ∀ (s : Shared) (H : Hp) (C : Addr) (cl : List (Str × Addr)) (fp : List Addr), PG (X.blk s H scope (compEnvC scope cl C X.env) fp) (.Name x p') (gName i))
    (ht : ∀ (s : Shared) (H : Hp) (C : Addr) (cl : List (Str × Addr)) (fp : List Addr), DTs (X.blk s H scope (compEnvC scope cl C X.env) fp) ifs tt)
    (he : ∀ (s : Shared) (H : Hp) (C : Addr) (cl : List (Str × Addr)) (fp : List Addr), DE (X.blk s H scope (compEnvC scope cl C X.env) fp) elt te) (hs : ∀ x, foldedSetIterable iter X.env x = pure x := by intro _; rfl) :
    DE X (.ListComp elt [⟨.Name x p', iter, ifs, 0⟩] scope pos) (e3Lc ti i tt te (own.map (·.2))) := fun W2 tk =>
  (pe_lc hc hN (hi W2 tk) ok hg (fun s H C cl fp => ht s H C cl fp _ takesF) (fun s H C cl fp => he s H C cl fp _ takesF) hs).imp fun σ H Q2 h => lc_low hv rfl h
theorem ds_setLc {y : Str} {py : Pos} {j : Nat} {spos : Pos} {elt iter : Expr} {ifs : List Expr} {scope : Scope} {x : Str} {i : Nat} {p' : Pos} {ti : I3} {tt : T3} {te : E3} (own : List (Str × Nat)) (hc : X.calm = true) (hN : X.N.Nodup) (hi : DI X (.Name x p') iter ti) (ok : BlkOk X.N X.env.scope scope own) (hv : i ∈ own.map (·.2))
    (hg : ∀ (s : Shared) (H : Hp) (C : Addr) (cl : List (Str × Addr)) (fp : List Addr), PG (X.blk s H scope (compEnvC scope cl C X.env) fp) (.Name x p') (gName i))
    (ht : ∀ (s : Shared) (H : Hp) (C : Addr) (cl : List (Str × Addr)) (fp : List Addr), DTs (X.blk s H scope (compEnvC scope cl C X.env) fp) ifs tt)
    (he : ∀ (s : Shared) (H : Hp) (C : Addr) (cl : List (Str × Addr)) (fp : List Addr), DE (X.blk s H scope (compEnvC scope cl C X.env) fp) elt te)
    (hy : X.N[j]? = some y := by rfl) (hyl : X.env.scope.names.lookup y = some .local := by rfl)
    (hsw : swapsWith (.ListComp elt [⟨.Name x p', iter, ifs, 0⟩] scope pos) (some (.Name y py)) spos.line X.env = pure true := by exact sw_true rfl rfl rfl (by decide +kernel)) (hs : ∀ x, foldedSetIterable iter X.env x = pure x := by intro _; rfl) :
    DS X (.Assign [.Name y py] (.ListComp elt [⟨.Name x p', iter, ifs, 0⟩] scope pos) spos) (s3Asg (e3Lc ti i tt te (own.map (·.2))) j) := fun W2 tk hp =>
  (ps_setLc hc hN hy hyl hsw (hi W2 tk) ok hg (fun s H C cl fp => ht s H C cl fp _ takesF) (fun s H C cl fp => he s H C cl fp _ takesF) hs).imp fun D2 σ H ⟨env, M, W, D3, s, a, l, q, le⟩ =>
    lc_low (Q2 := fun x H1 => gName j x σ H1 D2.nx) hv rfl ⟨env, M, W, _, s, a, l, q, fun d v H1 M1 t1 a1 r1 q1 => le.nx _ H1 _ M1 t1 ((s.mono t1).set j r1) a1 q1⟩
end
end L3

namespace L3
open PySem PySem.Spec PyProof.Rows L2
section
variable {X : Cx} {e a b c o : Expr} {es : List Expr} {pos p : Pos} {t ta tb tc to te : E3} {u : A3} {K : Fg} {st : Stmt} {sts body : List Stmt} {s1 s2 : S3} {tA tB : T3}
/-! ### methods of lists -/
/-- the receiver is a list that may change; the arguments; what the method does -/
def e3Bm (m : Addr → List D → MH → Q3 → Prop) (to : E3) (u : A3) : E3 := fun W env M Q => to W env M fun od M1 => match od with
  | .ref l => (∃ ds, LstM M1 l ds) ∧ u W env M1 fun xs M2 => m l xs M2 Q
  | _ => False
def MtL (K : Fg) (r : V → List V → Hp → VK → Prop) (m : Addr → List D → MH → Q3 → Prop) : Prop := ∀ l xs vs H M Q Q2, Rvs K H xs vs → Abs K M H → m l xs M Q → Got K H Q Q2 → r (.ref l) vs H Q2
theorem bm_low {r : V → List V → Hp → VK → Prop} {m : Addr → List D → MH → Q3 → Prop} {W2 : WX} (hl : MtL X.K r m) {σ : L2.St} {H : Hp} {Q2 : VK} (h : lowE X.K W2 (e3Bm m to u) σ H Q2) : tBM X.K "list" r (lowE X.K W2 to) (lowA X.K W2 u) σ H Q2 := by
  obtain ⟨env, M, W, Q, s, a, l, q, g⟩ := h
  refine ⟨env, M, W, _, s, a, l, q, fun od v H1 M1 t1 a1 r1 q1 => ?_⟩
  split at q1
  · obtain ⟨⟨ds, hl'⟩, q1⟩ := q1
    cases r1.ref_inv
    obtain ⟨vs, hs, _⟩ := a1.rd hl'
    refine ⟨.inl ⟨rfl, vs, hs⟩, env, M1, W, _, s.mono t1, a1, l.mono t1, q1, fun xs ws H2 M2 t2 a2 r2 q2 => ?_⟩
    exact hl _ xs ws H2 M2 Q Q2 r2 a2 q2 (g.mono (t1.trans t2))
  · exact q1.elim
theorem d_bm {name : Str} {id : String} {r : V → List V → Hp → VK → Prop} {m : Addr → List D → MH → Q3 → Prop} {apos cpos : Pos} (slot : Slot "list" name id) (hty : typeOf (.builtin id) = pure (.type "method_descriptor")) (hm : MtR X id r) (hl : MtL X.K r m) (ho : DE X o to) (ha : DA X (e :: es) u)
    (hbase : attributeBase o name X.env (eval o X.env) = eval o X.env := by rfl)
    (hfew : ((backTo cpos (starEach (e :: es) X.env)).all (fun x => !x.1) && (backToKw cpos (keywordEach [] X.env)).all (fun x => x.1.isSome)
      && decide ((e :: es).length + ([] : List Keyword).length + (if ([] : List Keyword).isEmpty then 0 else 1) < 30)) = true := by rfl)
    (hline : (apos.endLine == cpos.line) = true := by rfl) (hs : starEach (e :: es) X.env = (false, eval e X.env) :: starEach es X.env := by rfl) (hplain : (backTo cpos (starEach es X.env)).any (·.1) = false := by rfl) :
    DE X (.Call (.Attribute o name apos) (e :: es) [] cpos) (e3Bm m to u) := fun W2 tk => (pe_bm PySem.F.plainAttrs_list slot hty hm (ho W2 tk) (ha W2 tk) hbase hfew hline hs hplain).imp fun σ H Q2 h => bm_low hl h
def m3App (l : Addr) : List D → MH → Q3 → Prop
  | [d], M, Q => ∃ ds, M l = some (.lst ds) ∧ ds.length < sizeLine ∧ Q .non (updM M l (.lst (ds ++ [d])))
  | _, _, _ => False
theorem ml_app : MtL K rAppend m3App := by
  intro l xs vs H M Q Q2 r a q g
  unfold m3App at q
  split at q
  · obtain ⟨v, rfl, rr⟩ := one_inv r
    obtain ⟨ds, h1, hz, q⟩ := q
    obtain ⟨ws, hw, rw'⟩ := a.lst h1
    exact ⟨l, ws, v, rfl, rfl, hw, by rw [← rw'.length]; exact hz, g _ _ _ _ (Tps.lst hw) (a.lstU hw (rw'.app (Rvs.cons rr Rvs.nil))) Rv.non q⟩
  · exact q.elim
theorem d_append {apos cpos : Pos} (ho : DE X o to) (ha : DA X [e] u) (hbase : attributeBase o "append" X.env (eval o X.env) = eval o X.env := by rfl)
    (hfew : ((backTo cpos (starEach (e :: []) X.env)).all (fun x => !x.1) && (backToKw cpos (keywordEach [] X.env)).all (fun x => x.1.isSome)
      && decide ((e :: []).length + ([] : List Keyword).length + (if ([] : List Keyword).isEmpty then 0 else 1) < 30)) = true := by rfl)
    (hline : (apos.endLine == cpos.line) = true := by rfl) (hs : starEach (e :: []) X.env = (false, eval e X.env) :: starEach [] X.env := by rfl) (hplain : (backTo cpos (starEach [] X.env)).any (·.1) = false := by rfl) :
    DE X (.Call (.Attribute o "append" apos) [e] [] cpos) (e3Bm m3App to u) := d_bm PySem.F.slot_list_append PySem.F.type_list_append mt_append ml_app ho ha hbase hfew hline hs hplain
/-! ### the rule of a def -/
def startE (N : List Str) (ds : List D) : En := ds.map some ++ List.replicate (N.length - ds.length) none
def rtX (E : Value → Option Addr → MH → Prop) : W3 := fun cls dd _ M' => ∃ M'', Sub M'' M' ∧ E cls dd M''
def rtD (Q : Q3) : Ends3 := { nx := fun _ M' => ∃ M'', Sub M'' M' ∧ Q .non M'', rt := fun d M' => ∃ M'', Sub M'' M' ∧ Q d M'' }
/-- the body's reading keeps the promise -/
def Rd3 (N : List Str) (t : S3) (sp : Sp3) : Prop := ∀ ds M Q E, sp ds M Q E → t (rtX E) (rtD Q) (startE N ds) M
theorem fn3_ok {P : Program} {w : World} {K : Fg} {mg : Str → Option Value} {base : Heap} {x qual : Str} {st : Stmt} {f : Addr} {fd : FuncData} {N ps : List Str} {k : Nat} {sp : Sp3} {t : S3} (F : Fun K x qual st f fd) (S : FnScope N ps (defScope st)) (len : ∀ ds M Q E, sp ds M Q E → ds.length = ps.length)
    (hbody : ∀ (cdv : Value) (A : Around) (outer : List Env) (s : Shared) (H : Hp) (E : XK), RoomG k (A.deeper (envOfC qual (defScope st) s.heap.objs.size f cdv)) → DSs (cxOf (L2.CX P w) P w K mg base N qual (defScope st) f cdv A outer s H E) (defBody st) t)
    (rd : Rd3 N t sp) : Fn3 P w K mg base (k + 1) f fd ps sp := by
  obtain ⟨oc, od, kV, doc, pm, an, cdv, ct, osl, rfl, lk, hcd⟩ := F.ex
  refine ⟨len, fun A outer s H ar ws zs Q2 E2 room e0 hb rv low => ?_⟩
  have many : zs.length = ps.length := low_many len low
  have keepB : ∀ (b : Addr) (o : Obj), base.get? b = some o → s.heap.get? b = some o := fun b o e => (e0.bs b o e).1
  have inS : K.In s.heap := e0.mod.kin.keeps keepB
  have kinds : ∀ y ∈ ps.zip ws, (defScope st).names.lookup y.1 = some .local ∨ ((defScope st).names.lookup y.1 = some .cell ∧ ((cellsFrom (s.heap.objs.size + 1) (defScope st).names []).lookup y.1).isSome = true) := fun y hy =>
    (S.par y.1 (List.of_mem_zip (b := y.2) hy).1).imp id fun q => ⟨q, PySem.W.cellsFrom_some _ _ _ (.inl q)⟩
  refine codeAny_call_function room.r.depth (inS _ _ lk) rfl S.co S.gen rfl (PySem.W.codeRec_of inS hcd) (hb _ _ _ _ (wpAny_newFunctionEnv_cells S.kind kinds fun env he s1 x => ?_))
  subst he
  refine ⟨(e0.mod.nolimit.keeps keepB).keeps x.toInCall.keep, codeAny_func ?_⟩
  obtain ⟨ds, M, Q, E, r, a, h, g, ge⟩ := low
  have tk : Takes (cxOf (L2.CX P w) P w K mg base N qual (defScope st) f cdv A outer s H E2) (fun cls d _ H => E2 cls d H) := takes_of rfl rfl rfl rfl
  have hp : Pass (cxOf (L2.CX P w) P w K mg base N qual (defScope st) f cdv A outer s H E2) := PassesOwn.leaving
  have I : Inv (cxOf (L2.CX P w) P w K mg base N qual (defScope st) f cdv A outer s H E2) [] (start N zs) H s1 := inv_start S room.r.hd e0 many rv x
  have wish : lowS K (fun cls d _ H => E2 cls d H) t { nx := fun _ H' => Q2 .non H', rt := Q2 } (start N zs) H := ⟨startE N ds, M, rtX E, rtD Q, SE.start N r, a, fun cls dd σ' H' env' M' t s' a' ⟨M'', sub, e⟩ => ge cls dd H' M'' t (a'.sub sub) e, rd ds M Q E h,
    fun σ' H' env' M' t s' a' ⟨M'', sub, q⟩ => g .non .non H' M'' t (a'.sub sub) Rv.non q, fun d v H' M' t a' r' ⟨M'', sub, q⟩ => g d v H' M'' t (a'.sub sub) r' q, fun _ _ _ _ _ _ _ z => z.elim, fun _ _ _ _ _ _ _ z => z.elim⟩
  refine wpAny_mono ((hbody cdv A outer s H E2 (room.down _) _ tk hp).run [] s1 (start N zs) H _ I wish) (fun fl s' hs => ?_) fun _ _ hs => hs
  match fl, hs with
  | .ret u, ⟨v, σ', H', J, rr, q⟩ => exact ⟨v, H', J.os, J.bare, J.base, J.hok, rr, q⟩
  | .next, ⟨σ', H', J, q⟩ => exact ⟨V.non, H', J.os, J.bare, J.base, J.hok, rfl, q⟩
  | .brk, ⟨_, _, _, q⟩ => exact False.elim q
  | .cont, ⟨_, _, _, q⟩ => exact False.elim q
/-! ### raise, try -/
def s3Raise (C : Addr) : S3 := fun W _ env M => W (.ref C) none env M
theorem ds_raise {C : Addr} {bmB : List Value} {B newId initId : String} {x m : Str} {j : Nat} {p p2 pos' pos2 : Pos} (F : ExcBaseFacts B newId initId bmB) (q : PySem.W.excIn X.K C bmB newId = true) (gC : X.mg x = some (.ref C)) (kC : PySem.W.keepIn X.K (.ref C) = true) (r : Raises X (.ref C)) (hc : X.calm = true) (hg : Gl X x := by rfl)
    (hdb : (x == ("__debug__" : Str)) = false := by decide) : DS X (.Raise (some (.Call (.Name x p) [.Constant (.str m) j p2] [] pos')) none pos2) (s3Raise C) := fun W2 tk hp =>
  (ps_raise hc tk (pmk_own F q gC kC r hg hdb)).imp fun D2 σ H ⟨env, M, W, D3, s, a, l, q, le⟩ => l _ _ σ H env M (Tps.refl H) s a q
def s3Try (K : Fg) (c : Value) (body hd : S3) : S3 := fun W D env M => body (fun cls dd env' M' => ∃ b, PySem.W.exmOne K cls c = some b ∧ (b = true → hd W0 D env' M') ∧ (b = false → W cls dd env' M')) D env M
theorem ds_try {x : Str} {c : Value} {b₀ : Stmt} {suite : List Stmt} {np pos' : Pos} (hs : X.stack = X.env :: X.outer) (hf : X.env.frame = some X.env.locals) (hc : Names X x c)
    (hb : ∀ (pn : List (Addr × Obj)) (xe : Value → Shared → Prop), DSs (X.tr pn xe) body s1)
    (hsu : ∀ (a : Addr) (oe : Obj) (pn : List (Addr × Obj)), DSs (X.suite a ((a, oe) :: pn)) (b₀ :: suite) s2) :
    DS X (.Try body [.ExceptHandler (some (.Name x np)) none (b₀ :: suite) pos'] [] [] pos) (s3Try X.K c s1 s2) := fun W2 tk hp =>
  (ps_try_only (tb := fun W => lowS X.K W s1) (ts := fun _ _ _ => lowS X.K (fun _ _ _ _ => False) s2) (Wout := W2) hs hf hc tk (fun W pn xe tk' hp' => hb pn xe W tk' hp') (fun a oe cls d pn _ _ => hsu a oe pn _ takes0 PassesOwn.never)).imp fun D2 σ H ⟨env, M, W, D3, s, a, l, q, le⟩ =>
    ⟨env, M, _, D3, s, a, fun cls dd σ' H' env' M' t s' a' ⟨b, e, h1, h2⟩ => ⟨b, e, fun hb a0 na => ⟨env', M', W0, D3, s', a', LW0, h1 hb, le.mono t⟩, fun hb => l cls dd σ' H' env' M' t s' a' (h2 hb)⟩, q, le⟩
end
/-! ### steps of a reading -/
theorem Rd3.intro {N : List Str} {t : S3} {sp : Sp3} (h : ∀ ds M Q E, sp ds M Q E → t (rtX E) (rtD Q) (startE N ds) M) : Rd3 N t sp := h
end L3
namespace L3
open PySem PySem.Spec PyProof.Rows L2
/-- a def that may be called -/
structure Cal (P : Program) (w : World) (K : Fg) (mg : Str → Option Value) (base : Heap) (k : Nat) (f : Addr) (fd : FuncData) (x : Str) (ps : List Str) (sp : Sp3) : Prop where
  F : Fn3 P w K mg base k f fd ps sp
  m : mg x = some (.ref f)
  kp : PySem.W.keepIn K (.ref f) = true
  b : Binds K fd ps []
theorem Cal.mono {P : Program} {w : World} {K : Fg} {mg : Str → Option Value} {base : Heap} {k j : Nat} {f : Addr} {fd : FuncData} {x : Str} {ps : List Str} {sp : Sp3} (C : Cal P w K mg base k f fd x ps sp) (h : k ≤ j) : Cal P w K mg base j f fd x ps sp := ⟨C.F.mono h, C.m, C.kp, C.b⟩
theorem d_callC {X : Cx} {k j : Nat} {f : Addr} {fd : FuncData} {ps : List Str} {sp : Sp3} {x : Str} {e : Expr} {es : List Expr} {u : A3} {p pos : Pos} (C : Cal X.prog X.w X.K X.mg X.base k f fd x ps sp) (hr : RoomG j X.A) (ha : DA X (e :: es) u) (hj : k ≤ j := by decide) (hg : Gl X x := by rfl) (hdb : (x == ("__debug__" : Str)) = false := by decide)
    (he : starEach (e :: es) X.env = (false, eval e X.env) :: starEach es X.env := by rfl) (hpl : (backTo pos (starEach es X.env)).any (·.1) = false := by rfl) : DE X (.Call (.Name x p) (e :: es) [] pos) (e3Call sp u) := d_call C.F (hr.mono hj) C.m C.kp C.b ha hg hdb he hpl
theorem fn3_none {P : Program} {w : World} {K : Fg} {mg : Str → Option Value} {base : Heap} {k : Nat} {f : Addr} {fd : FuncData} {ps : List Str} : Fn3 P w K mg base k f fd ps (fun _ _ _ _ => False) :=
  ⟨fun _ _ _ _ h => h.elim, fun A outer s H ar ws zs Q E _ _ _ _ ⟨_, _, _, _, _, _, h, _⟩ => h.elim⟩
/-- a constant of the module -/
def Cst (mg : Str → Option Value) (x : Str) (v : V) : Prop := ∃ u, mg x = some u ∧ RelV v u
theorem d_cst {X : Cx} {x : Str} {i : Int} {pos : Pos} (h : Cst X.mg x (.int i)) (hg : Gl X x := by rfl) (hd : (x == ("__debug__" : Str)) = false := by decide) : DE X (.Name x pos) (e3C (.int i)) := by
  obtain ⟨u, hm, r⟩ := h
  exact d_globI hg hm r hd
/-- what is known of an own exception's class -/
structure ExcT (K : Fg) (mg : Str → Option Value) (x : Str) (C : Addr) : Prop where
  g : mg x = some (.ref C)
  x : PySem.W.excIn K C [.type "ValueError", .type "Exception", .type "BaseException", .type "object"] "ValueError.__new__" = true
  k : PySem.W.keepIn K (.ref C) = true
  b : PySem.W.subIn K (.ref C) (.type "BaseException") = some true
  t : PySem.W.typeIn K (.ref C) = some (.type "type")
theorem ds_raiseT {X : Cx} {C : Addr} {x m : Str} {j : Nat} {p p2 pos' pos2 : Pos} (T : ExcT X.K X.mg x C) (hc : X.calm = true := by rfl) (hg : Gl X x := by rfl)
    (hdb : (x == ("__debug__" : Str)) = false := by decide) : DS X (.Raise (some (.Call (.Name x p) [.Constant (.str m) j p2] [] pos')) none pos2) (s3Raise C) := ds_raise PySem.F.excBase_ValueError T.x T.g T.k (raises_own T.b T.t) hc hg hdb
/-- an error of the class at S is what «except S» names -/
theorem exm_of {K : Fg} {S C : Addr} (h1 : PySem.W.subIn K (.ref C) (.type "BaseException") = some true) (h2 : PySem.W.isClsIn K C = true) (h3 : PySem.W.typeIn K (.ref C) = some (.type "type")) {b : Bool} (h4 : PySem.W.subIn K (.ref S) (.ref C) = some b) :
    PySem.W.exmOne K (.ref S) (.ref C) = some b := by
  have e1 : (PySem.W.subIn K (.ref C) (.type "BaseException") == some true) = true := by rw [h1] <;> rfl
  have e2 : ((PySem.W.clsIn K C).isSome && PySem.W.typeIn K (.ref C) == some (.type "type")) = true := by
    have h2' : (PySem.W.clsIn K C).isSome = true := h2
    rw [h2', h3] <;> rfl
  show (if (PySem.W.subIn K (.ref C) (.type "BaseException") == some true) = true then (if ((PySem.W.clsIn K C).isSome && PySem.W.typeIn K (.ref C) == some (.type "type")) = true then PySem.W.subIn K (.ref S) (.ref C) else none) else none) = some b
  rw [if_pos e1, if_pos e2]
  exact h4
/-! ### the law -/
def noList (K : Fg) : Bool := K.all fun p => p.2.cls != .type "list"
theorem mem_of_lookup' : ∀ {K : Fg} {a : Addr} {o : Obj}, K.lookup a = some o → (a, o) ∈ K
  | [], _, _, h => by simp at h
  | (b, u) :: K, a, o, h => by
    rw [List.lookup_cons] at h
    cases hb : a == b with
    | true =>
      rw [hb] at h
      cases h
      have : a = b := by simpa using hb
      subst this
      exact List.mem_cons_self
    | false =>
      rw [hb] at h
      exact List.mem_cons_of_mem _ (mem_of_lookup' h)
theorem noList_at {K : Fg} {h : Heap} {a : Addr} {o : Obj} (hk : noList K = true) (hK : K.In h) (ha : h.get? a = some o) (hc : o.cls = .type "list") : K.lookup a = none := by
  cases q : K.lookup a with
  | none => rfl
  | some z =>
    have e := hK a z q
    rw [ha] at e
    cases e
    have := List.all_eq_true.mp hk _ (mem_of_lookup' q)
    rw [hc] at this
    simp at this
/-- the law's promise: from the script alone -/
def spLaw3 (n : Nat) : Sp3 := fun ds M Q _ => ∃ (a : Addr) (ns : List Int), ds = [.ref a] ∧ ns.length ≤ n ∧ M a = some (.ro (ns.map D.int)) ∧ (∀ b, b ≠ a → M b = none) ∧ ∀ M', Q (.bl true) M'
/-! ### a call by keywords alone, in the parameters' order -/
def BindsK (K : Fg) (fd : FuncData) (ps : List Str) : Prop := ∀ (s : Shared) (ws : List Value), K.In s.heap → ws.length = ps.length → BindsTo s fd ⟨[], ps.zip ws⟩ (ps.zip ws)
theorem BindsK.all {K : Fg} {fd : FuncData} {ps : List Str} (h : ∀ us : List Value, us.length = ps.length → bindArgs fd ⟨[], ps.zip us⟩ = pure (ps.zip us)) : BindsK K fd ps := fun s us _ hl => .of_eq (h us hl)
def DK (X : Cx) (kws : List Keyword) (t : A3) : Prop := ∀ W2, Takes X W2 → PK X kws (lowA X.K W2 t)
section
variable {X : Cx} {e : Expr} {kws : List Keyword} {t : E3} {u : A3} {nm : Option Str} {kpos p pos : Pos} {k j : Nat} {f : Addr} {fd : FuncData} {ps : List Str} {sp : Sp3} {x : Str}
theorem _root_.L2.PK.imp {X : Cx} {e : List Keyword} {t t' : TA} (h : PK X e t) (k : ∀ σ H Q, t' σ H Q → t σ H Q) : PK X e t' := ⟨fun pos pins s σ H Q I q => h.run pos pins s σ H Q I (k σ H Q q)⟩
theorem dk_nil : DK X [] a3Nil := fun W2 _ => pk_nil.imp fun σ H Q2 ⟨env, M, W, Q, s, a, l, q, g⟩ => g [] [] H M (Tps.refl H) a Rvs.nil q
theorem dk_cons (ha : DE X e t) (hr : DK X kws u) : DK X (⟨nm, e, kpos⟩ :: kws) (a3Cons t u) := fun W2 tk =>
  (pk_cons (ha W2 tk) (hr W2 tk)).imp fun σ H Q2 ⟨env, M, W, Q, s, a, l, q, g⟩ => ⟨env, M, W, _, s, a, l, q, fun d v H1 M1 t1 a1 r1 q1 =>
    ⟨env, M1, W, _, s.mono t1, a1, l.mono t1, q1, fun ds vs H2 M2 t2 a2 r2 q2 => g _ _ H2 M2 (t1.trans t2) a2 (Rvs.cons (r1.mono t2) r2) q2⟩⟩
theorem d_callKw (C : Cal X.prog X.w X.K X.mg X.base k f fd x ps sp) (bk : BindsK X.K fd ps) (hr : RoomG j X.A) (ha : DK X kws u) (hj : k ≤ j := by decide) (hg : Gl X x := by rfl) (hdb : (x == ("__debug__" : Str)) = false := by decide)
    (hall : (backToKw pos (keywordEach kws X.env)).all (·.1.isSome) = true := by rfl) (hks : (backToKw pos (keywordEach kws X.env)).filterMap (·.1) = ps := by rfl)
    (hpl : ((backTo pos (starEach [] X.env)).any (·.1) || (backToKw pos (keywordEach kws X.env)).any (·.1.isNone)) = false := by rfl) : DE X (.Call (.Name x p) [] kws pos) (e3Call sp u) := fun W2 tk => by
  refine ⟨fun pins s σ H Q2 I h => ?_⟩
  obtain ⟨env, M, W, Q, se, a, l, q, g⟩ := h
  refine wpAny_Call_Name_kw (ld_glob I hg C.m ?_ hdb)
  refine PySem.W.callWith_KW0 (h₀ := X.base) I.ok.mod.kin C.kp hall (thn ((ha W2 tk).run pos pins s σ H (fun vs H1 => lowF X.K sp vs H1 Q2 (WE W2 σ)) I ⟨env, M, W, _, se, a, l, q, fun ds vs H1 M1 t1 a1 r1 q1 => ⟨ds, M1, Q, _, r1, a1, q1, g.mono t1, fun cls dd H' M' t2 a2 w => l cls dd σ H' env M' (t1.trans t2) (se.mono (t1.trans t2)) a2 w⟩⟩) fun ws s1 ⟨zs, H1, I1, rz, q2⟩ => ⟨I1.kIn, ?_⟩) hpl
  rw [hks]
  have hn : ws.length = ps.length := rz.length.symm.trans (low_many C.F.many q2)
  refine wpAny_call (codeAny_mono (enter3 C.F (hr.mono hj) tk I1 (bk s1 ws I1.kIn hn) rz q2) fun r s' hq => ?_)
  match r, hq with
  | .ok (.ret _), hq => exact hq
  | .ok .next, hq => exact False.elim hq
  | .ok .brk, hq => exact False.elim hq
  | .ok .cont, hq => exact False.elim hq
  | .error _, hq => exact hq
end
/-! ### the end of a row -/
/-- the heap of the top: the script alone is tracked, frozen -/
def topH (a : Addr) (o : Obj) (vs : List V) : Hp := fun b => if b = a then some (.frz o (.lst vs)) else none
theorem topH_at {a : Addr} {o : Obj} {vs : List V} : topH a o vs a = some (.frz o (.lst vs)) := if_pos rfl
theorem topH_out {a b : Addr} {o : Obj} {vs : List V} (h : b ≠ a) : topH a o vs b = none := if_neg h
theorem topH_inv {a b : Addr} {o : Obj} {vs : List V} {u : HO} (h : topH a o vs b = some u) : b = a ∧ u = .frz o (.lst vs) := by
  by_cases e : b = a
  · subst e
    rw [topH_at] at h
    exact ⟨rfl, by cases h; rfl⟩
  · rw [topH_out e] at h
    cases h
theorem top_run {P : Program} {w : World} {K : Fg} {mg mb : Str → Option Value} {k n : Nat} {fa a : Addr} {fd : FuncData} {s₁ : Shared} {us : List Value} {ns : List Int}
    (KX : K.In s₁.heap) (hns : s₁.heap.Ns mainGlobals mg) (hb : s₁.heap.Ns builtinsNs mb) (hbb : ∀ x : Str, x ≠ "__name__" → mb x = bootBuiltins x) (hlim : s₁.heap.NoLimit) (hg : s₁.gens = #[]) (hnl : noList K = true)
    (ha : s₁.heap.get? a = some { cls := .type "list", data := .seq us.toArray }) (hi : IntsAre us ns) (hl : ns.length ≤ n) (hl2 : n ≤ sizeLine) (hr : RoomG k callerA)
    (F : ∀ base : Heap, K.In base → base.Ns mainGlobals mg → Fn3 P w K mg base k fa fd ["script"] (spLaw3 n)) (hbind : ∀ (s : Shared) (u : Value), BindsTo s fd ⟨[u], []⟩ [("script", u)]) :
    codeAny (model P w) callerA (.call (.ref fa) ⟨[.ref a], []⟩) (fun r s' => r = .ok (.ret (.bool true)) ∧ OldK s₁.heap s'.heap ∧ s'.os = s₁.os ∧ AllBare s'.gens) s₁ := by
  have rv : Vals (ns.map V.int) us := vals_ints hi
  have kn : K.lookup a = none := noList_at hnl KX ha rfl
  generalize hT : topH a { cls := .type "list", data := .seq us.toArray } (ns.map V.int) = T
  have atA : T a = some (.frz { cls := .type "list", data := .seq us.toArray } (.lst (ns.map V.int))) := by rw [← hT]; exact topH_at
  have out : ∀ {b : Addr}, b ≠ a → T b = none := fun h => by rw [← hT]; exact topH_out h
  have inv : ∀ {b : Addr} {u : HO}, T b = some u → b = a ∧ u = .frz { cls := .type "list", data := .seq us.toArray } (.lst (ns.map V.int)) := fun h => by rw [← hT] at h; exact topH_inv h
  have okT : HOk P w T s₁.heap := fun b u z => by
    obtain ⟨rfl, rfl⟩ := inv z
    exact ⟨ha, by rw [List.length_map]; exact Nat.le_trans hl hl2, us, 0, rv, ha⟩
  have stay : ∀ {b : Addr} {o : Obj}, s₁.heap.get? b = some o → b ≠ a → (hidT s₁.heap T).get? b = some o := fun e h => hidT_get e (out h)
  have nsT : ∀ {b : Addr} {m : Str → Option Value}, s₁.heap.Ns b m → (hidT s₁.heap T).Ns b m := fun {b m} ⟨o, es, ep, e, d, r⟩ => ⟨o, es, ep, stay e (fun z => by
    subst z
    rw [ha] at e
    cases e
    have d' : Data.seq us.toArray _ = Data.dict es ep := d
    cases d'), d, r⟩
  have inT : K.In (hidT s₁.heap T) := fun b o e => stay (KX b o e) fun z => by
    subst z
    rw [kn] at e
    cases e
  have e0 : Env0 P w K mg (hidT s₁.heap T) callerA [] s₁ T := ⟨rfl, ⟨inT, nsT hns, ⟨mb, nsT hb, hbb⟩, hlim.imp fun mc h => ⟨nsT h.1, h.2⟩⟩, fun b o e => of_hidT e, Nat.le_of_eq (hidT_size _ _), trivial, fun b h => absurd (show b ∈ ([] : List Addr) from h) (by simp), okT, .of_eq hg⟩
  have low : lowF K (spLaw3 n) [.ref a] T (fun v _ => v = .bl true) fun _ _ _ => False := ⟨[.ref a], fun b => if b = a then some (.ro (ns.map D.int)) else none, fun d _ => d = .bl true, fun _ _ _ => False, Rvs.cons Rv.ref Rvs.nil, fun b u z => (by
      by_cases h : b = a
      · subst h
        simp only [if_pos rfl] at z
        cases z
        exact ⟨_, _, atA, Rvs.ints⟩
      · simp only [if_neg h] at z
        cases z), ⟨a, ns, rfl, hl, if_pos rfl, fun b h => if_neg h, fun _ => rfl⟩, fun d v H' M' _ _ r q => (by
      subst q
      exact r.bl_inv), fun _ _ _ _ _ _ z => z.elim⟩
  refine codeAny_mono ((F _ inT (nsT hns)).runs callerA [] s₁ T ⟨[.ref a], []⟩ [.ref a] [.ref a] _ _ hr e0 (hbind s₁ (.ref a)) (.cons rfl .nil) low) fun r s' h => ?_
  match r, h with
  | .ok .next, h => exact False.elim h
  | .ok .brk, h => exact False.elim h
  | .ok .cont, h => exact False.elim h
  | .error _, h =>
    obtain ⟨_, _, _, _, _, _, _, _, _, _, _, _, z⟩ := h
    exact z.elim
  | .ok (.ret u), ⟨v, H', os, bare, un, hok', rr, q⟩ =>
    have q' : v = .bl true := q
    subst q'
    obtain rfl : u = Value.bool true := rr
    refine ⟨rfl, OldK.of_keep fun b o e => ?_, os, bare⟩
    by_cases h : b = a
    · subst h
      rw [ha] at e
      cases e
      exact (hok' b _ (un.frzs b _ _ atA)).1
    · exact un.keep b o e (out h) (by intro z; exact absurd (show b ∈ ([] : List Addr) from z) (by simp)) (by simp)
theorem walk3 {l : PySem.W.OpenLaw} {n k : Nat} {q : Program} {loose : List Str} {XP : (Str → Option Value) → Heap → Prop} {YP : World → Heap → Prop} {d : DefRec} {K : Params → PySem.W.Frag}
    (hn : l.most = some n) (hn2 : n ≤ sizeLine) (hdf : d.params.defaults = []) (hr : RoomG k callerA) (hY : ∀ (w : World) (h : Heap), YP w h → (K w.params).In h) (hN : ∀ w : World, noList (K w.params) = true)
    (F : ∀ (w : World) (mg : Str → Option Value) (fa : Addr) (h : Heap), (K w.params).In h → h.Ns mainGlobals mg → mg d.name = some (.ref fa) →
      ∃ fd : FuncData, (∀ (s : Shared) (u : Value), BindsTo s fd ⟨[u], []⟩ [("script", u)]) ∧
        ∀ base : Heap, (K w.params).In base → base.Ns mainGlobals mg → Fn3 l.prog w (K w.params) mg base k fa fd ["script"] (spLaw3 n)) :
    PySem.W.WalkO q loose XP YP l.row.toRowW d [] (fun f vs => PySem.call f vs) :=
  Att.attach_call hn hdf fun w s₀ s₁ mg mb fa o pm cd doc a vs ns G Y ho hd hcd hmg hobj hints hlen hgn => by
    obtain ⟨fd, hb, hF⟩ := F w mg fa _ (hY w _ Y) G.T.g hmg
    exact top_run (hY w _ Y) G.T.g G.T.b G.T.builtins G.T.nolimit hgn (hN w) hobj hints hlen hn2 hr hF hb
end L3

namespace L3
open PySem PySem.Spec PyProof.Rows L2
theorem szLt {n : Nat} (h : n ≤ 1000000) : n < sizeLine := Nat.lt_of_le_of_lt h (by decide)
theorem szLe {n : Nat} (h : n ≤ 1000000) : n ≤ sizeLine := Nat.le_of_lt (szLt h)
/-! ### comprehensions by a function -/
theorem lcMap {ds : List D} {keep : MH → Prop} {i : Nat} {te : E3} {env : En} {p : Addr} {M : MH} {Q : MH → Prop} (f : D → D) (hp : M p = none) (hk : ∀ M', Sub M M' → keep M')
    (he : ∀ (k : Nat) (d : D) (M' : MH) (R : Q3), ds[k]? = some d → Sub M M' → (∀ M'', Sub M' M'' → R (f d) M'') → te W0 (env.set i (some d)) M' R) (hsz : ds.length < sizeLine)
    (hq : ∀ M', Sub M M' → M' p = some (.lst (ds.map f)) → Q M') : LoopC ds keep i t3Yes te env p M Q := by
  refine ⟨fun k acc M' => acc = (ds.take k).map f ∧ Sub M M', ⟨by simp, (Sub.refl M).new hp⟩, ?_, ?_⟩
  · rintro k d acc M' hd ⟨rfl, sub⟩ hpM
    refine ⟨hk M' sub, Br.tt (he k d M' _ hd sub fun M'' s2 => ⟨(ds.take k).map f, s2 p _ hpM, ?_, ?_, (sub.trans s2).new hp⟩)⟩
    · rw [List.length_map, List.length_take]
      exact Nat.lt_of_le_of_lt (Nat.min_le_right _ _) hsz
    · rw [List.take_add_one, hd, List.map_append]
      rfl
  · rintro acc M' ⟨rfl, sub⟩ hpM
    rw [List.take_length] at hpM
    exact ⟨hk M' sub, hq M' sub hpM⟩
theorem lcFilter {ds : List D} {keep : MH → Prop} {i : Nat} {tt : T3} {te : E3} {env : En} {p : Addr} {M : MH} {Q : MH → Prop} (b : D → Bool) (f : D → D) (hp : M p = none) (hk : ∀ M', Sub M M' → keep M')
    (ht : ∀ (k : Nat) (d : D) (M' : MH) (R : Bool → MH → Prop), ds[k]? = some d → Sub M M' → (∀ M'', Sub M' M'' → R (b d) M'') → tt W0 (env.set i (some d)) M' R)
    (he : ∀ (k : Nat) (d : D) (M' : MH) (R : Q3), ds[k]? = some d → b d = true → Sub M M' → (∀ M'', Sub M' M'' → R (f d) M'') → te W0 (env.set i (some d)) M' R) (hsz : ds.length < sizeLine)
    (hq : ∀ M', Sub M M' → M' p = some (.lst ((ds.filter b).map f)) → Q M') : LoopC ds keep i tt te env p M Q := by
  refine ⟨fun k acc M' => acc = ((ds.take k).filter b).map f ∧ Sub M M', ⟨by simp, (Sub.refl M).new hp⟩, ?_, ?_⟩
  · rintro k d acc M' hd ⟨rfl, sub⟩ hpM
    have e : ((ds.take (k + 1)).filter b).map f = ((ds.take k).filter b).map f ++ (if b d = true then [f d] else []) := by
      rw [List.take_add_one, hd]
      simp only [Option.toList_some, List.filter_append, List.map_append, List.filter_cons, List.filter_nil]
      split <;> rfl
    refine ⟨hk M' sub, ht k d M' _ hd sub fun M3 s3 => ⟨fun hb => he k d M3 _ hd hb (sub.trans s3) fun M'' s2 => ⟨_, s2 p _ (s3 p _ hpM), ?_, ?_, ((sub.trans s3).trans s2).new hp⟩, fun hb => ⟨_, s3 p _ hpM, ?_, sub.trans s3⟩⟩⟩
    · rw [List.length_map]
      have h1 := List.length_filter_le b (ds.take k)
      rw [List.length_take] at h1
      exact Nat.lt_of_le_of_lt (Nat.le_trans h1 (Nat.min_le_right _ _)) hsz
    · rw [e, if_pos hb]
    · rw [e, if_neg (by rw [hb]; decide), List.append_nil]
  · rintro acc M' ⟨rfl, sub⟩ hpM
    rw [List.take_length] at hpM
    exact ⟨hk M' sub, hq M' sub hpM⟩
theorem get_ints {xs : List Int} {i : Nat} {d : D} (h : (xs.map D.int)[i]? = some d) : ∃ x, xs[i]? = some x ∧ d = .int x := by
  rw [List.getElem?_map] at h
  cases e : xs[i]? with
  | none => rw [e] at h; cases h
  | some x => rw [e] at h; exact ⟨x, rfl, (Option.some.inj h).symm⟩
theorem at_ints {xs : List Int} {i : Int} (h0 : 0 ≤ i) (h1 : i < xs.length) : ∃ x, x ∈ xs ∧ atI (xs.map D.int) i = some (.int x) ∧ ∃ j : Nat, i = (j : Int) ∧ j < xs.length ∧ xs[j]? = some x := by
  obtain ⟨j, rfl⟩ := Int.eq_ofNat_of_zero_le h0
  have hj : j < xs.length := by omega
  have e : xs[j]? = some xs[j] := List.getElem?_eq_getElem hj
  exact ⟨xs[j], List.getElem_mem hj, atI_nat (by rw [List.getElem?_map, e]; rfl), j, rfl, hj, e⟩
theorem lstM_sub {M M' : MH} {a : Addr} {ds : List D} (s : Sub M M') (h : LstM M a ds) : LstM M' a ds := h.elim (fun e => .inl (s _ _ e)) fun e => .inr (s _ _ e)
/-! ### the laws' draws -/
def tDraws : S3 :=
    (s3Seq (s3Asg (e3Lc (i3Seq (e3Var 0)) 5 t3Yes (e3CB c3Abs (a3Cons (e3CB c3Int (a3Cons (e3Var 5) a3Nil)) a3Nil)) [5]) 2)
    (s3Seq (s3Asg (e3Lst a3Nil) 3)
    (s3Seq (s3For (i3Rng1 (a3Cons (e3Var 1) a3Nil)) (g3Name 4) (s3Seq (s3Asg (e3Var 4) 5)
    (s3Seq (s3If (t3Test (e3Op r3Gt (e3CB c3Len (a3Cons (e3Var 0) a3Nil)) (e3C (.int 0)))) (s3Seq (s3Asg (e3Op r3Mod (e3Var 4) (e3CB c3Len (a3Cons (e3Var 0) a3Nil))) 7)
    (s3Seq (s3Asg (e3CB c3Int (a3Cons (e3Op r3Ix (e3Var 0) (e3Var 7)) a3Nil)) 5)
    (s3If (t3And (t3Test (e3Op r3Ge (e3Var 5) (e3Op r3Pow (e3C (.int 10)) (e3C (.int 18))))) (t3Test (e3Op r3Gt (e3Op r3Ix (e3Var 2) (e3Var 7)) (e3C (.int 0))))) (s3Seq (s3Expr (e3Bm m3App (e3Var 3) (a3Cons (e3Op r3Mod (e3CB c3Int (a3Cons (e3Op r3Ix (e3Var 2) (e3Var 7)) a3Nil)) (e3C (.int 1000003))) a3Nil)))
    (s3Seq (s3AsgG (e3Op r3Div (e3CB c3Int (a3Cons (e3Op r3Ix (e3Var 2) (e3Var 7)) a3Nil)) (e3C (.int 1000003))) (g3SubL (e3Var 2) (e3Var 7)))
    s3Cont)) s3Nil))) s3Nil)
    (s3Seq (s3Asg (e3Op r3Mod (e3CB c3Int (a3Cons (e3Op r3Add (e3Op r3Add (e3Op r3Mul (e3Var 5) (e3C (.int 48271))) (e3Op r3Mul (e3Var 4) (e3C (.int 69621)))) (e3C (.int 11))) a3Nil)) (e3C (.int 2147483647))) 6)
    (s3Seq (s3Asg (e3Op r3Mod (e3CB c3Int (a3Cons (e3Op r3Add (e3Op r3Div (e3Op r3Mul (e3Var 6) (e3Var 6)) (e3C (.int 4096))) (e3Var 6)) a3Nil)) (e3C (.int 2147483629))) 6)
    (s3Expr (e3Bm m3App (e3Var 3) (a3Cons (e3Op r3Mod (e3CB c3Int (a3Cons (e3Op r3Add (e3Op r3Div (e3Op r3Mul (e3Var 6) (e3Var 6)) (e3C (.int 4096))) (e3Op r3Mul (e3Var 4) (e3C (.int 7919)))) a3Nil)) (e3C (.int 2147483629))) a3Nil))))))))
    (s3Ret (e3Var 3)))))
abbrev NDraws : List Str := ["script", "many", "rests", "draws", "k", "cell", "mixed", "at"]
def spDraws : Sp3 := fun ds M Q _ => ∃ (a : Addr) (n : Int) (ns : List Int), ds = [.ref a, .int n] ∧ 0 ≤ n ∧ n ≤ 100000 ∧ ns.length ≤ 1000 ∧ M a = some (.ro (ns.map D.int)) ∧
  ∀ (p : Addr) (xs : List Int), M p = none → (xs.length : Int) = n → (∀ x ∈ xs, (0 : Int) ≤ x ∧ x < 2147483629) → Q (.ref p) (updM M p (.lst (xs.map D.int)))
theorem mem_set {xs : List Int} {j : Nat} {y x : Int} (h : x ∈ xs.set j y) : x ∈ xs ∨ x = y := by
  rcases List.mem_or_eq_of_mem_set h with h | h
  · exact .inl h
  · exact .inr h
theorem rdDraws : Rd3 NDraws tDraws spDraws := by
  rintro ds M Q E ⟨a, n, ns, rfl, n0, n1, hl, ha, q⟩
  -- rests = [abs(int(cell)) for cell in script]
  refine ⟨_, .inr ha, fun r nr => lcMap (fun d => match d with | .int i => .int (if i < 0 then -i else i) | d => d) nr (fun M' s => .inr (s a _ ha)) (fun k d M' R hd s k2 => ?_) (szLt (by rw [List.length_map]; omega)) fun M1 s1 h1 => ?_⟩
  · obtain ⟨x, _, rfl⟩ := get_ints hd
    exact k2 M' (Sub.refl _)
  have e1 : (ns.map D.int).map (fun d => match d with | .int i => .int (if i < 0 then -i else i) | d => d) = (ns.map fun i => if i < 0 then -i else i).map D.int := by
    rw [List.map_map, List.map_map]; rfl
  rw [e1] at h1
  -- draws = []
  refine ⟨szLe (by simp), fun w nw => ?_⟩
  have nwM : M w = none := s1.free nw
  have nrw : r ≠ w := neM h1 nw
  -- for k in range(many)
  refine ⟨by omega, by omega, fun i env' M' => ∃ (s4 s5 s6 s7 : Option D) (rs xs : List Int), env' = [some (.ref a), some (.int n), some (.ref r), some (.ref w), s4, s5, s6, s7] ∧ Sub M M' ∧ M' r = some (.lst (rs.map D.int)) ∧ M' w = some (.lst (xs.map D.int)) ∧
    rs.length = ns.length ∧ (∀ x ∈ rs, (0 : Int) ≤ x) ∧ xs.length = i ∧ ∀ x ∈ xs, (0 : Int) ≤ x ∧ x < 2147483629, ?_, ?_, ?_⟩
  · refine ⟨none, none, none, none, _, [], rfl, s1.new nwM, (updM_ne nrw).trans h1, updM_same, by simp, ?_, rfl, by simp⟩
    intro x hx
    obtain ⟨y, _, rfl⟩ := List.mem_map.mp hx
    show 0 ≤ if y < 0 then -y else y
    split <;> omega
  · rintro i d env' M' hd ⟨s4, s5, s6, s7, rs, xs, rfl, sub, hr, hw, lr, pr, lx, px⟩
    obtain ⟨hi, rfl⟩ := rngD_get hd
    have hi' : (i : Int) < n := by omega
    refine ⟨trivial, ?_⟩
    have ha' : M' a = some (.ro (ns.map D.int)) := sub a _ ha
    -- the last rows
    have tail : ∀ (s5' s7' : Option D) (c : Int), s5' = some (.int c) →
        (s3Seq (s3Asg (e3Op r3Mod (e3CB c3Int (a3Cons (e3Op r3Add (e3Op r3Add (e3Op r3Mul (e3Var 5) (e3C (.int 48271))) (e3Op r3Mul (e3Var 4) (e3C (.int 69621)))) (e3C (.int 11))) a3Nil)) (e3C (.int 2147483647))) 6)
    (s3Seq (s3Asg (e3Op r3Mod (e3CB c3Int (a3Cons (e3Op r3Add (e3Op r3Div (e3Op r3Mul (e3Var 6) (e3Var 6)) (e3C (.int 4096))) (e3Var 6)) a3Nil)) (e3C (.int 2147483629))) 6)
    (s3Expr (e3Bm m3App (e3Var 3) (a3Cons (e3Op r3Mod (e3CB c3Int (a3Cons (e3Op r3Add (e3Op r3Div (e3Op r3Mul (e3Var 6) (e3Var 6)) (e3C (.int 4096))) (e3Op r3Mul (e3Var 4) (e3C (.int 7919)))) a3Nil)) (e3C (.int 2147483629))) a3Nil)))))
          (rtX E) { nx := fun env' M' => ∃ (s4 s5 s6 s7 : Option D) (rs xs : List Int), env' = [some (.ref a), some (.int n), some (.ref r), some (.ref w), s4, s5, s6, s7] ∧ Sub M M' ∧ M' r = some (.lst (rs.map D.int)) ∧ M' w = some (.lst (xs.map D.int)) ∧
    rs.length = ns.length ∧ (∀ x ∈ rs, (0 : Int) ≤ x) ∧ xs.length = i + 1 ∧ ∀ x ∈ xs, (0 : Int) ≤ x ∧ x < 2147483629, rt := (rtD Q).rt } [some (.ref a), some (.int n), some (.ref r), some (.ref w), some (.int (0 + (i : Nat))), s5', s6, s7'] M' := by
      rintro s5' s7' c rfl
      refine ⟨.inr ⟨by decide, by decide⟩, .inr ⟨by decide, by decide⟩, by decide, ?_⟩
      generalize hm : (c * 48271 + (0 + ((i : Nat) : Int)) * 69621 + 11) % 2147483647 = m1
      have m0 : 0 ≤ m1 := by rw [← hm]; exact Int.emod_nonneg _ (by decide)
      have m1' : m1 < 2147483647 := by rw [← hm]; exact Int.emod_lt_of_pos _ (by decide)
      refine ⟨.inl ⟨by omega, by omega⟩, ⟨by decide, by decide⟩, by decide, ?_⟩
      generalize hm2 : (m1 * m1 / 4096 + m1) % 2147483629 = m2
      have m20 : 0 ≤ m2 := by rw [← hm2]; exact Int.emod_nonneg _ (by decide)
      have m21 : m2 < 2147483629 := by rw [← hm2]; exact Int.emod_lt_of_pos _ (by decide)
      refine ⟨⟨_, .inl hw⟩, .inl ⟨by omega, by omega⟩, ⟨by decide, by decide⟩, .inr ⟨by decide, by decide⟩, by decide, _, hw, szLt (by rw [List.length_map]; omega), ?_⟩
      refine ⟨_, _, _, _, rs, xs ++ [_], rfl, sub.new nwM, (updM_ne nrw).trans hr, by rw [updM_same, List.map_append]; rfl, lr, pr, by simp [lx], ?_⟩
      intro x hx
      rcases List.mem_append.mp hx with hx | hx
      · exact px x hx
      · rw [List.mem_singleton] at hx
        rw [hx]
        exact ⟨Int.emod_nonneg _ (by decide), Int.emod_lt_of_pos _ (by decide)⟩
    refine ⟨_, .inr ha', fun e => ?_, fun e => ?_⟩
    · -- there are cells
      have hpos : 0 < ns.length := by
        have := of_decide_eq_true e
        rw [List.length_map] at this
        omega
      refine ⟨_, .inr ha', by rw [List.length_map]; omega, ?_⟩
      rw [List.length_map]
      have ht0 : 0 ≤ (0 + ((i : Nat) : Int)) % (ns.length : Int) := Int.emod_nonneg _ (by omega)
      have ht1 : (0 + ((i : Nat) : Int)) % (ns.length : Int) < ns.length := Int.emod_lt_of_pos _ (by omega)
      generalize (0 + ((i : Nat) : Int)) % (ns.length : Int) = at_ at ht0 ht1 ⊢
      obtain ⟨c, _, hc, _⟩ := at_ints ht0 ht1
      obtain ⟨y, hy, hyr, j, hj, hjl, hjr⟩ := at_ints (xs := rs) ht0 (by omega)
      refine ⟨_, _, .inr ha', hc, ⟨by decide, by decide, by decide⟩, fun e2 => ?_, fun e2 => ?_⟩
      · refine ⟨_, _, .inl hr, hyr, fun e3 => ?_, fun e3 => ?_⟩
        · refine ⟨⟨_, .inl hw⟩, _, _, .inl hr, hyr, by decide, _, hw, szLt (by rw [List.length_map]; omega), ?_⟩
          have hr2 : updM M' w (.lst (xs.map D.int ++ [.int (y % 1000003)])) r = some (.lst (rs.map D.int)) := (updM_ne nrw).trans hr
          refine ⟨_, _, .inl hr2, hyr, ⟨by decide, by decide⟩, _, j, hr2, ?_, ?_⟩
          · rw [List.length_map, hj]
            unfold ixN
            rw [if_pos (by omega), if_pos (by omega)]
            simp
          · refine ⟨_, _, _, _, rs.set j (y / 1000003), xs ++ [y % 1000003], rfl, (sub.new nwM).new nr, ?_, ?_, by simp [lr], ?_, by simp [lx], ?_⟩
            · rw [updM_same, List.map_set]
            · rw [updM_ne nrw.symm, updM_same, List.map_append]
              rfl
            · intro x hx
              rcases mem_set hx with hx | rfl
              · exact pr x hx
              · exact Int.ediv_nonneg (pr y hy) (by decide)
            · intro x hx
              rcases List.mem_append.mp hx with hx | hx
              · exact px x hx
              · rw [List.mem_singleton] at hx
                rw [hx]
                exact ⟨Int.emod_nonneg _ (by decide), Int.lt_trans (Int.emod_lt_of_pos _ (by decide)) (by decide)⟩
        · exact tail _ _ _ rfl
      · exact Br.ff (tail _ _ _ rfl)
    · exact tail _ _ _ rfl
  · rintro env' M' ⟨s4, s5, s6, s7, rs, xs, rfl, sub, hr, hw, lr, pr, lx, px⟩
    refine ⟨trivial, updM M w (.lst (xs.map D.int)), ?_, q w xs nwM ?_ px⟩
    · intro b o e
      by_cases hb : b = w
      · subst hb
        rw [updM_same] at e
        cases e
        exact hw
      · rw [updM_ne hb] at e
        exact sub b o e
    · rw [lx, rngD_length]
      omega
/-! ### the laws' take -/
def tTake : S3 :=
    (s3Seq (s3Asg (e3Op r3Ix (e3Var 0) (e3C (.int 1))) 2)
    (s3Seq (s3AsgG (e3Op r3Add (e3Var 2) (e3C (.int 1))) (g3SubL (e3Var 0) (e3C (.int 1))))
    (s3Seq (s3Asg (e3Op r3Ix (e3Var 0) (e3C (.int 0))) 3)
    (s3Seq (s3If (t3Test (e3Op r3Ge (e3Var 2) (e3CB c3Len (a3Cons (e3Var 3) a3Nil)))) (s3Ret (e3C (.int 0))) s3Nil)
    (s3Ret (e3Op r3Mod (e3Op r3Div (e3CB c3Int (a3Cons (e3Op r3Ix (e3Var 3) (e3Var 2)) a3Nil)) (e3C (.int 7))) (e3Var 1)))))))
abbrev NTake : List Str := ["hand", "many", "at", "draws"]
/-- the hand: the draws, how many are taken -/
def Hand (M : MH) (h : Addr) : Prop := ∃ (d : Addr) (n : Int) (xs : List Int), M h = some (.lst [.ref d, .int n]) ∧ M d = some (.lst (xs.map D.int)) ∧ d ≠ h ∧ 0 ≤ n ∧ ∀ x ∈ xs, (0 : Int) ≤ x
/-- all but the hand -/
def But (h : Addr) (M M' : MH) : Prop := ∀ b, b ≠ h → M' b = M b
def spTake : Sp3 := fun ds M Q _ => ∃ (h : Addr) (m : Int), ds = [.ref h, .int m] ∧ Hand M h ∧ 0 < m ∧ ∀ v M', 0 ≤ v → v < m → Hand M' h → But h M M' → Q (.int v) M'
theorem rdTake : Rd3 NTake tTake spTake := by
  rintro ds M Q E ⟨h, m, rfl, ⟨d, n, xs, hh, hd, hne, h0, hx⟩, hm, q⟩
  refine ⟨_, .int n, .inl hh, rfl, _, 1, hh, rfl, _, .ref d, .inl updM_same, rfl, ?_⟩
  have hd' : (updM M h (.lst [.ref d, .int (n + 1)])) d = some (.lst (xs.map D.int)) := (updM_ne hne).trans hd
  have fin : ∀ v, 0 ≤ v → v < m → (rtD Q).rt (.int v) (updM M h (.lst [.ref d, .int (n + 1)])) := fun v v0 v1 =>
    ⟨_, Sub.refl _, q v _ v0 v1 ⟨d, n + 1, xs, updM_same, hd', hne, by omega, hx⟩ fun b hb => updM_ne hb⟩
  refine ⟨_, .inl hd', fun e => ?_, fun e => ?_⟩
  · exact fin 0 (Int.le_refl _) hm
  · have e' := of_decide_eq_false e
    rw [List.length_map] at e'
    obtain ⟨x, hxm, hat, _⟩ := at_ints (xs := xs) h0 (by omega)
    exact ⟨_, _, .inl hd', hat, ⟨by decide, by decide⟩, hm, fin _ (Int.emod_nonneg _ (by omega)) (Int.emod_lt_of_pos _ hm)⟩
theorem hand_ne {M : MH} {h p : Addr} (hH : Hand M h) (np : M p = none) : h ≠ p := by
  obtain ⟨d, n, xs, h1, _⟩ := hH
  exact neM h1 np
/-- the hand stays where other things are made -/
theorem Hand.new {M : MH} {h p : Addr} {o : MO} (hH : Hand M h) (np : M p = none) : Hand (updM M p o) h := by
  obtain ⟨d, n, xs, h1, h2, h3⟩ := hH
  exact ⟨d, n, xs, (updM_ne (neM h1 np)).trans h1, (updM_ne (neM h2 np)).trans h2, h3⟩
theorem Hand.sub {M M' : MH} {h : Addr} (hH : Hand M h) (s : Sub M M') : Hand M' h := by
  obtain ⟨d, n, xs, h1, h2, h3⟩ := hH
  exact ⟨d, n, xs, s _ _ h1, s _ _ h2, h3⟩
end L3

namespace L3
open PySem PySem.Spec PyProof.Rows L2
/-! ### lists and rows of ints as data -/
theorem pys_ints {M : MH} : ∀ xs : List Int, Pys M (xs.map D.int) (xs.map PyData.int)
  | [] => .nil
  | x :: xs => .cons (.int x) (pys_ints xs)
theorem lay_ints : ∀ xs : List Int, PyData.canLayAll0 (xs.map PyData.int) = true
  | [] => by simp [PyData.canLayAll0]
  | x :: xs => by simp [PyData.canLayAll0, PyData.canLay0, lay_ints xs]
theorem depth_ints : ∀ xs : List Int, PyData.depthAll (xs.map PyData.int) ≤ 1
  | [] => by simp [PyData.depthAll]
  | x :: xs => by
    have := depth_ints xs
    simp only [List.map_cons, PyData.depthAll, PyData.depth]
    omega
theorem eqv_ints : ∀ xs ys : List Int, PyData.eqvAll (xs.map PyData.int) (ys.map PyData.int) = decide (xs = ys)
  | [], [] => by simp [PyData.eqvAll]
  | [], y :: ys => by simp [PyData.eqvAll]
  | x :: xs, [] => by simp [PyData.eqvAll]
  | x :: xs, y :: ys => by
    simp only [List.map_cons, PyData.eqvAll, PyData.eqv, eqv_ints xs ys]
    by_cases h : x = y
    · subst h; simp
    · simp [h]
theorem shaped_of {d : PyData} (h1 : d.canLay0 = true) (h2 : d.depth ≤ 64) : SeqAt.shaped d = true := by
  show (d.canLay0 && decide (d.depth ≤ 64)) = true
  rw [h1, decide_eq_true h2]
  rfl
theorem shaped_ints (xs : List Int) : SeqAt.shaped (.list (xs.map PyData.int)) = true :=
  shaped_of (by simp only [PyData.canLay0]; exact lay_ints xs) (by have := depth_ints xs; simp only [PyData.depth]; omega)
theorem shaped_row (xs : List Int) : SeqAt.shaped (.tuple (xs.map PyData.int)) = true :=
  shaped_of (by simp only [PyData.canLay0]; exact lay_ints xs) (by have := depth_ints xs; simp only [PyData.depth]; omega)
/-- a row of ints -/
def rowD (r : List Int) : D := .tup (r.map D.int)
def rowP (r : List Int) : PyData := .tuple (r.map PyData.int)
theorem pys_rows {M : MH} : ∀ rs : List (List Int), Pys M (rs.map rowD) (rs.map rowP)
  | [] => .nil
  | r :: rs => .cons (.tup (pys_ints r)) (pys_rows rs)
theorem lay_rows : ∀ rs : List (List Int), PyData.canLayAll0 (rs.map rowP) = true
  | [] => by simp [PyData.canLayAll0]
  | r :: rs => by simp [PyData.canLayAll0, PyData.canLay0, rowP, lay_ints r]; exact lay_rows rs
theorem depth_rows : ∀ rs : List (List Int), PyData.depthAll (rs.map rowP) ≤ 2
  | [] => by simp [PyData.depthAll]
  | r :: rs => by
    have h1 := depth_rows rs
    have h2 := depth_ints r
    simp only [List.map_cons, PyData.depthAll, rowP, PyData.depth]
    omega
theorem shaped_rowsL (rs : List (List Int)) : SeqAt.shaped (.list (rs.map rowP)) = true :=
  shaped_of (by simp only [PyData.canLay0]; exact lay_rows rs) (by have := depth_rows rs; simp only [PyData.depth]; omega)
theorem shaped_rowsT (rs : List (List Int)) : SeqAt.shaped (.tuple (rs.map rowP)) = true :=
  shaped_of (by simp only [PyData.canLay0]; exact lay_rows rs) (by have := depth_rows rs; simp only [PyData.depth]; omega)
theorem eqv_row (r s : List Int) : PyData.eqv (rowP r) (rowP s) = decide (r = s) := by
  unfold rowP
  simp only [PyData.eqv]
  exact eqv_ints r s
theorem any_rows (r : List Int) : ∀ rs : List (List Int), ((rs.map rowP).any fun z => PyData.eqv z (rowP r)) = decide (r ∈ rs)
  | [] => by simp
  | s :: rs => by
    rw [List.map_cons, List.any_cons, eqv_row, any_rows r rs]
    by_cases h : s = r
    · subst h; simp
    · have h' : ¬ r = s := fun z => h z.symm
      simp [h, h']
/-- row in rows -/
theorem in_rows {neg : Bool} {M : MH} {Q : Q3} {e : D} {r : List Int} {rs : List (List Int)} (h : Seq3 M (rs.map rowD) e) (q : Q (.bl (neg ^^ decide (r ∈ rs))) M) : r3In neg (rowD r) e M Q := by
  unfold r3In
  exact ⟨rowP r, rs.map rowD, rs.map rowP, .tup (pys_ints r), h, pys_rows rs, shaped_row r, shaped_rowsL rs, shaped_rowsT rs, by rw [any_rows]; exact q⟩
theorem any_ints (x : Int) : ∀ xs : List Int, ((xs.map PyData.int).any fun z => PyData.eqv z (.int x)) = decide (x ∈ xs)
  | [] => by simp
  | y :: xs => by
    rw [List.map_cons, List.any_cons, any_ints x xs]
    simp only [PyData.eqv]
    by_cases h : y = x
    · subst h; simp
    · have h' : ¬ x = y := fun z => h z.symm
      simp [h, h']
theorem in_ints {neg : Bool} {M : MH} {Q : Q3} {e : D} {x : Int} {xs : List Int} (h : Seq3 M (xs.map D.int) e) (q : Q (.bl (neg ^^ decide (x ∈ xs))) M) : r3In neg (.int x) e M Q := by
  unfold r3In
  exact ⟨.int x, xs.map D.int, xs.map PyData.int, .int x, h, pys_ints xs, shaped_of (by simp [PyData.canLay0]) (by simp [PyData.depth]), shaped_ints xs, shaped_row xs, by rw [any_ints]; exact q⟩
/-- lists of ints compared -/
theorem eq_lists {M : MH} {Q : Q3} {a b : Addr} {xs ys : List Int} (ha : LstM M a (xs.map D.int)) (hb : LstM M b (ys.map D.int)) (q : Q (.bl (decide (xs = ys))) M) : r3Eq (.ref a) (.ref b) M Q := by
  unfold r3Eq
  exact ⟨_, _, .ref ha (pys_ints xs), .ref hb (pys_ints ys), shaped_ints xs, shaped_ints ys, by simp only [PyData.eqv]; rw [eqv_ints]; exact q⟩
theorem ne_lists {M : MH} {Q : Q3} {a b : Addr} {xs ys : List Int} (ha : LstM M a (xs.map D.int)) (hb : LstM M b (ys.map D.int)) (q : Q (.bl (!decide (xs = ys))) M) : r3Ne (.ref a) (.ref b) M Q := by
  unfold r3Ne
  exact ⟨_, _, .ref ha (pys_ints xs), .ref hb (pys_ints ys), shaped_ints xs, shaped_ints ys, by simp only [PyData.eqv]; rw [eqv_ints]; exact q⟩
/-! ### numbers -/
/-- is_number -/
def isNum (d : D) (lo hi : Int) : Bool := match d with | .int i => decide (lo ≤ i) && decide (i ≤ hi) | _ => false
/-- a value by itself -/
def Own : D → Prop
  | .ref _ | .ty _ => False
  | _ => True
def tyName : D → String
  | .non => "NoneType" | .bl _ => "bool" | .int _ => "int" | .str _ => "str" | .tup _ => "tuple" | _ => ""
theorem ty_own {M : MH} {d : D} (h : Own d) : tyD M d (tyName d) := by
  cases d <;> first | rfl | exact h.elim
def tIsNumber : S3 :=
    (s3Ret (e3And (e3CB c3Isi (a3Cons (e3Var 0) (a3Cons (e3C (.ty "int")) a3Nil))) (e3And (e3Not (e3CB c3Isi (a3Cons (e3Var 0) (a3Cons (e3C (.ty "bool")) a3Nil)))) (e3Chain r3Le r3Le (e3Var 1) (e3Var 0) (e3Var 2)))))
/-- the type of a value: list or dict by what is known -/
def TyKnown (M : MH) (d : D) : Prop := ∃ n, tyD M d n ∧ (n = tyName d ∨ n = "list" ∨ n = "dict") ∧ ((∃ a, d = .ref a) ∨ n = tyName d)
theorem own_known {M : MH} {d : D} (h : Own d) : TyKnown M d := ⟨tyName d, ty_own h, .inl rfl, .inr rfl⟩
theorem lst_known {M : MH} {a : Addr} {ds : List D} (h : LstM M a ds) : TyKnown M (.ref a) := ⟨"list", .inl ⟨rfl, ds, h⟩, .inr (.inl rfl), .inl ⟨a, rfl⟩⟩
def spIsNumber : Sp3 := fun ds M Q _ => ∃ (d : D) (lo hi : Int), ds = [d, .int lo, .int hi] ∧ TyKnown M d ∧ Q (.bl (isNum d lo hi)) M
theorem isi_int {M : MH} {Q : Q3} {d : D} (h : TyKnown M d) (q1 : ∀ i, d = .int i → Q (.bl true) M) (q2 : ∀ b, d = .bl b → Q (.bl true) M) (q3 : (∀ i, d ≠ .int i) → (∀ b, d ≠ .bl b) → Q (.bl false) M) : c3Isi [d, .ty "int"] M Q := by
  obtain ⟨n, hn, _, h3⟩ := h
  unfold c3Isi
  cases d with
  | int i => exact ⟨"int", true, rfl, by decide +kernel, q1 i rfl⟩
  | bl b => exact ⟨"bool", true, rfl, by decide +kernel, q2 b rfl⟩
  | non => exact ⟨_, false, rfl, by decide +kernel, q3 (by intro i z; cases z) (by intro i z; cases z)⟩
  | str x => exact ⟨_, false, rfl, by decide +kernel, q3 (by intro i z; cases z) (by intro i z; cases z)⟩
  | tup x => exact ⟨_, false, rfl, by decide +kernel, q3 (by intro i z; cases z) (by intro i z; cases z)⟩
  | ref a =>
    rcases hn with ⟨rfl, h⟩ | ⟨rfl, h⟩
    · exact ⟨"list", false, .inl ⟨rfl, h⟩, by decide +kernel, q3 (by intro i z; cases z) (by intro i z; cases z)⟩
    · exact ⟨"dict", false, .inr ⟨rfl, h⟩, by decide +kernel, q3 (by intro i z; cases z) (by intro i z; cases z)⟩
  | ty x => exact hn.elim
theorem isi_bool {M : MH} {Q : Q3} {d : D} (h : TyKnown M d) (q2 : ∀ b, d = .bl b → Q (.bl true) M) (q3 : (∀ b, d ≠ .bl b) → Q (.bl false) M) : c3Isi [d, .ty "bool"] M Q := by
  obtain ⟨n, hn, _, h3⟩ := h
  unfold c3Isi
  cases d with
  | int i => exact ⟨"int", false, rfl, by decide +kernel, q3 (by intro i z; cases z)⟩
  | bl b => exact ⟨"bool", true, rfl, by decide +kernel, q2 b rfl⟩
  | non => exact ⟨_, false, rfl, by decide +kernel, q3 (by intro i z; cases z)⟩
  | str x => exact ⟨_, false, rfl, by decide +kernel, q3 (by intro i z; cases z)⟩
  | tup x => exact ⟨_, false, rfl, by decide +kernel, q3 (by intro i z; cases z)⟩
  | ref a =>
    rcases hn with ⟨rfl, h⟩ | ⟨rfl, h⟩
    · exact ⟨"list", false, .inl ⟨rfl, h⟩, by decide +kernel, q3 (by intro i z; cases z)⟩
    · exact ⟨"dict", false, .inr ⟨rfl, h⟩, by decide +kernel, q3 (by intro i z; cases z)⟩
  | ty x => exact hn.elim
theorem isi_tuple {M : MH} {Q : Q3} {d : D} (h : TyKnown M d) (q2 : ∀ b, d = .tup b → Q (.bl true) M) (q3 : (∀ b, d ≠ .tup b) → Q (.bl false) M) : c3Isi [d, .ty "tuple"] M Q := by
  obtain ⟨n, hn, _, h3⟩ := h
  unfold c3Isi
  cases d with
  | int i => exact ⟨"int", false, rfl, by decide +kernel, q3 (by intro i z; cases z)⟩
  | tup b => exact ⟨"tuple", true, rfl, by decide +kernel, q2 b rfl⟩
  | non => exact ⟨_, false, rfl, by decide +kernel, q3 (by intro i z; cases z)⟩
  | str x => exact ⟨_, false, rfl, by decide +kernel, q3 (by intro i z; cases z)⟩
  | bl x => exact ⟨_, false, rfl, by decide +kernel, q3 (by intro i z; cases z)⟩
  | ref a =>
    rcases hn with ⟨rfl, h⟩ | ⟨rfl, h⟩
    · exact ⟨"list", false, .inl ⟨rfl, h⟩, by decide +kernel, q3 (by intro i z; cases z)⟩
    · exact ⟨"dict", false, .inr ⟨rfl, h⟩, by decide +kernel, q3 (by intro i z; cases z)⟩
  | ty x => exact hn.elim
theorem isi_str {M : MH} {Q : Q3} {d : D} (h : TyKnown M d) (q2 : ∀ b, d = .str b → Q (.bl true) M) (q3 : (∀ b, d ≠ .str b) → Q (.bl false) M) : c3Isi [d, .ty "str"] M Q := by
  obtain ⟨n, hn, _, h3⟩ := h
  unfold c3Isi
  cases d with
  | int i => exact ⟨"int", false, rfl, by decide +kernel, q3 (by intro i z; cases z)⟩
  | str b => exact ⟨"str", true, rfl, by decide +kernel, q2 b rfl⟩
  | non => exact ⟨_, false, rfl, by decide +kernel, q3 (by intro i z; cases z)⟩
  | tup x => exact ⟨_, false, rfl, by decide +kernel, q3 (by intro i z; cases z)⟩
  | bl x => exact ⟨_, false, rfl, by decide +kernel, q3 (by intro i z; cases z)⟩
  | ref a =>
    rcases hn with ⟨rfl, h⟩ | ⟨rfl, h⟩
    · exact ⟨"list", false, .inl ⟨rfl, h⟩, by decide +kernel, q3 (by intro i z; cases z)⟩
    · exact ⟨"dict", false, .inr ⟨rfl, h⟩, by decide +kernel, q3 (by intro i z; cases z)⟩
  | ty x => exact hn.elim
theorem rdIsNumber : Rd3 ["value", "least", "most"] tIsNumber spIsNumber := by
  rintro ds M Q E ⟨d, lo, hi, rfl, hk, q⟩
  conv => whnf
  refine isi_int hk ?_ ?_ ?_
  · intro i e
    subst e
    refine Br.tt ?_
    conv => whnf
    refine isi_bool hk (fun b e => nomatch e) ?_
    intro _
    refine Br.tt ⟨fun e1 => ?_, fun e1 => ?_⟩
    · refine ⟨M, Sub.refl _, ?_⟩
      have : isNum (.int i) lo hi = decide (i ≤ hi) := by
        show (decide (lo ≤ i) && decide (i ≤ hi)) = _
        rw [e1]; rfl
      rw [this] at q
      exact q
    · refine ⟨M, Sub.refl _, ?_⟩
      have : isNum (.int i) lo hi = false := by
        show (decide (lo ≤ i) && decide (i ≤ hi)) = _
        rw [e1]; rfl
      rw [this] at q
      exact q
  · intro b e
    subst e
    refine Br.tt ?_
    conv => whnf
    refine isi_bool hk ?_ ?_
    · exact fun b' e => Br.ff ⟨M, Sub.refl _, q⟩
    · exact fun h => absurd rfl (h b)
  · intro h1 h2
    refine Br.ff ⟨M, Sub.refl _, ?_⟩
    have : isNum d lo hi = false := by
      cases d with
      | int i => exact absurd rfl (h1 i)
      | _ => rfl
    rw [this] at q
    exact q
def tWhole : S3 :=
    (s3Ret (e3And (e3CB c3Isi (a3Cons (e3Var 0) (a3Cons (e3C (.ty "int")) a3Nil))) (e3Not (e3CB c3Isi (a3Cons (e3Var 0) (a3Cons (e3C (.ty "bool")) a3Nil))))))
def isIntD : D → Bool
  | .int _ => true
  | _ => false
def spWhole : Sp3 := fun ds M Q _ => ∃ d, ds = [d] ∧ TyKnown M d ∧ Q (.bl (isIntD d)) M
theorem rdWhole : Rd3 ["found"] tWhole spWhole := by
  rintro ds M Q E ⟨d, rfl, hk, q⟩
  conv => whnf
  refine isi_int hk ?_ ?_ ?_
  · intro i e
    subst e
    refine Br.tt ?_
    conv => whnf
    refine isi_bool hk (fun b e => nomatch e) ?_
    exact fun _ => ⟨M, Sub.refl _, q⟩
  · intro b e
    subst e
    refine Br.tt ?_
    conv => whnf
    refine isi_bool hk ?_ ?_
    · exact fun b' e => ⟨M, Sub.refl _, q⟩
    · exact fun h => absurd rfl (h b)
  · intro h1 h2
    refine Br.ff ⟨M, Sub.refl _, ?_⟩
    have : isIntD d = false := by
      cases d with
      | int i => exact absurd rfl (h1 i)
      | _ => rfl
    rw [this] at q
    exact q

theorem eq_int {M : MH} {Q : Q3} {i j : Int} (q : Q (.bl (decide (i = j))) M) : r3Eq (.int i) (.int j) M Q := by unfold r3Eq; exact q
theorem ne_int {M : MH} {Q : Q3} {i j : Int} (q : Q (.bl (!decide (i = j))) M) : r3Ne (.int i) (.int j) M Q := by unfold r3Ne; exact q
theorem eq_bl {M : MH} {Q : Q3} {i j : Bool} (q : Q (.bl (i == j)) M) : r3Eq (.bl i) (.bl j) M Q := by unfold r3Eq; exact q
theorem ne_bl {M : MH} {Q : Q3} {i j : Bool} (q : Q (.bl (!(i == j))) M) : r3Ne (.bl i) (.bl j) M Q := by unfold r3Ne; exact q
theorem eq_str {M : MH} {Q : Q3} {i j : Str} (q : Q (.bl (decide (i = j))) M) : r3Eq (.str i) (.str j) M Q := by unfold r3Eq; exact q
theorem ne_str {M : MH} {Q : Q3} {i j : Str} (q : Q (.bl (!decide (i = j))) M) : r3Ne (.str i) (.str j) M Q := by unfold r3Ne; exact q
/-- what is known, with one more object -/
theorem Sub.put {M M' : MH} {p : Addr} {o : MO} (s : Sub M M') (h : M' p = some o) : Sub (updM M p o) M' := fun b u e => by
  by_cases hb : b = p
  · subst hb
    rw [updM_same] at e
    cases e
    exact h
  · rw [updM_ne hb] at e
    exact s b u e
theorem rng_map {f : D → D} {g : Nat → D} {n : Nat} (h : ∀ i : Nat, f (.int (i : Int)) = g i) : (rngD 0 n).map f = (List.range n).map g := by
  unfold rngD
  rw [List.map_map]
  refine List.map_congr_left fun i _ => ?_
  show f (.int (0 + (i : Int))) = g i
  rw [Int.zero_add]
  exact h i
theorem cut_from1 (xs : List D) : cutD xs (some 1) none = xs.drop 1 := by
  unfold cutD
  rw [show HT.sIx xs.length 0 (some 1) = min 1 xs.length from HT.sIx_nat xs.length 0 1, HT.sIx_none]
  cases xs with
  | nil => rfl
  | cons x r =>
    rw [show min 1 (x :: r).length = 1 by rw [List.length_cons]; omega]
    show (List.take ((x :: r).length - 1) r) = r
    rw [List.length_cons, Nat.add_sub_cancel]
    exact List.take_length
end L3

namespace L3
open PySem PySem.Spec PyProof.Rows L2
section
variable {X : Cx} {e a b c o : Expr} {es : List Expr} {pos p : Pos} {t ta tb tc to te : E3} {u : A3} {K : Fg}
/-! ### methods of tuples -/
theorem sqd_at {pins : List (Addr × Obj)} {σ : L2.St} {H : Hp} {s : Shared} {p : Addr} {xs : List V} (I : Inv X pins σ H s) (h : SqD X.K H p xs) : s.TypeIs (.ref p) "tuple" ∧ ∃ ob, s.heap.get? p = some ob ∧ ob.dict = none := by
  obtain ⟨its, _, ht, _⟩ := I.tuple h.1
  refine ⟨ht.typeIs, ?_⟩
  rcases h.2 with ⟨ob, v, e, d⟩ | ⟨ob, e, _, d⟩
  · exact ⟨ob, (I.hok p _ e).1, d⟩
  · exact ⟨ob, I.kIn p ob e, d⟩
def tTM (K : Fg) (r : V → List V → Hp → VK → Prop) (to : TE) (t : TA) : TE := fun σ H Q => to σ H fun x H1 => (∃ p xs, x = .ref p ∧ SqD K H1 p xs) ∧ t σ H1 fun ys H2 => r x ys H2 Q
theorem pe_tmD {name : Str} {id : String} {r : V → List V → Hp → VK → Prop} {to : TE} {t : TA} {apos cpos : Pos} (slot : Slot "tuple" name id) (hty : typeOf (.builtin id) = pure (.type "method_descriptor")) (hm : MtR X id r) (ho : PE X o to) (ha : PA X (e :: es) t)
    (hbase : attributeBase o name X.env (eval o X.env) = eval o X.env)
    (hfew : ((backTo cpos (starEach (e :: es) X.env)).all (fun x => !x.1) && (backToKw cpos (keywordEach [] X.env)).all (fun x => x.1.isSome) && decide ((e :: es).length + ([] : List Keyword).length + (if ([] : List Keyword).isEmpty then 0 else 1) < 30)) = true)
    (hline : (apos.endLine == cpos.line) = true) (hs : starEach (e :: es) X.env = (false, eval e X.env) :: starEach es X.env) (hplain : (backTo cpos (starEach es X.env)).any (·.1) = false) :
    PE X (.Call (.Attribute o name apos) (e :: es) [] cpos) (tTM X.K r to t) := ⟨fun pins s σ H Q I h =>
  wpAny_Call_method_late hbase hfew hline rfl (thn (ho.run pins s σ H _ I h) fun v s1 ⟨x, H1, I1, r1, ⟨p, xs, ex, sq⟩, q1⟩ => by
    subst ex
    cases r1
    obtain ⟨h1, h2⟩ := sqd_at I1 sq
    refine ⟨"tuple", id, PySem.F.plainAttrs_tuple, slot, hty, h1, fun a ea => (by cases ea; exact h2), ?_⟩
    have hA := ha.run cpos pins s1 σ H1 _ I1 q1
    rw [hs] at hA ⊢
    exact Calls.callWith_builtin (by show (false || (backTo cpos (starEach es X.env)).any (·.1)) = false; rw [hplain] <;> rfl) (Calls.evalArgs_plain (thn hA fun us s2 ⟨vs, H2, I2, r2, q2⟩ => hm pins s2 σ H2 (.ref p) vs (.ref p) us Q I2 rfl r2 q2)))⟩
def e3Tm (m : List D → List D → MH → Q3 → Prop) (to : E3) (u : A3) : E3 := fun W env M Q => to W env M fun od M1 => match od with
  | .tup ys => u W env M1 fun xs M2 => m ys xs M2 Q
  | _ => False
def MtT (K : Fg) (r : V → List V → Hp → VK → Prop) (m : List D → List D → MH → Q3 → Prop) : Prop := ∀ ys p zs xs vs H M Q Q2, SqT K H p zs → Rvs K H ys zs → Rvs K H xs vs → Abs K M H → m ys xs M Q → Got K H Q Q2 → r (.ref p) vs H Q2
theorem d_tm {name : Str} {id : String} {r : V → List V → Hp → VK → Prop} {m : List D → List D → MH → Q3 → Prop} {apos cpos : Pos} (slot : Slot "tuple" name id) (hty : typeOf (.builtin id) = pure (.type "method_descriptor")) (hm : MtR X id r) (hl : MtT X.K r m) (ho : DE X o to) (ha : DA X (e :: es) u)
    (hbase : attributeBase o name X.env (eval o X.env) = eval o X.env)
    (hfew : ((backTo cpos (starEach (e :: es) X.env)).all (fun x => !x.1) && (backToKw cpos (keywordEach [] X.env)).all (fun x => x.1.isSome) && decide ((e :: es).length + ([] : List Keyword).length + (if ([] : List Keyword).isEmpty then 0 else 1) < 30)) = true)
    (hline : (apos.endLine == cpos.line) = true) (hs : starEach (e :: es) X.env = (false, eval e X.env) :: starEach es X.env) (hplain : (backTo cpos (starEach es X.env)).any (·.1) = false) :
    DE X (.Call (.Attribute o name apos) (e :: es) [] cpos) (e3Tm m to u) := fun W2 tk => (pe_tmD slot hty hm (ho W2 tk) (ha W2 tk) hbase hfew hline hs hplain).imp fun σ H Q2 ⟨env, M, W, Q, s, a, l, q, g⟩ => by
  refine ⟨env, M, W, _, s, a, l, q, fun od v H1 M1 t1 a1 r1 q1 => ?_⟩
  split at q1
  · obtain ⟨p, zs, rfl, sq, rz⟩ := r1.tup_invD
    exact ⟨⟨p, zs, rfl, sq⟩, env, M1, W, _, s.mono t1, a1, l.mono t1, q1, fun xs ws H2 M2 t2 a2 r2 q2 => hl _ p zs xs ws H2 M2 Q Q2 (t2.seq sq.1) (rz.mono t2) r2 a2 q2 (g.mono (t1.trans t2))⟩
  · exact q1.elim
/-! ### t.index(i), l.index(i) -/
theorem ints_flat (ns : List Int) : (ns.map V.int).all flatV = true := by
  rw [List.all_map]
  exact List.all_eq_true.mpr fun _ _ => rfl
theorem idx_first : ∀ {ns : List Int} {z : Int} {m : Nat} {y : Int}, m < ns.idxOf z → ns[m]? = some y → y ≠ z
  | n :: ns, z, m, y, h, e => by
    rw [List.idxOf_cons] at h
    by_cases hz : (n == z) = true
    · rw [hz] at h
      simp at h
    · have hz' : (n == z) = false := by simpa using hz
      rw [hz'] at h
      cases m with
      | zero =>
        simp at e
        subst e
        simpa using hz
      | succ m => exact idx_first (ns := ns) (z := z) (m := m) (by simpa using h) (by simpa using e)
theorem idx_at {ns : List Int} {z : Int} (h : z ∈ ns) : ns[ns.idxOf z]? = some z := by
  have hl := List.idxOf_lt_length_iff.mpr h
  rw [List.getElem?_eq_getElem hl, List.getElem_idxOf hl]
theorem mt_tix : MtR X "tuple.index" (fun x xs H Q => ∃ p, ∃ ns : List Int, ∃ z, x = .ref p ∧ xs = [.int z] ∧ SqT X.K H p (ns.map V.int) ∧ z ∈ ns ∧ Q (.int (ns.idxOf z : Nat)) H) := by
  rintro pins s σ H x xs v us Q I rx rs ⟨p, ns, z, rfl, rfl, hq, hz, q⟩
  cases rx
  obtain ⟨u, rfl, t, rfl⟩ := vals1 rs
  obtain ⟨its, r, ⟨⟨cls, dd, dt, sl⟩, ho, hc, n, hd⟩, _⟩ := I.tuple hq
  simp only at hc hd
  subst hc hd
  have many : its.length = ns.length := by rw [← r.length, List.length_map]
  have at_ : ∀ (m : Nat) (hm : m < its.toArray.size) (y : Int), ns[m]? = some y → ∃ k, its.toArray[m] = Value.int y k := fun m hm y e => by
    obtain ⟨w, hw, k, hk⟩ := r.get (i := m) (x := .int y) (by rw [List.getElem?_map, e]; rfl)
    refine ⟨k, ?_⟩
    rw [← hk, ← (List.getElem?_eq_some_iff.mp hw).2]
    simp
  have hj : ns.idxOf z < its.toArray.size := by rw [List.size_toArray, many]; exact List.idxOf_lt_length_iff.mpr hz
  refine call_meets PySem.F.slot_tuple_index ⟨_, ho, rfl⟩ PySem.F.entry_tuple_index (PySem.F.args_tuple_index_2 _ _) (TI.tuple_indexAt p its.toArray n dd sl (.int z t) (eqU (.int z)) (ns.idxOf z) hj ?_ ?_)
    ⟨ho, fun w hw => mem_eqAt (x := .int z) ⟨t, rfl⟩ rfl r (ints_flat ns) w (by simpa using hw), .int (ns.idxOf z : Nat), H, I.tok _, ⟨_, rfl⟩, q⟩
  · obtain ⟨k, e⟩ := at_ _ hj z (idx_at hz)
    rw [e]
    exact beq_self_eq_true z
  · intro m hm hlt
    have hm' : m < ns.length := by rw [← many]; simpa using hm
    obtain ⟨k, e⟩ := at_ m hm ns[m] (List.getElem?_eq_getElem hm')
    rw [e]
    exact beq_eq_false_iff_ne.mpr (idx_first hlt (List.getElem?_eq_getElem hm'))
def m3Tix : List D → List D → MH → Q3 → Prop
  | ys, [.int z], M, Q => ∃ ns : List Int, ys = ns.map D.int ∧ z ∈ ns ∧ Q (.int (ns.idxOf z : Nat)) M
  | _, _, _, _ => False
theorem mt_tix3 : MtT X.K (fun x xs H Q => ∃ p, ∃ ns : List Int, ∃ z, x = .ref p ∧ xs = [.int z] ∧ SqT X.K H p (ns.map V.int) ∧ z ∈ ns ∧ Q (.int (ns.idxOf z : Nat)) H) m3Tix := by
  intro ys p zs xs vs H M Q Q2 sq rz rx a q g
  unfold m3Tix at q
  split at q
  · obtain ⟨ns, rfl, hz, q⟩ := q
    obtain ⟨v, rfl, rr⟩ := one_inv rx
    rw [rr.int_inv]
    rw [Rvs.intsV rz] at sq
    exact ⟨p, ns, _, rfl, rfl, sq, hz, g _ _ H M (Tps.refl H) a Rv.int q⟩
  · exact q.elim
theorem d_tix {apos cpos : Pos} (ho : DE X o to) (ha : DA X [e] u) (hbase : attributeBase o "index" X.env (eval o X.env) = eval o X.env := by rfl)
    (hfew : ((backTo cpos (starEach (e :: []) X.env)).all (fun x => !x.1) && (backToKw cpos (keywordEach [] X.env)).all (fun x => x.1.isSome) && decide ((e :: []).length + ([] : List Keyword).length + (if ([] : List Keyword).isEmpty then 0 else 1) < 30)) = true := by rfl)
    (hline : (apos.endLine == cpos.line) = true := by rfl) (hs : starEach (e :: []) X.env = (false, eval e X.env) :: starEach [] X.env := by rfl) (hplain : (backTo cpos (starEach [] X.env)).any (·.1) = false := by rfl) :
    DE X (.Call (.Attribute o "index" apos) [e] [] cpos) (e3Tm m3Tix to u) := d_tm PySem.F.slot_tuple_index PySem.F.type_tuple_index mt_tix mt_tix3 ho ha hbase hfew hline hs hplain
def m3Lix (l : Addr) : List D → MH → Q3 → Prop
  | [.int z], M, Q => ∃ ns : List Int, LstM M l (ns.map D.int) ∧ z ∈ ns ∧ Q (.int (ns.idxOf z : Nat)) M
  | _, _, _ => False
theorem mt_lix3 : MtL K (rIndex K) m3Lix := by
  intro l xs vs H M Q Q2 r a q g
  unfold m3Lix at q
  split at q
  · obtain ⟨ns, hl, hz, q⟩ := q
    obtain ⟨v, rfl, rr⟩ := one_inv r
    obtain ⟨ws, hs, hw⟩ := a.rd hl
    rw [Rvs.intsV hw] at hs
    rw [rr.int_inv]
    refine ⟨l, ns.map V.int, _, ns.idxOf _, .int _, rfl, rfl, hs, rfl, ints_flat ns, by rw [List.getElem?_map, idx_at hz]; rfl, beq_self_eq_true _, fun m z' hlt e => ?_, g _ _ H M (Tps.refl H) a Rv.int q⟩
    rw [List.getElem?_map] at e
    cases e2 : ns[m]? with
    | none => rw [e2] at e; cases e
    | some y =>
      rw [e2] at e
      cases e
      exact beq_eq_false_iff_ne.mpr (idx_first hlt e2)
  · exact q.elim
theorem d_lix {apos cpos : Pos} (ho : DE X o to) (ha : DA X [e] u) (hbase : attributeBase o "index" X.env (eval o X.env) = eval o X.env := by rfl)
    (hfew : ((backTo cpos (starEach (e :: []) X.env)).all (fun x => !x.1) && (backToKw cpos (keywordEach [] X.env)).all (fun x => x.1.isSome)
      && decide ((e :: []).length + ([] : List Keyword).length + (if ([] : List Keyword).isEmpty then 0 else 1) < 30)) = true := by rfl)
    (hline : (apos.endLine == cpos.line) = true := by rfl) (hs : starEach (e :: []) X.env = (false, eval e X.env) :: starEach [] X.env := by rfl) (hplain : (backTo cpos (starEach [] X.env)).any (·.1) = false := by rfl) :
    DE X (.Call (.Attribute o "index" apos) [e] [] cpos) (e3Bm m3Lix to u) := d_bm PySem.F.slot_list_index PySem.F.type_list_index mt_index mt_lix3 ho ha hbase hfew hline hs hplain
/-! ### repr(x) -/
def Shw (d : PyData) : Prop := d.showable = true ∧ d.hasDict = false ∧ d.depth ≤ 100 ∧ d.shown.length ≤ sizeLine
def rRepr (K : Fg) : List V → Hp → VK → Prop := fun vs H Q => ∃ v d, vs = [v] ∧ Dp K H v d ∧ Shw d ∧ Q (.str d.shown) H
theorem cr_reprU (hr : RoomU X.A) : CallR X (.builtin "repr") (rRepr X.K) := by
  rintro pins s σ H xs us Q I r ⟨v, d, rfl, hd, ⟨h1, h2, h3, h4⟩, q⟩
  obtain ⟨w, rfl, rv⟩ := vals1 r
  have big : ∀ {a : Addr} {as : List Addr}, w = .ref a → Reads s.heap (.ref a) d as → wpAny (model X.prog X.w) X.A (call (.builtin "repr") [w]) (EP X pins σ Q) X.xe s := fun e rd => by
    subst e
    exact repr_of_reads' rd h1 (fun z => absurd z (by rw [h2]; decide)) hr.g (by have := hr.un; omega) (fun _ _ e => e) (fun h' u tk hk => ⟨.str d.shown, H, I.kept hk, ⟨_, rfl⟩, q⟩) h4
  obtain ⟨as, rd⟩ := Dp.reads I d v w hd rv
  cases hd with
  | non =>
    cases (show w = .none from rv)
    exact PySem.P.repr_of_none ⟨.str _, H, I.tok _, ⟨_, rfl⟩, q⟩
  | bl b =>
    cases (show w = .bool b from rv)
    exact PySem.P.repr_of_bool ⟨.str _, H, I.tok _, ⟨_, rfl⟩, q⟩
  | int i =>
    obtain ⟨t, rfl⟩ := rv
    exact PySem.P.repr_of_int (by simpa [PyData.showable] using h1) ⟨.str _, H, I.tok _, ⟨_, rfl⟩, q⟩
  | str x =>
    obtain ⟨t, rfl⟩ := rv
    exact PySem.P.repr_of_str ⟨.str _, H, I.tok _, ⟨_, rfl⟩, q⟩ h4
  | lst hs ha => cases (show w = .ref _ from rv); exact big rfl rd
  | tup hs ha => cases (show w = .ref _ from rv); exact big rfl rd
theorem cr_repr {k : Nat} (hr : RoomG k X.A) : CallR X (.builtin "repr") (rRepr X.K) := cr_reprU hr.low
@[irreducible] def c3Repr : List D → MH → Q3 → Prop := fun ds M Q => ∃ d p, ds = [d] ∧ Py M d p ∧ Shw p ∧ Q (.str p.shown) M
theorem repr_is {M : MH} {Q : Q3} {d : D} {p : PyData} (h : Py M d p) (s : Shw p) (q : Q (.str p.shown) M) : c3Repr [d] M Q := by
  unfold c3Repr
  exact ⟨d, p, rfl, h, s, q⟩
theorem cl_repr : CallL K (rRepr K) c3Repr := by
  intro ds vs H M Q Q2 r a q g
  unfold c3Repr at q
  obtain ⟨d, p, rfl, hp, s, q⟩ := q
  obtain ⟨v, rfl, rr⟩ := one_inv r
  exact ⟨v, p, rfl, Py.dp a p d v hp rr, s, g _ _ H M (Tps.refl H) a Rv.str q⟩
theorem boot_repr' : bootBuiltins "repr" = some (.builtin "repr") := by decide +kernel
theorem d_repr {k : Nat} (hr : RoomG k X.A) (hm : X.mg "repr" = none) (ha : DA X [e] u) (hg : Gl X "repr" := by rfl) (he : starEach (e :: []) X.env = (false, eval e X.env) :: starEach [] X.env := by rfl) (hpl : (backTo pos (starEach [] X.env)).any (·.1) = false := by rfl) : DE X (.Call (.Name "repr" p) [e] [] pos) (e3CB c3Repr u) :=
  d_cb (cr_repr hr) cl_repr hg hm boot_repr' ha (by decide) (by decide) he hpl
mutual
def smallP : PyData → Bool
  | .none | .bool _ => true
  | .int i => decide (i.natAbs < 1000000000)
  | .str x => x.cps.toList.all fun c => decide (c < 16 ^ 8)
  | .list xs | .tuple xs => smallPs xs
  | .dict _ => false
def smallPs : List PyData → Bool
  | [] => true
  | x :: xs => smallP x && smallPs xs
end
mutual
theorem small_show : ∀ p : PyData, smallP p = true → p.showable = true ∧ p.hasDict = false ∧ p.leavesShort 10 = true
  | .none, _ => ⟨rfl, rfl, rfl⟩
  | .bool _, _ => ⟨rfl, rfl, rfl⟩
  | .int i, h => by
    have h' : i.natAbs < 1000000000 := by simpa [smallP] using h
    refine ⟨?_, by simp [PyData.hasDict], ?_⟩
    · simp only [PyData.showable, decide_eq_true_eq]
      have : i.natAbs.log2 < 30 := by
        by_cases h0 : i.natAbs = 0
        · rw [h0]; decide
        · exact (Nat.log2_lt h0).mpr (by omega)
      omega
    · simp only [PyData.leavesShort, decide_eq_true_eq]
      have e2 : (PyData.int i).shown.length = (toString i).length := by
        show (Str.ofString (toString i)).length = _
        exact PySem.ofString_length _
      rw [e2]
      exact int_text_length_le10 (k := 9) (by decide) h'
  | .str x, h => ⟨by simp [PyData.showable], by simp [PyData.hasDict], by simpa only [PyData.leavesShort, smallP] using h⟩
  | .list xs, h => by
    obtain ⟨a, b, c⟩ := smalls_show xs (by simpa [smallP] using h)
    exact ⟨by simpa [PyData.showable] using a, by simpa [PyData.hasDict] using b, by simpa [PyData.leavesShort] using c⟩
  | .tuple xs, h => by
    obtain ⟨a, b, c⟩ := smalls_show xs (by simpa [smallP] using h)
    exact ⟨by simpa [PyData.showable] using a, by simpa [PyData.hasDict] using b, by simpa [PyData.leavesShort] using c⟩
  | .dict _, h => by simp [smallP] at h
theorem smalls_show : ∀ ps : List PyData, smallPs ps = true → PyData.showableAll ps = true ∧ PyData.hasDictAll ps = false ∧ PyData.leavesShortAll 10 ps = true
  | [], _ => by simp [PyData.showableAll, PyData.hasDictAll, PyData.leavesShortAll]
  | x :: xs, h => by
    have h' : smallP x = true ∧ smallPs xs = true := by simpa [smallPs] using h
    obtain ⟨a, b, c⟩ := small_show x h'.1
    obtain ⟨a', b', c'⟩ := smalls_show xs h'.2
    simp [PyData.showableAll, PyData.hasDictAll, PyData.leavesShortAll, a, b, c, a', b', c']
end
theorem shw_of {p : PyData} (h : smallP p = true) (hd : p.depth ≤ 100) (hw : p.weight ≤ 2 ^ 20) : Shw p := by
  obtain ⟨a, b, c⟩ := small_show p h
  exact ⟨a, b, hd, PyData.shown_fits (B := 10) (by decide) (by decide) c hw⟩
/-! ### values without lists -/
mutual
def pyOf : D → PyData
  | .bl b => .bool b
  | .int i => .int i
  | .str x => .str x
  | .tup ds => .tuple (pysOf ds)
  | _ => .none
def pysOf : List D → List PyData
  | [] => []
  | d :: ds => pyOf d :: pysOf ds
end
mutual
def pureD : D → Bool
  | .non | .bl _ | .int _ | .str _ => true
  | .tup ds => pureDs ds
  | _ => false
def pureDs : List D → Bool
  | [] => true
  | d :: ds => pureD d && pureDs ds
end
mutual
theorem py_of {M : MH} : ∀ d : D, pureD d = true → Py M d (pyOf d)
  | .non, _ => by unfold pyOf; exact .non
  | .bl b, _ => by unfold pyOf; exact .bl b
  | .int i, _ => by unfold pyOf; exact .int i
  | .str x, _ => by unfold pyOf; exact .str x
  | .tup ds, h => by unfold pyOf; exact .tup (pys_of ds (by simpa [pureD] using h))
  | .ref _, h => by simp [pureD] at h
  | .ty _, h => by simp [pureD] at h
theorem pys_of {M : MH} : ∀ ds : List D, pureDs ds = true → Pys M ds (pysOf ds)
  | [], _ => by unfold pysOf; exact .nil
  | d :: ds, h => by
    have h' : pureD d = true ∧ pureDs ds = true := by simpa [pureDs] using h
    unfold pysOf
    exact .cons (py_of d h'.1) (pys_of ds h'.2)
end
end
end L3

namespace L3
open PySem PySem.Spec PyProof.Rows L2
/-! ### data that may be shown: by depth and weight -/
structure Fit (k w : Nat) (d : D) : Prop where
  pu : pureD d = true
  sm : smallP (pyOf d) = true
  dp : (pyOf d).depth ≤ k
  wt : (pyOf d).weight ≤ w
theorem Fit.mono {k w k' w' : Nat} {d : D} (h : Fit k w d) (hk : k ≤ k') (hw : w ≤ w') : Fit k' w' d := ⟨h.pu, h.sm, Nat.le_trans h.dp hk, Nat.le_trans h.wt hw⟩
theorem fit_non {k w : Nat} : Fit k w .non := ⟨rfl, rfl, by simp [pyOf, PyData.depth], by simp [pyOf, PyData.weight]⟩
theorem fit_bl {k w : Nat} {b : Bool} : Fit k w (.bl b) := ⟨rfl, rfl, by simp [pyOf, PyData.depth], by simp [pyOf, PyData.weight]⟩
theorem fit_int {k w : Nat} {i : Int} (h : i.natAbs < 1000000000) (hw : 30 ≤ w) : Fit k w (.int i) := by
  refine ⟨rfl, by simpa [pyOf, smallP] using h, by simp [pyOf, PyData.depth], ?_⟩
  simp only [pyOf, PyData.weight]
  split
  · exact Nat.zero_le _
  · rename_i h0
    have h0' : i.natAbs ≠ 0 := by
      intro z
      exact h0 (by simpa using Int.natAbs_eq_zero.mp z)
    have := (Nat.log2_lt h0' (k := 30)).mpr (by omega)
    omega
theorem smalls_all : ∀ {ds : List D}, (∀ x ∈ ds, smallP (pyOf x) = true) → smallPs (pysOf ds) = true
  | [], _ => by simp [pysOf, smallPs]
  | d :: ds, h => by
    simp only [pysOf, smallPs, Bool.and_eq_true]
    exact ⟨h d List.mem_cons_self, smalls_all fun x hx => h x (List.mem_cons_of_mem _ hx)⟩
theorem pures_all : ∀ {ds : List D}, (∀ x ∈ ds, pureD x = true) → pureDs ds = true
  | [], _ => by simp [pureDs]
  | d :: ds, h => by
    simp only [pureDs, Bool.and_eq_true]
    exact ⟨h d List.mem_cons_self, pures_all fun x hx => h x (List.mem_cons_of_mem _ hx)⟩
theorem depths_all {k : Nat} : ∀ {ds : List D}, (∀ x ∈ ds, (pyOf x).depth ≤ k) → PyData.depthAll (pysOf ds) ≤ k
  | [], _ => by simp [pysOf, PyData.depthAll]
  | d :: ds, h => by
    have h1 := h d List.mem_cons_self
    have h2 := depths_all (k := k) fun x hx => h x (List.mem_cons_of_mem d hx)
    simp only [pysOf, PyData.depthAll]
    omega
theorem weights_all {w : Nat} : ∀ {ds : List D}, (∀ x ∈ ds, (pyOf x).weight ≤ w) → PyData.weightAll (pysOf ds) ≤ ds.length * (w + 1)
  | [], _ => by simp [pysOf, PyData.weightAll]
  | d :: ds, h => by
    have h1 := h d List.mem_cons_self
    have h2 := weights_all (w := w) fun x hx => h x (List.mem_cons_of_mem d hx)
    simp only [pysOf, PyData.weightAll, List.length_cons]
    have : (ds.length + 1) * (w + 1) = ds.length * (w + 1) + (w + 1) := by rw [Nat.add_mul, Nat.one_mul]
    omega
theorem fit_tup {k w n : Nat} {ds : List D} (h : ∀ x ∈ ds, Fit k w x) (hl : ds.length ≤ n) {w' : Nat} (hw : n * (w + 1) ≤ w') {k' : Nat} (hk : k + 1 ≤ k') : Fit k' w' (.tup ds) := by
  refine ⟨?_, ?_, ?_, ?_⟩
  · simp only [pureD]; exact pures_all fun x hx => (h x hx).pu
  · simp only [pyOf, smallP]; exact smalls_all fun x hx => (h x hx).sm
  · have := depths_all (k := k) fun x hx => (h x hx).dp
    simp only [pyOf, PyData.depth]
    omega
  · have h1 := weights_all (w := w) fun x hx => (h x hx).wt
    have h2 : ds.length * (w + 1) ≤ n * (w + 1) := Nat.mul_le_mul_right _ hl
    simp only [pyOf, PyData.weight]
    omega
theorem fit_row {n : Nat} {r : List Int} (h : ∀ x ∈ r, x.natAbs < 1000000000) (hl : r.length ≤ n) : Fit 1 (n * 31) (rowD r) := by
  refine fit_tup (k := 0) (w := 30) (n := n) (fun x hx => ?_) (by simpa using hl) (Nat.le_refl _) (Nat.le_refl _)
  obtain ⟨i, hi, rfl⟩ := List.mem_map.mp hx
  exact fit_int (h i hi) (Nat.le_refl _)
theorem repr_fit {M : MH} {Q : Q3} {d : D} {k w : Nat} (h : Fit k w d) (q : Q (.str (pyOf d).shown) M) (hk : k ≤ 100 := by decide) (hw : w ≤ 1048576 := by decide) : c3Repr [d] M Q :=
  repr_is (py_of d h.pu) (shw_of h.sm (Nat.le_trans h.dp hk) (Nat.le_trans h.wt hw)) q
/-! ### the hand, exactly -/
structure HandD (M : MH) (h d : Addr) (n : Int) : Prop where
  own : M h = some (.lst [.ref d, .int n])
  ne : d ≠ h
  n0 : 0 ≤ n
  ex : ∃ xs : List Int, M d = some (.lst (xs.map D.int)) ∧ ∀ x ∈ xs, (0 : Int) ≤ x
def setH (M : MH) (h d : Addr) (n : Int) : MH := updM M h (.lst [.ref d, .int n])
section
variable {M M' : MH} {h d p : Addr} {n m : Int} {o : MO}
theorem setH_at : setH M h d n h = some (.lst [.ref d, .int n]) := updM_same
theorem setH_ne {b : Addr} (e : b ≠ h) : setH M h d n b = M b := updM_ne e
theorem setH_setH : setH (setH M h d n) h d m = setH M h d m := updM_updM
theorem HandD.self (z : HandD M h d n) : setH M h d n = M := by
  funext b
  by_cases e : b = h
  · subst e; rw [setH_at, z.own]
  · exact setH_ne e
theorem HandD.set (z : HandD M h d n) (m0 : 0 ≤ m) : HandD (setH M h d m) h d m := ⟨setH_at, z.ne, m0, by
  obtain ⟨xs, e, q⟩ := z.ex
  exact ⟨xs, (setH_ne z.ne).trans e, q⟩⟩
theorem HandD.sub (z : HandD M h d n) (s : Sub M M') : HandD M' h d n := ⟨s _ _ z.own, z.ne, z.n0, by
  obtain ⟨xs, e, q⟩ := z.ex
  exact ⟨xs, s _ _ e, q⟩⟩
/-- the hand goes on, beside what was made -/
theorem subH (s : Sub (setH M h d n) M') : Sub (setH M h d m) (setH M' h d m) := fun b u e => by
  by_cases hb : b = h
  · subst hb
    rw [setH_at] at e ⊢
    exact e
  · rw [setH_ne hb] at e ⊢
    exact s b u ((setH_ne hb).trans e)
theorem HandD.at_ (z : HandD M h d n) (s : Sub (setH M h d m) M') (m0 : 0 ≤ m) : HandD M' h d m := (z.set m0).sub s
theorem HandD.start (z : HandD M h d n) : Sub (setH M h d n) M := by rw [z.self]; exact Sub.refl M
theorem free_h (s : Sub (setH M h d n) M') (np : M' p = none) : p ≠ h := by
  intro e
  subst e
  rw [s _ _ setH_at] at np
  cases np
theorem free_old (s : Sub (setH M h d n) M') (np : M' p = none) : M p = none := by
  have e := s.free np
  rwa [setH_ne (free_h s np)] at e
end
def spTakeD : Sp3 := fun ds M Q _ => ∃ (h d : Addr) (n m : Int), ds = [.ref h, .int m] ∧ HandD M h d n ∧ 0 < m ∧ ∀ v, 0 ≤ v → v < m → Q (.int v) (setH M h d (n + 1))
theorem rdTakeD : Rd3 NTake tTake spTakeD := by
  rintro ds M Q E ⟨h, d, n, m, rfl, z, hm, q⟩
  obtain ⟨xs, hd, hx⟩ := z.ex
  refine ⟨_, .int n, .inl z.own, rfl, _, 1, z.own, rfl, _, .ref d, .inl updM_same, rfl, ?_⟩
  have hd' : (updM M h (.lst [.ref d, .int (n + 1)])) d = some (.lst (xs.map D.int)) := (updM_ne z.ne).trans hd
  refine ⟨_, .inl hd', fun e => ?_, fun e => ?_⟩
  · exact ⟨_, Sub.refl _, q 0 (Int.le_refl _) hm⟩
  · have e' := of_decide_eq_false e
    rw [List.length_map] at e'
    obtain ⟨x, hxm, hat, _⟩ := at_ints (xs := xs) z.n0 (by omega)
    exact ⟨_, _, .inl hd', hat, ⟨by decide, by decide⟩, hm, ⟨_, Sub.refl _, q _ (Int.emod_nonneg _ (by omega)) (Int.emod_lt_of_pos _ hm)⟩⟩
/-- hand = [draws, 0] -/
theorem hand_new {M : MH} {d h : Addr} {xs : List Int} (nd : M d = none) (hx : ∀ x ∈ xs, (0 : Int) ≤ x) (nh : updM M d (.lst (xs.map D.int)) h = none) : HandD (updM (updM M d (.lst (xs.map D.int))) h (.lst [.ref d, .int 0])) h d 0 := by
  have ne : d ≠ h := by
    intro e
    subst e
    rw [updM_same] at nh
    cases nh
  exact ⟨updM_same, ne, Int.le_refl _, xs, (updM_ne ne).trans updM_same, hx⟩
/-! ### order = [k for k in range(many)], with drawn exchanges -/
def rngI (n : Nat) : List Int := (List.range n).map fun k : Nat => (k : Int)
theorem rngI_D (n : Nat) : rngD 0 n = (rngI n).map D.int := by
  unfold rngD rngI
  rw [List.map_map]
  exact List.map_congr_left fun i _ => by
    show D.int (0 + (i : Int)) = _
    rw [Int.zero_add]; rfl
theorem rngI_length {n : Nat} : (rngI n).length = n := by unfold rngI; simp
theorem mem_rngI {n : Nat} {x : Int} : x ∈ rngI n ↔ 0 ≤ x ∧ x < n := by
  unfold rngI
  rw [List.mem_map]
  constructor
  · rintro ⟨k, hk, rfl⟩
    have := List.mem_range.mp hk
    omega
  · rintro ⟨h0, h1⟩
    obtain ⟨k, rfl⟩ := Int.eq_ofNat_of_zero_le h0
    exact ⟨k, List.mem_range.mpr (by omega), rfl⟩
/-- an order of 0 .. m - 1 -/
def Ord (m : Nat) (l : List Int) : Prop := l.Perm (rngI m)
theorem Ord.len {m : Nat} {l : List Int} (h : Ord m l) : l.length = m := h.length_eq.trans rngI_length
theorem Ord.mem {m : Nat} {l : List Int} (h : Ord m l) {x : Int} : x ∈ l ↔ 0 ≤ x ∧ x < m := h.mem_iff.trans mem_rngI
theorem Ord.swap {m : Nat} {l : List Int} (h : Ord m l) {i j : Nat} (hi : i < l.length) (hj : j < l.length) : Ord m ((l.set i l[j]).set j l[i]) := (List.set_set_perm hi hj).trans h
def tOrder (sp : Sp3) : S3 :=
    (s3Seq (s3Asg (e3Lc (i3Rng1 (a3Cons (e3Var 1) a3Nil)) 3 t3Yes (e3Var 3) [3]) 2)
    (s3Seq (s3For (i3Rng1 (a3Cons (e3Var 1) a3Nil)) (g3Name 3) (s3Seq (s3Asg (e3Call sp (a3Cons (e3Var 0) (a3Cons (e3Var 1) a3Nil))) 4)
    (s3Seq (s3Asg (e3Op r3Ix (e3Var 2) (e3Var 3)) 5)
    (s3Seq (s3AsgG (e3Op r3Ix (e3Var 2) (e3Var 4)) (g3SubL (e3Var 2) (e3Var 3)))
    (s3AsgG (e3Var 5) (g3SubL (e3Var 2) (e3Var 4)))))))
    (s3Ret (e3TupOf (e3Var 2)))))
abbrev NOrder : List Str := ["hand", "many", "order", "k", "at", "kept"]
def spOrder : Sp3 := fun ds M Q _ => ∃ (h d : Addr) (n : Int) (m : Nat), ds = [.ref h, .int (m : Int)] ∧ HandD M h d n ∧ 1 ≤ m ∧ m ≤ 100000 ∧ ∀ l n', Ord m l → 0 ≤ n' → Q (rowD l) (setH M h d n')
theorem ixN_nat {n i : Nat} (h : i < n) : ixN n (i : Int) = some i := by
  unfold ixN
  rw [if_pos (by omega), if_pos (by omega)]
  simp
theorem get_map {l : List Int} {i : Nat} (h : i < l.length) : (l.map D.int)[i]? = some (.int l[i]) := by
  rw [List.getElem?_map, List.getElem?_eq_getElem h]; rfl
theorem rdOrder : Rd3 NOrder (tOrder spTakeD) spOrder := by
  rintro ds M Q E ⟨h, d, n, m, rfl, z, m1, m2, q⟩
  refine ⟨by omega, by omega, fun p np => lcMap id np (fun _ _ => trivial) (fun k x M' R hd s k2 => k2 M' (Sub.refl _)) (szLt (by rw [rngD_length]; omega)) fun M1 s1 h1 => ?_⟩
  rw [List.map_id, Int.toNat_natCast, rngI_D] at h1
  refine ⟨by omega, by omega, fun i env' M' => ∃ (s3 s4 s5 : Option D) (l : List Int) (n' : Int), env' = [some (.ref h), some (.int m), some (.ref p), s3, s4, s5] ∧ 0 ≤ n' ∧ Sub (setH M h d n') M' ∧ M' p = some (.lst (l.map D.int)) ∧ Ord m l, ?_, ?_, ?_⟩
  · exact ⟨_, _, _, rngI m, n, rfl, z.n0, by rw [z.self]; exact s1, h1, List.Perm.refl _⟩
  · rintro i x env' M' hd ⟨s3, s4, s5, l, n', rfl, n0, sub, hp, ord⟩
    obtain ⟨hi, rfl⟩ := rngD_get hd
    rw [Int.toNat_natCast] at hi
    rw [Int.zero_add]
    have hne : p ≠ h := by
      intro e
      subst e
      rw [sub _ _ setH_at] at hp
      injection hp with hp
      injection hp with hp
      have := ord.len
      match l, hp with
      | [a, b], hp => cases hp
    refine ⟨trivial, h, d, n', m, rfl, z.at_ sub n0, by omega, fun v v0 v1 => ?_⟩
    obtain ⟨j, rfl⟩ := Int.eq_ofNat_of_zero_le v0
    have hi' : i < l.length := by rw [ord.len]; exact hi
    have hj' : j < l.length := by rw [ord.len]; omega
    have hp2 : setH M' h d (n' + 1) p = some (.lst (l.map D.int)) := (setH_ne hne).trans hp
    refine ⟨_, _, .inl hp2, atI_nat (get_map hi'), _, _, .inl hp2, atI_nat (get_map hj'), _, i, hp2, by rw [List.length_map]; exact ixN_nat hi', ?_⟩
    rw [← List.map_set]
    refine ⟨_, j, updM_same, by rw [List.length_map, List.length_set]; exact ixN_nat hj', ?_⟩
    rw [← List.map_set, updM_updM]
    refine ⟨_, _, _, _, n' + 1, rfl, by omega, ?_, updM_same, ord.swap hi' hj'⟩
    refine Sub.new (subH sub) ?_
    rw [setH_ne hne]
    exact np
  · rintro env' M' ⟨s3, s4, s5, l, n', rfl, n0, sub, hp, ord⟩
    exact ⟨trivial, _, .inl hp, _, sub, q l n' ord n0⟩
/-- a comprehension whose items are drawn -/
theorem lcHand {ds : List D} {i : Nat} {te : E3} {env : En} {p h d : Addr} {M M1 : MH} {n : Int} {Q : MH → Prop} (P : D → Prop) (sub0 : Sub (setH M h d n) M1) (n0 : 0 ≤ n) (np : M1 p = none)
    (he : ∀ (k : Nat) (x : D) (M' : MH) (n' : Int) (R : Q3), ds[k]? = some x → 0 ≤ n' → Sub (setH M h d n') M' → (∀ y n2, P y → 0 ≤ n2 → R y (setH M' h d n2)) → te W0 (env.set i (some x)) M' R) (hsz : ds.length < sizeLine)
    (hq : ∀ (acc : List D) (M' : MH) (n' : Int), acc.length = ds.length → (∀ y ∈ acc, P y) → 0 ≤ n' → Sub (setH M h d n') M' → M' p = some (.lst acc) → Q M') : LoopC ds True3 i t3Yes te env p M1 Q := by
  have ph : p ≠ h := free_h sub0 np
  have mp : M p = none := free_old sub0 np
  refine ⟨fun k acc M' => acc.length = k ∧ (∀ y ∈ acc, P y) ∧ k ≤ ds.length ∧ ∃ n', 0 ≤ n' ∧ Sub (setH M h d n') M', ⟨rfl, by simp, Nat.zero_le _, n, n0, sub0.new (sub0.free np)⟩, ?_, ?_⟩
  · rintro k x acc M' hx ⟨rfl, hp, hk, n', n0', sub⟩ hM
    have hlt : acc.length < ds.length := (List.getElem?_eq_some_iff.mp hx).1
    refine ⟨trivial, Br.tt (he acc.length x M' n' _ hx n0' sub fun y n2 py n20 => ⟨acc, (setH_ne ph).trans hM, Nat.lt_trans hlt hsz, by simp, fun z hz => ?_, hlt, n2, n20, Sub.new (subH sub) (by rw [setH_ne ph]; exact mp)⟩)⟩
    rcases List.mem_append.mp hz with hz | hz
    · exact hp z hz
    · rw [List.mem_singleton] at hz
      rw [hz]; exact py
  · rintro acc M' ⟨hl, hp, _, n', n0', sub⟩ hM
    exact ⟨trivial, hq acc M' n' hl hp n0' sub hM⟩
end L3

namespace L3
open PySem PySem.Spec PyProof.Rows L2
section
variable {X : Cx} {e a b c o : Expr} {es : List Expr} {pos p : Pos} {t ta tb tc to te : E3} {u : A3} {K : Fg} {st : Stmt} {sts body : List Stmt} {s1 s2 : S3} {tA tB : T3}
/-! ### while -/
def s3While (tt : T3) (tb : S3) : S3 := fun W D env M => ∃ Inv : Nat → En → MH → Prop, (∃ n, Inv n env M) ∧ ∀ n env' M', Inv n env' M' → tt W env' M' fun b M2 => Br b
  (tb W { nx := fun e2 M3 => ∃ n', n' < n ∧ Inv n' e2 M3, rt := D.rt, bk := D.nx, ct := fun e2 M3 => ∃ n', n' < n ∧ Inv n' e2 M3 } env' M2) (D.nx env' M2)
theorem ds_while (hc : DT X c tA) (hb : DSs X body s1) : DS X (.While c body [] pos) (s3While tA s1) := fun W2 tk hp => (ps_while hp (hc W2 tk) (hb W2 tk hp)).imp fun D2 σ H ⟨env, M, W, D3, s, a, l, ⟨Iv, ⟨n0, i0⟩, turn⟩, le⟩ => by
  refine ⟨fun n σ' H' => ∃ env' M', Tps H H' ∧ SE X.K H' σ' env' ∧ Abs X.K M' H' ∧ Iv n env' M', ⟨n0, env, M, Tps.refl H, s, a, i0⟩, ?_⟩
  rintro n σ' H' ⟨env', M', t', s', a', i'⟩
  refine ⟨env', M', W, _, s', a', l.mono t', turn n env' M' i', fun b H1 M1 t1 a1 q1 => ?_⟩
  have tt := t'.trans t1
  cases b with
  | true =>
    show if true = true then _ else _
    rw [if_pos rfl]
    have back : Nxt X.K H1 (fun e2 M3 => ∃ n', n' < n ∧ Iv n' e2 M3) fun σ2 H2 => ∃ n', n' < n ∧ ∃ env2 M2, Tps H H2 ∧ SE X.K H2 σ2 env2 ∧ Abs X.K M2 H2 ∧ Iv n' env2 M2 := fun σ2 H2 env2 M2 t2 s2 a2 ⟨n', hn, i2⟩ => ⟨n', hn, env2, M2, tt.trans t2, s2, a2, i2⟩
    exact ⟨fun σ2 H2 => ∃ n', n' < n ∧ ∃ env2 M2, Tps H H2 ∧ SE X.K H2 σ2 env2 ∧ Abs X.K M2 H2 ∧ Iv n' env2 M2, fun _ _ z => z, env', M1, W, _, s'.mono t1, a1, l.mono tt, q1.1 rfl, ⟨back, le.rt.mono tt, le.nx.mono tt, back⟩⟩
  | false =>
    show if false = true then _ else _
    rw [if_neg Bool.false_ne_true]
    exact le.nx σ' H1 env' M1 tt (s'.mono t1) a1 (q1.2 rfl)
/-! ### enumerate of a tuple -/
def IteT (K : Fg) (a : Addr) : It :=
  ⟨fun i H => ∃ (xs : List V) (x : V), SqT K H a xs ∧ xs[i]? = some x, fun i H v H' => ∃ T x o, v = .ref T ∧ H T = none ∧ o.dict = none ∧ H' = upd H T (.frz o (.tup [.int (i : Nat), x])) ∧ ∀ xs, SqT K H a xs → xs[i]? = some x, fun i H => ∃ xs : List V, SqT K H a xs ∧ xs.length = i⟩
theorem turn_enumT {P : Program} {w : World} {K : Fg} {elts : List Expr} {kk : Nat} {tpos : Pos} (a e it : Addr) (n1 : e ≠ it) (n2 : a ≠ it) (n3 : e ≠ a) :
    Turn P w K (.Tuple elts kk tpos) (IteT K a) [e, it] e (fun i h => (∃ old, IsEnum h e it ((i : Nat) : Int) old) ∧ h.IsTupleIter it a i) where
  mem := List.mem_cons_self
  obj := fun i h ⟨⟨old, he⟩, o, ho, hc, hd⟩ b hb => by
    rcases List.mem_cons.mp hb with rfl | hb
    · exact ⟨_, he, fun v q => nomatch q⟩
    · rw [List.mem_singleton.mp hb]
      exact ⟨o, ho, fun v q => by rw [hd] at q; cases q⟩
  keep := fun i h h' ⟨⟨old, he⟩, hi⟩ k => ⟨⟨old, k e (by simp) _ he⟩, hi.at fun o q => k it (by simp) o q⟩
  item := by
    rintro X rfl rfl rfl hc i pins s σ H E I hf ⟨⟨old, he⟩, hit⟩ ⟨xs, x, hq, hx⟩
    obtain ⟨its, rv, p, hz⟩ := I.tuple hq
    obtain ⟨u, hu, ru⟩ := rv.get hx
    have small : ∀ b ∈ [e, it], b < s.heap.objs.size := fun b hb => by
      rcases List.mem_cons.mp hb with rfl | hb
      · exact Heap.lt_size he
      · rw [List.mem_singleton.mp hb]
        obtain ⟨_, q, _⟩ := hit
        exact Heap.lt_size q
    have hlt : i < its.toArray.size := by simpa using (List.getElem?_eq_some_iff.mp hu).1
    refine wpAny_pyNext_enum_itemD (Draws.tuple (A := X.A.in1) (I.ok.hd hc) it a n2 its.toArray) he ⟨hit, p⟩ hlt n1 (by simp [n1, n3]) fun y h1 tk hy out ⟨hit1, _⟩ hT hsz hk => ?_
    have hyu : y = u := by
      have e1 : its[i]? = some y := by simpa using hy
      rw [hu] at e1
      cases e1
      rfl
    subst hyu
    refine ⟨_, rfl, wpAny_letOwnedTupleGo_enum (s := { s with heap := h1, toks := tk + 1 }) out fun h2 he2 sb => ?_⟩
    have hT2 : h2.get? s.heap.objs.size = some { cls := .type "tuple", data := .seq #[.int i tk, y] } := (sb.2 _ (Nat.ne_of_gt (small e (by simp)))).trans hT
    have I1 : Inv X pins σ (upd H s.heap.objs.size (.frz { cls := .type "tuple", data := .seq #[.int i tk, y] } (.tup [.int (i : Nat), x]))) { s with heap := h2, toks := tk + 1 } :=
      I.turnedNew (ch := [e, it]) (fun b ob hb q => (sb.2 b (fun z => hb (by simp [z]))).trans (hk b ob (fun z => hb (by simp [z])) (fun z => hb (by simp [z])) q)) hf (Nat.le_refl _)
        ⟨hT2, by show 2 ≤ sizeLine; decide, [.int i tk, y], .cons ⟨_, rfl⟩ (.cons ru .nil), ⟨_, hT2, rfl, _, rfl⟩⟩
    refine ⟨.ref s.heap.objs.size, _, I1, rfl, ⟨_, x, _, rfl, I.hok.fresh (Nat.le_refl _), rfl, rfl, fun ys hy => by rw [I.tuple_inj hy hq]; exact hx⟩, ⟨⟨y, by rw [show ((i + 1 : Nat) : Int) = (i : Int) + 1 by omega]; exact he2⟩, hit1.at fun o q => (sb.2 it (Ne.symm n1)).trans q⟩, fun b hb => ?_⟩
    rw [upd_ne (Nat.ne_of_lt (small b hb))]
    exact (hf b hb).1
  done := by
    rintro X rfl rfl rfl hc i pins s σ H E I hf ⟨⟨old, he⟩, hit⟩ ⟨xs, hq, rfl⟩
    obtain ⟨its, rv, p, hz⟩ := I.tuple hq
    obtain ⟨f0, f1, f2, f3, f4, f5⟩ := hf it (by simp)
    have hl : its.toArray.size = xs.length := List.size_toArray.trans rv.length.symm
    exact wpAny_pyNext_enum_endD (Draws.tuple (A := X.A.in1) (I.ok.hd hc) it a n2 its.toArray) he (by rw [hl]; exact ⟨hit, p⟩) fun h' eb => ⟨rfl, I.turned (t' := s.toks) (fun b o hb q => eb b o hb q) f0 f1 f3 f4 f5⟩
  self := fun A i s Q E ⟨⟨_, he⟩, _⟩ h => wpAny_pyIter_enum he h
open AutoSeq1 (wpAny_loadPart') in
theorem meets_enumT (l : Addr) (items : Array Value) (n : Nat) (dct : Option Addr) (sl : Array (Option Value)) :
    Meets (Builtin.«enumerate.__new__» ⟨[.type "enumerate", .ref l], []⟩) (fun _ R s => s.heap.get? l = some { cls := .type "tuple", dict := dct, data := .seq items n, slots := sl } ∧
      R (.ok (.ret (.ref (s.heap.push { cls := .type "tuple_iterator", data := .fields #[.ref l, .int 0 0] }).objs.size)))
        { s with heap := (s.heap.push { cls := .type "tuple_iterator", data := .fields #[.ref l, .int 0 0] }).push { cls := .type "enumerate", data := .fields #[.none, .bool false, .ref s.heap.objs.size, rawInt 0, .none, .none] } }) :=
  .of_wp fun prog w A R s ⟨hl, h⟩ => by
    obtain ⟨hp, g, d, tk, os⟩ := s
    have hsub := sub_enumerate
    have hT : Heap.IsTuple (Shared.heap ⟨hp, g, d, tk, os⟩) l items := ⟨_, hl, rfl, n, rfl⟩
    wp_walk using wpAny_loadPart' hl
    refine wpAny_stack_any fun st => wpAny_pure ?_
    split
    · rename_i c _ _ _ _ _
      cases (c == Value.type "enumerate") <;> (wp_walk using wpAny_loadPart' hl, wpAny_pyIter_tuple hT; exact ⟨_, rfl, h⟩)
    · wp_walk using wpAny_loadPart' hl, wpAny_pyIter_tuple hT
      exact ⟨_, rfl, h⟩
theorem call_enumT {prog : Program} {w : World} {A : Around} {E : Value → Shared → Prop} {s : Shared} {l : Addr} {items : Array Value} {Q : Value → Shared → Prop} (hL : s.heap.IsTuple l items)
    (h : ∀ h', IsEnum h' (s.heap.objs.size + 1) s.heap.objs.size 0 .none → h'.IsTupleIter s.heap.objs.size l 0 → (∀ b o, s.heap.get? b = some o → h'.get? b = some o) → Q (.ref (s.heap.objs.size + 1)) { s with heap := h' }) :
    wpAny (model prog w) A (call (.type "enumerate") [.ref l]) Q E s := by
  obtain ⟨⟨c, dct, dt, sl⟩, hl, hc, n, hd⟩ := hL
  cases (show c = .type "tuple" from hc)
  cases (show dt = .seq items n from hd)
  have two : ((s.heap.push { cls := .type "tuple_iterator", data := .fields #[.ref l, .int 0 0] }).push { cls := .type "enumerate", data := .fields #[.none, .bool false, .ref s.heap.objs.size, rawInt 0, .none, .none] }).get? (s.heap.objs.size + 1) =
      some { cls := .type "enumerate", data := .fields #[.none, .bool false, .ref s.heap.objs.size, rawInt 0, .none, .none] } := by
    have z := Heap.get?_push_size (s.heap.push { cls := .type "tuple_iterator", data := .fields #[.ref l, .int 0 0] }) (o := { cls := .type "enumerate", data := .fields #[.none, .bool false, .ref s.heap.objs.size, rawInt 0, .none, .none] }) rfl
    rw [Heap.size_push] at z
    exact z
  refine callType_new PySem.F.called_enumerate (by decide) (PySem.F.typeCall_enumerate_1 _) (PySem.F.newCall_enumerate_1 _) (fun obj => PySem.F.args_object_init_2 obj _) PySem.F.entry_enumerate_new (meets_enumT l items n dct sl) ⟨hl, ?_⟩
  rw [Heap.size_push]
  exact ⟨⟨_, two, rfl⟩, h _ two ⟨_, Heap.get?_push_of_some _ (Heap.get?_push_size _ rfl), rfl, rfl⟩ fun b o x => Heap.get?_push_of_some _ (Heap.get?_push_of_some _ x)⟩
def iEnumT (K : Fg) (ta : TA) : TI := fun σ H R => ta σ H fun vs H1 => ∃ a xs, vs = [.ref a] ∧ SqT K H1 a xs ∧ R (IteT K a) H1
theorem pi_enumT {ta : TA} {tpos : Pos} {elts : List Expr} {kk : Nat} (hg : Gl X "enumerate") (hm : X.mg "enumerate" = none) (ha : PA X [e] ta) (hs : starEach [e] X.env = [(false, eval e X.env)]) :
    PI X (.Tuple elts kk tpos) (.Call (.Name "enumerate" p) [e] [] pos) (iEnumT X.K ta) :=
  ⟨fun pins s σ H R I h => Call_ (ld_blt I hg hm boot_enumerate (PyProof.Rows.callWith_type1 (thn (ha.run pos pins s σ H _ I h) fun us s1 ⟨vs, H1, I1, r1, a, xs, ex, hq, q⟩ => by
    subst ex
    obtain ⟨v, rfl, rv⟩ := vals1 r1
    cases rv
    obtain ⟨its, rt, pl, hz⟩ := I1.tuple hq
    have ha : a < s1.heap.objs.size := by
      obtain ⟨o, ho, _⟩ := pl
      exact Heap.lt_size ho
    refine call_enumT (show s1.heap.IsTuple a its.toArray from pl) fun h' he hit hk => wpAny_pyIter_enum he ?_
    refine ⟨s1.heap.objs.size + 1, [s1.heap.objs.size + 1, s1.heap.objs.size], _, _, H1, rfl, I1.kept (t' := s1.toks) hk, turn_enumT a _ _ (Nat.succ_ne_self _) (Nat.ne_of_lt ha) (Nat.ne_of_gt (Nat.lt_succ_of_lt ha)), ⟨⟨.none, he⟩, hit⟩, fun b hb => ?_, q⟩
    have hle : s1.heap.objs.size ≤ b := by
      rcases List.mem_cons.mp hb with rfl | hb
      · exact Nat.le_add_right _ _
      · exact Nat.le_of_eq (List.mem_singleton.mp hb).symm
    exact I1.fpOk hle (I1.hok.fresh hle)) hs rfl))⟩
def enumD : Nat → List D → List D
  | _, [] => []
  | k, x :: xs => .tup [.int (k : Int), x] :: enumD (k + 1) xs
theorem enumD_length : ∀ {k : Nat} {xs : List D}, (enumD k xs).length = xs.length
  | _, [] => rfl
  | k, x :: xs => by rw [enumD, List.length_cons, enumD_length, List.length_cons]
theorem enumD_get : ∀ {k : Nat} {xs : List D} {i : Nat} {d : D}, (enumD k xs)[i]? = some d → ∃ x, xs[i]? = some x ∧ d = .tup [.int ((k + i : Nat) : Int), x]
  | _, [], i, d, h => by simp [enumD] at h
  | k, x :: xs, 0, d, h => by
    simp [enumD] at h
    exact ⟨x, rfl, h.symm⟩
  | k, x :: xs, i + 1, d, h => by
    obtain ⟨y, h1, h2⟩ := enumD_get (k := k + 1) (xs := xs) (i := i) (d := d) (by simpa [enumD] using h)
    refine ⟨y, h1, h2.trans ?_⟩
    rw [show k + 1 + i = k + (i + 1) by omega]
theorem itok_enumT {H : Hp} {p : Addr} {ds : List D} {vs : List V} (hs : SqT K H p vs) (hv : Rvs K H ds vs) : ItOk K H (enumD 0 ds) True3 (IteT K p) where
  step := fun i d H' M' hd t a _ => by
    obtain ⟨x, hx, rfl⟩ := enumD_get hd
    obtain ⟨v, hv', r⟩ := hv.get hx
    refine ⟨⟨vs, v, t.seq hs, hv'⟩, ?_⟩
    rintro y H2 ⟨T, z, ob, rfl, nT, dT, rfl, hz⟩
    have e := hz vs (t.seq hs)
    rw [hv'] at e
    cases e
    rw [Nat.zero_add]
    exact ⟨Tps.new nT, a.tupN nT, Rv.tup (SqD.of dT) (Rvs.cons Rv.int (Rvs.cons ((r.mono t).mono (Tps.new nT)) Rvs.nil))⟩
  stop := fun H' M' t a _ => ⟨vs, t.seq hs, by rw [enumD_length]; exact hv.length.symm⟩
def i3Enum (u : A3) : I3 := fun W env M Q => u W env M fun ds M1 => match ds with
  | [.tup xs] => Q (enumD 0 xs) True3 M1
  | _ => False
theorem di_enumerate {elts : List Expr} {kk : Nat} {tpos : Pos} (hm : X.mg "enumerate" = none) (ha : DA X [e] u) (hg : Gl X "enumerate" := by rfl) (hs : starEach [e] X.env = [(false, eval e X.env)] := by rfl) : DI X (.Tuple elts kk tpos) (.Call (.Name "enumerate" p) [e] [] pos) (i3Enum u) := fun W2 tk =>
  (pi_enumT hg hm (ha W2 tk) hs).imp fun σ H R ⟨env, M, W, Q, s, a, l, q, k⟩ => ⟨env, M, W, _, s, a, l, q, fun ds vs H1 M1 t1 a1 r1 q1 => by
    split at q1
    · obtain ⟨v, rfl, rr⟩ := one_inv r1
      obtain ⟨p, ws, rfl, hs, hv⟩ := rr.tup_inv
      exact ⟨p, ws, rfl, hs, k _ _ _ H1 M1 t1 a1 q1 (itok_enumT hs hv)⟩
    · exact q1.elim⟩
end
end L3

namespace L3
open PySem PySem.Spec PyProof.Rows L2
section
variable {X : Cx} {e e2 a b c o : Expr} {es : List Expr} {pos p : Pos} {t ta tb tc to te : E3} {u : A3} {K : Fg}
/-! ### zip of two tuples -/
def IzD (K : Fg) (a b : Addr) : It :=
  ⟨fun i H => ∃ (xs ys : List V) (x y : V), SqT K H a xs ∧ SqT K H b ys ∧ xs[i]? = some x ∧ ys[i]? = some y,
   fun i H v H' => ∃ T x y ob, v = .ref T ∧ H T = none ∧ ob.dict = none ∧ H' = upd H T (.frz ob (.tup [x, y])) ∧ (∀ xs, SqT K H a xs → xs[i]? = some x) ∧ ∀ ys, SqT K H b ys → ys[i]? = some y,
   fun i H => ∃ xs ys : List V, SqT K H a xs ∧ SqT K H b ys ∧ (xs.length ≤ i ∨ ys.length ≤ i)⟩
theorem turn_zipD {P : Program} {w : World} {K : Fg} {elts : List Expr} {kk : Nat} {tpos : Pos} {a b z TI TO i1 i2 : Addr} (D : ZipApart z TI TO i1 i2 a b) :
    Turn P w K (.Tuple elts kk tpos) (IzD K a b) [z, TI, TO, i1, i2] z (fun i h => IsZip h z TI TO .none ∧ IsPair h TI (.ref i1) (.ref i2) ∧ (∃ x y, IsPair h TO x y) ∧ h.IsTupleIter i1 a i ∧ h.IsTupleIter i2 b i) where
  mem := List.mem_cons_self
  obj := (RZ.turn_zipT (K := K) (P := P) (w := w) (elts := elts) (kk := kk) (tpos := tpos) D).obj
  keep := (RZ.turn_zipT (K := K) (P := P) (w := w) (elts := elts) (kk := kk) (tpos := tpos) D).keep
  done := fun X hP hw hK hc i pins s σ H E I hf st hg => (RZ.turn_zipT (K := K) (P := P) (w := w) (elts := elts) (kk := kk) (tpos := tpos) D).done X hP hw hK hc i pins s σ H E I hf st hg
  self := (RZ.turn_zipT (K := K) (P := P) (w := w) (elts := elts) (kk := kk) (tpos := tpos) D).self
  item := by
    rintro X rfl rfl rfl hc i pins s σ H E I hf ⟨hz, hTI, ⟨x0, y0, hTO⟩, h1, h2⟩ ⟨xs, ys, x, y, hqx, hqy, hx, hy⟩
    obtain ⟨its, rv, p, _⟩ := I.tuple hqx
    obtain ⟨its2, rv2, p2, _⟩ := I.tuple hqy
    obtain ⟨v, hv, rx⟩ := rv.get hx
    obtain ⟨v2, hv2, ry⟩ := rv2.get hy
    have small : ∀ c ∈ [z, TI, TO, i1, i2], c < s.heap.objs.size := fun c hcm => by
      obtain ⟨ob, hob, _⟩ := (RZ.turn_zipT (K := X.K) (P := X.prog) (w := X.w) (elts := elts) (kk := kk) (tpos := tpos) D).obj i s.heap ⟨hz, hTI, ⟨x0, y0, hTO⟩, h1, h2⟩ c hcm
      exact Heap.lt_size hob
    refine RZ.pyNext_zipT_item D hz hTI hTO h1 h2 p p2 (x := v) (y := v2) (by simpa using hv) (by simpa using hv2) fun h3 z3 TO3 h13 h23 hT hsz hk => ?_
    refine ⟨_, rfl, wpAny_letOwnedTupleGo_zip (s := { s with heap := h3 }) z3 fun h4 z4 sb => ?_⟩
    have hT2 : IsPair h4 s.heap.objs.size v v2 := (sb.2 _ (Nat.ne_of_gt (small z (by simp)))).trans hT
    have kept : ∀ (c : Addr) (ob : Obj), c ∉ [z, TI, TO, i1, i2] → s.heap.get? c = some ob → h4.get? c = some ob := fun c ob hb q =>
      (sb.2 c (fun q' => hb (by simp [q']))).trans (hk c ob (fun q' => hb (by simp [q'])) (fun q' => hb (by simp [q'])) (fun q' => hb (by simp [q'])) (fun q' => hb (by simp [q'])) q)
    have I1 : Inv X pins σ (upd H s.heap.objs.size (.frz { cls := .type "tuple", data := .seq #[v, v2] } (.tup [x, y]))) { s with heap := h4 } :=
      I.turnedNew (t' := s.toks) (ch := [z, TI, TO, i1, i2]) kept hf (Nat.le_refl _) ⟨hT2, by show 2 ≤ sizeLine; decide, [v, v2], .cons rx (.cons ry .nil), ⟨_, hT2, rfl, _, rfl⟩⟩
    refine ⟨.ref s.heap.objs.size, _, I1, rfl, ⟨_, x, y, _, rfl, I.hok.fresh (Nat.le_refl _), rfl, rfl, fun l hl => by rw [I.tuple_inj hl hqx]; exact hx, fun l hl => by rw [I.tuple_inj hl hqy]; exact hy⟩,
      ⟨z4, (sb.2 _ D.TIz).trans (hk _ _ D.TIz D.TITO D.TIi1 D.TIi2 hTI), ⟨v, v2, (sb.2 _ D.TOz).trans TO3⟩, h13.at fun ob q => (sb.2 _ D.i1z).trans q, h23.at fun ob q => (sb.2 _ D.i2z).trans q⟩, fun c hcm => ?_⟩
    rw [upd_ne (Nat.ne_of_lt (small c hcm))]
    exact (hf c hcm).1
def iZipD (K : Fg) (ta : TA) : TI := fun σ H R => ta σ H fun vs H1 => ∃ a b xs ys, vs = [.ref a, .ref b] ∧ SqT K H1 a xs ∧ SqT K H1 b ys ∧ R (IzD K a b) H1
theorem pi_zipD {ta : TA} {tpos : Pos} {elts : List Expr} {kk : Nat} (hg : Gl X "zip") (hm : X.mg "zip" = none) (ha : PA X [e, e2] ta) (hs : starEach [e, e2] X.env = (false, eval e X.env) :: starEach [e2] X.env) (hpl : (backTo pos (starEach [e2] X.env)).any (·.1) = false) :
    PI X (.Tuple elts kk tpos) (.Call (.Name "zip" p) [e, e2] [] pos) (iZipD X.K ta) :=
  ⟨fun pins s σ H R I h => Call_ (ld_blt I hg hm PyProof.Rows.boot_zip (PyProof.Rows.callWith_type1 (thn (ha.run pos pins s σ H _ I h) fun us s1 ⟨vs, H1, I1, r1, a, b, xs, ys, ex, hqx, hqy, q⟩ => by
    subst ex
    obtain ⟨v, v2, rfl, rv, rv2⟩ := vals2 r1
    cases rv
    cases rv2
    obtain ⟨its, rt, p1, _⟩ := I1.tuple hqx
    obtain ⟨its2, rt2, p2, _⟩ := I1.tuple hqy
    have l1 : a < s1.heap.objs.size := by obtain ⟨ob, ho, _⟩ := p1; exact Heap.lt_size ho
    have l2 : b < s1.heap.objs.size := by obtain ⟨ob, ho, _⟩ := p2; exact Heap.lt_size ho
    refine RZ.call_zipT (show s1.heap.IsTuple a its.toArray from p1) (show s1.heap.IsTuple b its2.toArray from p2) fun h' hz hTI hTO h1 h2 hsz hk => wpAny_pyIter_zip hz ?_
    refine ⟨s1.heap.objs.size + 4, [s1.heap.objs.size + 4, s1.heap.objs.size + 2, s1.heap.objs.size + 3, s1.heap.objs.size, s1.heap.objs.size + 1], _, _, H1, rfl, I1.kept (t' := s1.toks) hk, turn_zipD (PySem.W.ktu_apart s1.heap.objs.size a b l1 l2), ⟨hz, hTI, ⟨_, _, hTO⟩, h1, h2⟩, fun c hcm => ?_, q⟩
    have hle : s1.heap.objs.size ≤ c := by
      simp only [List.mem_cons, List.not_mem_nil, or_false] at hcm
      rcases hcm with rfl | rfl | rfl | rfl | rfl <;> first | exact Nat.le_add_right _ _ | exact Nat.le_refl _
    exact I1.fpOk hle (I1.hok.fresh hle)) hs hpl))⟩
def zipD : List D → List D → List D
  | x :: xs, y :: ys => .tup [x, y] :: zipD xs ys
  | _, _ => []
theorem zipD_length : ∀ {xs ys : List D}, (zipD xs ys).length = min xs.length ys.length
  | [], ys => by simp [zipD]
  | x :: xs, [] => by simp [zipD]
  | x :: xs, y :: ys => by rw [zipD, List.length_cons, zipD_length, List.length_cons, List.length_cons]; omega
theorem zipD_get : ∀ {xs ys : List D} {i : Nat} {d : D}, (zipD xs ys)[i]? = some d → ∃ x y, xs[i]? = some x ∧ ys[i]? = some y ∧ d = .tup [x, y]
  | [], ys, i, d, h => by simp [zipD] at h
  | x :: xs, [], i, d, h => by simp [zipD] at h
  | x :: xs, y :: ys, 0, d, h => by simp [zipD] at h; exact ⟨x, y, rfl, rfl, h.symm⟩
  | x :: xs, y :: ys, i + 1, d, h => zipD_get (xs := xs) (ys := ys) (i := i) (by simpa [zipD] using h)
theorem itok_zipD {H : Hp} {p q : Addr} {ds es : List D} {vs ws : List V} (hs : SqT K H p vs) (hv : Rvs K H ds vs) (hs2 : SqT K H q ws) (hv2 : Rvs K H es ws) : ItOk K H (zipD ds es) True3 (IzD K p q) where
  step := fun i d H' M' hd t a _ => by
    obtain ⟨x, y, hx, hy, rfl⟩ := zipD_get hd
    obtain ⟨v, h1, r1⟩ := hv.get hx
    obtain ⟨v2, h2, r2⟩ := hv2.get hy
    refine ⟨⟨vs, ws, v, v2, t.seq hs, t.seq hs2, h1, h2⟩, ?_⟩
    rintro z H2 ⟨T, z1, z2, ob, rfl, nT, dT, rfl, k1, k2⟩
    have e1 := k1 vs (t.seq hs)
    have e2 := k2 ws (t.seq hs2)
    rw [h1] at e1
    rw [h2] at e2
    cases e1
    cases e2
    exact ⟨Tps.new nT, a.tupN nT, Rv.tup (SqD.of dT) (Rvs.cons ((r1.mono t).mono (Tps.new nT)) (Rvs.cons ((r2.mono t).mono (Tps.new nT)) Rvs.nil))⟩
  stop := fun H' M' t a _ => ⟨vs, ws, t.seq hs, t.seq hs2, by
    rw [zipD_length, ← hv.length, ← hv2.length]
    omega⟩
def i3Zip (u : A3) : I3 := fun W env M Q => u W env M fun ds M1 => match ds with
  | [.tup xs, .tup ys] => Q (zipD xs ys) True3 M1
  | _ => False
theorem di_zip {elts : List Expr} {kk : Nat} {tpos : Pos} (hm : X.mg "zip" = none) (ha : DA X [e, e2] u) (hg : Gl X "zip" := by rfl) (hs : starEach [e, e2] X.env = (false, eval e X.env) :: starEach [e2] X.env := by rfl) (hpl : (backTo pos (starEach [e2] X.env)).any (·.1) = false := by rfl) :
    DI X (.Tuple elts kk tpos) (.Call (.Name "zip" p) [e, e2] [] pos) (i3Zip u) := fun W2 tk =>
  (pi_zipD hg hm (ha W2 tk) hs hpl).imp fun σ H R ⟨env, M, W, Q, s, a, l, q, k⟩ => ⟨env, M, W, _, s, a, l, q, fun ds vs H1 M1 t1 a1 r1 q1 => by
    split at q1
    · obtain ⟨v, v2, rfl, ra, rb⟩ := two_inv r1
      obtain ⟨p, ws, rfl, hs, hv⟩ := ra.tup_inv
      obtain ⟨p2, ws2, rfl, hs2, hv2⟩ := rb.tup_inv
      exact ⟨p, p2, ws, ws2, rfl, hs, hs2, k _ _ _ H1 M1 t1 a1 q1 (itok_zipD hs hv hs2 hv2)⟩
    · exact q1.elim⟩
/-! ### sorted(ints), max, min -/
def c3Sorted : List D → MH → Q3 → Prop
  | [.ref l], M, Q => ∃ ns : List Int, LstM M l (ns.map D.int) ∧ ∀ (ms : List Int) (q : Addr), ms.Perm ns → ms.Pairwise (· ≤ ·) → M q = none → Q (.ref q) (updM M q (.lst (ms.map D.int)))
  | _, _, _ => False
theorem cl_sorted : CallL K (rSortedI K) c3Sorted := by
  intro ds vs H M Q Q2 r a q g
  unfold c3Sorted at q
  split at q
  · obtain ⟨v, rfl, rr⟩ := one_inv r
    cases rr.ref_inv
    obtain ⟨ns, hl, q⟩ := q
    obtain ⟨ws, hs, hw⟩ := a.rd hl
    rw [Rvs.intsV hw] at hs
    exact ⟨_, ns, rfl, hs, fun ms q' hp hs' nq => g _ _ _ _ (Tps.new nq) (a.lstN nq Rvs.ints) Rv.ref (q ms q' hp hs' (a.fresh nq))⟩
  · exact q.elim
theorem d_sorted (hm : X.mg "sorted" = none) (ha : DA X [e] u) (hg : Gl X "sorted" := by rfl) (he : starEach (e :: []) X.env = (false, eval e X.env) :: starEach [] X.env := by rfl) (hpl : (backTo pos (starEach [] X.env)).any (·.1) = false := by rfl) : DE X (.Call (.Name "sorted" p) [e] [] pos) (e3CB c3Sorted u) :=
  d_cb cr_sortedI cl_sorted hg hm boot_sorted' ha (by decide) (by decide) he hpl
def c3Max : List D → MH → Q3 → Prop
  | [.int i, .int j], M, Q => Q (.int (if j > i then j else i)) M
  | _, _, _ => False
def c3Min : List D → MH → Q3 → Prop
  | [.int i, .int j], M, Q => Q (.int (if j < i then j else i)) M
  | _, _, _ => False
theorem cl_max2 : CallL K (fun xs H Q => ∃ i j, xs = [.int i, .int j] ∧ Q (.int (if j > i then j else i)) H) c3Max := by
  intro ds vs H M Q Q2 r a q g
  unfold c3Max at q
  split at q
  · obtain ⟨v, w, rfl, r1, r2⟩ := two_inv r
    cases r1.int_inv
    cases r2.int_inv
    exact ⟨_, _, rfl, g _ _ H M (Tps.refl H) a Rv.int q⟩
  · exact q.elim
theorem cl_min2 : CallL K (fun xs H Q => ∃ i j, xs = [.int i, .int j] ∧ Q (.int (if j < i then j else i)) H) c3Min := by
  intro ds vs H M Q Q2 r a q g
  unfold c3Min at q
  split at q
  · obtain ⟨v, w, rfl, r1, r2⟩ := two_inv r
    cases r1.int_inv
    cases r2.int_inv
    exact ⟨_, _, rfl, g _ _ H M (Tps.refl H) a Rv.int q⟩
  · exact q.elim
theorem boot_max' : bootBuiltins "max" = some (.builtin "max") := by decide +kernel
theorem boot_min' : bootBuiltins "min" = some (.builtin "min") := by decide +kernel
theorem d_max (hc : X.calm = true) (hm : X.mg "max" = none) (ha : DA X (e :: es) u) (hg : Gl X "max" := by rfl) (he : starEach (e :: es) X.env = (false, eval e X.env) :: starEach es X.env := by rfl) (hpl : (backTo pos (starEach es X.env)).any (·.1) = false := by rfl) : DE X (.Call (.Name "max" p) (e :: es) [] pos) (e3CB c3Max u) :=
  d_cb (call_max2 hc) cl_max2 hg hm boot_max' ha (by decide) (by decide) he hpl
theorem d_min (hc : X.calm = true) (hm : X.mg "min" = none) (ha : DA X (e :: es) u) (hg : Gl X "min" := by rfl) (he : starEach (e :: es) X.env = (false, eval e X.env) :: starEach es X.env := by rfl) (hpl : (backTo pos (starEach es X.env)).any (·.1) = false := by rfl) : DE X (.Call (.Name "min" p) (e :: es) [] pos) (e3CB c3Min u) :=
  d_cb (call_min2 hc) cl_min2 hg hm boot_min' ha (by decide) (by decide) he hpl
/-! ### isinstance(x, (types)) -/
def rIsiD (K : Fg) : List V → Hp → VK → Prop := fun xs H Q => ∃ (x : V) (tp : Addr) (cs : List V) (t : Value) (us : List Value) (b : Bool), xs = [x, .ref tp] ∧ SqT K H tp cs ∧ Paired ClsV cs us ∧ TyX K H x t ∧ PySem.W.kitAny K t us = some b ∧ Q (.bl b) H
theorem call_isiD : CallR X (.builtin "isinstance") (rIsiD X.K) := by
  rintro pins s σ H xs us Q I r ⟨x, tp, cs, t, ws, b, rfl, hT, k, ty, e, q⟩
  obtain ⟨u1, u2, rfl, r1, r2⟩ := vals2 r
  cases (show u2 = Value.ref tp from r2)
  obtain ⟨P, Z, pz, hx⟩ := kit_of I r1 ty
  obtain ⟨its, rv, ⟨⟨oc, od, dt, sl⟩, h1, h2, n, h3⟩, _⟩ := I.tuple hT
  cases ClsV.all k rv
  simp only at h2 h3
  subst h2 h3
  exact PySem.W.kia_tup Z I.kIn pz h1 e hx fun tk => ⟨.bl b, H, I.tok tk, rfl, q⟩
def anyKit (m : String) : List String → Option Bool
  | [] => some false
  | n :: ns => match kitB m n with
    | some true => some true
    | some false => anyKit m ns
    | none => none
theorem anyKit_ok {m : String} : ∀ {ns : List String} {b : Bool}, anyKit m ns = some b → PySem.W.kitAny K (.type m) (ns.map Value.type) = some b
  | [], b, h => h
  | n :: ns, b, h => by
    unfold anyKit at h
    split at h
    · rename_i h1
      cases h
      exact kitAny_cons (kit_ty h1) (fun z => nomatch z) fun _ => rfl
    · rename_i h1
      exact kitAny_cons (kit_ty h1) (fun _ => anyKit_ok h) fun z => nomatch z
    · cases h
@[irreducible] def c3IsiT : List D → MH → Q3 → Prop := fun ds M Q => ∃ d ns m b, ds = [d, .tup (List.map D.ty ns)] ∧ tyD M d m ∧ anyKit m ns = some b ∧ Q (.bl b) M
theorem isi_tups {M : MH} {Q : Q3} {d : D} {ns : List String} {m : String} {b : Bool} (h : tyD M d m) (k : anyKit m ns = some b) (q : Q (.bl b) M) : c3IsiT [d, .tup (ns.map D.ty)] M Q := by
  unfold c3IsiT
  exact ⟨d, ns, m, b, rfl, h, k, q⟩
theorem tys_rv {H : Hp} : ∀ {ns : List String} {vs : List V}, Rvs K H (ns.map D.ty) vs → Paired ClsV vs (ns.map Value.type)
  | [], _, h => by cases h.nil_inv; exact .nil
  | n :: ns, _, h => by
    obtain ⟨v, r, rfl, h1, h2⟩ := Rvs.cons_inv (d := .ty n) (ds := ns.map D.ty) h
    cases h1.ty_inv
    exact .cons (.ty n) (tys_rv h2)
theorem cl_isiT : CallL K (rIsiD K) c3IsiT := by
  intro ds vs H M Q Q2 r a q g
  unfold c3IsiT at q
  obtain ⟨d, ns, m, b, rfl, h1, h2, q⟩ := q
  obtain ⟨v, w, rfl, r1, r2⟩ := two_inv r
  obtain ⟨tp, cs, rfl, hs, hv⟩ := r2.tup_inv
  exact ⟨v, tp, cs, _, ns.map Value.type, b, rfl, hs, tys_rv hv, tyD_ok a r1 h1, anyKit_ok h2, g _ _ H M (Tps.refl H) a Rv.bl q⟩
theorem d_isiT (hm : X.mg "isinstance" = none) (ha : DA X [e, e2] u) (hg : Gl X "isinstance" := by rfl) (he : starEach (e :: [e2]) X.env = (false, eval e X.env) :: starEach [e2] X.env := by rfl) (hpl : (backTo pos (starEach [e2] X.env)).any (·.1) = false := by rfl) : DE X (.Call (.Name "isinstance" p) [e, e2] [] pos) (e3CB c3IsiT u) :=
  d_cb call_isiD cl_isiT hg hm boot_isinstance' ha (by decide) (by decide) he hpl
end
end L3

namespace L3
open PySem PySem.Spec PyProof.Rows L2
section
variable {X : Cx} {e e2 a b c o : Expr} {es : List Expr} {pos p : Pos} {t ta tb tc to te : E3} {u : A3} {K : Fg}
/-! ### list(range), tuple(range) -/
theorem rg_rvs {H : Hp} {i j : Int} : Rvs K H (rngD i (j - i).toNat) (rgV i j) := by
  have e1 : rngD i (j - i).toNat = ((List.range (j - i).toNat).map fun k : Nat => i + (k : Int)).map D.int := by unfold rngD; rw [List.map_map]; rfl
  have e2 : rgV i j = ((List.range (j - i).toNat).map fun k : Nat => i + (k : Int)).map V.int := by unfold rgV; rw [List.map_map]; rfl
  rw [e1, e2]
  exact Rvs.ints
def tTupRgD (te : L2.St → Hp → (Int → Int → Hp → Prop) → Prop) : TE := fun σ H Q => te σ H fun a b H1 => RgOk a b ∧ NewT (rgV a b) H1 Q
theorem pe_tupRgD {te : L2.St → Hp → (Int → Int → Hp → Prop) → Prop} (hc : X.calm = true) (hg : Gl X "tuple") (hm : X.mg "tuple" = none) (he : PRg X e te) (na : starEach [e] X.env = (false, eval e X.env) :: starEach [] X.env) : PE X (.Call (.Name "tuple" p) [e] [] pos) (tTupRgD te) :=
  ⟨fun pins s σ H Q I h => Call_ (ld_blt I hg hm boot_tuple (PyProof.Rows.callWith_type1 (args_cons (thn (he pins s σ H _ I h) fun x s1 ⟨r, i, j, t, u, v, H1, ex, hr, I1, ⟨b1, b2, b3, b4, b5⟩, q⟩ => args_nil (by
    subst ex
    refine call_tuple_range (n := (j - i).toNat) (I1.ok.hd hc) hr (small_one b1 b2 b3 b4) (rangeSize_nat i j) b5 fun h' tk acc hk hi => ?_
    have big : (rgV i j).length ≤ sizeLine := by rw [rgV_length, sizeLine_eq]; omega
    have z := tup_pushed (I1.kept (t' := tk) hk) (vals_rg hi) big q
    simpa only [Array.toArray_toList] using z)) na) na))⟩
def e3LstRg1 (t : E3) : E3 := fun W env M Q => t W env M fun d M1 => match d with
  | .int n => RgOk 0 n ∧ ∀ p, M1 p = none → Q (.ref p) (updM M1 p (.lst (rngD 0 n.toNat)))
  | _ => False
def e3TupRg1 (t : E3) : E3 := fun W env M Q => t W env M fun d M1 => match d with
  | .int n => RgOk 0 n ∧ Q (.tup (rngD 0 n.toNat)) M1
  | _ => False
theorem rng0 {n : Int} : rngD 0 n.toNat = rngD 0 (n - 0).toNat := by rw [Int.sub_zero]
theorem d_listRg1 (hc : X.calm = true) (hl : X.mg "list" = none) (hm : X.mg "range" = none) (ha : DE X a ta) (hg : Gl X "list" := by rfl) (hgr : Gl X "range" := by rfl) (na : starEach [a] X.env = (false, eval a X.env) :: starEach [] X.env := by rfl) {p2 pos2 : Pos}
    (ne : starEach [Expr.Call (.Name "range" p2) [a] [] pos2] X.env = (false, eval (Expr.Call (.Name "range" p2) [a] [] pos2) X.env) :: starEach [] X.env := by rfl) : DE X (.Call (.Name "list" p) [.Call (.Name "range" p2) [a] [] pos2] [] pos) (e3LstRg1 ta) := fun W2 tk =>
  (pe_listRg hc hg hl (prg_1 hgr hm (ha W2 tk) na) ne).imp fun σ H Q2 ⟨env, M, W, Q, s, a, l, q, g⟩ => ⟨env, M, W, _, s, a, l, q, fun d v H1 M1 t1 a1 r1 q1 => by
    split at q1
    · cases r1.int_inv
      exact ⟨_, rfl, q1.1, fun w nw => g _ _ _ _ (t1.trans (Tps.new nw)) (a1.lstN nw (by rw [rng0]; exact rg_rvs)) Rv.ref (q1.2 w (a1.fresh nw))⟩
    · exact q1.elim⟩
theorem d_tupleRg1 (hc : X.calm = true) (hl : X.mg "tuple" = none) (hm : X.mg "range" = none) (ha : DE X a ta) (hg : Gl X "tuple" := by rfl) (hgr : Gl X "range" := by rfl) (na : starEach [a] X.env = (false, eval a X.env) :: starEach [] X.env := by rfl) {p2 pos2 : Pos}
    (ne : starEach [Expr.Call (.Name "range" p2) [a] [] pos2] X.env = (false, eval (Expr.Call (.Name "range" p2) [a] [] pos2) X.env) :: starEach [] X.env := by rfl) : DE X (.Call (.Name "tuple" p) [.Call (.Name "range" p2) [a] [] pos2] [] pos) (e3TupRg1 ta) := fun W2 tk =>
  (pe_tupRgD hc hg hl (prg_1 hgr hm (ha W2 tk) na) ne).imp fun σ H Q2 ⟨env, M, W, Q, s, a, l, q, g⟩ => ⟨env, M, W, _, s, a, l, q, fun d v H1 M1 t1 a1 r1 q1 => by
    split at q1
    · cases r1.int_inv
      exact ⟨_, rfl, q1.1, fun w ow nw dw => g _ _ _ M1 (t1.trans (Tps.new nw)) (a1.tupN nw) (Rv.tup (SqD.of dw) (by rw [rng0]; exact rg_rvs)) q1.2⟩
    · exact q1.elim⟩
/-! ### l.pop(), l.pop(i) -/
theorem Rvs.erase {H : Hp} : ∀ {ds : List D} {vs : List V} (k : Nat), Rvs K H ds vs → Rvs K H (ds.eraseIdx k) (vs.eraseIdx k)
  | [], vs, k, h => by cases h.nil_inv; exact Rvs.nil
  | d :: ds, vs, k, h => by
    obtain ⟨v, r, rfl, h1, h2⟩ := h.cons_inv
    cases k with
    | zero => exact h2
    | succ k => exact Rvs.cons h1 (Rvs.erase k h2)
theorem Rvs.butLast {H : Hp} {ds : List D} {vs : List V} (h : Rvs K H ds vs) : Rvs K H ds.dropLast vs.dropLast := by
  rw [List.dropLast_eq_take, List.dropLast_eq_take, h.length]
  exact h.take _
def e3Bm0 (m : Addr → MH → Q3 → Prop) (to : E3) : E3 := fun W env M Q => to W env M fun od M1 => match od with
  | .ref l => (∃ ds, LstM M1 l ds) ∧ m l M1 Q
  | _ => False
def MtL0 (K : Fg) (r : V → List V → Hp → VK → Prop) (m : Addr → MH → Q3 → Prop) : Prop := ∀ l H M Q Q2, Abs K M H → m l M Q → Got K H Q Q2 → r (.ref l) [] H Q2
theorem d_bm0 {name : Str} {id : String} {r : V → List V → Hp → VK → Prop} {m : Addr → MH → Q3 → Prop} {apos cpos : Pos} (slot : Slot "list" name id) (hty : typeOf (.builtin id) = pure (.type "method_descriptor")) (hm : MtR X id r) (hl : MtL0 X.K r m) (ho : DE X o to)
    (hbase : attributeBase o name X.env (eval o X.env) = eval o X.env) (hline : (apos.endLine == cpos.line) = true) : DE X (.Call (.Attribute o name apos) [] [] cpos) (e3Bm0 m to) := fun W2 tk =>
  (pe_bm0 PySem.F.plainAttrs_list slot hty hm (ho W2 tk) hbase hline).imp fun σ H Q2 ⟨env, M, W, Q, s, a, l, q, g⟩ => by
    refine ⟨env, M, W, _, s, a, l, q, fun od v H1 M1 t1 a1 r1 q1 => ?_⟩
    split at q1
    · obtain ⟨⟨ds, hl'⟩, q1⟩ := q1
      cases r1.ref_inv
      obtain ⟨vs, hs, _⟩ := a1.rd hl'
      exact ⟨.inl ⟨rfl, vs, hs⟩, hl _ H1 M1 Q Q2 a1 q1 (g.mono t1)⟩
    · exact q1.elim
def m3Pop (l : Addr) (M : MH) (Q : Q3) : Prop := ∃ ds d, M l = some (.lst ds) ∧ ds[ds.length - 1]? = some d ∧ Q d (updM M l (.lst ds.dropLast))
theorem ml_pop : MtL0 K rPop m3Pop := by
  rintro l H M Q Q2 a ⟨ds, d, h1, h2, q⟩ g
  obtain ⟨vs, hv, r⟩ := a.lst h1
  obtain ⟨v, hg, rd⟩ := r.get h2
  exact ⟨l, vs, v, rfl, rfl, hv, by rw [← r.length]; exact hg, g _ _ _ _ (Tps.lst hv) (a.lstU hv r.butLast) (rd.mono (Tps.lst hv)) q⟩
theorem d_pop {apos cpos : Pos} (ho : DE X o to) (hbase : attributeBase o "pop" X.env (eval o X.env) = eval o X.env := by rfl) (hline : (apos.endLine == cpos.line) = true := by rfl) : DE X (.Call (.Attribute o "pop" apos) [] [] cpos) (e3Bm0 m3Pop to) :=
  d_bm0 PySem.F.slot_list_pop PySem.F.type_list_pop mt_pop ml_pop ho hbase hline
def m3PopAt (l : Addr) : List D → MH → Q3 → Prop
  | [.int i], M, Q => ∃ ds d k, M l = some (.lst ds) ∧ -(2 ^ 63) ≤ i ∧ i < 2 ^ 63 ∧ ixN ds.length i = some k ∧ ds[k]? = some d ∧ Q d (updM M l (.lst (ds.eraseIdx k)))
  | _, _, _ => False
theorem ml_popAt : MtL K rPopAt m3PopAt := by
  intro l xs vs H M Q Q2 r a q g
  unfold m3PopAt at q
  split at q
  · obtain ⟨ds, d, k, h1, b1, b2, hk, h2, q⟩ := q
    obtain ⟨v, rfl, rr⟩ := one_inv r
    cases rr.int_inv
    obtain ⟨ws, hv, rw'⟩ := a.lst h1
    obtain ⟨w, hg, rd⟩ := rw'.get h2
    exact ⟨l, ws, _, k, w, rfl, rfl, hv, b1, b2, by rw [← rw'.length]; exact (ixN_seq hk).1, hg, g _ _ _ _ (Tps.lst hv) (a.lstU hv (rw'.erase k)) (rd.mono (Tps.lst hv)) q⟩
  · exact q.elim
theorem d_popAt {apos cpos : Pos} (ho : DE X o to) (ha : DA X [e] u) (hbase : attributeBase o "pop" X.env (eval o X.env) = eval o X.env := by rfl)
    (hfew : ((backTo cpos (starEach (e :: []) X.env)).all (fun x => !x.1) && (backToKw cpos (keywordEach [] X.env)).all (fun x => x.1.isSome)
      && decide ((e :: []).length + ([] : List Keyword).length + (if ([] : List Keyword).isEmpty then 0 else 1) < 30)) = true := by rfl)
    (hline : (apos.endLine == cpos.line) = true := by rfl) (hs : starEach (e :: []) X.env = (false, eval e X.env) :: starEach [] X.env := by rfl) (hplain : (backTo cpos (starEach [] X.env)).any (·.1) = false := by rfl) :
    DE X (.Call (.Attribute o "pop" apos) [e] [] cpos) (e3Bm m3PopAt to u) := d_bm PySem.F.slot_list_pop PySem.F.type_list_pop mt_popAt ml_popAt ho ha hbase hfew hline hs hplain
/-! ### comprehensions of two fors -/
/-- the inner loop -/
def LoopI (ds : List D) (keep : MH → Prop) (j : Nat) (tt : T3) (te : E3) (env : En) (p : Addr) (M : MH) (done : List D → MH → Prop) : Prop := ∃ Iv : Nat → List D → MH → Prop, (∃ acc, M p = some (.lst acc) ∧ Iv 0 acc M) ∧
  (∀ k d acc M', ds[k]? = some d → Iv k acc M' → M' p = some (.lst acc) → keep M' ∧ tt W0 (env.set j (some d)) M' fun b M3 => Br b
    (te W0 (env.set j (some d)) M3 fun y M4 => ∃ acc', M4 p = some (.lst acc') ∧ acc'.length < sizeLine ∧ Iv (k + 1) (acc' ++ [y]) (updM M4 p (.lst (acc' ++ [y]))))
    (∃ acc', M3 p = some (.lst acc') ∧ Iv (k + 1) acc' M3)) ∧
  ∀ acc M', Iv ds.length acc M' → M' p = some (.lst acc) → keep M' ∧ done acc M'
def Loop2 (ds : List D) (keep : MH → Prop) (i : Nat) (tt : T3) (ti1 : I3) (j : Nat) (tt1 : T3) (te : E3) (vs1 : List Nat) (env : En) (p : Addr) (M : MH) (Q : MH → Prop) : Prop := ∃ Iv : Nat → List D → MH → Prop, Iv 0 [] (updM M p (.lst [])) ∧
  (∀ k d acc M', ds[k]? = some d → Iv k acc M' → M' p = some (.lst acc) → keep M' ∧ tt W0 (env.set i (some d)) M' fun b M3 => Br b
    (ti1 W0 (env.set i (some d)) M3 fun ds1 keep1 M4 => LoopI ds1 keep1 j tt1 te (wipe3 (env.set i (some d)) vs1) p M4 (Iv (k + 1)))
    (∃ acc', M3 p = some (.lst acc') ∧ Iv (k + 1) acc' M3)) ∧
  ∀ acc M', Iv ds.length acc M' → M' p = some (.lst acc) → keep M' ∧ Q M'
def e3Lc2 (ti : I3) (i : Nat) (tt : T3) (ti1 : I3) (j : Nat) (tt1 : T3) (te : E3) (vs vs1 : List Nat) : E3 := fun W env M Q => ti W env M fun ds keep M1 => ∀ p, M1 p = none → Loop2 ds keep i tt ti1 j tt1 te vs1 (wipe3 env vs) p M1 fun M' => Q (.ref p) M'
theorem lc2_low {ti ti1 : I3} {i j : Nat} {tt tt1 : T3} {te : E3} {vs vs1 : List Nat} {W2 W2b : WX} (hv : i ∈ vs) (hv1 : j ∈ vs1) (hW : W2b = fun _ _ _ _ => False) {σ : L2.St} {H : Hp} {Q2 : VK} (h : lowE X.K W2 (e3Lc2 ti i tt ti1 j tt1 te vs vs1) σ H Q2) :
    tLc2 (lowI X.K W2 ti) (gName i) (lowT X.K W2b tt) (lowI X.K W2b ti1) (gName j) (lowT X.K W2b tt1) (lowE X.K W2b te) vs vs1 σ H Q2 := by
  subst hW
  obtain ⟨env, M, W, Q, s, a, l, q, g⟩ := h
  refine ⟨env, M, W, _, s, a, l, q, fun ds keep J H1 M1 t1 a1 q1 ok Dd nD => ?_⟩
  obtain ⟨Iv, h0, hst, hd⟩ := q1 Dd (a1.fresh nD)
  have sw := (s.mono t1).wipe vs
  refine ⟨fun k m H' => m = ds.length - k ∧ k ≤ ds.length ∧ ∃ acc M', Tps H1 H' ∧ Abs X.K M' H' ∧ Iv k acc M' ∧ M' Dd = some (.lst acc), ⟨ds.length, by simp, Nat.zero_le _, [], _, Tps.new nD, a1.lstN nD Rvs.nil, h0, updM_same⟩, ?_⟩
  rintro k m H' ⟨rfl, hk, acc, M', t2, a', iv, hD⟩
  by_cases hlt : k < ds.length
  · have hx : ds[k]? = some ds[k] := List.getElem?_eq_getElem hlt
    obtain ⟨hkeep, hg⟩ := hst k _ acc M' hx iv hD
    obtain ⟨go, yl⟩ := ok.step k _ H' M' hx t2 a' hkeep
    refine .inr ⟨go, fun H2 => ∃ acc M2, Tps H1 H2 ∧ Abs X.K M2 H2 ∧ Iv (k + 1) acc M2 ∧ M2 Dd = some (.lst acc), fun H2 hn => ⟨ds.length - (k + 1), by omega, rfl, hlt, hn⟩, fun x H2 y => ?_⟩
    obtain ⟨t3, a3, r3⟩ := yl x H2 y
    have t23 := t2.trans t3
    refine ⟨by rw [wipe_set hv, wipe_wipe fun _ h => h], ?_⟩
    have s2 : SE X.K H2 ((L2.wipe σ vs).set i (some x)) ((wipe3 env vs).set i (some ds[k])) := (sw.mono t23).set i r3
    refine ⟨_, M', W0, _, s2, a3, LW0, hg, fun b H3 M3 t4 a4 q4 => ?_⟩
    cases b with
    | false =>
      show if false = true then _ else _
      rw [if_neg Bool.false_ne_true]
      obtain ⟨acc', e1, iv'⟩ := q4.2 rfl
      exact ⟨acc', M3, t23.trans t4, a4, iv', e1⟩
    | true =>
      show if true = true then _ else _
      rw [if_pos rfl]
      refine ⟨_, M3, W0, _, s2.mono t4, a4, LW0, q4.1 rfl, fun ds1 keep1 J1 H4 M4 t5 a5 q5 ok1 => ?_⟩
      obtain ⟨Iv1, ⟨acc0, e0, i0⟩, hst1, hd1⟩ := q5
      have t45 := t4.trans t5
      have sw1 := (s2.mono t45).wipe vs1
      refine ⟨fun k1 m1 H' => m1 = ds1.length - k1 ∧ k1 ≤ ds1.length ∧ ∃ acc M', Tps H4 H' ∧ Abs X.K M' H' ∧ Iv1 k1 acc M' ∧ M' Dd = some (.lst acc), ⟨ds1.length, by simp, Nat.zero_le _, acc0, M4, Tps.refl _, a5, i0, e0⟩, ?_⟩
      rintro k1 m1 H5 ⟨rfl, hk1, acc1, M5, t6, a6, iv1, hD1⟩
      by_cases hlt1 : k1 < ds1.length
      · have hx1 : ds1[k1]? = some ds1[k1] := List.getElem?_eq_getElem hlt1
        obtain ⟨hkeep1, hg1⟩ := hst1 k1 _ acc1 M5 hx1 iv1 hD1
        obtain ⟨go1, yl1⟩ := ok1.step k1 _ H5 M5 hx1 t6 a6 hkeep1
        refine .inr ⟨go1, fun H2 => ∃ acc M2, Tps H4 H2 ∧ Abs X.K M2 H2 ∧ Iv1 (k1 + 1) acc M2 ∧ M2 Dd = some (.lst acc), fun H2 hn => ⟨ds1.length - (k1 + 1), by omega, rfl, hlt1, hn⟩, fun x1 H6 y1 => ?_⟩
        obtain ⟨t7, a7, r7⟩ := yl1 x1 H6 y1
        have t67 := t6.trans t7
        refine ⟨by rw [wipe_set hv1, wipe_wipe fun _ h => h], ?_⟩
        refine ⟨_, M5, W0, _, (sw1.mono t67).set j r7, a7, LW0, hg1, fun b H7 M7 t8 a8 q8 => ?_⟩
        cases b with
        | false =>
          show if false = true then _ else _
          rw [if_neg Bool.false_ne_true]
          obtain ⟨acc', e1, iv'⟩ := q8.2 rfl
          exact ⟨acc', M7, t67.trans t8, a8, iv', e1⟩
        | true =>
          show if true = true then _ else _
          rw [if_pos rfl]
          refine ⟨_, M7, W0, _, ((sw1.mono t67).set j r7).mono t8, a8, LW0, q8.1 rfl, fun d v H8 M8 t9 a9 r9 q9 => ?_⟩
          obtain ⟨acc', e1, hz, iv'⟩ := q9
          obtain ⟨ws, hw, rw'⟩ := a9.lst e1
          exact ⟨ws, hw, by rw [← rw'.length]; exact hz, acc' ++ [d], _, ((t67.trans t8).trans t9).trans (Tps.lst hw), a9.lstU hw (rw'.app (Rvs.cons r9 Rvs.nil)), iv', updM_same⟩
      · have e1 : k1 = ds1.length := by omega
        subst e1
        obtain ⟨hkeep1, hn⟩ := hd1 acc1 M5 iv1 hD1
        exact .inl ⟨ok1.stop H5 M5 t6 a6 hkeep1, acc1, M5, (t23.trans t45).trans t6, a6, hn, hD1⟩
  · have e : k = ds.length := by omega
    subst e
    obtain ⟨hkeep, hq⟩ := hd acc M' iv hD
    exact .inl ⟨ok.stop H' M' t2 a' hkeep, g _ _ H' M' (t1.trans t2) a' Rv.ref hq⟩
theorem d_lc2 {elt iter iter1 : Expr} {ifs ifs1 : List Expr} {scope : Scope} {x y : Str} {i j : Nat} {p1 p2 : Pos} {ti ti1 : I3} {tt tt1 : T3} {te : E3} (own : List (Str × Nat)) (hc : X.calm = true) (hN : X.N.Nodup) (hi : DI X (.Name x p1) iter ti) (ok : BlkOk X.N X.env.scope scope own) (hv : i ∈ own.map (·.2)) (hv1 : j ∈ own.map (·.2))
    (hg : ∀ (s : Shared) (H : Hp) (C : Addr) (cl : List (Str × Addr)) (fp : List Addr), PG (X.blk s H scope (compEnvC scope cl C X.env) fp) (.Name x p1) (gName i))
    (ht : ∀ (s : Shared) (H : Hp) (C : Addr) (cl : List (Str × Addr)) (fp : List Addr), DTs (X.blk s H scope (compEnvC scope cl C X.env) fp) ifs tt)
    (hi1 : ∀ (s : Shared) (H : Hp) (C : Addr) (cl : List (Str × Addr)) (fp : List Addr), DI (X.blk s H scope (compEnvC scope cl C X.env) fp) (.Name y p2) iter1 ti1)
    (hg1 : ∀ (s : Shared) (H : Hp) (C : Addr) (cl : List (Str × Addr)) (fp : List Addr), PG (X.blk s H scope (compEnvC scope cl C X.env) fp) (.Name y p2) (gName j))
    (ht1 : ∀ (s : Shared) (H : Hp) (C : Addr) (cl : List (Str × Addr)) (fp : List Addr), DTs (X.blk s H scope (compEnvC scope cl C X.env) fp) ifs1 tt1)
    (he : ∀ (s : Shared) (H : Hp) (C : Addr) (cl : List (Str × Addr)) (fp : List Addr), DE (X.blk s H scope (compEnvC scope cl C X.env) fp) elt te) (hs : ∀ x, foldedSetIterable iter X.env x = pure x := by intro _; rfl) (hs1 : ∀ env x, foldedSetIterable iter1 env x = pure x := by intro _ _; rfl) :
    DE X (.ListComp elt [⟨.Name x p1, iter, ifs, 0⟩, ⟨.Name y p2, iter1, ifs1, 0⟩] scope pos) (e3Lc2 ti i tt ti1 j tt1 te (own.map (·.2)) [j]) := fun W2 tk =>
  (pe_lc2 (vs1 := [j]) hc hN (hi W2 tk) ok (fun k hk => by rw [List.mem_singleton.mp hk]; exact hv1) hg (fun s H C cl fp => ht s H C cl fp _ takesF) (fun s H C cl fp => hi1 s H C cl fp _ takesF) hg1 (fun s H C cl fp => ht1 s H C cl fp _ takesF) (fun s H C cl fp => he s H C cl fp _ takesF) hs hs1).imp fun σ H Q2 h => lc2_low hv List.mem_cons_self rfl h
theorem ds_setLc2 {elt iter iter1 : Expr} {ifs ifs1 : List Expr} {scope : Scope} {x y z : Str} {i j k : Nat} {p1 p2 pz spos : Pos} {ti ti1 : I3} {tt tt1 : T3} {te : E3} (own : List (Str × Nat)) (hc : X.calm = true) (hN : X.N.Nodup) (hi : DI X (.Name x p1) iter ti) (ok : BlkOk X.N X.env.scope scope own) (hv : i ∈ own.map (·.2)) (hv1 : j ∈ own.map (·.2))
    (hg : ∀ (s : Shared) (H : Hp) (C : Addr) (cl : List (Str × Addr)) (fp : List Addr), PG (X.blk s H scope (compEnvC scope cl C X.env) fp) (.Name x p1) (gName i))
    (ht : ∀ (s : Shared) (H : Hp) (C : Addr) (cl : List (Str × Addr)) (fp : List Addr), DTs (X.blk s H scope (compEnvC scope cl C X.env) fp) ifs tt)
    (hi1 : ∀ (s : Shared) (H : Hp) (C : Addr) (cl : List (Str × Addr)) (fp : List Addr), DI (X.blk s H scope (compEnvC scope cl C X.env) fp) (.Name y p2) iter1 ti1)
    (hg1 : ∀ (s : Shared) (H : Hp) (C : Addr) (cl : List (Str × Addr)) (fp : List Addr), PG (X.blk s H scope (compEnvC scope cl C X.env) fp) (.Name y p2) (gName j))
    (ht1 : ∀ (s : Shared) (H : Hp) (C : Addr) (cl : List (Str × Addr)) (fp : List Addr), DTs (X.blk s H scope (compEnvC scope cl C X.env) fp) ifs1 tt1)
    (he : ∀ (s : Shared) (H : Hp) (C : Addr) (cl : List (Str × Addr)) (fp : List Addr), DE (X.blk s H scope (compEnvC scope cl C X.env) fp) elt te)
    (hy : X.N[k]? = some z := by rfl) (hyl : X.env.scope.names.lookup z = some .local := by rfl)
    (hsw : swapsWith (.ListComp elt [⟨.Name x p1, iter, ifs, 0⟩, ⟨.Name y p2, iter1, ifs1, 0⟩] scope pos) (some (.Name z pz)) spos.line X.env = pure true := by exact sw_true rfl rfl rfl (by decide +kernel))
    (hs : ∀ x, foldedSetIterable iter X.env x = pure x := by intro _; rfl) (hs1 : ∀ env x, foldedSetIterable iter1 env x = pure x := by intro _ _; rfl) :
    DS X (.Assign [.Name z pz] (.ListComp elt [⟨.Name x p1, iter, ifs, 0⟩, ⟨.Name y p2, iter1, ifs1, 0⟩] scope pos) spos) (s3Asg (e3Lc2 ti i tt ti1 j tt1 te (own.map (·.2)) [j]) k) := fun W2 tk hp =>
  (ps_setLc2 (vs1 := [j]) hc hN hy hyl hsw (hi W2 tk) ok (fun k hk => by rw [List.mem_singleton.mp hk]; exact hv1) hg (fun s H C cl fp => ht s H C cl fp _ takesF) (fun s H C cl fp => hi1 s H C cl fp _ takesF) hg1 (fun s H C cl fp => ht1 s H C cl fp _ takesF) (fun s H C cl fp => he s H C cl fp _ takesF) hs hs1).imp fun D2 σ H ⟨env, M, W, D3, s, a, l, q, le⟩ =>
    lc2_low (Q2 := fun x H1 => gName k x σ H1 D2.nx) hv List.mem_cons_self rfl ⟨env, M, W, _, s, a, l, q, fun d v H1 M1 t1 a1 r1 q1 => le.nx _ H1 _ M1 t1 ((s.mono t1).set k r1) a1 q1⟩
/-- pure items: one after the other -/
theorem lc2Map {ds : List D} {keep : MH → Prop} {i j : Nat} {ti1 : I3} {te : E3} {vs1 : List Nat} {env : En} {p : Addr} {M : MH} {Q : MH → Prop} (f : D → List D) (hp : M p = none) (hk : ∀ M', Sub M M' → keep M')
    (hz : ∀ k, ((ds.take k).flatMap f).length < sizeLine)
    (hi : ∀ (k : Nat) (d : D) (M' : MH) (R : List D → (MH → Prop) → MH → Prop), ds[k]? = some d → Sub M M' →
      (∀ (ds1 : List D) (g : D → D) (keep1 : MH → Prop), f d = ds1.map g → (∀ M'', Sub M M'' → keep1 M'') →
        (∀ (k1 : Nat) (d1 : D) (M'' : MH) (R : Q3), ds1[k1]? = some d1 → Sub M M'' → (∀ M3, Sub M'' M3 → R (g d1) M3) → te W0 ((wipe3 (env.set i (some d)) vs1).set j (some d1)) M'' R) → R ds1 keep1 M') → ti1 W0 (env.set i (some d)) M' R)
    (hq : ∀ M', Sub M M' → M' p = some (.lst (ds.flatMap f)) → Q M') : Loop2 ds keep i t3Yes ti1 j t3Yes te vs1 env p M Q := by
  refine ⟨fun k acc M' => acc = (ds.take k).flatMap f ∧ Sub M M', ⟨by simp, (Sub.refl M).new hp⟩, ?_, ?_⟩
  · rintro k d acc M' hd ⟨rfl, sub⟩ hpM
    refine ⟨hk M' sub, Br.tt (hi k d M' _ hd sub fun ds1 g keep1 hf hk1 hte => ?_)⟩
    have step : (ds.take (k + 1)).flatMap f = (ds.take k).flatMap f ++ ds1.map g := by
      rw [List.take_add_one, hd, Option.toList_some, List.flatMap_append, ← hf]
      simp
    refine ⟨fun k1 acc M'' => acc = (ds.take k).flatMap f ++ (ds1.take k1).map g ∧ Sub M M'', ⟨_, hpM, by simp, sub⟩, ?_, ?_⟩
    · rintro k1 d1 acc M'' hd1 ⟨rfl, sub2⟩ hpM2
      refine ⟨hk1 M'' sub2, Br.tt (hte k1 d1 M'' _ hd1 sub2 fun M3 s3 => ⟨_, s3 p _ hpM2, ?_, ?_, (sub2.trans s3).new hp⟩)⟩
      · have h1 := hz (k + 1)
        rw [step] at h1
        rw [List.length_append, List.length_map] at h1 ⊢
        have : (ds1.take k1).length ≤ ds1.length := by rw [List.length_take]; exact Nat.min_le_right _ _
        omega
      · rw [List.take_add_one, hd1, Option.toList_some, List.map_append, List.append_assoc]
        rfl
    · rintro acc M'' ⟨rfl, sub2⟩ hpM2
      refine ⟨hk1 M'' sub2, ?_, sub2⟩
      rw [List.take_length, step]
  · rintro acc M' ⟨rfl, sub⟩ hpM
    rw [List.take_length] at hpM
    exact ⟨hk M' sub, hq M' sub hpM⟩
/-! ### a comprehension over pairs -/
def LoopP (ds : List D) (keep : MH → Prop) (i j : Nat) (tt : T3) (te : E3) (env : En) (p : Addr) (M : MH) (Q : MH → Prop) : Prop := ∃ Iv : Nat → List D → MH → Prop, Iv 0 [] (updM M p (.lst [])) ∧
  (∀ k d acc M', ds[k]? = some d → Iv k acc M' → M' p = some (.lst acc) → keep M' ∧ ∃ d1 d2, d = .tup [d1, d2] ∧ tt W0 ((env.set i (some d1)).set j (some d2)) M' fun b M3 => Br b
    (te W0 ((env.set i (some d1)).set j (some d2)) M3 fun y M4 => ∃ acc', M4 p = some (.lst acc') ∧ acc'.length < sizeLine ∧ Iv (k + 1) (acc' ++ [y]) (updM M4 p (.lst (acc' ++ [y]))))
    (∃ acc', M3 p = some (.lst acc') ∧ Iv (k + 1) acc' M3)) ∧
  ∀ acc M', Iv ds.length acc M' → M' p = some (.lst acc) → keep M' ∧ Q M'
def e3LcP (ti : I3) (i j : Nat) (tt : T3) (te : E3) (vs : List Nat) : E3 := fun W env M Q => ti W env M fun ds keep M1 => ∀ p, M1 p = none → LoopP ds keep i j tt te (wipe3 env vs) p M1 fun M' => Q (.ref p) M'
theorem lcP_low {ti : I3} {i j : Nat} {tt : T3} {te : E3} {vs : List Nat} {W2 W2b : WX} (hv : i ∈ vs) (hv1 : j ∈ vs) (hW : W2b = fun _ _ _ _ => False) {σ : L2.St} {H : Hp} {Q2 : VK} (h : lowE X.K W2 (e3LcP ti i j tt te vs) σ H Q2) :
    tLc (lowI X.K W2 ti) (gTup X.K 2 (gCons (gName i) (gCons (gName j) gNil))) (lowT X.K W2b tt) (lowE X.K W2b te) vs σ H Q2 := by
  subst hW
  obtain ⟨env, M, W, Q, s, a, l, q, g⟩ := h
  refine ⟨env, M, W, _, s, a, l, q, fun ds keep J H1 M1 t1 a1 q1 ok Dd nD => ?_⟩
  obtain ⟨Iv, h0, hst, hd⟩ := q1 Dd (a1.fresh nD)
  have sw := (s.mono t1).wipe vs
  refine ⟨fun k m H' => m = ds.length - k ∧ k ≤ ds.length ∧ ∃ acc M', Tps H1 H' ∧ Abs X.K M' H' ∧ Iv k acc M' ∧ M' Dd = some (.lst acc), ⟨ds.length, by simp, Nat.zero_le _, [], _, Tps.new nD, a1.lstN nD Rvs.nil, h0, updM_same⟩, ?_⟩
  rintro k m H' ⟨rfl, hk, acc, M', t2, a', iv, hD⟩
  by_cases hlt : k < ds.length
  · have hx : ds[k]? = some ds[k] := List.getElem?_eq_getElem hlt
    obtain ⟨hkeep, d1, d2, hdd, hg⟩ := hst k _ acc M' hx iv hD
    obtain ⟨go, yl⟩ := ok.step k _ H' M' hx t2 a' hkeep
    refine .inr ⟨go, fun H2 => ∃ acc M2, Tps H1 H2 ∧ Abs X.K M2 H2 ∧ Iv (k + 1) acc M2 ∧ M2 Dd = some (.lst acc), fun H2 hn => ⟨ds.length - (k + 1), by omega, rfl, hlt, hn⟩, fun x H2 y => ?_⟩
    obtain ⟨t3, a3, r3⟩ := yl x H2 y
    have t23 := t2.trans t3
    rw [hdd] at r3
    obtain ⟨pt, ws, rfl, hs, hw⟩ := r3.tup_inv
    obtain ⟨v1, v2, rfl, r1, r2⟩ := two_inv hw
    refine ⟨pt, [v1, v2], rfl, hs, rfl, v1, [v2], rfl, v2, [], rfl, rfl, ?_, ?_⟩
    · rw [wipe_set hv1, wipe_set hv, wipe_wipe fun _ h => h]
    · have s2 : SE X.K H2 (((L2.wipe σ vs).set i (some v1)).set j (some v2)) (((wipe3 env vs).set i (some d1)).set j (some d2)) := ((sw.mono t23).set i r1).set j r2
      refine ⟨_, M', W0, _, s2, a3, LW0, hg, fun b H3 M3 t4 a4 q4 => ?_⟩
      cases b with
      | true =>
        show if true = true then _ else _
        rw [if_pos rfl]
        refine ⟨_, M3, W0, _, s2.mono t4, a4, LW0, q4.1 rfl, fun d v H4 M4 t5 a5 r5 q5 => ?_⟩
        obtain ⟨acc', e1, hz, iv'⟩ := q5
        obtain ⟨us, hu, ru⟩ := a5.lst e1
        exact ⟨us, hu, by rw [← ru.length]; exact hz, acc' ++ [d], _, ((t23.trans t4).trans t5).trans (Tps.lst hu), a5.lstU hu (ru.app (Rvs.cons r5 Rvs.nil)), iv', updM_same⟩
      | false =>
        show if false = true then _ else _
        rw [if_neg Bool.false_ne_true]
        obtain ⟨acc', e1, iv'⟩ := q4.2 rfl
        exact ⟨acc', M3, t23.trans t4, a4, iv', e1⟩
  · have e : k = ds.length := by omega
    subst e
    obtain ⟨hkeep, hq⟩ := hd acc M' iv hD
    exact .inl ⟨ok.stop H' M' t2 a' hkeep, g _ _ H' M' (t1.trans t2) a' Rv.ref hq⟩
theorem d_lcP {elt iter : Expr} {ifs : List Expr} {scope : Scope} {tg : Expr} {i j : Nat} {ti : I3} {tt : T3} {te : E3} (own : List (Str × Nat)) (hc : X.calm = true) (hN : X.N.Nodup) (hi : DI X tg iter ti) (ok : BlkOk X.N X.env.scope scope own) (hv : i ∈ own.map (·.2)) (hv1 : j ∈ own.map (·.2))
    (hg : ∀ (s : Shared) (H : Hp) (C : Addr) (cl : List (Str × Addr)) (fp : List Addr), PG (X.blk s H scope (compEnvC scope cl C X.env) fp) tg (gTup X.K 2 (gCons (gName i) (gCons (gName j) gNil))))
    (ht : ∀ (s : Shared) (H : Hp) (C : Addr) (cl : List (Str × Addr)) (fp : List Addr), DTs (X.blk s H scope (compEnvC scope cl C X.env) fp) ifs tt)
    (he : ∀ (s : Shared) (H : Hp) (C : Addr) (cl : List (Str × Addr)) (fp : List Addr), DE (X.blk s H scope (compEnvC scope cl C X.env) fp) elt te) (hs : ∀ x, foldedSetIterable iter X.env x = pure x := by intro _; rfl) :
    DE X (.ListComp elt [⟨tg, iter, ifs, 0⟩] scope pos) (e3LcP ti i j tt te (own.map (·.2))) := fun W2 tk =>
  (pe_lc hc hN (hi W2 tk) ok hg (fun s H C cl fp => ht s H C cl fp _ takesF) (fun s H C cl fp => he s H C cl fp _ takesF) hs).imp fun σ H Q2 h => lcP_low hv hv1 rfl h
/-! ### * of wide factors -/
def r3MulW : D → D → MH → Q3 → Prop
  | .int i, .int j, M, Q => CMulW i j ∧ Q (.int (i * j)) M
  | _, _, _, _ => False
theorem opl_mulW : OpL K (rI CMulW fun i j => .int (i * j)) r3MulW := by
  intro d e v u H M Q Q2 rd re a q g
  unfold r3MulW at q
  split at q
  · cases rd.int_inv; cases re.int_inv
    exact ⟨_, _, rfl, rfl, q.1, g _ _ H M (Tps.refl H) a Rv.int q.2⟩
  · exact q.elim
theorem d_mulW (ha : DE X a ta) (hb : DE X b tb) : DE X (.BinOp a .Mult b pos) (e3Op r3MulW ta tb) := d_op op_mulW opl_mulW ha hb
/-! ### try with two clauses -/
def s3Try2 (K : Fg) (c1 c2 : Value) (body h1 h2 : S3) : S3 := fun W D env M => body (fun cls dd env' M' => ∃ b, PySem.W.exmOne K cls c1 = some b ∧ (b = true → h1 W0 D env' M') ∧ (b = false → ∃ b2, PySem.W.exmOne K cls c2 = some b2 ∧ (b2 = true → h2 W0 D env' M') ∧ (b2 = false → W cls dd env' M'))) D env M
theorem ds_try2 {x1 x2 : Str} {c1 c2 : Value} {b1 b2 : Stmt} {suite1 suite2 body : List Stmt} {np1 np2 pp1 pp2 : Pos} {sb s1 s2 : S3} (hs : X.stack = X.env :: X.outer) (hf : X.env.frame = some X.env.locals) (hc1 : Names X x1 c1) (hc2 : Names X x2 c2)
    (hb : ∀ (pn : List (Addr × Obj)) (xe : Value → Shared → Prop), DSs (X.tr pn xe) body sb)
    (hs1 : ∀ (a : Addr) (oe : Obj) (pn : List (Addr × Obj)), DSs (X.suite a ((a, oe) :: pn)) (b1 :: suite1) s1)
    (hs2 : ∀ (a : Addr) (oe : Obj) (pn : List (Addr × Obj)), DSs (X.suite a ((a, oe) :: pn)) (b2 :: suite2) s2) :
    DS X (.Try body [.ExceptHandler (some (.Name x1 np1)) none (b1 :: suite1) pp1, .ExceptHandler (some (.Name x2 np2)) none (b2 :: suite2) pp2] [] [] pos) (s3Try2 X.K c1 c2 sb s1 s2) := fun W2 tk hp =>
  (ps_try_many (tb := fun W => lowS X.K W sb) (Wout := W2) (l := [(c1, fun _ _ _ => lowS X.K (fun _ _ _ _ => False) s1), (c2, fun _ _ _ => lowS X.K (fun _ _ _ _ => False) s2)]) hs hf tk (fun W pn xe tk' hp' => hb pn xe W tk' hp')
    (.cons hc1 (fun a oe cls d pn _ _ => hs1 a oe pn _ takes0 PassesOwn.never) (.cons hc2 (fun a oe cls d pn _ _ => hs2 a oe pn _ takes0 PassesOwn.never) .nil))).imp fun D2 σ H ⟨env, M, W, D3, s, a, l, q, le⟩ =>
    ⟨env, M, _, D3, s, a, fun cls dd σ' H' env' M' t s' a' ⟨b, e, y1, n1⟩ => ⟨b, e, fun hb a0 na => ⟨env', M', W0, D3, s', a', LW0, y1 hb, le.mono t⟩, fun hb => (let ⟨b', e', y2, n2⟩ := n1 hb
      ⟨b', e', fun hb' a0 na => ⟨env', M', W0, D3, s', a', LW0, y2 hb', le.mono t⟩, fun hb' => l cls dd σ' H' env' M' t s' a' (n2 hb')⟩)⟩, q, le⟩
end
end L3

namespace L3
open PySem PySem.Spec PyProof.Rows L2
/-! ### dicts with ints and texts as keys -/
def kD : Key → D
  | .inl i => .int i
  | .inr x => .str x
def valD (kvs : List (Key × D)) (k : Key) : Option D := (kvs.find? fun kv => decide (kv.1 = k)).map (·.2)
def putD (kvs : List (Key × D)) (k : Key) (v : D) : List (Key × D) :=
  if (kvs.any fun kv => decide (kv.1 = k)) = true then kvs.map (fun kv => if kv.1 = k then (kv.1, v) else kv) else kvs ++ [(k, v)]
def mergeD (kvs more : List (Key × D)) : List (Key × D) := more.foldl (fun acc kv => putD acc kv.1 kv.2) kvs
def DR (K : Fg) (H : Hp) (kvs : List (Key × D)) (ks : List (Key × V)) : Prop := ks.map (·.1) = kvs.map (·.1) ∧ Rvs K H (kvs.map (·.2)) (ks.map (·.2))
theorem Tps.dK {H : Hp} {p : Addr} {o : HO} {vs : List (Key × V)} (h : H p = some (.dK vs)) : Tps H (L2.upd H p o) :=
  ⟨fun q xs e => by rw [upd_ne (ne_of e h (by intro z; cases z))]; exact e, fun q u x e => by rw [upd_ne (ne_of e h (by intro z; cases z))]; exact e⟩
section
variable {K : Fg} {H H' : Hp} {M : MH} {p : Addr}
theorem kD_inv {k : Key} {v : V} (h : Rv K H (kD k) v) : v = kV k := by
  cases k with
  | inl i => exact h.int_inv
  | inr x => exact h.str_inv
theorem DR.mono {kvs : List (Key × D)} {ks : List (Key × V)} (h : DR K H kvs ks) (t : Tps H H') : DR K H' kvs ks := ⟨h.1, h.2.mono t⟩
theorem DR.nil : DR K H [] [] := ⟨rfl, Rvs.nil⟩
theorem DR.len {kvs : List (Key × D)} {ks : List (Key × V)} (h : DR K H kvs ks) : ks.length = kvs.length := by
  have := congrArg List.length h.1
  simpa using this
theorem DR.cons {k : Key} {d : D} {v : V} {kvs : List (Key × D)} {ks : List (Key × V)} (r : Rv K H d v) (h : DR K H kvs ks) : DR K H ((k, d) :: kvs) ((k, v) :: ks) :=
  ⟨by simp [h.1], Rvs.cons r h.2⟩
theorem DR.inv {k : Key} {d : D} {kvs : List (Key × D)} {ks : List (Key × V)} (h : DR K H ((k, d) :: kvs) ks) : ∃ v r, ks = (k, v) :: r ∧ Rv K H d v ∧ DR K H kvs r := by
  cases ks with
  | nil => exact absurd h.1 (by simp)
  | cons q r =>
    obtain ⟨v, vs, e, h1, h2⟩ := h.2.cons_inv
    have e1 := h.1
    simp only [List.map_cons, List.cons.injEq] at e e1
    obtain ⟨q1, q2⟩ := q
    simp only at e e1
    refine ⟨q2, r, by rw [e1.1], by rw [e.1]; exact h1, e1.2, by rw [e.2]; exact h2⟩
theorem DR.nil_inv {ks : List (Key × V)} (h : DR K H [] ks) : ks = [] := by simpa using h.1
theorem DR.val {k : Key} : ∀ {kvs : List (Key × D)} {ks : List (Key × V)}, DR K H kvs ks → (valD kvs k = none ∧ valV ks k = none) ∨ ∃ d v, valD kvs k = some d ∧ valV ks k = some v ∧ Rv K H d v
  | [], ks, h => by
    cases h.nil_inv
    exact .inl ⟨rfl, rfl⟩
  | (j, d) :: kvs, ks, h => by
    obtain ⟨v, r, rfl, h1, h2⟩ := h.inv
    by_cases e : j = k
    · refine .inr ⟨d, v, ?_, valV_pos e, h1⟩
      simp [valD, List.find?_cons, e]
    · have ih := DR.val (k := k) h2
      have e1 : valD ((j, d) :: kvs) k = valD kvs k := by simp [valD, List.find?_cons, e]
      have e2 : valV ((j, v) :: r) k = valV r k := valV_neg e
      rw [e1, e2]
      exact ih
theorem DR.any {kvs : List (Key × D)} {ks : List (Key × V)} (h : DR K H kvs ks) (k : Key) : (ks.any fun kv => decide (kv.1 = k)) = (kvs.any fun kv => decide (kv.1 = k)) := by
  have a1 : (ks.any fun kv => decide (kv.1 = k)) = ((ks.map (·.1)).any fun j => decide (j = k)) := by rw [List.any_map]; rfl
  have a2 : (kvs.any fun kv => decide (kv.1 = k)) = ((kvs.map (·.1)).any fun j => decide (j = k)) := by rw [List.any_map]; rfl
  rw [a1, a2, h.1]
theorem DR.app {kvs more : List (Key × D)} {ks ms : List (Key × V)} (h : DR K H kvs ks) (m : DR K H more ms) : DR K H (kvs ++ more) (ks ++ ms) :=
  ⟨by rw [List.map_append, List.map_append, h.1, m.1], by rw [List.map_append, List.map_append]; exact h.2.app m.2⟩
theorem DR.repl {k : Key} {d : D} {v : V} (r : Rv K H d v) : ∀ {kvs : List (Key × D)} {ks : List (Key × V)}, DR K H kvs ks → DR K H (kvs.map fun kv => if kv.1 = k then (kv.1, d) else kv) (ks.map fun kv => if kv.1 = k then (kv.1, v) else kv)
  | [], ks, h => by
    cases h.nil_inv
    exact DR.nil
  | (j, x) :: kvs, ks, h => by
    obtain ⟨y, t, rfl, h1, h2⟩ := h.inv
    have ih := DR.repl (k := k) r h2
    rw [List.map_cons, List.map_cons]
    by_cases e : j = k
    · rw [if_pos e, if_pos e]
      exact DR.cons r ih
    · rw [if_neg e, if_neg e]
      exact DR.cons h1 ih
theorem DR.put {k : Key} {d : D} {v : V} {kvs : List (Key × D)} {ks : List (Key × V)} (h : DR K H kvs ks) (r : Rv K H d v) : DR K H (putD kvs k d) (putK ks k v) := by
  unfold putD putK
  rw [h.any k]
  split
  · exact h.repl r
  · exact h.app (DR.cons r DR.nil)
theorem DR.merge : ∀ {more : List (Key × D)} {ms : List (Key × V)} {kvs : List (Key × D)} {ks : List (Key × V)}, DR K H more ms → DR K H kvs ks → DR K H (mergeD kvs more) (mergeK ks ms)
  | [], ms, kvs, ks, m, h => by
    cases m.nil_inv
    exact h
  | (k, d) :: more, ms, kvs, ks, m, h => by
    obtain ⟨v, r, rfl, h1, h2⟩ := m.inv
    exact DR.merge (more := more) (ms := r) (kvs := putD kvs k d) (ks := putK ks k v) h2 (h.put h1)
theorem Abs.dK (h : Abs K M H) {kvs : List (Key × D)} (e : M p = some (.dK kvs)) : ∃ ks, H p = some (.dK ks) ∧ DR K H kvs ks := by
  obtain ⟨ks, vs, h1, h2, rfl, h4⟩ := h p _ e
  exact ⟨ks, h1, h2, h4⟩
theorem Abs.dKN (h : Abs K M H) {kvs : List (Key × D)} {ks : List (Key × V)} (e : H p = none) (r : DR K H kvs ks) : Abs K (updM M p (.dK kvs)) (L2.upd H p (.dK ks)) :=
  h.upd (Tps.new e) ⟨ks, _, upd_same, r.1, rfl, r.2.mono (Tps.new e)⟩
theorem Abs.dKU (h : Abs K M H) {kvs : List (Key × D)} {ks ws : List (Key × V)} (e : H p = some (.dK ws)) (r : DR K H kvs ks) : Abs K (updM M p (.dK kvs)) (L2.upd H p (.dK ks)) :=
  h.upd (Tps.dK e) ⟨ks, _, upd_same, r.1, rfl, r.2.mono (Tps.dK e)⟩
end
section
variable {X : Cx} {e a b c o i : Expr} {es : List Expr} {pos p : Pos} {t ta tb tc : E3} {u : A3} {K : Fg}
def e3DNew : E3 := fun _ _ M Q => ∀ p, M p = none → Q (.ref p) (updM M p (.dK []))
theorem d_dnew : DE X (.Dict [] [] pos) e3DNew := fun W2 _ => pe_dnewK.imp fun σ H Q2 ⟨env, M, W, Q, s, a, l, q, g⟩ p hp =>
  g _ _ _ _ (Tps.new hp) (a.dKN hp DR.nil) Rv.ref (q p (a.fresh hp))
/-- pairs of a display -/
def e3Pairs : List (E3 × E3) → W3 → En → MH → (List (D × D) → MH → Prop) → Prop
  | [], _, _, M, Q => Q [] M
  | (tk, tv) :: r, W, env, M, Q => tk W env M fun x M1 => tv W env M1 fun y M2 => e3Pairs r W env M2 fun ps M3 => Q ((x, y) :: ps) M3
inductive DPs (X : Cx) : List (Option Expr) → List Expr → List (E3 × E3) → Prop
  | nil : DPs X [] [] []
  | cons {k v : Expr} {ks : List (Option Expr)} {vs : List Expr} {tk tv : E3} {r : List (E3 × E3)} (hk : DE X k tk) (hv : DE X v tv) (hr : DPs X ks vs r) : DPs X (some k :: ks) (v :: vs) ((tk, tv) :: r)
def lowP (K : Fg) (W2 : WX) (l : List (E3 × E3)) : List (TE × TE) := l.map fun q => (lowE K W2 q.1, lowE K W2 q.2)
theorem DPs.low {W2 : WX} (tk : Takes X W2) {ks : List (Option Expr)} {vs : List Expr} {l : List (E3 × E3)} (h : DPs X ks vs l) : PPs X pos ks vs (lowP X.K W2 l) := by
  induction h with
  | nil => exact pps_nil
  | cons hk hv hr ih => exact pps_cons (hk W2 tk) (hv W2 tk) ih
/-- pairs of values are as told -/
inductive PR (K : Fg) (H : Hp) : List (D × D) → List (V × V) → Prop
  | nil : PR K H [] []
  | cons {x y : D} {u v : V} {ds : List (D × D)} {vs : List (V × V)} (h1 : Rv K H x u) (h2 : Rv K H y v) (r : PR K H ds vs) : PR K H ((x, y) :: ds) ((u, v) :: vs)
theorem pairs_low {W2 : WX} : ∀ {l : List (E3 × E3)} {σ : L2.St} {H : Hp} {env : En} {M : MH} {W : W3} {Q : List (D × D) → MH → Prop} {Q2 : List (V × V) → Hp → Prop},
    SE K H σ env → Abs K M H → LW K H W W2 → e3Pairs l W env M Q → (∀ ds vs H' M', Tps H H' → Abs K M' H' → PR K H' ds vs → Q ds M' → Q2 vs H') → tPairs (lowP K W2 l) σ H Q2
  | [], σ, H, env, M, W, Q, Q2, s, a, l, q, g => g [] [] H M (Tps.refl H) a .nil q
  | (tk, tv) :: r, σ, H, env, M, W, Q, Q2, s, a, l, q, g => by
    show lowE K W2 tk σ H _
    refine ⟨env, M, W, _, s, a, l, q, fun x u H1 M1 t1 a1 r1 q1 => ?_⟩
    refine ⟨env, M1, W, _, s.mono t1, a1, l.mono t1, q1, fun y v H2 M2 t2 a2 r2 q2 => ?_⟩
    have t12 := t1.trans t2
    refine pairs_low (l := r) (s.mono t12) a2 (l.mono t12) q2 fun ds vs H3 M3 t3 a3 r3 q3 => ?_
    exact g _ _ H3 M3 (t12.trans t3) a3 (.cons (r1.mono (t2.trans t3)) (r2.mono t3) r3) q3
theorem pr_keys {H : Hp} : ∀ {kvs : List (Key × D)} {vs : List (V × V)}, PR K H (kvs.map fun kv => (kD kv.1, kv.2)) vs → ∃ ks : List (Key × V), vs = ks.map (fun kv => (kV kv.1, kv.2)) ∧ DR K H kvs ks
  | [], _, h => by cases h; exact ⟨[], rfl, DR.nil⟩
  | (k, d) :: kvs, _, h => by
    cases h with
    | cons h1 h2 r =>
      obtain ⟨ks, rfl, hk⟩ := pr_keys r
      exact ⟨(k, _) :: ks, by rw [kD_inv h1]; rfl, DR.cons h2 hk⟩
def e3Disp (l : List (E3 × E3)) : E3 := fun W env M Q => ∀ p, M p = none → e3Pairs l W env (updM M p (.dK [])) fun ps M2 => M2 p = some (.dK []) ∧ ∃ kvs : List (Key × D), ps = kvs.map (fun kv => (kD kv.1, kv.2)) ∧ kvs.length ≤ 15 ∧ Q (.ref p) (updM M2 p (.dK (mergeD [] kvs)))
theorem d_disp {keys : List (Option Expr)} {values : List Expr} {l : List (E3 × E3)} (h : DPs X keys values l) (hall : keys.all (·.isSome) = true := by rfl) (hl : keys.length = values.length := by rfl) (h0 : keys ≠ [] := by simp) (h15 : keys.length ≤ 15 := by simp) :
    DE X (.Dict keys values pos) (e3Disp l) := fun W2 tk => (pe_disp (h.low tk) hall hl h0 h15).imp fun σ H Q2 ⟨env, M, W, Q, s, a, lw, q, g⟩ p hp => by
  have tn : Tps H (L2.upd H p (.dK [])) := Tps.new hp
  refine pairs_low (s.mono tn) (a.dKN hp DR.nil) (lw.mono tn) (q p (a.fresh hp)) fun ds vs H3 M3 t3 a3 r3 q3 => ?_
  obtain ⟨hm, kvs, rfl, hz, q4⟩ := q3
  obtain ⟨ks, rfl, hk⟩ := pr_keys r3
  obtain ⟨ws, hw, hr⟩ := a3.dK hm
  cases hr.nil_inv
  exact ⟨hw, ks, rfl, by rw [hk.len]; exact hz, g _ _ _ _ ((tn.trans t3).trans (Tps.dK hw)) (a3.dKU hw (hk.merge DR.nil)) Rv.ref q4⟩
/-! ### d[k] -/
def rIxD (X : Cx) : R2 := fun x y H Q => ∃ p kvs k v, x = .ref p ∧ y = kV k ∧ H p = some (.dK kvs) ∧ valV kvs k = some v ∧ Q v H
def r3IxD : D → D → MH → Q3 → Prop := fun x y M Q => ∃ p kvs k d, x = .ref p ∧ y = kD k ∧ M p = some (.dK kvs) ∧ valD kvs k = some d ∧ Q d M
theorem opl_ixD : OpL K (rIxD X) r3IxD := by
  intro d e v u H M Q Q2 rd re a q g
  obtain ⟨p, kvs, k, x, rfl, rfl, hm, hv, q⟩ := q
  cases rd.ref_inv
  cases kD_inv re
  obtain ⟨ks, hk, hr⟩ := a.dK hm
  rcases hr.val (k := k) with ⟨z, _⟩ | ⟨x', w, z1, z2, rx⟩
  · rw [z] at hv; cases hv
  · rw [z1] at hv
    cases hv
    exact ⟨p, ks, k, w, rfl, rfl, hk, z2, g _ _ H M (Tps.refl H) a rx q⟩
theorem d_ixD {n : Nat} (hr : Room n X.A) (ha : DE X a ta) (hb : DE X b tb) (hs : NoSl b := by exact fun _ _ => rfl) : DE X (.Subscript a b pos) (e3Op r3IxD ta tb) := fun W2 tk =>
  (pe_dget (by have := Room.u65 hr; omega) (ha W2 tk) (hb W2 tk) hs).imp fun σ H Q2 h => by
    refine (?_ : tOp (fun x y H Q => ∃ a v, x = .ref a ∧ DGet H a y (some v) ∧ Q v H) (lowE X.K W2 ta) (lowE X.K W2 tb) σ H Q2)
    exact op_low (fun d e v u H M Q Q2 rd re a q g => let ⟨p, kvs, k, v, h1, h2, h3, h4, h5⟩ := opl_ixD (X := X) d e v u H M Q Q2 rd re a q g; ⟨p, v, h1, h2 ▸ h4 ▸ DGet.k h3, h5⟩) h
def g3SubD (to ti : E3) : G3 := fun W d env M Q => to W env M fun od M1 => ti W env M1 fun i M2 => ∃ p kvs k, od = .ref p ∧ i = kD k ∧ M2 p = some (.dK kvs) ∧ kvs.length < sizeLine ∧ Q env (updM M2 p (.dK (putD kvs k d)))
theorem dg_subD {n : Nat} (hr : Room n X.A) (ho : DE X o ta) (hi : DE X i tb) (ha : ∀ v, assign (.Subscript o i pos) X.env v = (do
      let ov ← holding [v] (eval o X.env)
      let iv ← holding [v, ov] (eval i X.env)
      standAt pos
      holding [v, ov, iv] (setItem ov iv v)
      release [v, ov, iv] []) := by intro _; rfl) : DG X (.Subscript o i pos) (g3SubD ta tb) := fun W2 tk => (pg_sub (ho W2 tk) (hi W2 tk) (set_dict (by have := Room.u65 hr; omega)) ha).imp fun v σ H Q2 ⟨d, env, M, W, Q, r, s, a, l, q, n⟩ => by
    refine ⟨env, M, W, _, s, a, l, q, fun od ov H1 M1 t1 a1 r1 q1 => ?_⟩
    refine ⟨env, M1, W, _, s.mono t1, a1, l.mono t1, q1, fun i iv H2 M2 t2 a2 r2 q2 => ?_⟩
    have t12 := t1.trans t2
    obtain ⟨p, kvs, k, rfl, rfl, hm, hz, q2⟩ := q2
    cases (r1.mono t2).ref_inv
    cases kD_inv r2
    obtain ⟨ks, hk, hr⟩ := a2.dK hm
    exact ⟨p, _, rfl, DPut.k hk (by rw [hr.len]; exact hz), n σ _ env _ (t12.trans (Tps.dK hk)) (s.mono (t12.trans (Tps.dK hk))) (a2.dKU hk (hr.put (r.mono t12))) q2⟩
/-! ### k in d -/
def r3InD (neg : Bool) : D → D → MH → Q3 → Prop := fun y x M Q => ∃ p kvs k, x = .ref p ∧ y = kD k ∧ M p = some (.dK kvs) ∧ Q (.bl (neg ^^ (valD kvs k).isSome)) M
def rInDK (neg : Bool) : R2 := fun y x H Q => ∃ p kvs k, x = .ref p ∧ y = kV k ∧ H p = some (.dK kvs) ∧ Q (.bl (neg ^^ (valV kvs k).isSome)) H
theorem opl_inD {neg : Bool} : OpL K (rInDK neg) (r3InD neg) := by
  intro d e v u H M Q Q2 rd re a q g
  obtain ⟨p, kvs, k, rfl, rfl, hm, q⟩ := q
  cases re.ref_inv
  cases kD_inv rd
  obtain ⟨ks, hk, hr⟩ := a.dK hm
  refine ⟨p, ks, k, rfl, rfl, hk, ?_⟩
  rcases hr.val (k := k) with ⟨z, z'⟩ | ⟨x', w, z1, z2, rx⟩
  · rw [z']; rw [z] at q; exact g _ _ H M (Tps.refl H) a Rv.bl q
  · rw [z2]; rw [z1] at q; exact g _ _ H M (Tps.refl H) a Rv.bl q
theorem ho_inD {n : Nat} (hr : Room n X.A) : OpR X (compareOp .In) (rInDK false) := by
  rintro pins s σ H x y v u Q I rx ry ⟨p, kvs, k, rfl, rfl, hk, q⟩
  cases ry
  exact d_in (by have := Room.u65 hr; omega) I (DGet.k hk) rx fun s3 I3 => ⟨.bl _, H, I3, rfl, by rw [Bool.false_xor] at q; exact q⟩
theorem ho_notinD {n : Nat} (hr : Room n X.A) : OpR X (compareOp .NotIn) (rInDK true) := by
  rintro pins s σ H x y v u Q I rx ry ⟨p, kvs, k, rfl, rfl, hk, q⟩
  cases ry
  exact d_notIn (by have := Room.u65 hr; omega) I (DGet.k hk) rx fun s3 I3 => ⟨.bl _, H, I3, rfl, by rw [Bool.true_xor] at q; exact q⟩
end
end L3

namespace L3
open PySem PySem.Spec PyProof.Rows L2
/-! ### networks -/
structure Net where
  many : Nat
  links : List (List Int)
  wh : List Int
  bl : List Int
def netD (N : Net) : D := .tup [.str "network", .int (N.many : Int), .tup (N.links.map rowD), rowD N.wh, rowD N.bl]
structure Good (N : Net) (c : Nat) : Prop where
  m1 : 1 ≤ N.many
  m2 : N.many ≤ 400
  c4 : c ≤ 4
  l : N.links.length = c
  o : ∀ l ∈ N.links, Ord N.many l
  w : N.wh.length = N.many
  b : N.bl.length = N.many
  iw : ∀ x ∈ N.wh, 0 ≤ x ∧ x < 100
  ib : ∀ x ∈ N.bl, 0 ≤ x ∧ x < 100
def sideS (b : Bool) : Str := if b then "white" else "black"
theorem side_w (b : Bool) : decide (sideS b = "white") = b := by cases b <;> decide
theorem side_b (b : Bool) : decide (sideS b = "black") = !b := by cases b <;> decide
def behind (N : Net) (b : Bool) (k : Int) (c : Nat) : Int := if b then (N.links.getD c []).getD k.toNat 0 else ((N.links.getD c []).idxOf k : Nat)
def inp (N : Net) (b : Bool) (k : Int) : Int := (if b then N.wh else N.bl).getD k.toNat 0
def viewD (N : Net) : Nat → Bool → Int → Int → D
  | 0, b, k, _ => .tup [.int (inp N b k)]
  | r + 1, b, k, back => .tup [.int (inp N b k), .tup ((List.range N.links.length).map fun c : Nat => if (c : Int) + 1 = back then .non else viewD N r (!b) (behind N b k c) ((c : Int) + 1))]
section
variable {N : Net} {c : Nat}
theorem Good.link (g : Good N c) {i : Nat} (hi : i < c) : N.links.getD i [] ∈ N.links ∧ Ord N.many (N.links.getD i []) ∧ (N.links.map rowD)[i]? = some (rowD (N.links.getD i [])) := by
  have hl : i < N.links.length := by rw [g.l]; exact hi
  have e : N.links.getD i [] = N.links[i] := by simp [hl]
  rw [e]
  exact ⟨List.getElem_mem hl, g.o _ (List.getElem_mem hl), by rw [List.getElem?_map, List.getElem?_eq_getElem hl]; rfl⟩
theorem getD_at {xs : List Int} {k : Int} (k0 : 0 ≤ k) (k1 : k < xs.length) : xs.getD k.toNat 0 ∈ xs ∧ atI (xs.map D.int) k = some (.int (xs.getD k.toNat 0)) := by
  obtain ⟨j, rfl⟩ := Int.eq_ofNat_of_zero_le k0
  have hj : j < xs.length := by omega
  have e : xs.getD (j : Int).toNat 0 = xs[j] := by rw [Int.toNat_natCast]; simp [hj]
  rw [e]
  exact ⟨List.getElem_mem hj, atI_nat (get_map hj)⟩
theorem Good.behind (g : Good N c) {b : Bool} {k : Int} {i : Nat} (hi : i < c) (k0 : 0 ≤ k) (k1 : k < N.many) : 0 ≤ behind N b k i ∧ behind N b k i < N.many := by
  obtain ⟨_, o, _⟩ := g.link hi
  cases b with
  | true =>
    show 0 ≤ (N.links.getD i []).getD k.toNat 0 ∧ (N.links.getD i []).getD k.toNat 0 < N.many
    exact o.mem.mp (getD_at k0 (by rw [o.len]; exact k1)).1
  | false =>
    show 0 ≤ (((N.links.getD i []).idxOf k : Nat) : Int) ∧ (((N.links.getD i []).idxOf k : Nat) : Int) < N.many
    have h := List.idxOf_lt_length_iff.mpr (o.mem.mpr ⟨k0, k1⟩)
    rw [o.len] at h
    omega
theorem Good.inp (g : Good N c) {b : Bool} {k : Int} (k0 : 0 ≤ k) (k1 : k < N.many) : 0 ≤ inp N b k ∧ inp N b k < 100 := by
  cases b with
  | true => exact g.iw _ (getD_at k0 (by rw [g.w]; exact k1)).1
  | false => exact g.ib _ (getD_at k0 (by rw [g.b]; exact k1)).1
def viewW : Nat → Nat
  | 0 => 62
  | r + 1 => 2 * (4 * (viewW r + 1) + 1)
theorem viewW_pos : ∀ r, 30 ≤ viewW r
  | 0 => by decide
  | r + 1 => by
    have := viewW_pos r
    show 30 ≤ 2 * (4 * (viewW r + 1) + 1)
    omega
theorem fit_view (g : Good N c) : ∀ (r : Nat) (b : Bool) (k back : Int), 0 ≤ k → k < N.many → Fit (2 * r + 1) (viewW r) (viewD N r b k back)
  | 0, b, k, back, k0, k1 => by
    obtain ⟨i0, i1⟩ := g.inp (b := b) k0 k1
    refine fit_tup (k := 0) (w := 30) (n := 1) (fun x hx => ?_) (Nat.le_refl _) (by decide) (by decide)
    rw [List.mem_singleton] at hx
    subst hx
    exact fit_int (by omega) (Nat.le_refl _)
  | r + 1, b, k, back, k0, k1 => by
    obtain ⟨i0, i1⟩ := g.inp (b := b) k0 k1
    have hp := viewW_pos r
    refine fit_tup (k := 2 * r + 2) (w := 4 * (viewW r + 1)) (n := 2) (fun x hx => ?_) (Nat.le_refl _) (Nat.le_refl _) (by omega)
    simp only [List.mem_cons, List.not_mem_nil, or_false] at hx
    rcases hx with rfl | rfl
    · exact fit_int (by omega) (by omega)
    · refine fit_tup (k := 2 * r + 1) (w := viewW r) (n := 4) (fun x hx => ?_) (by rw [List.length_map, List.length_range, g.l]; exact g.c4) (Nat.le_refl _) (Nat.le_refl _)
      obtain ⟨i, hi, rfl⟩ := List.mem_map.mp hx
      have hi' : i < c := by rw [← g.l]; exact List.mem_range.mp hi
      split
      · exact fit_non
      · exact fit_view g r (!b) _ _ (g.behind hi' k0 k1).1 (g.behind hi' k0 k1).2
theorem fit_net (g : Good N c) : Fit 3 250000 (netD N) := by
  have rows : ∀ l : List Int, l.length = N.many → (∀ x ∈ l, 0 ≤ x ∧ x < 1000) → Fit 1 (400 * 31) (rowD l) := fun l hl hx => fit_row (n := 400) (fun x h => by have := hx x h; omega) (by rw [hl]; exact g.m2)
  have m1 := g.m1
  have m2 := g.m2
  refine fit_tup (k := 2) (w := 4 * (400 * 31 + 1)) (n := 5) (fun x hx => ?_) (Nat.le_refl _) (by decide) (Nat.le_refl _)
  simp only [List.mem_cons, List.not_mem_nil, or_false] at hx
  rcases hx with rfl | rfl | rfl | rfl | rfl
  · exact ⟨rfl, by decide +kernel, by simp [pyOf, PyData.depth], by simp only [pyOf, PyData.weight]; decide⟩
  · exact fit_int (by omega) (by decide)
  · refine fit_tup (k := 1) (w := 400 * 31) (n := 4) (fun x hx => ?_) (by rw [List.length_map, g.l]; exact g.c4) (Nat.le_refl _) (Nat.le_refl _)
    obtain ⟨l, hl, rfl⟩ := List.mem_map.mp hx
    have o := g.o l hl
    exact rows l o.len fun x h => by have := o.mem.mp h; omega
  · exact (rows _ g.w fun x h => by have := g.iw x h; omega).mono (by decide) (by decide)
  · exact (rows _ g.b fun x h => by have := g.ib x h; omega).mono (by decide) (by decide)
end
/-! ### the program's defs on networks -/
def tOtherSide : S3 := (s3Ret (e3If (t3Test (e3Op r3Eq (e3Var 0) (e3C (.str "white")))) (e3C (.str "black")) (e3C (.str "white"))))
def spOtherSide : Sp3 := fun ds M Q _ => ∃ b, ds = [.str (sideS b)] ∧ Q (.str (sideS (!b))) M
theorem rdOtherSide : Rd3 ["side"] tOtherSide spOtherSide := by
  rintro ds M Q E ⟨b, rfl, q⟩
  conv => whnf
  refine eq_str ?_
  rw [side_w]
  cases b with
  | true => exact Br.tt ⟨M, Sub.refl _, q⟩
  | false => exact Br.ff ⟨M, Sub.refl _, q⟩
def tMetBehind : S3 :=
    (s3Seq (s3Asg (e3Op r3Ix (e3Op r3Ix (e3Var 0) (e3C (.int 2))) (e3Op r3Sub (e3Var 3) (e3C (.int 1)))) 4)
    (s3Ret (e3If (t3Test (e3Op r3Eq (e3Var 1) (e3C (.str "white")))) (e3Op r3Ix (e3Var 4) (e3Var 2)) (e3Tm m3Tix (e3Var 4) (a3Cons (e3Var 2) a3Nil)))))
def spMetBehind : Sp3 := fun ds M Q _ => ∃ (N : Net) (c : Nat) (b : Bool) (k : Int) (i : Nat), ds = [netD N, .str (sideS b), .int k, .int ((i : Int) + 1)] ∧ Good N c ∧ 0 ≤ k ∧ k < N.many ∧ i < c ∧ Q (.int (behind N b k i)) M
theorem rdMetBehind : Rd3 ["network", "side", "node", "colour", "links"] tMetBehind spMetBehind := by
  rintro ds M Q E ⟨N, c, b, k, i, rfl, g, k0, k1, hi, q⟩
  obtain ⟨_, o, hat⟩ := g.link hi
  refine ⟨_, rfl, rowD (N.links.getD i []), ?_, ?_⟩
  · rw [Int.add_sub_cancel]
    exact atI_nat hat
  conv => whnf
  refine eq_str ?_
  rw [side_w]
  cases b with
  | true => exact Br.tt ⟨_, (getD_at k0 (by rw [o.len]; exact k1)).2, M, Sub.refl _, q⟩
  | false => exact Br.ff ⟨_, rfl, o.mem.mpr ⟨k0, k1⟩, M, Sub.refl _, q⟩
def tInputOf : S3 := (s3Ret (e3If (t3Test (e3Op r3Eq (e3Var 1) (e3C (.str "white")))) (e3Op r3Ix (e3Op r3Ix (e3Var 0) (e3C (.int 3))) (e3Var 2)) (e3Op r3Ix (e3Op r3Ix (e3Var 0) (e3C (.int 4))) (e3Var 2))))
def spInputOf : Sp3 := fun ds M Q _ => ∃ (N : Net) (c : Nat) (b : Bool) (k : Int), ds = [netD N, .str (sideS b), .int k] ∧ Good N c ∧ 0 ≤ k ∧ k < N.many ∧ Q (.int (inp N b k)) M
theorem rdInputOf : Rd3 ["network", "side", "node"] tInputOf spInputOf := by
  rintro ds M Q E ⟨N, c, b, k, rfl, g, k0, k1, q⟩
  conv => whnf
  refine eq_str ?_
  rw [side_w]
  cases b with
  | true => exact Br.tt ⟨_, rfl, _, (getD_at k0 (by rw [g.w]; exact k1)).2, M, Sub.refl _, q⟩
  | false => exact Br.ff ⟨_, rfl, _, (getD_at k0 (by rw [g.b]; exact k1)).2, M, Sub.refl _, q⟩
def tBranchIn (sI sB sO sf : Sp3) : S3 :=
    (s3Seq (s3Asg (e3Call sI (a3Cons (e3Var 0) (a3Cons (e3Var 1) (a3Cons (e3Var 2) a3Nil)))) 5)
    (s3Seq (s3If (t3Test (e3Op r3Eq (e3Var 3) (e3C (.int 0)))) (s3Ret (e3Tup (a3Cons (e3Var 5) a3Nil))) s3Nil)
    (s3Seq (s3Asg (e3Lst a3Nil) 6)
    (s3Seq (s3For (i3Rng2 (a3Cons (e3C (.int 1)) (a3Cons (e3Op r3Add (e3CB c3Len (a3Cons (e3Op r3Ix (e3Var 0) (e3C (.int 2))) a3Nil)) (e3C (.int 1))) a3Nil))) (g3Name 7) (s3If (t3Test (e3Op r3Eq (e3Var 7) (e3Var 4))) (s3Expr (e3Bm m3App (e3Var 6) (a3Cons (e3C .non) a3Nil))) (s3Seq (s3Asg (e3Call sB (a3Cons (e3Var 0) (a3Cons (e3Var 1) (a3Cons (e3Var 2) (a3Cons (e3Var 7) a3Nil))))) 8)
    (s3Expr (e3Bm m3App (e3Var 6) (a3Cons (e3Call sf (a3Cons (e3Var 0) (a3Cons (e3Call sO (a3Cons (e3Var 1) a3Nil)) (a3Cons (e3Var 8) (a3Cons (e3Op r3Sub (e3Var 3) (e3C (.int 1))) (a3Cons (e3Var 7) a3Nil)))))) a3Nil))))))
    (s3Ret (e3Tup (a3Cons (e3Var 5) (a3Cons (e3TupOf (e3Var 6)) a3Nil))))))))
abbrev NBranchIn : List Str := ["network", "side", "node", "reach", "colour", "number", "parts", "other", "behind"]
/-- the promise to a depth -/
def spView (n : Nat) : Sp3 := fun ds M Q _ => ∃ (N : Net) (c r : Nat) (b : Bool) (k back : Int), ds = [netD N, .str (sideS b), .int k, .int (r : Int), .int back] ∧ Good N c ∧ 0 ≤ k ∧ k < N.many ∧ r ≤ n ∧ Q (viewD N r b k back) M
def partD (N : Net) (r : Nat) (b : Bool) (k back : Int) (c : Nat) : D := if (c : Int) + 1 = back then .non else viewD N r (!b) (behind N b k c) ((c : Int) + 1)
theorem viewD_succ {N : Net} {r : Nat} {b : Bool} {k back : Int} : viewD N (r + 1) b k back = .tup [.int (inp N b k), .tup ((List.range N.links.length).map (partD N r b k back))] := rfl
theorem parts_step {N : Net} {r : Nat} {b : Bool} {k back : Int} {i : Nat} {x : D} (h : partD N r b k back i = x) : (List.range i).map (partD N r b k back) ++ [x] = (List.range (i + 1)).map (partD N r b k back) := by
  rw [List.range_succ, List.map_append, ← h]; rfl
theorem rdBranchIn {n : Nat} {sf : Sp3} (hf : n = 0 ∨ ∃ j, n = j + 1 ∧ sf = spView j) : Rd3 NBranchIn (tBranchIn spInputOf spMetBehind spOtherSide sf) (spView n) := by
  rintro ds M Q E ⟨N, c, r, b, k, back, rfl, g, k0, k1, hr, q⟩
  refine ⟨N, c, b, k, rfl, g, k0, k1, ?_⟩
  conv => whnf
  refine eq_int ⟨fun e => ?_, fun e => ?_⟩
  · have r0 : r = 0 := by have := of_decide_eq_true e; omega
    subst r0
    exact ⟨szLe (by show 1 ≤ 1000000; decide), M, Sub.refl _, q⟩
  have rp : r ≠ 0 := fun z => by subst z; exact of_decide_eq_false e rfl
  obtain ⟨r, rfl⟩ := Nat.exists_eq_succ_of_ne_zero rp
  obtain ⟨j, rfl, rfl⟩ : ∃ j, n = j + 1 ∧ sf = spView j := by
    rcases hf with h | h
    · omega
    · exact h
  refine ⟨szLe (by simp), fun w nw => ?_⟩
  refine ⟨_, rfl, ?_⟩
  have lc : (N.links.map rowD).length = c := by rw [List.length_map, g.l]
  have c4 := g.c4
  conv => whnf
  rw [lc]
  refine ⟨⟨by decide, by decide, by omega, by omega⟩, ?_⟩
  rw [show ((c : Int) + 1 - 1).toNat = c by omega]
  refine ⟨fun i env' M' => ∃ s7 s8, env' = [some (netD N), some (.str (sideS b)), some (.int k), some (.int ((r + 1 : Nat) : Int)), some (.int back), some (.int (inp N b k)), some (.ref w), s7, s8] ∧ Sub M M' ∧ M' w = some (.lst ((List.range i).map (partD N r b k back))), ⟨none, none, rfl, (Sub.refl M).new nw, updM_same⟩, ?_, ?_⟩
  · rintro i d env' M' hd ⟨s7, s8, rfl, sub, hw⟩
    obtain ⟨hi, rfl⟩ := rngD_get hd
    have e1 : (1 : Int) + (i : Int) = (i : Int) + 1 := Int.add_comm 1 _
    rw [e1]
    have hz : ((List.range i).map (partD N r b k back)).length < sizeLine := szLt (by rw [List.length_map, List.length_range]; omega)
    refine ⟨trivial, eq_int ⟨fun e => ?_, fun e => ?_⟩⟩
    · refine ⟨⟨_, .inl hw⟩, _, hw, hz, _, _, rfl, sub.new nw, ?_⟩
      rw [updM_same, parts_step]
      unfold partD
      rw [if_pos (of_decide_eq_true e)]
    · obtain ⟨b0, b1⟩ := g.behind (b := b) hi k0 k1
      refine ⟨N, c, b, k, i, rfl, g, k0, k1, hi, ⟨_, .inl hw⟩, b, rfl, N, c, r, !b, behind N b k i, (i : Int) + 1, ?_, g, b0, b1, by omega, _, hw, hz, _, _, rfl, sub.new nw, ?_⟩
      · rw [show ((r + 1 : Nat) : Int) - 1 = (r : Int) by omega]
      · rw [updM_same, parts_step]
        unfold partD
        rw [if_neg (of_decide_eq_false e)]
  · rintro env' M' ⟨s7, s8, rfl, sub, hw⟩
    rw [rngD_length] at hw
    refine ⟨trivial, _, .inl hw, szLe (by show 2 ≤ 1000000; decide), M, sub, ?_⟩
    have q' := q
    rw [show r.succ = r + 1 from rfl, viewD_succ, g.l] at q'
    exact q'
end L3

namespace L3
open PySem PySem.Spec PyProof.Rows L2
/-! ### repr of a dict whose values hold no lists -/
mutual
def noL : PyData → Bool
  | .none | .bool _ | .int _ | .str _ => true
  | .tuple xs => noLs xs
  | .list _ | .dict _ => false
def noLs : List PyData → Bool
  | [] => true
  | x :: xs => noL x && noLs xs
end
section
variable {h : Heap}
mutual
theorem reads_noL : ∀ (d : PyData) (v : Value) (as : List Addr), noL d = true → Reads h v d as → as = []
  | .none, _, _, _, r => by cases r; rfl
  | .bool _, _, _, _, r => by cases r; rfl
  | .int _, _, _, _, r => by cases r; rfl
  | .str _, _, _, _, r => by cases r; rfl
  | .tuple xs, _, as, n, r => by
    cases r with
    | tuple h1 h2 h3 h4 => exact readsAll_noL xs _ as (by simpa [noL] using n) h4
  | .list _, _, _, n, _ => by simp [noL] at n
  | .dict _, _, _, n, _ => by simp [noL] at n
theorem readsAll_noL : ∀ (ds : List PyData) (vs : List Value) (as : List Addr), noLs ds = true → ReadsAll h vs ds as → as = []
  | [], _, _, _, r => by cases r; rfl
  | d :: ds, _, _, n, r => by
    have n' : noL d = true ∧ noLs ds = true := by simpa [noLs] using n
    cases r with
    | cons r1 r2 =>
      rw [reads_noL d _ _ n'.1 r1, readsAll_noL ds _ _ n'.2 r2]
      rfl
end
end
def kP : Key → PyData
  | .inl i => .int i
  | .inr x => .str x
section
variable {X : Cx} {e a b c o i : Expr} {es : List Expr} {pos p : Pos} {t ta tb tc : E3} {u : A3} {K : Fg}
theorem pairs_keys {P : Program} {w : World} {h : Heap} : ∀ {es : List DictEntry} {kvs : List (Key × Value)}, Pairs (mixKind P w) es kvs → ReadsAll h (es.map (·.key)) (kvs.map fun kv => kP kv.1) []
  | _, _, .nil => .nil
  | e :: es, (k, v) :: kvs, .cons h1 h2 r => by
    have ih := pairs_keys (h := h) r
    have hk : Reads h e.key (kP k) [] := by
      rcases keyIs_shape h1 with ⟨i, t, e1, e2⟩ | ⟨x, t, e1, e2⟩
      · simp only at e1
        subst e1
        rw [e2]
        exact .int i t
      · simp only at e1
        subst e1
        rw [e2]
        exact .str x t
    exact ReadsAll.cons hk ih
theorem pairs_vals {P : Program} {w : World} : ∀ {es : List DictEntry} {kvs : List (Key × Value)}, Pairs (mixKind P w) es kvs → es.map (·.val) = kvs.map (·.2)
  | _, _, .nil => rfl
  | e :: es, (k, v) :: kvs, .cons h1 h2 r => by
    rw [List.map_cons, List.map_cons, pairs_vals r, h2]
theorem kv_vals : ∀ {ks : List (Key × V)} {vs : List (Key × Value)}, KV ks vs → Vals (ks.map (·.2)) (vs.map (·.2)) ∧ ks.map (·.1) = vs.map (·.1)
  | _, _, .nil => ⟨.nil, rfl⟩
  | _ :: _, _ :: _, .cons h1 r => by
    obtain ⟨a, b⟩ := kv_vals r
    exact ⟨.cons h1.2 a, by rw [List.map_cons, List.map_cons, b, h1.1]⟩
/-- what is shown of the dict -/
def dP (kvs : List (Key × D)) (ps : List PyData) : PyData := .dict ((kvs.map fun kv => kP kv.1).zip ps)
def rReprD (K : Fg) : List V → Hp → VK → Prop := fun vs H Q => ∃ a ks ps, vs = [.ref a] ∧ H a = some (.dK ks) ∧ DpAll K H (ks.map (·.2)) ps ∧ noLs ps = true ∧
  PyData.showable (.dict ((ks.map fun kv => kP kv.1).zip ps)) = true ∧ PyData.depth (.dict ((ks.map fun kv => kP kv.1).zip ps)) ≤ 100 ∧ (PyData.dict ((ks.map fun kv => kP kv.1).zip ps)).shown.length ≤ sizeLine ∧ Q (.str (PyData.dict ((ks.map fun kv => kP kv.1).zip ps)).shown) H
theorem DpAll.len : ∀ {vs : List V} {ds : List PyData} {H : Hp}, DpAll K H vs ds → vs.length = ds.length
  | _, _, _, .nil => rfl
  | _, _, _, .cons _ r => by rw [List.length_cons, List.length_cons, DpAll.len r]
theorem cr_reprDU (hr : RoomU X.A) : CallR X (.builtin "repr") (rReprD X.K) := by
  rintro pins s σ H xs us Q I r ⟨a, ks, ps, rfl, hk, hd, hn, h1, h3, h4, q⟩
  obtain ⟨w, rfl, rv⟩ := vals1 r
  cases rv
  obtain ⟨z, hs, vs, rel, ob, es, n, ho, ex, hdat, kof, prs, nd⟩ := dk_of I.hok hk
  obtain ⟨rvs, rks⟩ := kv_vals rel
  obtain ⟨bs, rb⟩ := Dp.readsAll I ps _ _ hd rvs
  have hb := readsAll_noL ps _ _ hn rb
  subst hb
  have lens : ((ks.map fun kv => kP kv.1)).length = ps.length := by
    have := DpAll.len hd
    simpa using this
  have e1 : (((ks.map fun kv => kP kv.1).zip ps).map (·.1)) = vs.map fun kv => kP kv.1 := by
    rw [show (((ks.map fun kv => kP kv.1).zip ps).map (·.1)) = (ks.map fun kv => kP kv.1) from List.map_fst_zip (Nat.le_of_eq lens)]
    have := congrArg (List.map kP) rks
    rw [List.map_map, List.map_map] at this
    exact this
  have e2 : (((ks.map fun kv => kP kv.1).zip ps).map (·.2)) = ps := List.map_snd_zip (Nat.le_of_eq lens.symm)
  have rd : Reads s.heap (.ref a) (.dict ((ks.map fun kv => kP kv.1).zip ps)) (a :: [] ++ []) := by
    refine Reads.dict (es := es) (n := n) ho ex.1 hdat ?_ ?_
    · rw [e1]
      exact pairs_keys prs
    · rw [e2, pairs_vals prs]
      exact rb
  refine repr_of_reads' rd h1 (fun _ m => ?_) hr.g (by have := hr.un; omega) (fun _ _ e => e) (fun h' u tk hk => ⟨.str _, H, I.kept hk, ⟨_, rfl⟩, q⟩) h4
  have : sysModules = a := by simpa using m
  rw [← this] at hs
  simp at hs
theorem cr_reprD {k : Nat} (hr : RoomG k X.A) : CallR X (.builtin "repr") (rReprD X.K) := cr_reprDU hr.low
def c3ReprD : List D → MH → Q3 → Prop := fun ds M Q => ∃ a kvs ps, ds = [.ref a] ∧ M a = some (.dK kvs) ∧ Pys M (kvs.map (·.2)) ps ∧ noLs ps = true ∧
  PyData.showable (dP kvs ps) = true ∧ PyData.depth (dP kvs ps) ≤ 100 ∧ (dP kvs ps).shown.length ≤ sizeLine ∧ Q (.str (dP kvs ps).shown) M
theorem cl_reprD : CallL K (rReprD K) c3ReprD := by
  intro ds vs H M Q Q2 r a q g
  obtain ⟨l, kvs, ps, rfl, hm, hp, hn, h1, h2, h3, q⟩ := q
  obtain ⟨v, rfl, rr⟩ := one_inv r
  cases rr.ref_inv
  obtain ⟨ks, hk, hr⟩ := a.dK hm
  have e : (ks.map fun kv => kP kv.1) = kvs.map fun kv => kP kv.1 := by
    have := congrArg (List.map kP) hr.1
    rw [List.map_map, List.map_map] at this
    exact this
  unfold dP at h1 h2 h3 q
  rw [← e] at h1 h2 h3 q
  exact ⟨l, ks, ps, rfl, hk, Pys.dp a ps _ _ hp hr.2, hn, h1, h2, h3, g _ _ H M (Tps.refl H) a Rv.str q⟩
/-- repr of a value, or of a dict -/
def c3ReprX : List D → MH → Q3 → Prop := fun ds M Q => c3Repr ds M Q ∨ c3ReprD ds M Q
theorem d_reprX {k : Nat} (hr : RoomG k X.A) (hm : X.mg "repr" = none) (ha : DA X [e] u) (hg : Gl X "repr" := by rfl) (he : starEach (e :: []) X.env = (false, eval e X.env) :: starEach [] X.env := by rfl) (hpl : (backTo pos (starEach [] X.env)).any (·.1) = false := by rfl) : DE X (.Call (.Name "repr" p) [e] [] pos) (e3CB c3ReprX u) :=
  d_cb (r := fun vs H Q => rRepr X.K vs H Q ∨ rReprD X.K vs H Q) (fun pins s σ H xs us Q I r q => q.elim (cr_repr hr pins s σ H xs us Q I r) (cr_reprD hr pins s σ H xs us Q I r))
    (fun ds vs H M Q Q2 r a q g => q.elim (fun q => .inl (cl_repr ds vs H M Q Q2 r a q g)) fun q => .inr (cl_reprD ds vs H M Q Q2 r a q g)) hg hm boot_repr' ha (by decide) (by decide) he hpl
end
end L3

namespace L3
open PySem PySem.Spec PyProof.Rows L2
/-- a comprehension by the places -/
theorem lcIdx {ds : List D} {keep : MH → Prop} {i : Nat} {te : E3} {env : En} {p : Addr} {M : MH} {Q : MH → Prop} (g : Nat → D) (hp : M p = none) (hk : ∀ M', Sub M M' → keep M')
    (he : ∀ (k : Nat) (d : D) (M' : MH) (R : Q3), ds[k]? = some d → Sub M M' → (∀ M'', Sub M' M'' → R (g k) M'') → te W0 (env.set i (some d)) M' R) (hsz : ds.length < sizeLine)
    (hq : ∀ M', Sub M M' → M' p = some (.lst ((List.range ds.length).map g)) → Q M') : LoopC ds keep i t3Yes te env p M Q := by
  refine ⟨fun k acc M' => acc = (List.range k).map g ∧ Sub M M', ⟨rfl, (Sub.refl M).new hp⟩, ?_, ?_⟩
  · rintro k d acc M' hd ⟨rfl, sub⟩ hpM
    have hlt := (List.getElem?_eq_some_iff.mp hd).1
    refine ⟨hk M' sub, Br.tt (he k d M' _ hd sub fun M'' s2 => ⟨(List.range k).map g, s2 p _ hpM, ?_, ?_, (sub.trans s2).new hp⟩)⟩
    · rw [List.length_map, List.length_range]
      exact Nat.lt_trans hlt hsz
    · rw [List.range_succ, List.map_append]
      rfl
  · rintro acc M' ⟨rfl, sub⟩ hpM
    exact ⟨hk M' sub, hq M' sub hpM⟩
theorem range_get {g : Nat → D} {n k : Nat} {d : D} (h : ((List.range n).map g)[k]? = some d) : k < n ∧ d = g k := by
  rw [List.getElem?_map] at h
  by_cases hk : k < n
  · rw [List.getElem?_range hk] at h
    exact ⟨hk, (Option.some.inj h).symm⟩
  · rw [List.getElem?_eq_none (by simpa using hk)] at h
    cases h
theorem range_at {g : Nat → D} {n k : Nat} (h : k < n) : ((List.range n).map g)[k]? = some (g k) := by
  rw [List.getElem?_map, List.getElem?_range h]; rfl
/-! ### trees: views by a walk -/
section
variable {S : Type} (num : S → Int) (nx : S → Int → S) (cs : Nat)
def treeG : Nat → S → Int → D
  | 0, s, _ => .tup [.int (num s)]
  | r + 1, s, back => .tup [.int (num s), .tup ((List.range cs).map fun c : Nat => if (c : Int) + 1 = back then .non else treeG r (nx s ((c : Int) + 1)) ((c : Int) + 1))]
def partG (r : Nat) (s : S) (back : Int) (c : Nat) : D := if (c : Int) + 1 = back then .non else treeG num nx cs r (nx s ((c : Int) + 1)) ((c : Int) + 1)
theorem treeG_zero {s : S} {back : Int} : treeG num nx cs 0 s back = .tup [.int (num s)] := rfl
theorem treeG_succ {r : Nat} {s : S} {back : Int} : treeG num nx cs (r + 1) s back = .tup [.int (num s), .tup ((List.range cs).map (partG num nx cs r s back))] := rfl
variable {num nx cs}
theorem tree_not_non {r : Nat} {s : S} {b : Int} : isNonD (treeG num nx cs r s b) = false := by cases r <;> rfl
theorem part_in {r : Nat} {s : S} {b : Int} {c : Nat} (h : (c : Int) + 1 ≠ b) : partG num nx cs r s b c = treeG num nx cs r (nx s ((c : Int) + 1)) ((c : Int) + 1) := if_neg h
theorem part_out {r : Nat} {s : S} {b : Int} {c : Nat} (h : (c : Int) + 1 = b) : partG num nx cs r s b c = .non := if_pos h
theorem parts_app {r : Nat} {s : S} {b : Int} {i : Nat} {x : D} (h : partG num nx cs r s b i = x) : (List.range i).map (partG num nx cs r s b) ++ [x] = (List.range (i + 1)).map (partG num nx cs r s b) := by
  rw [List.range_succ, List.map_append, ← h]; rfl
theorem fit_tree (hn : ∀ s, 0 ≤ num s ∧ num s < 100) (hc : cs ≤ 4) : ∀ (r : Nat) (s : S) (b : Int), Fit (2 * r + 1) (viewW r) (treeG num nx cs r s b)
  | 0, s, b => by
    have := hn s
    refine fit_tup (k := 0) (w := 30) (n := 1) (fun x hx => ?_) (Nat.le_refl _) (by decide) (by decide)
    rw [List.mem_singleton] at hx
    subst hx
    exact fit_int (by omega) (Nat.le_refl _)
  | r + 1, s, b => by
    have := hn s
    have hp := viewW_pos r
    refine fit_tup (k := 2 * r + 2) (w := 4 * (viewW r + 1)) (n := 2) (fun x hx => ?_) (Nat.le_refl _) (Nat.le_refl _) (by omega)
    simp only [List.mem_cons, List.not_mem_nil, or_false] at hx
    rcases hx with rfl | rfl
    · exact fit_int (by omega) (by omega)
    · refine fit_tup (k := 2 * r + 1) (w := viewW r) (n := 4) (fun x hx => ?_) (by rw [List.length_map, List.length_range]; exact hc) (Nat.le_refl _) (Nat.le_refl _)
      obtain ⟨i, _, rfl⟩ := List.mem_map.mp hx
      split
      · exact fit_non
      · exact fit_tree hn hc r _ _
theorem viewW_le {i : Nat} (h : i ≤ 4) : viewW i ≤ 1048576 := by
  have : i = 0 ∨ i = 1 ∨ i = 2 ∨ i = 3 ∨ i = 4 := by omega
  rcases this with rfl | rfl | rfl | rfl | rfl <;> decide
end
/-! ### reach_of, shortened, backward -/
def tReachOf : S3 :=
    (s3Seq (s3Asg (e3C (.int 0)) 1)
    (s3Seq (s3While (t3Test (e3Op r3Eq (e3CB c3Len (a3Cons (e3Var 0) a3Nil)) (e3C (.int 2)))) (s3Seq (s3Asg (e3Op r3Add (e3Var 1) (e3C (.int 1))) 1)
    (s3Asg (e3Op r3Ix (e3Lc (i3Seq (e3Op r3Ix (e3Var 0) (e3C (.int 1)))) 2 (t3Test (e3Op r3IsNot (e3Var 2) (e3C .non))) (e3Var 2) [2]) (e3C (.int 0))) 0)))
    (s3Ret (e3Var 1))))
def spReachOf (S : Type) : Sp3 := fun ds M Q _ => ∃ (num : S → Int) (nx : S → Int → S) (cs r : Nat) (s : S) (b : Int), ds = [treeG num nx cs r s b] ∧ 2 ≤ cs ∧ cs ≤ 1000 ∧ Q (.int (r : Int)) M
theorem first_part {S : Type} {num : S → Int} {nx : S → Int → S} {cs r : Nat} {s : S} {b : Int} (hc : 2 ≤ cs) : ∃ s' b', atI ((((List.range cs).map (partG num nx cs r s b)).filter fun d => !isNonD d).map id) ((0 : Nat) : Int) = some (treeG num nx cs r s' b') := by
  generalize hL : ((List.range cs).map (partG num nx cs r s b)).filter (fun d => !isNonD d) = L
  have mem : ∀ x ∈ L, ∃ s' b', x = treeG num nx cs r s' b' := fun x hx => by
    rw [← hL, List.mem_filter] at hx
    obtain ⟨c, _, rfl⟩ := List.mem_map.mp hx.1
    by_cases h : (c : Int) + 1 = b
    · rw [part_out h] at hx
      exact absurd hx.2 (by decide)
    · exact ⟨_, _, part_in h⟩
  have some_ : L ≠ [] := by
    have pick : ∃ c, c < cs ∧ (c : Int) + 1 ≠ b := by
      by_cases h : ((0 : Nat) : Int) + 1 = b
      · exact ⟨1, by omega, by omega⟩
      · exact ⟨0, by omega, h⟩
    obtain ⟨c, h1, h2⟩ := pick
    have : partG num nx cs r s b c ∈ L := by
      rw [← hL, List.mem_filter]
      refine ⟨List.mem_map.mpr ⟨c, List.mem_range.mpr h1, rfl⟩, ?_⟩
      rw [part_in h2, tree_not_non]
      rfl
    intro z
    rw [z] at this
    simp at this
  match L, some_, mem with
  | x :: L, _, mem =>
    obtain ⟨s', b', rfl⟩ := mem x List.mem_cons_self
    exact ⟨s', b', atI_nat rfl⟩
theorem rdReachOf {S : Type} : Rd3 ["view", "reach", "part"] tReachOf (spReachOf S) := by
  rintro ds M Q E ⟨num, nx, cs, r, s, b, rfl, c2, c3, q⟩
  refine ⟨fun n env' M' => ∃ s' b' s2, n ≤ r ∧ env' = [some (treeG num nx cs n s' b'), some (.int ((r : Int) - (n : Int))), s2] ∧ Sub M M', ⟨r, s, b, none, Nat.le_refl _, by rw [Int.sub_self]; rfl, Sub.refl M⟩, ?_⟩
  rintro n env' M' ⟨s', b', s2, hn, rfl, sub⟩
  cases n with
  | zero =>
    refine eq_int (Br.no rfl ⟨M, sub, ?_⟩)
    rw [show (r : Int) - ((0 : Nat) : Int) = (r : Int) by omega]
    exact q
  | succ n =>
    refine eq_int (Br.yes rfl ?_)
    refine ⟨.tup ((List.range cs).map (partG num nx cs n s' b')), rfl, fun p np => ?_⟩
    refine lcFilter (fun d => !isNonD d) id np (fun _ _ => trivial) (fun k d M2 R hd s2 k2 => k2 M2 (Sub.refl _)) (fun k d M2 R hd hb s2 k2 => k2 M2 (Sub.refl _)) (szLt (by rw [List.length_map, List.length_range]; omega)) fun M2 s3 h2 => ?_
    obtain ⟨s'', b'', hat⟩ := first_part (num := num) (nx := nx) (r := n) (s := s') (b := b') c2
    refine ⟨_, _, .inl h2, hat, n, Nat.lt_succ_self n, s'', b'', s2, by omega, ?_, sub.trans s3⟩
    rw [show (r : Int) - ((n + 1 : Nat) : Int) + 1 = (r : Int) - (n : Int) by omega]
    rfl
def tShortened (sf : Sp3) : S3 :=
    (s3Seq (s3If (t3Test (e3Op r3Eq (e3Var 1) (e3C (.int 0)))) (s3Ret (e3Tup (a3Cons (e3Op r3Ix (e3Var 0) (e3C (.int 0))) a3Nil))) s3Nil)
    (s3Ret (e3Tup (a3Cons (e3Op r3Ix (e3Var 0) (e3C (.int 0))) (a3Cons (e3TupOf (e3Lc (i3Seq (e3Op r3Ix (e3Var 0) (e3C (.int 1)))) 2 t3Yes (e3If (t3Test (e3Op r3Is (e3Var 2) (e3C .non))) (e3C .non) (e3Call sf (a3Cons (e3Var 2) (a3Cons (e3Op r3Sub (e3Var 1) (e3C (.int 1))) a3Nil)))) [2])) a3Nil)))))
def spShort (S : Type) (n : Nat) : Sp3 := fun ds M Q _ => ∃ (num : S → Int) (nx : S → Int → S) (cs r m : Nat) (s : S) (b : Int), ds = [treeG num nx cs r s b, .int (m : Int)] ∧ cs ≤ 1000 ∧ m ≤ r ∧ m ≤ n ∧ Q (treeG num nx cs m s b) M
theorem tree_num {S : Type} {num : S → Int} {nx : S → Int → S} {cs r : Nat} {s : S} {b : Int} : ∃ ds, treeG num nx cs r s b = .tup ds ∧ atI ds 0 = some (.int (num s)) := by cases r <;> exact ⟨_, rfl, rfl⟩
theorem rdShortened {S : Type} {n : Nat} {sf : Sp3} (hf : n = 0 ∨ ∃ j, n = j + 1 ∧ sf = spShort S j) : Rd3 ["branch", "reach", "part"] (tShortened sf) (spShort S n) := by
  rintro ds M Q E ⟨num, nx, cs, r, m, s, b, rfl, c3, hm, hn, q⟩
  obtain ⟨xs, e0, h0⟩ := tree_num (num := num) (nx := nx) (cs := cs) (r := r) (s := s) (b := b)
  conv => whnf
  refine eq_int ⟨fun e => ?_, fun e => ?_⟩
  · have m0 : m = 0 := by have := of_decide_eq_true e; omega
    subst m0
    rw [e0]
    exact ⟨_, h0, szLe (by show 1 ≤ 1000000; decide), M, Sub.refl _, q⟩
  have mp : m ≠ 0 := fun z => by subst z; exact of_decide_eq_false e rfl
  obtain ⟨m, rfl⟩ := Nat.exists_eq_succ_of_ne_zero mp
  obtain ⟨r, rfl⟩ := Nat.exists_eq_succ_of_ne_zero (show r ≠ 0 by omega)
  obtain ⟨j, rfl, rfl⟩ : ∃ j, n = j + 1 ∧ sf = spShort S j := by
    rcases hf with h | h
    · omega
    · exact h
  refine ⟨_, rfl, _, rfl, fun p np => ?_⟩
  refine lcIdx (partG num nx cs m s b) np (fun _ _ => trivial) (fun k d M' R hd s1 k2 => ?_) (szLt (by rw [List.length_map, List.length_range]; omega)) fun M1 s1 h1 => ?_
  · have hd' : ((List.range cs).map (partG num nx cs r s b))[k]? = some d := hd
    clear hd
    obtain ⟨hk, rfl⟩ := range_get hd'
    have k3 := k2 M' (Sub.refl _)
    change R (partG num nx cs m s b k) M' at k3
    show Br (isNonD (partG num nx cs r s b k)) _ _
    by_cases hb : (k : Int) + 1 = b
    · rw [part_out hb] at k3 ⊢
      exact Br.tt k3
    · rw [part_in hb] at k3 ⊢
      refine Br.no tree_not_non ⟨num, nx, cs, r, m, _, _, ?_, c3, by omega, by omega, k3⟩
      rw [show ((m.succ : Nat) : Int) - 1 = (m : Int) by omega]
  · rw [List.length_map, List.length_range] at h1
    exact ⟨_, .inl h1, szLe (by show 2 ≤ 1000000; decide), M, s1, q⟩
def tBackward (sS : Sp3) : S3 :=
    (s3Seq (s3If (t3Test (e3Op r3Eq (e3Var 2) (e3C (.int 0)))) (s3Ret (e3Tup (a3Cons (e3Op r3Ix (e3Var 0) (e3C (.int 0))) a3Nil))) s3Nil)
    (s3Seq (s3Asg (e3Lst a3Nil) 3)
    (s3Seq (s3For (i3Enum (a3Cons (e3Op r3Ix (e3Var 0) (e3C (.int 1))) a3Nil)) (g3Tup 2 (g3sCons (g3Name 4) (g3sCons (g3Name 5) g3sNil))) (s3Expr (e3Bm m3App (e3Var 3) (a3Cons (e3If (t3Test (e3Op r3Eq (e3Var 4) (e3Op r3Sub (e3Var 1) (e3C (.int 1))))) (e3C .non) (e3Call sS (a3Cons (e3Var 5) (a3Cons (e3Op r3Sub (e3Var 2) (e3C (.int 1))) a3Nil)))) a3Nil))))
    (s3Ret (e3Tup (a3Cons (e3Op r3Ix (e3Var 0) (e3C (.int 0))) (a3Cons (e3TupOf (e3Var 3)) a3Nil)))))))
def spBackward (S : Type) (n : Nat) : Sp3 := fun ds M Q _ => ∃ (num : S → Int) (nx : S → Int → S) (cs r m : Nat) (s : S) (c : Nat), ds = [treeG num nx cs r s 0, .int ((c : Int) + 1), .int (m : Int)] ∧ cs ≤ 1000 ∧ m ≤ r ∧ m ≤ n + 1 ∧ Q (treeG num nx cs m s ((c : Int) + 1)) M
theorem rdBackward {S : Type} {n : Nat} : Rd3 ["view", "colour", "reach", "parts", "at", "part"] (tBackward (spShort S n)) (spBackward S n) := by
  rintro ds M Q E ⟨num, nx, cs, r, m, s, c, rfl, c3, hm, hn, q⟩
  obtain ⟨xs, e0, h0⟩ := tree_num (num := num) (nx := nx) (cs := cs) (r := r) (s := s) (b := 0)
  conv => whnf
  refine eq_int ⟨fun e => ?_, fun e => ?_⟩
  · have m0 : m = 0 := by have := of_decide_eq_true e; omega
    subst m0
    rw [e0]
    exact ⟨_, h0, szLe (by show 1 ≤ 1000000; decide), M, Sub.refl _, q⟩
  have mp : m ≠ 0 := fun z => by subst z; exact of_decide_eq_false e rfl
  obtain ⟨m, rfl⟩ := Nat.exists_eq_succ_of_ne_zero mp
  obtain ⟨r, rfl⟩ := Nat.exists_eq_succ_of_ne_zero (show r ≠ 0 by omega)
  refine ⟨szLe (by simp), fun w nw => ⟨_, rfl, ?_⟩⟩
  refine ⟨fun i env' M' => ∃ s4 s5, env' = [some (treeG num nx cs (r + 1) s 0), some (.int ((c : Int) + 1)), some (.int ((m + 1 : Nat) : Int)), some (.ref w), s4, s5] ∧ Sub M M' ∧ M' w = some (.lst ((List.range i).map (partG num nx cs m s ((c : Int) + 1)))), ⟨none, none, rfl, (Sub.refl M).new nw, updM_same⟩, ?_, ?_⟩
  · rintro i d env' M' hd ⟨s4, s5, rfl, sub, hw⟩
    obtain ⟨x, hx, rfl⟩ := enumD_get hd
    have hx' : ((List.range cs).map (partG num nx cs r s 0))[i]? = some x := hx
    clear hd hx
    obtain ⟨hi, rfl⟩ := range_get hx'
    rw [Nat.zero_add]
    have hz : ((List.range i).map (partG num nx cs m s ((c : Int) + 1))).length < sizeLine := szLt (by rw [List.length_map, List.length_range]; omega)
    refine ⟨trivial, rfl, rfl, ⟨_, .inl hw⟩, ?_⟩
    conv => whnf
    rw [show ((c : Int) + 1) - 1 = (c : Int) by omega]
    refine eq_int ⟨fun e => ?_, fun e => ?_⟩
    · have ec : i = c := by have := of_decide_eq_true e; omega
      exact ⟨_, hw, hz, _, _, rfl, sub.new nw, by rw [updM_same, parts_app (part_out (by omega))]⟩
    · have ec : i ≠ c := by have := of_decide_eq_false e; omega
      rw [part_in (show (i : Int) + 1 ≠ 0 by omega)]
      refine ⟨num, nx, cs, r, m, nx s ((i : Int) + 1), (i : Int) + 1, ?_, c3, by omega, by omega, _, hw, hz, _, _, rfl, sub.new nw, ?_⟩
      · rw [show ((m + 1 : Nat) : Int) - 1 = (m : Int) by omega]
      · rw [updM_same, parts_app (part_in (by omega))]
  · rintro env' M' ⟨s4, s5, rfl, sub, hw⟩
    rw [enumD_length, List.length_map, List.length_range] at hw
    exact ⟨trivial, _, rfl, _, .inl hw, szLe (by show 2 ≤ 1000000; decide), M, sub, q⟩
end L3

namespace L3
open PySem PySem.Spec PyProof.Rows L2
/-! ### values whose parts are known -/
mutual
def Vk (M : MH) : D → Prop
  | .tup ds => Vks M ds
  | .ref a => (∃ ds, LstM M a ds) ∨ ∃ kvs, M a = some (.dK kvs)
  | .ty _ => False
  | .non => True
  | .bl _ => True
  | .int _ => True
  | .str _ => True
def Vks (M : MH) : List D → Prop
  | [] => True
  | d :: ds => Vk M d ∧ Vks M ds
end
theorem vks_get {M : MH} : ∀ {ds : List D} {i : Nat} {x : D}, Vks M ds → ds[i]? = some x → Vk M x
  | [], _, _, _, e => by simp at e
  | d :: ds, 0, x, h, e => by
    simp only [Vks] at h
    simp at e
    subst e
    exact h.1
  | d :: ds, i + 1, x, h, e => by
    simp only [Vks] at h
    exact vks_get (i := i) h.2 (by simpa using e)
theorem vks_all {M : MH} : ∀ {ds : List D}, (∀ x ∈ ds, Vk M x) → Vks M ds
  | [], _ => by simp only [Vks]
  | d :: ds, h => by
    simp only [Vks]
    exact ⟨h d List.mem_cons_self, vks_all fun x hx => h x (List.mem_cons_of_mem _ hx)⟩
theorem vks_mem {M : MH} {ds : List D} {x : D} (h : Vks M ds) (hx : x ∈ ds) : Vk M x := by
  obtain ⟨i, hi⟩ := List.getElem?_of_mem hx
  exact vks_get h hi
theorem vk_tup {M : MH} {ds : List D} (h : ∀ x ∈ ds, Vk M x) : Vk M (.tup ds) := by
  simp only [Vk]
  exact vks_all h
theorem vk_row {M : MH} {l : List Int} : Vk M (rowD l) := vk_tup fun x hx => by
  obtain ⟨i, _, rfl⟩ := List.mem_map.mp hx
  simp only [Vk]
theorem vk_lst {M : MH} {a : Addr} {ds : List D} (h : LstM M a ds) : Vk M (.ref a) := by
  simp only [Vk]
  exact .inl ⟨ds, h⟩
theorem vk_ty {M : MH} {d : D} (h : Vk M d) : TyKnown M d := by
  cases d with
  | ref a =>
    simp only [Vk] at h
    rcases h with ⟨ds, e⟩ | ⟨kvs, e⟩
    · exact lst_known e
    · exact ⟨"dict", .inr ⟨rfl, .inr ⟨kvs, e⟩⟩, .inr (.inr rfl), .inl ⟨a, rfl⟩⟩
  | ty n => simp only [Vk] at h
  | non => exact own_known trivial
  | bl b => exact own_known trivial
  | int i => exact own_known trivial
  | str x => exact own_known trivial
  | tup ds => exact own_known trivial
mutual
theorem vk_mono {M M' : MH} (s : Sub M M') : ∀ d : D, Vk M d → Vk M' d
  | .tup ds, h => by
    simp only [Vk] at h ⊢
    exact vks_mono s ds h
  | .ref a, h => by
    simp only [Vk] at h ⊢
    rcases h with ⟨ds, e⟩ | ⟨kvs, e⟩
    · exact .inl ⟨ds, lstM_sub s e⟩
    · exact .inr ⟨kvs, s _ _ e⟩
  | .ty _, h => by simp only [Vk] at h
  | .non, _ => by simp only [Vk]
  | .bl _, _ => by simp only [Vk]
  | .int _, _ => by simp only [Vk]
  | .str _, _ => by simp only [Vk]
theorem vks_mono {M M' : MH} (s : Sub M M') : ∀ ds : List D, Vks M ds → Vks M' ds
  | [], _ => by simp only [Vks]
  | d :: ds, h => by
    simp only [Vks] at h ⊢
    exact ⟨vk_mono s d h.1, vks_mono s ds h.2⟩
end
theorem at_mem {ds : List D} {v : Int} (h0 : -(ds.length : Int) ≤ v) (h1 : v < ds.length) : ∃ x, atI ds v = some x ∧ x ∈ ds := by
  by_cases hv : 0 ≤ v
  · obtain ⟨j, rfl⟩ := Int.eq_ofNat_of_zero_le hv
    have hj : j < ds.length := by omega
    exact ⟨ds[j], atI_nat (List.getElem?_eq_getElem hj), List.getElem_mem hj⟩
  · have hj : (v + ds.length).toNat < ds.length := by omega
    refine ⟨ds[(v + ds.length).toNat], ?_, List.getElem_mem hj⟩
    unfold atI ixN
    rw [if_neg hv, if_pos h0]
    exact List.getElem?_eq_getElem hj
/-- the value alone: which rows of links, which inputs are right -/
def lkOk (n : Int) : List Int → List D → Bool
  | _, [] => true
  | seen, x :: xs => match x with
    | .int v => decide (0 ≤ v) && decide (v ≤ n - 1) && !(seen.contains v) && lkOk n (v :: seen) xs
    | _ => false
def rowOk (n : Int) : D → Bool
  | .tup zs => decide ((zs.length : Int) = n) && lkOk n [] zs
  | _ => false
def insOk (n b : Int) : D → Bool
  | .tup zs => decide ((zs.length : Int) = n) && zs.all fun x => isNum x 0 (b - 1)
  | _ => false
def rowsOk (n : Int) : D → Bool
  | .tup zs => decide (2 ≤ zs.length) && decide (zs.length ≤ 4) && zs.all (rowOk n)
  | _ => false
/-- a network by itself -/
def netOk : D → Bool
  | .tup [.str w, .int n, l, a, b] => decide (w = "network") && isNum (.int n) 1 400 && rowsOk n l && insOk n 4 a && insOk n 4 b
  | _ => false
theorem lk_ints {n : Int} : ∀ {l seen : List Int}, (∀ x ∈ l, 0 ≤ x ∧ x < n) → l.Nodup → (∀ x ∈ l, x ∉ seen) → lkOk n seen (l.map D.int) = true
  | [], _, _, _, _ => rfl
  | v :: l, seen, h, nd, hs => by
    have hv := h v List.mem_cons_self
    have nd' := List.nodup_cons.mp nd
    have ih : lkOk n (v :: seen) (l.map D.int) = true := lk_ints (fun x hx => h x (List.mem_cons_of_mem _ hx)) nd'.2 fun x hx hm => by
      rcases List.mem_cons.mp hm with rfl | hm
      · exact nd'.1 hx
      · exact hs x (List.mem_cons_of_mem _ hx) hm
    show (decide (0 ≤ v) && decide (v ≤ n - 1) && !(seen.contains v) && lkOk n (v :: seen) (l.map D.int)) = true
    have hc : seen.contains v = false := by
      rw [List.contains_eq_mem]
      exact decide_eq_false (hs v List.mem_cons_self)
    rw [decide_eq_true hv.1, decide_eq_true (show v ≤ n - 1 by omega), hc, ih]
    rfl
theorem rngI_nodup (m : Nat) : (rngI m).Nodup := by
  unfold rngI
  exact List.Pairwise.map _ (fun a b h z => h (Int.ofNat.inj z)) List.nodup_range
theorem Ord.nodup {m : Nat} {l : List Int} (o : Ord m l) : l.Nodup := o.symm.nodup (rngI_nodup m)
theorem Ord.ok {m : Nat} {l : List Int} (o : Ord m l) : rowOk (m : Int) (rowD l) = true := by
  show (decide (((l.map D.int).length : Int) = (m : Int)) && lkOk (m : Int) [] (l.map D.int)) = true
  rw [List.length_map, o.len, decide_eq_true rfl, lk_ints (fun x hx => o.mem.mp hx) o.nodup fun x _ h => by simp at h]
  rfl
theorem perm_of_sub : ∀ {l r : List Int}, l.Nodup → (∀ x ∈ l, x ∈ r) → r.length ≤ l.length → l.Perm r
  | [], r, _, _, h => by
    have : r = [] := List.length_eq_zero_iff.mp (Nat.le_zero.mp h)
    rw [this]
  | x :: l, r, nd, hs, h => by
    have nd' := List.nodup_cons.mp nd
    have hx := hs x List.mem_cons_self
    have p := List.perm_cons_erase hx
    have hl : (r.erase x).length ≤ l.length := by
      rw [List.length_erase_of_mem hx]
      simp at h
      omega
    refine (List.Perm.cons x (perm_of_sub nd'.2 (fun y hy => ?_) hl)).trans p.symm
    have hyx : y ≠ x := fun e => nd'.1 (e ▸ hy)
    exact (List.mem_erase_of_ne hyx).mpr (hs y (List.mem_cons_of_mem _ hy))
/-- all of a range, each once -/
theorem ord_of {m : Nat} {l : List Int} (hl : l.length = m) (hx : ∀ x ∈ l, 0 ≤ x ∧ x < m) (nd : l.Nodup) : Ord m l := by
  exact perm_of_sub nd (fun x h => mem_rngI.mpr (hx x h)) (by rw [rngI_length, hl]; exact Nat.le_refl _)
theorem ints_ok {n : Nat} {l : List Int} (hl : l.length = n) (hx : ∀ x ∈ l, 0 ≤ x ∧ x < 4) : insOk (n : Int) 4 (rowD l) = true := by
  show (decide (((l.map D.int).length : Int) = (n : Int)) && (l.map D.int).all fun x => isNum x 0 (4 - 1)) = true
  rw [List.length_map, hl, decide_eq_true rfl, Bool.true_and, List.all_eq_true]
  intro x h
  obtain ⟨i, hi, rfl⟩ := List.mem_map.mp h
  have := hx i hi
  show (decide (0 ≤ i) && decide (i ≤ 4 - 1)) = true
  rw [decide_eq_true this.1, decide_eq_true (show i ≤ 4 - 1 by omega)]
  rfl
/-! ### comprehensions of lists, over pairs -/
theorem lcLists {ds : List D} {keep : MH → Prop} {i : Nat} {te : E3} {env : En} {p : Addr} {M : MH} {Q : MH → Prop} (g : Nat → List D) (hp : M p = none) (hk : ∀ M', Sub M M' → keep M')
    (he : ∀ (k : Nat) (d : D) (M' : MH) (R : Q3), ds[k]? = some d → Sub M M' → (∀ q M'', M' q = none → Sub M' M'' → M'' q = some (.lst (g k)) → R (.ref q) M'') → te W0 (env.set i (some d)) M' R) (hsz : ds.length < sizeLine)
    (hq : ∀ (qs : List Addr) (M' : MH), qs.length = ds.length → (∀ k q, qs[k]? = some q → M' q = some (.lst (g k))) → Sub M M' → M' p = some (.lst (qs.map D.ref)) → Q M') : LoopC ds keep i t3Yes te env p M Q := by
  refine ⟨fun k acc M' => ∃ qs : List Addr, acc = qs.map D.ref ∧ qs.length = k ∧ (∀ j q, qs[j]? = some q → q ≠ p ∧ M' q = some (.lst (g j))) ∧ Sub M M', ⟨[], rfl, rfl, fun j q e => by simp at e, (Sub.refl M).new hp⟩, ?_, ?_⟩
  · rintro k d acc M' hd ⟨qs, rfl, rfl, hqs, sub⟩ hpM
    have hlt := (List.getElem?_eq_some_iff.mp hd).1
    refine ⟨hk M' sub, Br.tt (he qs.length d M' _ hd sub fun q M'' nq s2 hM => ⟨qs.map D.ref, s2 p _ hpM, ?_, qs ++ [q], by rw [List.map_append]; rfl, by simp, fun j q' hj => ?_, (sub.trans s2).new hp⟩)⟩
    · rw [List.length_map]
      exact Nat.lt_trans hlt hsz
    · have nqp : q ≠ p := fun e => by
        subst e
        rw [hpM] at nq
        cases nq
      by_cases hjl : j < qs.length
      · rw [List.getElem?_append_left hjl] at hj
        obtain ⟨h1, h2⟩ := hqs j q' hj
        exact ⟨h1, (updM_ne h1).trans (s2 _ _ h2)⟩
      · rw [List.getElem?_append_right (by omega)] at hj
        have hj0 : j = qs.length := by
          have := (List.getElem?_eq_some_iff.mp hj).1
          simp at this
          omega
        subst hj0
        simp at hj
        subst hj
        exact ⟨nqp, (updM_ne nqp).trans hM⟩
  · rintro acc M' ⟨qs, rfl, hl, hqs, sub⟩ hpM
    exact ⟨hk M' sub, hq qs M' hl (fun k q e => (hqs k q e).2) sub hpM⟩
theorem lcPIdx {ds : List D} {keep : MH → Prop} {i j : Nat} {te : E3} {env : En} {p : Addr} {M : MH} {Q : MH → Prop} (g : Nat → D) (hp : M p = none) (hk : ∀ M', Sub M M' → keep M')
    (hd2 : ∀ (k : Nat) (d : D), ds[k]? = some d → ∃ d1 d2, d = .tup [d1, d2])
    (he : ∀ (k : Nat) (d1 d2 : D) (M' : MH) (R : Q3), ds[k]? = some (.tup [d1, d2]) → Sub M M' → (∀ M'', Sub M' M'' → R (g k) M'') → te W0 ((env.set i (some d1)).set j (some d2)) M' R) (hsz : ds.length < sizeLine)
    (hq : ∀ M', Sub M M' → M' p = some (.lst ((List.range ds.length).map g)) → Q M') : LoopP ds keep i j t3Yes te env p M Q := by
  refine ⟨fun k acc M' => acc = (List.range k).map g ∧ Sub M M', ⟨rfl, (Sub.refl M).new hp⟩, ?_, ?_⟩
  · rintro k d acc M' hd ⟨rfl, sub⟩ hpM
    have hlt := (List.getElem?_eq_some_iff.mp hd).1
    obtain ⟨d1, d2, rfl⟩ := hd2 k d hd
    refine ⟨hk M' sub, d1, d2, rfl, Br.tt (he k d1 d2 M' _ hd sub fun M'' s2 => ⟨(List.range k).map g, s2 p _ hpM, ?_, ?_, (sub.trans s2).new hp⟩)⟩
    · rw [List.length_map, List.length_range]
      exact Nat.lt_trans hlt hsz
    · rw [List.range_succ, List.map_append]
      rfl
  · rintro acc M' ⟨rfl, sub⟩ hpM
    exact ⟨hk M' sub, hq M' sub hpM⟩
/-- isinstance(x, list) of a list -/
theorem isi_lst {M : MH} {Q : Q3} {a : Addr} {ds : List D} (h : LstM M a ds) (q : Q (.bl true) M) : c3Isi [.ref a, .ty "list"] M Q := by
  unfold c3Isi
  exact ⟨"list", true, .inl ⟨rfl, ds, h⟩, by decide +kernel, q⟩
end L3

namespace L3
open PySem PySem.Spec PyProof.Rows L2
/-! ### repr of lists and tuples that hold dicts -/
section
variable {P : Program} {w : World} {h : Heap} {a : Addr} {o : Obj} {n : Nat}
/-- v is d, and repr tells it -/
def Rk (P : Program) (w : World) (h : Heap) (v : Value) (d : PyData) : Prop := ∃ as, Reads h v d as ∧ ∃ bs, ReadAtMost h d.depth bs ∧ ReprK P w bs h d.depth v d.shown
def Rks (P : Program) (w : World) (h : Heap) (vs : List Value) (ds : List PyData) : Prop := ∃ as, ReadsAll h vs ds as ∧ ∃ bs, ReadAtMost h (PyData.depthAll ds) bs ∧ ReprAllK P w bs h (PyData.depthAll ds) vs (PyData.shownAll ds)
theorem rk_leaf {v : Value} {d : PyData} {as : List Addr} (r : Reads h v d as) (hs : d.showable = true) (hm : d.hasDict = true → sysModules ∉ as) (hz : d.shown.length ≤ sizeLine) : Rk P w h v d := ⟨as, r, ReprK.of_reads r hs hm hz⟩
theorem rks_nil : Rks P w h [] [] := ⟨[], .nil, [], (fun _ e => nomatch e), by simp only [PyData.shownAll]; exact .nil⟩
theorem rks_cons {v : Value} {vs : List Value} {d : PyData} {ds : List PyData} (x : Rk P w h v d) (y : Rks P w h vs ds) : Rks P w h (v :: vs) (d :: ds) := by
  obtain ⟨as, r, bs, few, k⟩ := x
  obtain ⟨as2, r2, bs2, few2, k2⟩ := y
  have e : PyData.depthAll (d :: ds) = max d.depth (PyData.depthAll ds) := by simp only [PyData.depthAll]
  refine ⟨as ++ as2, .cons r r2, bs ++ bs2, ?_, ?_⟩
  · rw [e]
    exact (few.mono (Nat.le_max_left _ _)).append (few2.mono (Nat.le_max_right _ _))
  · rw [e, show PyData.shownAll (d :: ds) = d.shown :: PyData.shownAll ds by simp only [PyData.shownAll]]
    exact .cons ((k.more fun b hb => List.mem_append_left _ hb).level_le (Nat.le_max_left _ _)) (k2.more_le (fun b hb => List.mem_append_right _ hb) (Nat.le_max_right _ _))
theorem rk_list {vs : Array Value} {xs : List PyData} (h1 : h.get? a = some o) (h2 : o.cls = .type "list") (h3 : o.data = .seq vs n) (hx : Rks P w h vs.toList xs) : Rk P w h (.ref a) (.list xs) := by
  obtain ⟨as, r0, bs, few, k⟩ := hx
  have r : Reads h (.ref a) (.list xs) (a :: as) := .list h1 h2 h3 r0
  have e : (PyData.list xs).depth = PyData.depthAll xs + 1 := by simp only [PyData.depth]
  refine ⟨_, r, a :: bs, ReadAtMost.cons r (by omega) few, ?_⟩
  have out := not_mem_of_deeper r (show PyData.depthAll xs < _ by omega) few
  have et : (PyData.list xs).shown = listText (PyData.shownAll xs) := by simp only [PyData.shown]
  have ed : (PyData.list xs).depth = 1 + PyData.depthAll xs := by omega
  rw [et]
  obtain ⟨items⟩ := vs
  cases items with
  | nil =>
    cases (r0 : ReadsAll h [] xs as)
    simp only [PyData.depth, PyData.depthAll, PyData.shownAll, listText_nil]
    exact ReprK.listEmpty h1 h2 h3
  | cons x items =>
    simp only [PyData.depth]
    exact ReprK.list h1 h2 h3 out (by simpa using k.length_eq) fun i y e => k.item i y (by simpa using e)
theorem rk_tuple {vs : Array Value} {xs : List PyData} (h1 : h.get? a = some o) (h2 : o.cls = .type "tuple") (h3 : o.data = .seq vs n) (hx : Rks P w h vs.toList xs) : Rk P w h (.ref a) (.tuple xs) := by
  obtain ⟨as, r0, bs, few, k⟩ := hx
  have r : Reads h (.ref a) (.tuple xs) as := .tuple h1 h2 h3 r0
  have e : (PyData.tuple xs).depth = PyData.depthAll xs + 1 := by simp only [PyData.depth]
  refine ⟨_, r, a :: bs, ReadAtMost.cons r (by omega) few, ?_⟩
  have out := not_mem_of_deeper r (show PyData.depthAll xs < _ by omega) few
  simp only [PyData.depth, PyData.shown, show True from trivial]
  exact ReprK.tuple h1 h2 h3 out k
variable {A : Around} {E : Value → Shared → Prop} {s : Shared} {Q : Value → Shared → Prop}
theorem repr_list {vs : Array Value} {xs : List PyData} (h1 : s.heap.get? a = some o) (h2 : o.cls = .type "list") (h3 : o.data = .seq vs n) (hx : Rks P w s.heap vs.toList xs) (hg : A.guards = some []) (hu : A.units + ((PyData.list xs).depth + 1) < cLine) (hz : (PyData.list xs).shown.length ≤ sizeLine)
    (q : ∀ h' u tk, (∀ b ob, s.heap.get? b = some ob → h'.get? b = some ob) → Q (.str (PyData.list xs).shown u) { s with heap := h', toks := tk }) : wpAny (model P w) A (call (.builtin "repr") [.ref a]) Q E s := by
  obtain ⟨as, r0, bs, few, k⟩ := hx
  have r : Reads s.heap (.ref a) (.list xs) (a :: as) := .list h1 h2 h3 r0
  have e : (PyData.list xs).depth = PyData.depthAll xs + 1 := by simp only [PyData.depth]
  have et : (PyData.list xs).shown = listText (PyData.shownAll xs) := by simp only [PyData.shown]
  have out := not_mem_of_deeper r (show PyData.depthAll xs < _ by omega) few
  rw [et] at q hz
  rw [e] at hu
  refine call_repr_slot (by omega) ⟨o, h1, h2⟩ PySem.F.slot_list_repr.toG ?_
  obtain ⟨items⟩ := vs
  cases items with
  | nil =>
    cases (r0 : ReadsAll s.heap [] xs as)
    have := q s.heap
    simp only [PyData.shownAll, listText_nil] at this
    exact call_list_repr_empty ⟨o, h1, h2⟩ h1 h3 ⟨_, _, rfl, this _ _ fun _ _ e => e⟩
  | cons x items => exact call_list_reprK h1 h2 h3 out (by simpa using k.length_eq) (fun i y e => k.item i y (by simpa using e)) hg (fun b _ => Clear.nil b) (by show A.units + 1 + (PyData.depthAll xs + 1) < cLine; omega) (fun _ _ e => e) (fun h' u tk hk => ⟨_, _, rfl, q h' u tk hk⟩) hz
theorem repr_tuple {vs : Array Value} {xs : List PyData} (h1 : s.heap.get? a = some o) (h2 : o.cls = .type "tuple") (h3 : o.data = .seq vs n) (hx : Rks P w s.heap vs.toList xs) (hg : A.guards = some []) (hu : A.units + ((PyData.tuple xs).depth + 1) < cLine) (hz : (PyData.tuple xs).shown.length ≤ sizeLine)
    (q : ∀ h' u tk, (∀ b ob, s.heap.get? b = some ob → h'.get? b = some ob) → Q (.str (PyData.tuple xs).shown u) { s with heap := h', toks := tk }) : wpAny (model P w) A (call (.builtin "repr") [.ref a]) Q E s := by
  obtain ⟨as, r0, bs, few, k⟩ := hx
  have r : Reads s.heap (.ref a) (.tuple xs) as := .tuple h1 h2 h3 r0
  have e : (PyData.tuple xs).depth = PyData.depthAll xs + 1 := by simp only [PyData.depth]
  have et : (PyData.tuple xs).shown = tupleText (PyData.shownAll xs) := by simp only [PyData.shown]
  have out := not_mem_of_deeper r (show PyData.depthAll xs < _ by omega) few
  rw [et] at q hz
  rw [e] at hu
  exact call_repr_slot (by omega) ⟨o, h1, h2⟩ PySem.F.slot_tuple_repr (call_tuple_reprK h1 h2 h3 out k hg (fun b _ => Clear.nil b) (by show A.units + 1 + (PyData.depthAll xs + 1) < cLine; omega) (fun _ _ e => e) (fun h' u tk hk => ⟨_, _, rfl, q h' u tk hk⟩) hz)
end
mutual
inductive Dz (K : Fg) (H : Hp) : V → PyData → Prop
  | of {v : V} {d : PyData} : Dp K H v d → Dz K H v d
  | dct {a : Addr} {ks : List (Key × V)} {ps : List PyData} : H a = some (.dK ks) → DpAll K H (ks.map (·.2)) ps → noLs ps = true → Dz K H (.ref a) (.dict ((ks.map fun kv => kP kv.1).zip ps))
  | lst {a : Addr} {xs : List V} {ds : List PyData} : SqL K H a xs → DzAll K H xs ds → Dz K H (.ref a) (.list ds)
  | tup {a : Addr} {xs : List V} {ds : List PyData} : SqT K H a xs → DzAll K H xs ds → Dz K H (.ref a) (.tuple ds)
inductive DzAll (K : Fg) (H : Hp) : List V → List PyData → Prop
  | nil : DzAll K H [] []
  | cons {v : V} {vs : List V} {d : PyData} {ds : List PyData} : Dz K H v d → DzAll K H vs ds → DzAll K H (v :: vs) (d :: ds)
end
mutual
theorem dp_plain {K : Fg} {H : Hp} : ∀ (d : PyData) (v : V), Dp K H v d → d.hasDict = false
  | .none, _, _ => by simp [PyData.hasDict]
  | .bool _, _, _ => by simp [PyData.hasDict]
  | .int _, _, _ => by simp [PyData.hasDict]
  | .str _, _, _ => by simp [PyData.hasDict]
  | .list ds, _, h => by
    cases h with
    | lst _ ha => simpa [PyData.hasDict] using dps_plain ds _ ha
  | .tuple ds, _, h => by
    cases h with
    | tup _ ha => simpa [PyData.hasDict] using dps_plain ds _ ha
  | .dict _, _, h => by cases h
theorem dps_plain {K : Fg} {H : Hp} : ∀ (ds : List PyData) (vs : List V), DpAll K H vs ds → PyData.hasDictAll ds = false
  | [], _, _ => by simp [PyData.hasDictAll]
  | d :: ds, _, h => by
    cases h with
    | cons a b => simp [PyData.hasDictAll, dp_plain d _ a, dps_plain ds _ b]
end
section
variable {X : Cx} {pins : List (Addr × Obj)} {σ : L2.St} {H : Hp} {s : Shared}
theorem dict_reads (I : Inv X pins σ H s) {a : Addr} {ks : List (Key × V)} {ps : List PyData} (hk : H a = some (.dK ks)) (hd : DpAll X.K H (ks.map (·.2)) ps) (hn : noLs ps = true) : ∃ as, Reads s.heap (.ref a) (.dict ((ks.map fun kv => kP kv.1).zip ps)) as ∧ sysModules ∉ as := by
  obtain ⟨z, hs, vs, rel, ob, es, n, ho, ex, hdat, kof, prs, nd⟩ := dk_of I.hok hk
  obtain ⟨rvs, rks⟩ := kv_vals rel
  obtain ⟨bs, rb⟩ := Dp.readsAll I ps _ _ hd rvs
  have hb := readsAll_noL ps _ _ hn rb
  subst hb
  have lens : ((ks.map fun kv => kP kv.1)).length = ps.length := by
    have := DpAll.len hd
    simpa using this
  have e1 : (((ks.map fun kv => kP kv.1).zip ps).map (·.1)) = vs.map fun kv => kP kv.1 := by
    rw [show (((ks.map fun kv => kP kv.1).zip ps).map (·.1)) = (ks.map fun kv => kP kv.1) from List.map_fst_zip (Nat.le_of_eq lens)]
    have := congrArg (List.map kP) rks
    rw [List.map_map, List.map_map] at this
    exact this
  have e2 : (((ks.map fun kv => kP kv.1).zip ps).map (·.2)) = ps := List.map_snd_zip (Nat.le_of_eq lens.symm)
  refine ⟨a :: [] ++ [], Reads.dict (es := es) (n := n) ho ex.1 hdat ?_ ?_, fun m => ?_⟩
  · rw [e1]
    exact pairs_keys prs
  · rw [e2, pairs_vals prs]
    exact rb
  · have : sysModules = a := by simpa using m
    rw [← this] at hs
    cases hs
mutual
theorem Dz.rk (I : Inv X pins σ H s) : ∀ (d : PyData) (v : V) (u : Value), Dz X.K H v d → RelV v u → d.showable = true → d.shown.length ≤ sizeLine → Rk X.prog X.w s.heap u d
  | d, v, u, .of hd, r, hs, hz => by
    obtain ⟨as, rd⟩ := Dp.reads I d v u hd r
    exact rk_leaf rd hs (fun e => by rw [dp_plain d v hd] at e; cases e) hz
  | _, _, u, .dct hk hd hn, r, hs, hz => by
    cases (show u = .ref _ from r)
    obtain ⟨as, rd, out⟩ := dict_reads I hk hd hn
    exact rk_leaf rd hs (fun _ => out) hz
  | .list ds, _, u, .lst hS hA, r, hs, hz => by
    cases (show u = .ref _ from r)
    obtain ⟨its, rv, pl, _⟩ := I.list hS
    obtain ⟨o, h1, h2, n, h3⟩ := pl.isList
    have et : (PyData.list ds).shown = listText (PyData.shownAll ds) := by simp only [PyData.shown]
    rw [et] at hz
    exact rk_list h1 h2 h3 (Dz.rks I ds _ its hA rv (by simpa [PyData.showable] using hs) fun t ht => Nat.le_trans (listText_mem_le ht) hz)
  | .tuple ds, _, u, .tup hS hA, r, hs, hz => by
    cases (show u = .ref _ from r)
    obtain ⟨its, rv, pl, _⟩ := I.tuple hS
    obtain ⟨o, h1, h2, n, h3⟩ := pl
    have et : (PyData.tuple ds).shown = tupleText (PyData.shownAll ds) := by simp only [PyData.shown]
    rw [et] at hz
    exact rk_tuple h1 h2 h3 (Dz.rks I ds _ its hA rv (by simpa [PyData.showable] using hs) fun t ht => Nat.le_trans (tupleText_mem_le ht) hz)
theorem Dz.rks (I : Inv X pins σ H s) : ∀ (ds : List PyData) (vs : List V) (us : List Value), DzAll X.K H vs ds → Vals vs us → PyData.showableAll ds = true → (∀ t ∈ PyData.shownAll ds, t.length ≤ sizeLine) → Rks X.prog X.w s.heap us ds
  | [], _, _, .nil, rv, _, _ => by
    cases rv
    exact rks_nil
  | d :: ds, _, _, .cons a b, rv, hs, hz => by
    cases rv with
    | cons r rr =>
      have hs' : d.showable = true ∧ PyData.showableAll ds = true := by simpa [PyData.showableAll] using hs
      exact rks_cons (Dz.rk I d _ _ a r hs'.1 (hz _ (by simp only [PyData.shownAll]; exact List.mem_cons_self))) (Dz.rks I ds _ _ b rr hs'.2 fun t ht => hz t (by simp only [PyData.shownAll]; exact List.mem_cons_of_mem _ ht))
end
end
/-- a value with dicts in it, by its data -/
inductive PyZ (M : MH) : Bool → List D → List PyData → Prop
  | of {d : D} {p : PyData} : Py M d p → PyZ M true [d] [p]
  | dct {a : Addr} {kvs : List (Key × D)} {ps : List PyData} : M a = some (.dK kvs) → Pys M (kvs.map (·.2)) ps → noLs ps = true → PyZ M true [.ref a] [dP kvs ps]
  | tup {ds : List D} {ps : List PyData} : PyZ M false ds ps → PyZ M true [.tup ds] [.tuple ps]
  | lst {a : Addr} {ds : List D} {ps : List PyData} : LstM M a ds → PyZ M false ds ps → PyZ M true [.ref a] [.list ps]
  | nil : PyZ M false [] []
  | cons {d : D} {ds : List D} {p : PyData} {ps : List PyData} : PyZ M true [d] [p] → PyZ M false ds ps → PyZ M false (d :: ds) (p :: ps)
theorem PyZ.mono {M M' : MH} (s : Sub M M') {b : Bool} {ds : List D} {ps : List PyData} (h : PyZ M b ds ps) (pm : ∀ p d, Py M d p → Py M' d p) (pms : ∀ ps ds, Pys M ds ps → Pys M' ds ps) : PyZ M' b ds ps := by
  induction h with
  | of h => exact .of (pm _ _ h)
  | dct e h n => exact .dct (s _ _ e) (pms _ _ h) n
  | tup _ ih => exact .tup ih
  | lst l _ ih => exact .lst (lstM_sub s l) ih
  | nil => exact .nil
  | cons _ _ i1 i2 => exact .cons i1 i2
theorem PyZ.dz {K : Fg} {H : Hp} {M : MH} (a : Abs K M H) {b : Bool} {ds : List D} {ps : List PyData} (h : PyZ M b ds ps) : (b = true → ∀ d p v, ds = [d] → ps = [p] → Rv K H d v → Dz K H v p) ∧ (b = false → ∀ vs, Rvs K H ds vs → DzAll K H vs ps) := by
  induction h with
  | of h => exact ⟨fun _ d p v e1 e2 r => by cases e1; cases e2; exact .of (Py.dp a _ _ _ h r), fun e => nomatch e⟩
  | dct hm hp hn =>
    refine ⟨fun _ d p v e1 e2 r => ?_, fun e => nomatch e⟩
    cases e1; cases e2
    cases r.ref_inv
    obtain ⟨ks, hk, hr⟩ := a.dK hm
    have e := congrArg (List.map kP) hr.1
    rw [List.map_map, List.map_map] at e
    unfold dP
    rw [show (List.map (fun kv : Key × D => kP kv.1) _) = (ks.map fun kv => kP kv.1) from e.symm]
    exact .dct hk (Pys.dp a _ _ _ hp hr.2) hn
  | tup _ ih =>
    refine ⟨fun _ d p v e1 e2 r => ?_, fun e => nomatch e⟩
    cases e1; cases e2
    obtain ⟨p, vs, rfl, hs, hv⟩ := r.tup_inv
    exact .tup hs (ih.2 rfl vs hv)
  | lst hl _ ih =>
    refine ⟨fun _ d p v e1 e2 r => ?_, fun e => nomatch e⟩
    cases e1; cases e2
    cases r.ref_inv
    obtain ⟨vs, hs, hv⟩ := a.rd hl
    exact .lst hs (ih.2 rfl vs hv)
  | nil => exact ⟨(fun e => nomatch e), fun _ vs r => by cases r.nil_inv; exact .nil⟩
  | cons _ _ i1 i2 =>
    refine ⟨(fun e => nomatch e), fun _ vs r => ?_⟩
    obtain ⟨v, vs, rfl, r1, r2⟩ := r.cons_inv
    exact .cons (i1.1 rfl _ _ v rfl rfl r1) (i2.2 rfl vs r2)
def ShZ (p : PyData) : Prop := p.showable = true ∧ p.depth ≤ 100 ∧ p.shown.length ≤ sizeLine
def rReprZ (K : Fg) : List V → Hp → VK → Prop := fun vs H Q => ∃ v d, vs = [v] ∧ Dz K H v d ∧ ShZ d ∧ Q (.str d.shown) H
section
variable {X : Cx} {e : Expr} {u : A3} {p pos : Pos} {K : Fg}
theorem cr_reprZU (hr : RoomU X.A) : CallR X (.builtin "repr") (rReprZ X.K) := by
  rintro pins s σ H xs us Q I r ⟨v, d, rfl, hd, ⟨h1, h3, h4⟩, q⟩
  have un := hr.un
  cases hd with
  | of hp => exact cr_reprU hr pins s σ H [v] us Q I r ⟨v, d, rfl, hp, ⟨h1, dp_plain d v hp, h3, h4⟩, q⟩
  | dct hk hv hn => exact cr_reprDU hr pins s σ H _ us Q I r ⟨_, _, _, rfl, hk, hv, hn, h1, h3, h4, q⟩
  | @lst a xs ds hS hA =>
    obtain ⟨w, rfl, rv⟩ := vals1 r
    cases (show w = .ref _ from rv)
    obtain ⟨its, rvs, pl, _⟩ := I.list hS
    obtain ⟨o, g1, g2, n, g3⟩ := pl.isList
    have et : (PyData.list ds).shown = listText (PyData.shownAll ds) := by simp only [PyData.shown]
    exact repr_list g1 g2 g3 (Dz.rks I ds _ its hA rvs (by simpa [PyData.showable] using h1) fun t ht => Nat.le_trans (listText_mem_le ht) (et ▸ h4)) hr.g (by omega) h4 fun h' u tk hk => ⟨.str _, H, I.kept hk, ⟨_, rfl⟩, q⟩
  | @tup a xs ds hS hA =>
    obtain ⟨w, rfl, rv⟩ := vals1 r
    cases (show w = .ref _ from rv)
    obtain ⟨its, rvs, pl, _⟩ := I.tuple hS
    obtain ⟨o, g1, g2, n, g3⟩ := pl
    have et : (PyData.tuple ds).shown = tupleText (PyData.shownAll ds) := by simp only [PyData.shown]
    exact repr_tuple g1 g2 g3 (Dz.rks I ds _ its hA rvs (by simpa [PyData.showable] using h1) fun t ht => Nat.le_trans (tupleText_mem_le ht) (et ▸ h4)) hr.g (by omega) h4 fun h' u tk hk => ⟨.str _, H, I.kept hk, ⟨_, rfl⟩, q⟩
theorem cr_reprZ {k : Nat} (hr : RoomG k X.A) : CallR X (.builtin "repr") (rReprZ X.K) := cr_reprZU hr.low
@[irreducible] def c3ReprZ : List D → MH → Q3 → Prop := fun ds M Q => ∃ d p, ds = [d] ∧ PyZ M true [d] [p] ∧ ShZ p ∧ Q (.str p.shown) M
theorem reprZ {M : MH} {Q : Q3} {d : D} {p : PyData} (h : PyZ M true [d] [p]) (s : ShZ p) (q : Q (.str p.shown) M) : c3ReprZ [d] M Q := by
  unfold c3ReprZ
  exact ⟨d, p, rfl, h, s, q⟩
theorem cl_reprZ : CallL K (rReprZ K) c3ReprZ := by
  intro ds vs H M Q Q2 r a q g
  unfold c3ReprZ at q
  obtain ⟨d, p, rfl, hp, hs, q⟩ := q
  obtain ⟨v, rfl, rr⟩ := one_inv r
  exact ⟨v, p, rfl, (hp.dz a).1 rfl d p v rfl rfl rr, hs, g _ _ H M (Tps.refl H) a Rv.str q⟩
theorem d_reprZ {k : Nat} (hr : RoomG k X.A) (hm : X.mg "repr" = none) (ha : DA X [e] u) (hg : Gl X "repr" := by rfl) (he : starEach (e :: []) X.env = (false, eval e X.env) :: starEach [] X.env := by rfl) (hpl : (backTo pos (starEach [] X.env)).any (·.1) = false := by rfl) : DE X (.Call (.Name "repr" p) [e] [] pos) (e3CB c3ReprZ u) :=
  d_cb (cr_reprZ hr) cl_reprZ hg hm boot_repr' ha (by decide) (by decide) he hpl
theorem d_reprZU (hr : RoomU X.A) (hm : X.mg "repr" = none) (ha : DA X [e] u) (hg : Gl X "repr" := by rfl) (he : starEach (e :: []) X.env = (false, eval e X.env) :: starEach [] X.env := by rfl) (hpl : (backTo pos (starEach [] X.env)).any (·.1) = false := by rfl) : DE X (.Call (.Name "repr" p) [e] [] pos) (e3CB c3ReprZ u) :=
  d_cb (cr_reprZU hr) cl_reprZ hg hm boot_repr' ha (by decide) (by decide) he hpl
end
end L3

namespace L3
open PySem PySem.Spec PyProof.Rows L2
/-! ### tuple * 0, tuple * 1 -/
theorem tuple_mul1 (l : Addr) (items : Array Value) (n : Nat) (dd : Option Addr) (sl : Array (Option Value)) (u : Tok) :
    Meets (Builtin.«tuple.__mul__» ⟨[.ref l, .int 1 u], []⟩) (fun _ R s => s.heap.get? l = some { cls := .type "tuple", dict := dd, data := .seq items n, slots := sl } ∧ R (.ok (.ret (Value.ref l))) s) :=
  .of_wp fun prog w A R s h => by
    obtain ⟨hp, g, d, tk, os⟩ := s
    obtain ⟨hl, h⟩ := h
    have f1 := AutoSeq1.idx_int
    wp_walk using wpAny_loadPart' hl
    exact ⟨_, rfl, h⟩
theorem tuple_mul0 (l : Addr) (items : Array Value) (n : Nat) (dd : Option Addr) (sl : Array (Option Value)) (u : Tok) (he : items.isEmpty = false) :
    Meets (Builtin.«tuple.__mul__» ⟨[.ref l, .int 0 u], []⟩) (fun _ R s => s.heap.get? l = some { cls := .type "tuple", dict := dd, data := .seq items n, slots := sl } ∧ R (.ok (.ret (Value.ref s.heap.objs.size))) { s with heap := s.heap.push { cls := Value.type "tuple", data := Data.seq #[] }, toks := s.toks }) :=
  .of_wp fun prog w A R s h => by
    obtain ⟨hp, g, d, tk, os⟩ := s
    obtain ⟨hl, h⟩ := h
    have f1 := AutoSeq1.idx_int
    have c1 : (items.isEmpty || (0 : Int) == 1) = false := by rw [he]; rfl
    wp_walk using wpAny_loadPart' hl
    repeat (first
      | (refine wpAny_ite_false (decide_eq_false (by rw [c1]; exact Bool.false_ne_true)) ?_; wp_walk using wpAny_loadPart' hl))
    exact ⟨_, rfl, h⟩
section
variable {X : Cx}
def rRep01 (K : Fg) : R2 := fun x y H Q => ∃ l k xs, x = .ref l ∧ y = .int k ∧ SqT K H l xs ∧ xs ≠ [] ∧ ((k = 1 ∧ Q (.ref l) H) ∨ (k = 0 ∧ NewT [] H Q))
theorem op_rep01 : OpR X (binaryOp .Mult) (rRep01 X.K) := by
  rintro pins s σ H x y v u Q I rx ry ⟨l, k, xs, rfl, rfl, hT, hne, q⟩
  cases rx
  obtain ⟨t, rfl⟩ := ry
  obtain ⟨its, r, ⟨⟨cls, dd, data, sl⟩, ho, hc, n, hd⟩, hs⟩ := I.tuple hT
  simp only at hc hd
  subst hc hd
  have some_ : its.toArray.isEmpty = false := by
    cases its with
    | nil => exact absurd (List.eq_nil_of_length_eq_zero r.length) hne
    | cons _ _ => rfl
  have times : wpAny (model X.prog X.w) X.A (call (.builtin "tuple.__mul__") [.ref l, .int k t]) (EP X pins σ Q) X.xe s := by
    rcases q with ⟨rfl, q⟩ | ⟨rfl, q⟩
    · exact call_meets PySem.F.slot_tuple_mul ⟨_, ho, rfl⟩ PySem.F.entry_tuple_mul (PySem.F.args_tuple_mul_2 _ _) (tuple_mul1 l its.toArray n dd sl t) ⟨ho, .ref l, H, I, rfl, q⟩
    · exact call_meets PySem.F.slot_tuple_mul ⟨_, ho, rfl⟩ PySem.F.entry_tuple_mul (PySem.F.args_tuple_mul_2 _ _) (tuple_mul0 l its.toArray n dd sl t some_) ⟨ho, tup_pushed I (its := []) (by constructor) (by decide) q⟩
  exact wpAny_binaryOp_repeat_ref (T := "tuple") (U := "int") (by decide) ⟨_, ho, rfl⟩ (fun s' => typeIs_int s' k t) noFill_tuple_mul PySem.F.fills_int_mul PySem.F.slot_int_rmul repeat_tuple PySem.F.slot_int_index.lookup
    (call_meets PySem.F.slot_int_rmul (typeIs_int s k t) PySem.F.entry_int_rmul (PySem.F.args_int_rmul_2 _ _) (int_rmul_tuple k t l its.toArray n dd sl) ⟨ho, rfl, ⟨_, ho, rfl⟩, times⟩)
variable {K : Fg} {a b : Expr} {pos : Pos} {ta tb : E3}
/-- * of ints, of a tuple and an int from 0 on, of a list and an int -/
def r3MulT : D → D → MH → Q3 → Prop
  | .int i, .int j, M, Q => CMul i j ∧ Q (.int (i * j)) M
  | .tup xs, .int k, M, Q => xs ≠ [] ∧ 0 ≤ k ∧ k ≤ 1000 ∧ xs.length ≤ 1000 ∧ Q (.tup (List.replicate k.toNat xs).flatten) M
  | .ref l, .int k, M, Q => ∃ xs, M l = some (.lst xs) ∧ 0 ≤ k ∧ k < 2 ^ 63 ∧ xs.length * k.toNat ≤ sizeLine ∧ ∀ p, M p = none → Q (.ref p) (updM M p (.lst (List.replicate k.toNat xs).flatten))
  | _, _, _, _ => False
theorem opl_mulT : OpL K (fun x y H Q => rRep01 K x y H Q ∨ (rI CMul (fun i j => .int (i * j)) x y H Q ∨ (rRepD K x y H Q ∨ rRep x y H Q))) r3MulT := by
  intro d e v u H M Q Q2 rd re a q g
  unfold r3MulT at q
  split at q
  · exact .inr (opl_mul _ _ v u H M Q Q2 rd re a (by unfold r3Mul; exact q) g)
  · rename_i xs k
    obtain ⟨n0, k0, k1, hz, q⟩ := q
    by_cases k2 : 2 ≤ k
    · exact .inr (opl_mul _ _ v u H M Q Q2 rd re a (by unfold r3Mul; exact ⟨n0, k2, k1, hz, q⟩) g)
    · cases re.int_inv
      obtain ⟨p, vs, rfl, hs, hv⟩ := rd.tup_inv
      have hl := hv.length
      refine .inl ⟨p, _, vs, rfl, rfl, hs, fun z => ?_, ?_⟩
      · subst z
        exact n0 (List.eq_nil_of_length_eq_zero (by simpa using hl))
      · by_cases k1' : k = 1
        · subst k1'
          refine .inl ⟨rfl, ?_⟩
          have e : (List.replicate (1 : Int).toNat xs).flatten = xs := by simp
          rw [e] at q
          exact g _ _ H M (Tps.refl H) a rd q
        · have k0' : k = 0 := by omega
          subst k0'
          refine .inr ⟨rfl, fun t ot nt dt => ?_⟩
          have e : (List.replicate (0 : Int).toNat xs).flatten = [] := by simp
          rw [e] at q
          exact g _ _ _ M (Tps.new nt) (a.tupN nt) (Rv.tup (SqD.of dt) Rvs.nil) q
  · exact .inr (opl_mul _ _ v u H M Q Q2 rd re a (by unfold r3Mul; exact q) g)
  · exact q.elim
theorem d_mulT (ha : DE X a ta) (hb : DE X b tb) : DE X (.BinOp a .Mult b pos) (e3Op r3MulT ta tb) := d_op (op_rep01.or (op_mul.or (op_repD.or op_rep))) opl_mulT ha hb
end
end L3

namespace L3
open PySem PySem.Spec PyProof.Rows L2
/-! ### sorted(t), t a tuple of ints -/
section
variable {prog : Program} {w : World} {A : Around} {E : Value → Shared → Prop} {s : Shared}
theorem gathered {t : Addr} {its : List Value} {Q : List Value → Shared → Prop} (ht : s.heap.IsTuple t its.toArray) (z : its.length ≤ sizeLine)
    (q : Q its { s with heap := (s.heap.push (seqObj "list" #[] 0)).update s.heap.objs.size (Obj.mapSeq (· ++ its.toArray)) }) : wpAny (model prog w) A (collect (.ref t)) Q E s := by
  obtain ⟨ob, got, cl, m, dt⟩ := ht
  have got2 : (s.heap.push (seqObj "list" #[] 0)).get? t = some ob := Heap.get?_push_of_some _ got
  have own : (s.heap.push (seqObj "list" #[] 0)).get? s.heap.objs.size = some (seqObj "list" #[] 0) := Heap.get?_push_size _ rfl
  have first : ∀ {B : Around} {R : Fin → Shared → Prop} {E' : Value → Shared → Prop}, R (.done (.ret (.ref s.heap.objs.size))) { s with heap := (s.heap.push (seqObj "list" #[] 0)).update s.heap.objs.size (Obj.mapSeq (· ++ its.toArray)) } →
      wpAny (model prog w) B (Builtin.List.listExtendWith (.ref s.heap.objs.size) (.ref t) (.ref s.heap.objs.size)) R E' { s with heap := s.heap.push (seqObj "list" #[] 0) } := fun {B R E'} r => by
    have isT : (Value.type "tuple" == Value.type "tuple") = true := rfl
    unfold Builtin.List.listExtendWith; refine wpAny_bind (wpAny_typeOf (T := "tuple") ⟨ob, got2, cl⟩ ?_); rw [if_pos (by rw [isT, Bool.or_true])]
    refine wpAny_bind (listItems_at got2 dt (wpAny_bind (listItems_at own rfl ?_))); rw [if_neg (by simp)]
    exact wpAny_bind (listUpdate_at own rfl (wpAny_pure r) (Nat.zero_le _) (by rw [Array.size_append, List.size_toArray]; show 0 + its.length ≤ _; omega))
  have e : ((#[] : Array Value) ++ its.toArray).toList = its := by simp
  unfold collect; refine wpAny_bind (wpAny_runValue (codeAny_builtin entry_proto_collect' (wpAny_bind (wpAny_newList (wpAny_pure ⟨Code.quiet_builtin _ (by decide +kernel), codeAny_builtin entry_list_iadd' (first ?_)⟩)))))
  show wpAny (model prog w) A (do let ob ← load s.heap.objs.size; match ob.data with | .seq ys _ => pure ys.toList | _ => unsupported "internal:collect") Q E _
  refine wpAny_bind (wpAny_load (get?_update_seq own _) ?_); show wpAny _ _ (pure ((#[] : Array Value) ++ its.toArray).toList) Q E _
  rw [e]
  exact wpAny_pure q
open SrtO in
theorem sortedT {t : Addr} {its : List Value} {ns : List Int} {Q : Value → Shared → Prop} (hi : IntsAre its ns) (ht : s.heap.IsTuple t its.toArray) (z : its.length ≤ sizeLine)
    (q : ∀ out : List Value, Srtd ltIv out → Stb ltIv out its → Q (.ref (s.heap.objs.size + 1)) { s with heap := sortedAll s.heap its out.toArray }) : wpAny (model prog w) A (call (.builtin "sorted") [.ref t]) Q E s := by
  generalize hm : (s.heap.push (seqObj "list" #[] 0)).update s.heap.objs.size (Obj.mapSeq (· ++ its.toArray)) = mid at *
  have many : mid.objs.size = s.heap.objs.size + 1 := by rw [← hm, Heap.size_update, size_push']
  have made : (mid.push (seqObj "list" its.toArray 0)).get? (s.heap.objs.size + 1) = some (seqObj "list" its.toArray 0) := many ▸ Heap.get?_push_size _ rfl
  refine Calls.call_function_entry kind_sorted plain_sorted entry_sorted (args_sorted1 _) ?_; unfold Builtin.«sorted»
  refine wpAny_bind (m := checkCount "sorted" 1 1 _) (wpAny_pure (wpAny_bind (gathered ht z (wpAny_bind (wpAny_newList ?_ z)))))
  rw [hm]; dsimp only; rw [many]
  refine wpAny_bind (wpAny_holding (wpAny_call_entry slot_list_sort ⟨_, made, rfl⟩ entry_list_sort (list_sort_ord swo_int made z (fun h2 => ints_sortable hi h2) fun out hs hb => ⟨_, rfl, wpAny_pure ⟨_, rfl, ?_⟩⟩) (args_list_sort _)))
  have := q out hs hb
  unfold sortedAll at this
  rw [hm] at this
  exact this
end
section
variable {X : Cx} {K : Fg} {e : Expr} {u : A3} {p pos : Pos}
def rSortT (K : Fg) : List V → Hp → VK → Prop := fun vs H Q => ∃ (a : Addr) (ns : List Int), vs = [V.ref a] ∧ SqT K H a (ns.map V.int) ∧ ∀ (ms : List Int) (q : Addr), ms.Perm ns → ms.Pairwise (· ≤ ·) → H q = none → Q (.ref q) (upd H q (.lst (ms.map V.int)))
theorem cr_sortT3 : CallR X (.builtin "sorted") (rSortT X.K) := by
  rintro pins s σ H vs us Q I r ⟨a, ns, rfl, hs, q⟩
  obtain ⟨its, rv, ht, hz⟩ := I.tuple hs
  have hi := rv.ints
  have z : its.length ≤ sizeLine := by rw [← rv.length]; exact hz
  rw [Vals.ref1 r]
  refine sortedT hi ht z fun out h1 h2 => ?_
  obtain ⟨k1, k2, k3⟩ := SrtO.ints_out hi h1 h2
  obtain ⟨ep, at_⟩ := PyProof.Rows.sortedAll_at s.heap its out.toArray
  have few : ((out.map SrtO.iv).map V.int).length ≤ sizeLine := by rw [List.length_map, k2.length_eq]; rwa [List.length_map] at hz
  exact ⟨.ref _, upd H (s.heap.objs.size + 1) (.lst ((out.map SrtO.iv).map V.int)), I.laid (t' := s.toks) (fun _ _ => PyProof.Rows.sortedAll_old) (Nat.le_succ _) ⟨few, out, ep, vals_of_ints k1, at_⟩, rfl, q _ _ k2 k3 (I.hok.fresh (Nat.le_succ _))⟩
def c3SortedX : List D → MH → Q3 → Prop
  | [.ref l], M, Q => ∃ ns : List Int, LstM M l (ns.map D.int) ∧ ∀ (ms : List Int) (q : Addr), ms.Perm ns → ms.Pairwise (· ≤ ·) → M q = none → Q (.ref q) (updM M q (.lst (ms.map D.int)))
  | [.tup ds], M, Q => ∃ ns : List Int, ds = ns.map D.int ∧ ∀ (ms : List Int) (q : Addr), ms.Perm ns → ms.Pairwise (· ≤ ·) → M q = none → Q (.ref q) (updM M q (.lst (ms.map D.int)))
  | _, _, _ => False
theorem rvs_ints {H : Hp} : ∀ ms : List Int, Rvs K H (ms.map D.int) (ms.map V.int)
  | [] => Rvs.nil
  | m :: ms => Rvs.cons Rv.int (rvs_ints ms)
theorem cl_sortedX : CallL K (fun vs H Q => rSortedI K vs H Q ∨ rSortT K vs H Q) c3SortedX := by
  intro ds vs H M Q Q2 r a q g
  unfold c3SortedX at q
  split at q
  · exact .inl (cl_sorted _ vs H M Q Q2 r a (by unfold c3Sorted; exact q) g)
  · obtain ⟨ns, rfl, q⟩ := q
    obtain ⟨v, rfl, rr⟩ := one_inv r
    obtain ⟨p, ws, rfl, hs, hv⟩ := rr.tup_inv
    rw [hv.intsV] at hs
    exact .inr ⟨p, ns, rfl, hs, fun ms q' h1 h2 nq => g _ _ _ _ (Tps.new nq) (a.lstN nq (rvs_ints ms)) Rv.ref (q ms q' h1 h2 (a.fresh nq))⟩
  · exact q.elim
theorem d_sortedX (hm : X.mg "sorted" = none) (ha : DA X [e] u) (hg : Gl X "sorted" := by rfl) (he : starEach (e :: []) X.env = (false, eval e X.env) :: starEach [] X.env := by rfl) (hpl : (backTo pos (starEach [] X.env)).any (·.1) = false := by rfl) : DE X (.Call (.Name "sorted" p) [e] [] pos) (e3CB c3SortedX u) :=
  d_cb (r := fun vs H Q => rSortedI X.K vs H Q ∨ rSortT X.K vs H Q) (fun pins s σ H xs us Q I r q => q.elim (cr_sortedI pins s σ H xs us Q I r) (cr_sortT3 pins s σ H xs us Q I r)) cl_sortedX hg hm boot_sorted' ha (by decide) (by decide) he hpl
/-! ### len, of a dict too -/
def c3LenX : List D → MH → Q3 → Prop := fun ds M Q => c3Len ds M Q ∨ ∃ a kvs, ds = [.ref a] ∧ M a = some (.dK kvs) ∧ Q (.int kvs.length) M
def rLenX (K : Fg) : List V → Hp → VK → Prop := fun xs H Q => (∃ p ys, xs = [V.ref p] ∧ (SqL K H p ys ∨ SqT K H p ys) ∧ Q (V.int ys.length) H) ∨ ((∃ z, xs = [V.str z] ∧ z.length ≤ sizeLine ∧ Q (V.int z.length) H) ∨ ∃ a kvs, xs = [V.ref a] ∧ H a = some (.dK kvs) ∧ Q (V.int kvs.length) H)
theorem cr_lenX : CallR X (.builtin "len") (rLenX X.K) := by
  intro pins s σ H xs us Q I r q
  rcases q with q | q | q
  · exact call_len_seq pins s σ H xs us Q I r q
  · exact call_len_str pins s σ H xs us Q I r q
  · exact call_lenD pins s σ H xs us Q I r q
theorem cl_lenX : CallL K (rLenX K) c3LenX := by
  intro ds vs H M Q Q2 r a q g
  rcases q with q | ⟨l, kvs, rfl, hm, q⟩
  · rcases cl_len ds vs H M Q Q2 r a q g with q | q
    · exact .inl q
    · exact .inr (.inl q)
  · obtain ⟨v, rfl, rr⟩ := one_inv r
    cases rr.ref_inv
    obtain ⟨ks, hk, hr⟩ := a.dK hm
    refine .inr (.inr ⟨l, ks, rfl, hk, ?_⟩)
    rw [hr.len]
    exact g _ _ H M (Tps.refl H) a Rv.int q
theorem d_lenX (hm : X.mg "len" = none) (ha : DA X [e] u) (hg : Gl X "len" := by rfl) (he : starEach (e :: []) X.env = (false, eval e X.env) :: starEach [] X.env := by rfl) (hpl : (backTo pos (starEach [] X.env)).any (·.1) = false := by rfl) : DE X (.Call (.Name "len" p) [e] [] pos) (e3CB c3LenX u) :=
  d_cb cr_lenX cl_lenX hg hm PySem.boot_len ha (by decide) (by decide) he hpl
end
/-! ### a call by two keywords, the other way round -/
def BindsR (K : Fg) (fd : FuncData) (x y : Str) : Prop := ∀ (s : Shared) (a b : Value), K.In s.heap → BindsTo s fd ⟨[], [(y, b), (x, a)]⟩ [(x, a), (y, b)]
def e3CallR (sp : Sp3) (u : A3) : E3 := fun W env M Q => u W env M fun ds M1 => match ds with
  | [b, a] => sp [a, b] M1 Q fun cls dd M' => W cls dd env M'
  | _ => False
section
variable {X : Cx} {kws : List Keyword} {u : A3} {p pos : Pos} {k j : Nat} {f : Addr} {fd : FuncData} {sp : Sp3} {n x y : Str}
theorem d_callKwR (C : Cal X.prog X.w X.K X.mg X.base k f fd n [x, y] sp) (bk : BindsR X.K fd x y) (hr : RoomG j X.A) (ha : DK X kws u) (hj : k ≤ j := by decide) (hg : Gl X n := by rfl) (hdb : (n == ("__debug__" : Str)) = false := by decide)
    (hall : (backToKw pos (keywordEach kws X.env)).all (·.1.isSome) = true := by rfl) (hks : (backToKw pos (keywordEach kws X.env)).filterMap (·.1) = [y, x] := by rfl)
    (hpl : ((backTo pos (starEach [] X.env)).any (·.1) || (backToKw pos (keywordEach kws X.env)).any (·.1.isNone)) = false := by rfl) : DE X (.Call (.Name n p) [] kws pos) (e3CallR sp u) := fun W2 tk => by
  refine ⟨fun pins s σ H Q2 I h => ?_⟩
  obtain ⟨env, M, W, Q, se, a, l, q, g⟩ := h
  refine wpAny_Call_Name_kw (ld_glob I hg C.m ?_ hdb)
  refine PySem.W.callWith_KW0 (h₀ := X.base) I.ok.mod.kin C.kp hall (thn ((ha W2 tk).run pos pins s σ H (fun vs H1 => ∃ v w, vs = [w, v] ∧ lowF X.K sp [v, w] H1 Q2 (WE W2 σ)) I ⟨env, M, W, _, se, a, l, q, fun ds vs H1 M1 t1 a1 r1 q1 => ?_⟩) fun ws s1 ⟨zs, H1, I1, rz, v, w, ez, q2⟩ => ⟨I1.kIn, ?_⟩) hpl
  · match ds, r1, q1 with
    | [b, c], r1, q1 =>
      obtain ⟨w, v, rfl, rb, rc⟩ := two_inv r1
      exact ⟨v, w, rfl, [c, b], M1, Q, _, Rvs.cons rc (Rvs.cons rb Rvs.nil), a1, q1, g.mono t1, fun cls dd H' M' t2 a2 w => l cls dd σ H' env M' (t1.trans t2) (se.mono (t1.trans t2)) a2 w⟩
    | [], _, q1 => exact q1.elim
    | [_], _, q1 => exact q1.elim
    | _ :: _ :: _ :: _, _, q1 => exact q1.elim
  · subst ez
    rw [hks]
    cases rz with
    | cons r1 rr =>
      cases rr with
      | cons r2 rr =>
        cases rr
        rename_i b c _
        have hb : BindsTo s1 fd ⟨[], [y, x].zip [b, c]⟩ ([x, y].zip [c, b]) := bk s1 c b I1.kIn
        have go := enter3 (ws := [c, b]) (zs := [v, w]) C.F (hr.mono hj) tk I1 hb (.cons r2 (.cons r1 .nil)) q2
        refine wpAny_call (codeAny_mono go fun r s' hq => ?_)
        match r, hq with
        | .ok (.ret _), hq => exact hq
        | .ok .next, hq => exact hq.elim
        | .ok .brk, hq => exact hq.elim
        | .ok .cont, hq => exact hq.elim
        | .error _, hq => exact hq
end
end L3

namespace L3
open PySem PySem.Spec PyProof.Rows L2
/-! ### try: .. except X as n, isinstance(n, C) -/
def s3TryAs (K : Fg) (c : Value) (i : Nat) (body : S3) (hd : Addr → Value → Option Addr → S3) : S3 := fun W D env M =>
  body (fun cls dd env' M' => ∃ b, PySem.W.exmOne K cls c = some b ∧ (b = true → ∀ a, M' a = none → hd a cls dd W0 { nx := fun env2 M2 => D.nx (env2.set i none) M2, rt := D.rt, bk := fun env2 M2 => D.bk (env2.set i none) M2, ct := fun env2 M2 => D.ct (env2.set i none) M2 } (env'.set i (some (.ref a))) M') ∧ (b = false → W cls dd env' M')) D env M
section
variable {X : Cx} {e e2 : Expr} {es : List Expr} {u : A3} {p pos : Pos} {K : Fg} {x n : Str} {c : Value} {i : Nat} {b₀ : Stmt} {suite body : List Stmt} {np pos' : Pos} {s1 : S3} {s2 : Addr → Value → Option Addr → S3}
theorem ds_tryAs (hN : X.N.Nodup) (hi : X.N[i]? = some n) (hln : X.env.kindOf n = some .local) (hs : X.stack = X.env :: X.outer) (hf : X.env.frame = some X.env.locals) (hc : Names X x c)
    (hb : ∀ (pn : List (Addr × Obj)) (xe : Value → Shared → Prop), DSs (X.tr pn xe) body s1)
    (hsu : ∀ (a : Addr) (oe : Obj) (cls : Value) (d : Option Addr) (pn : List (Addr × Obj)), Zc cls d oe → (∃ vs, oe.data = .fields vs) → DSs (X.suite a ((a, oe) :: pn)) (b₀ :: suite) (s2 a cls d)) :
    DS X (.Try body [.ExceptHandler (some (.Name x np)) (some n) (b₀ :: suite) pos'] [] [] pos) (s3TryAs X.K c i s1 s2) := fun W2 tk hp =>
  (ps_try_as (i := i) (tb := fun W => lowS X.K W s1) (ts := fun a cls d => lowS X.K (fun _ _ _ _ => False) (s2 a cls d)) (Wout := W2) hs hf hN hi hln hc tk (fun W pn xe tk' hp' => hb pn xe W tk' hp') (fun a oe cls d pn hz hff => hsu a oe cls d pn hz hff _ takes0 PassesOwn.never)).imp fun D2 σ H ⟨env, M, W, D3, s, a, l, q, le⟩ =>
    ⟨env, M, _, D3, s, a, fun cls dd σ' H' env' M' t s' a' ⟨b, e, h1, h2⟩ => ⟨b, e, fun hb a0 na => ⟨_, M', W0, _, s'.set i Rv.ref, a', LW0, h1 hb a0 (a'.fresh na), ⟨fun σ2 H2 e2 M2 t2 s2' a2 q2 => (le.mono t).nx _ _ _ _ t2 (s2'.unset i) a2 q2, (le.mono t).rt, fun σ2 H2 e2 M2 t2 s2' a2 q2 => (le.mono t).bk _ _ _ _ t2 (s2'.unset i) a2 q2, fun σ2 H2 e2 M2 t2 s2' a2 q2 => (le.mono t).ct _ _ _ _ t2 (s2'.unset i) a2 q2⟩⟩, fun hb => l cls dd σ' H' env' M' t s' a' (h2 hb)⟩, q, le⟩
end
end L3
namespace L3
open PySem PySem.Spec PyProof.Rows L2
/-- the value that a class's name stands for -/
def clV : D → Option Value
  | .ref C => some (.ref C)
  | .ty n => some (.type n)
  | _ => none
/-- isinstance(e, C) where e is the caught error -/
@[irreducible] def c3IsE (K : Fg) (a : Addr) (cls : Value) (dd : Option Addr) : List D → MH → Q3 → Prop := fun ds M Q => ∃ D c cv b, cls = .ref D ∧ dd = none ∧ ExcC K D ∧ ds = [.ref a, c] ∧ clV c = some cv ∧ PySem.W.kitOne K (.ref D) cv = some b ∧ Q (.bl b) M
theorem isE {K : Fg} {a D : Addr} {c : L3.D} {cv : Value} {b : Bool} {M : MH} {Q : Q3} (C : ExcC K D) (h : clV c = some cv) (k : PySem.W.kitOne K (.ref D) cv = some b) (q : Q (.bl b) M) : c3IsE K a (.ref D) none [.ref a, c] M Q := by
  unfold c3IsE
  exact ⟨D, c, cv, b, rfl, rfl, C, rfl, h, k, q⟩
theorem cl_isE {K : Fg} {a : Addr} {cls : Value} {dd : Option Addr} : CallL K (fun xs H Q => ∃ D, cls = .ref D ∧ dd = none ∧ ExcC K D ∧ rIsE K D a xs H Q) (c3IsE K a cls dd) := by
  intro ds vs H M Q Q2 r ab q g
  unfold c3IsE at q
  obtain ⟨D, c, cv, b, e1, e2, C, rfl, hc, k, q⟩ := q
  obtain ⟨v, w, rfl, r1, r2⟩ := two_inv r
  cases r1.ref_inv
  have hq := g _ _ H M (Tps.refl H) ab Rv.bl q
  refine ⟨D, e1, e2, C, w, cv, b, rfl, ?_, k, hq⟩
  cases c with
  | ref C' =>
    cases r2.ref_inv
    cases hc
    intro u ru
    cases ru
    rfl
  | ty n =>
    cases r2.ty_inv
    cases hc
    intro u ru
    cases ru
    rfl
  | _ => cases hc
theorem call_isE' {X : Cx} {a : Addr} {oe : Obj} {cls : Value} {dd : Option Addr} {pn : List (Addr × Obj)} (hz : Zc cls dd oe) (hf : ∃ vs, oe.data = .fields vs) : CallR (X.suite a ((a, oe) :: pn)) (.builtin "isinstance") (fun xs H Q => ∃ D, cls = .ref D ∧ dd = none ∧ ExcC X.K D ∧ rIsE X.K D a xs H Q) := by
  intro pins s σ H xs us Q I r h
  obtain ⟨D, rfl, rfl, C, h⟩ := h
  exact call_isE C hz hf pins s σ H xs us Q I r h
section
variable {X : Cx} {e e2 : Expr} {u : A3} {p pos : Pos}
theorem d_isE {a : Addr} {oe : Obj} {cls : Value} {dd : Option Addr} {pn : List (Addr × Obj)} (hz : Zc cls dd oe) (hf : ∃ vs, oe.data = .fields vs) (hm : (X.suite a ((a, oe) :: pn)).mg "isinstance" = none) (ha : DA (X.suite a ((a, oe) :: pn)) [e, e2] u) (hg : Gl (X.suite a ((a, oe) :: pn)) "isinstance" := by rfl)
    (he : starEach (e :: [e2]) (X.suite a ((a, oe) :: pn)).env = (false, eval e (X.suite a ((a, oe) :: pn)).env) :: starEach [e2] (X.suite a ((a, oe) :: pn)).env := by rfl) (hpl : (backTo pos (starEach [e2] (X.suite a ((a, oe) :: pn)).env)).any (·.1) = false := by rfl) : DE (X.suite a ((a, oe) :: pn)) (.Call (.Name "isinstance" p) [e, e2] [] pos) (e3CB (c3IsE X.K a cls dd) u) :=
  d_cb (call_isE' hz hf) cl_isE hg hm boot_isinstance' ha (by decide) (by decide) he hpl
end
end L3
namespace L3
open PySem PySem.Spec PyProof.Rows L2
/-! ### <= of tuples of ints -/
theorem lexAt_shift {e r : Nat → Bool} {z : Bool} : ∀ (k i : Nat), Ob.lexAt e r z (i + 1) k = Ob.lexAt (fun j => e (j + 1)) (fun j => r (j + 1)) z i k
  | 0, _ => rfl
  | k + 1, i => by rw [Ob.lexAt_succ, Ob.lexAt_succ, lexAt_shift k (i + 1)]
theorem lexAt_leI : ∀ (ns ms : List Int), Ob.lexAt (fun j => decide (ns.getD j 0 = ms.getD j 0)) (fun j => decide (ns.getD j 0 ≤ ms.getD j 0)) (decide (ns.length ≤ ms.length)) 0 (min ns.length ms.length) = lexLeI ns ms
  | [], ms => by simp [lexLeI, Ob.lexAt]
  | x :: xs, [] => by simp [lexLeI, Ob.lexAt]
  | x :: xs, y :: ys => by
    have e : min (x :: xs).length (y :: ys).length = min xs.length ys.length + 1 := by simp only [List.length_cons]; omega
    rw [e, Ob.lexAt_succ, lexAt_shift]
    have := lexAt_leI xs ys
    simp only [List.getD_cons_zero, List.getD_cons_succ, List.length_cons, Nat.add_le_add_iff_right] at this ⊢
    unfold lexLeI
    by_cases h : x = y
    · subst h
      rw [if_pos (by simp), if_pos rfl]
      exact this
    · rw [if_neg (by simpa using h), if_neg h]
def r3LeT : D → D → MH → Q3 → Prop := fun d e M Q => ∃ ns ms : List Int, d = rowD ns ∧ e = rowD ms ∧ Q (.bl (lexLeI ns ms)) M
theorem opl_leT {K : Fg} : OpL K (rLeT K) r3LeT := by
  intro d e v u H M Q Q2 rd re a q g
  obtain ⟨ns, ms, rfl, rfl, q⟩ := q
  obtain ⟨p, vs, rfl, hs, hv⟩ := Rv.tup_inv rd
  obtain ⟨p', vs', rfl, hs', hv'⟩ := Rv.tup_inv re
  cases Rvs.intsV hv
  cases Rvs.intsV hv'
  refine ⟨p, p', ns, ms, rfl, rfl, hs, hs', ?_⟩
  rw [lexAt_leI]
  exact g _ _ H M (Tps.refl H) a Rv.bl q
theorem ho_leT {X : Cx} {k : Nat} (hr : Room k X.A) : OpR X (compareOp .LtE) (rLeT X.K) := op_leT hr.units0
theorem ho_eqU {X : Cx} (hr : RoomU X.A) : OpR X (compareOp .Eq) (fun x y H Q => rEq x y H Q ∨ rEqD X.K x y H Q) := op_eq.or (op_eqD hr.units)
theorem ho_neU {X : Cx} (hr : RoomU X.A) : OpR X (compareOp .NotEq) (fun x y H Q => rNe x y H Q ∨ rNeD X.K x y H Q) := op_ne.or (op_neD hr.units)
/-- the classes that isinstance names -/
theorem kit_ref {K : Fg} {S C : Addr} {b : Bool} (h0 : PySem.W.subIn K (.ref S) (.ref S) = some true) (h2 : PySem.W.isClsIn K C = true) (h3 : PySem.W.typeIn K (.ref C) = some (.type "type")) (h4 : PySem.W.subIn K (.ref S) (.ref C) = some b) : PySem.W.kitOne K (.ref S) (.ref C) = some b := by
  unfold PySem.W.kitOne
  by_cases e : S = C
  · subst e
    rw [h0] at h4
    cases h4
    simp
  · have e1 : ¬ ((Value.ref S == Value.ref C) = true) := fun z => e (Value.ref.inj (beq_iff_eq.mp z))
    rw [if_neg e1]
    have e2 : ((PySem.W.clsIn K C).isSome && PySem.W.typeIn K (.ref C) == some (.type "type")) = true := by
      have h2' : (PySem.W.clsIn K C).isSome = true := h2
      rw [h2', h3] <;> rfl
    show (if ((PySem.W.clsIn K C).isSome && PySem.W.typeIn K (.ref C) == some (.type "type")) = true then PySem.W.subIn K (.ref S) (.ref C) else none) = some b
    rw [if_pos e2]
    exact h4
theorem kit_typ {K : Fg} {S : Addr} {T : String} {b : Bool} (hm : PySem.W.kitMeta T = true) (h4 : PySem.W.subIn K (.ref S) (.type T) = some b) : PySem.W.kitOne K (.ref S) (.type T) = some b := by
  unfold PySem.W.kitOne
  have e1 : ¬ ((Value.ref S == Value.type T) = true) := fun z => nomatch (beq_iff_eq.mp z)
  rw [if_neg e1]
  show (if PySem.W.kitMeta T = true then PySem.W.subIn K (.ref S) (.type T) else none) = some b
  rw [if_pos hm]
  exact h4
end L3

namespace L3
open PySem PySem.Spec PyProof.Rows L2
/-! ### tasks by themselves -/
def intsOf : D → List Int
  | .tup xs => xs.map fun d => match d with | .int i => i | _ => 0
  | _ => []
def prodD : List D → Int
  | [] => 1
  | .int i :: r => i * prodD r
  | _ :: r => prodD r
theorem prodD_snoc {i : Int} : ∀ xs : List D, prodD (xs ++ [.int i]) = prodD xs * i
  | [] => by simp [prodD]
  | x :: xs => by cases x <;> simp [prodD, prodD_snoc xs, Int.mul_assoc]
def labsOk : D → Bool
  | .tup xs => xs.all (fun x => isNum x 1 60) && decide (prodD xs ≤ 4000)
  | _ => false
def rowFits (ls : List Int) : D → Bool
  | .tup xs => decide (xs.length = ls.length) && (xs.zip ls).all fun p => isNum p.1 0 (p.2 - 1)
  | _ => false
theorem num_int {d : D} {a b : Int} (h : isNum d a b = true) : ∃ i, d = .int i ∧ a ≤ i ∧ i ≤ b := by
  cases d with
  | int i =>
    have h' : (decide (a ≤ i) && decide (i ≤ b)) = true := h
    rw [Bool.and_eq_true, decide_eq_true_eq, decide_eq_true_eq] at h'
    exact ⟨i, rfl, h'⟩
  | _ => exact absurd h (by simp [isNum])
theorem ints_of : ∀ {xs : List D}, (∀ x ∈ xs, ∃ i, x = .int i) → (intsOf (.tup xs)).map D.int = xs
  | [], _ => rfl
  | x :: xs, h => by
    obtain ⟨i, rfl⟩ := h x List.mem_cons_self
    show D.int i :: (intsOf (.tup xs)).map D.int = _
    rw [ints_of fun y hy => h y (List.mem_cons_of_mem _ hy)]
theorem intsOf_row (r : List Int) : intsOf (rowD r) = r := by
  show (r.map D.int).map _ = r
  rw [List.map_map]
  exact List.map_id' r
theorem fits_row {ls : List Int} {d : D} (h : rowFits ls d = true) : d = rowD (intsOf d) ∧ (intsOf d).length = ls.length := by
  cases d with
  | tup xs =>
    have h' : (decide (xs.length = ls.length) && (xs.zip ls).all fun p => isNum p.1 0 (p.2 - 1)) = true := h
    rw [Bool.and_eq_true, decide_eq_true_eq, List.all_eq_true] at h'
    obtain ⟨hl, ha⟩ := h'
    have hi : ∀ x ∈ xs, ∃ i, x = .int i := fun x hx => by
      obtain ⟨j, hj, rfl⟩ := List.getElem_of_mem hx
      have hz : j < (xs.zip ls).length := by rw [List.length_zip]; omega
      have := ha _ (List.getElem_mem hz)
      rw [List.getElem_zip] at this
      obtain ⟨i, e, _⟩ := num_int this
      exact ⟨i, e⟩
    refine ⟨?_, ?_⟩
    · show D.tup xs = .tup ((intsOf (.tup xs)).map D.int)
      rw [ints_of hi]
    · show (List.map _ xs).length = _
      rw [List.length_map, hl]
  | _ => exact absurd h (by simp [rowFits])
def afterR : Option (List Int) → List Int → Bool
  | none, _ => true
  | some a, r => !lexLeI r a
def ascR (ls : List Int) : Option (List Int) → List D → Bool
  | _, [] => true
  | a, d :: ds => rowFits ls d && (afterR a (intsOf d) && ascR ls (some (intsOf d)) ds)
def rowsAsc (ls : List Int) : D → Bool
  | .tup ds => ascR ls none ds
  | _ => false
def sideOk (ls : List Int) : D → Bool
  | .tup zs => decide (1 ≤ zs.length) && decide (zs.length ≤ 4) && zs.all (rowsAsc ls)
  | _ => false
def taskOk : D → Bool
  | .tup [.str w, c, l, a, b] => decide (w = "task") && (isNum c 2 4 && (match c, l with | .int n, .tup xs => decide ((xs.length : Int) = n) && (labsOk l && (sideOk (intsOf l) a && sideOk (intsOf l) b)) | _, _ => false))
  | _ => false
def spBounds : Sp3 := fun ds M Q _ => ∃ xs, ds = [.tup xs] ∧ xs.length ≤ 4 ∧ Vk M (.tup xs) ∧ Q (.bl (labsOk (.tup xs))) M
def spFits : Sp3 := fun ds M Q _ => ∃ d ls, ds = [d, rowD ls] ∧ Vk M d ∧ Q (.bl (rowFits ls d)) M
def spRows : Sp3 := fun ds M Q _ => ∃ d ls, ds = [d, rowD ls] ∧ Vk M d ∧ Q (.bl (rowsAsc ls d)) M
def spTask (bad : Addr) : Sp3 := fun ds M Q E => ∃ d, ds = [d] ∧ Vk M d ∧ (∀ w zs, d = .tup (w :: zs) → zs.length = 4 → ∃ s, w = .str s) ∧ (taskOk d = true → Q .non M) ∧ (taskOk d = false → E (.ref bad) none M)
/-! ### a network that fits a task -/
def isNetW : D → Bool
  | .str s => decide (s = "network")
  | _ => false
def fitsNet (c p q : Nat) : D → Bool
  | .tup [w, m, l, a, b] => isNetW w && (isNum m 1 400 && (match m, l with | .int n, .tup ls => decide (ls.length = c) && (ls.all (rowOk n) && (insOk n (p : Int) a && insOk n (q : Int) b)) | _, _ => false))
  | _ => false
def taskD (ls ps qs : List D) : D := .tup [.str "task", .int (ls.length : Int), .tup ls, .tup ps, .tup qs]
def WT (d : D) : Prop := ∀ w zs, d = .tup (w :: zs) → zs.length = 4 → ∃ s, w = .str s
def WN (M : MH) (d : D) : Prop := ∀ w zs, d = .tup (w :: zs) → zs.length = 4 → ∀ Q : Q3, Q (.bl (!isNetW w)) M → r3Ne w (.str "network") M Q
def spNet (bt bn : Addr) : Sp3 := fun ds M Q E => ∃ d t, ds = [d, t] ∧ Vk M d ∧ Vk M t ∧ WT t ∧ WN M d ∧ (taskOk t = false → E (.ref bt) none M) ∧
  (∀ ls ps qs, t = taskD ls ps qs → taskOk t = true → (fitsNet ls.length ps.length qs.length d = true → Q .non M) ∧ (fitsNet ls.length ps.length qs.length d = false → E (.ref bn) none M))
theorem side_inv {L : List Int} {d : D} (h : sideOk L d = true) : ∃ zs, d = .tup zs ∧ 1 ≤ zs.length ∧ zs.length ≤ 4 := by
  cases d with
  | tup zs =>
    have h' : (decide (1 ≤ zs.length) && decide (zs.length ≤ 4) && zs.all (rowsAsc L)) = true := h
    rw [Bool.and_eq_true, Bool.and_eq_true, decide_eq_true_eq, decide_eq_true_eq] at h'
    exact ⟨zs, rfl, h'.1⟩
  | _ => exact absurd h (by simp [sideOk])
theorem task_inv {t : D} (h : taskOk t = true) : ∃ ls ps qs, t = taskD ls ps qs ∧ 2 ≤ ls.length ∧ ls.length ≤ 4 ∧ 1 ≤ ps.length ∧ ps.length ≤ 4 ∧ 1 ≤ qs.length ∧ qs.length ≤ 4 := by
  unfold taskOk at h
  split at h
  · rename_i w c l a b
    rw [Bool.and_eq_true, Bool.and_eq_true, decide_eq_true_eq] at h
    obtain ⟨rfl, hc, h⟩ := h
    split at h
    · rename_i n ls
      rw [Bool.and_eq_true, Bool.and_eq_true, Bool.and_eq_true, decide_eq_true_eq] at h
      obtain ⟨rfl, _, ha, hb⟩ := h
      obtain ⟨ps, rfl, p1, p2⟩ := side_inv ha
      obtain ⟨qs, rfl, q1, q2⟩ := side_inv hb
      obtain ⟨i, e, i1, i2⟩ := num_int hc
      cases e
      exact ⟨ls, ps, qs, rfl, by omega, by omega, p1, p2, q1, q2⟩
    · cases h
  · cases h
end L3

namespace L3
open PySem PySem.Spec PyProof.Rows L2
/-! ### a heap without one of its objects; values by their data -/
def rest (M : MH) (h : Addr) : MH := fun b => if b = h then none else M b
theorem rest_sub {M M' : MH} {h : Addr} (s : Sub M M') : Sub (rest M h) (rest M' h) := fun b o e => by
  unfold rest at e ⊢
  split at e
  · cases e
  · rename_i hb
    rw [if_neg hb]
    exact s b o e
theorem rest_in {M : MH} {h : Addr} : Sub (rest M h) M := fun b o e => by
  unfold rest at e
  split at e
  · cases e
  · exact e
mutual
theorem py_mono {M M' : MH} (s : Sub M M') : ∀ (p : PyData) (d : D), Py M d p → Py M' d p
  | .none, _, h => by cases h; exact .non
  | .bool b, _, h => by cases h; exact .bl b
  | .int i, _, h => by cases h; exact .int i
  | .str x, _, h => by cases h; exact .str x
  | .tuple ps, _, h => by
    cases h with
    | tup r => exact .tup (pys_mono s ps _ r)
  | .list ps, _, h => by
    cases h with
    | ref l r => exact .ref (l.imp (s _ _) (s _ _)) (pys_mono s ps _ r)
  | .dict _, _, h => by cases h
theorem pys_mono {M M' : MH} (s : Sub M M') : ∀ (ps : List PyData) (ds : List D), Pys M ds ps → Pys M' ds ps
  | [], _, h => by cases h; exact .nil
  | p :: ps, _, h => by
    cases h with
    | cons a b => exact .cons (py_mono s p _ a) (pys_mono s ps _ b)
end
mutual
theorem py_vk {M : MH} : ∀ (p : PyData) (d : D), Py M d p → Vk M d
  | .none, _, h => by cases h; simp [Vk]
  | .bool b, _, h => by cases h; simp [Vk]
  | .int i, _, h => by cases h; simp [Vk]
  | .str x, _, h => by cases h; simp [Vk]
  | .tuple ps, _, h => by
    cases h with
    | tup r =>
      simp only [Vk]
      exact pys_vk ps _ r
  | .list ps, _, h => by
    cases h with
    | ref l r =>
      simp only [Vk]
      exact .inl ⟨_, l⟩
  | .dict _, _, h => by cases h
theorem pys_vk {M : MH} : ∀ (ps : List PyData) (ds : List D), Pys M ds ps → Vks M ds
  | [], _, h => by cases h; simp [Vks]
  | p :: ps, _, h => by
    cases h with
    | cons a b =>
      simp only [Vks]
      exact ⟨py_vk p _ a, pys_vk ps _ b⟩
end
theorem rest_at {M : MH} {h b : Addr} (e : b ≠ h) : rest M h b = M b := if_neg e
theorem rest_upd {M : MH} {p : Addr} {o : MO} : rest (updM M p o) p = rest M p := by
  funext b
  unfold rest
  split
  · rfl
  · rename_i e
    exact updM_ne e
/-- without two -/
def rest2 (M : MH) (p h : Addr) : MH := rest (rest M p) h
theorem rest2_at {M : MH} {p h b : Addr} (e1 : b ≠ p) (e2 : b ≠ h) : rest2 M p h b = M b := (rest_at e2).trans (rest_at e1)
theorem rest2_upd {M : MH} {p h : Addr} {o : MO} : rest2 (updM M p o) p h = rest2 M p h := congrArg (fun m => rest m h) rest_upd
theorem rest2_sub {M M' : MH} {p h : Addr} (s : Sub M M') : Sub (rest2 M p h) (rest2 M' p h) := rest_sub (rest_sub s)
theorem rest2_set {M : MH} {p h d : Addr} {n : Int} : Sub (rest2 M p h) (setH M h d n) := fun b o e => by
  unfold rest2 rest at e
  split at e
  · cases e
  · rename_i hb
    split at e
    · cases e
    · exact (setH_ne hb).trans e
/-- may be compared -/
def Pc (k : Nat) (M : MH) (x : D) : Prop := ∃ p, Py M x p ∧ p.canLay0 = true ∧ p.depth ≤ k
theorem Pc.mono {k k' : Nat} {M M' : MH} {x : D} (h : Pc k M x) (s : Sub M M') (hk : k ≤ k') : Pc k' M' x := by
  obtain ⟨p, a, b, c⟩ := h
  exact ⟨p, py_mono s p x a, b, Nat.le_trans c hk⟩
theorem Pc.vk {k : Nat} {M : MH} {x : D} (h : Pc k M x) : Vk M x := by
  obtain ⟨p, a, _⟩ := h
  exact py_vk p x a
section
variable {M : MH} {k : Nat}
theorem pc_non : Pc k M .non := ⟨.none, .non, rfl, by simp [PyData.depth]⟩
theorem pc_int {i : Int} : Pc k M (.int i) := ⟨.int i, .int i, rfl, by simp [PyData.depth]⟩
theorem pc_bl {b : Bool} : Pc k M (.bl b) := ⟨.bool b, .bl b, rfl, by simp [PyData.depth]⟩
theorem pcs : ∀ {ds : List D}, (∀ x ∈ ds, Pc k M x) → ∃ ps, Pys M ds ps ∧ PyData.canLayAll0 ps = true ∧ PyData.depthAll ps ≤ k
  | [], _ => ⟨[], .nil, by simp [PyData.canLayAll0], by simp [PyData.depthAll]⟩
  | d :: ds, h => by
    obtain ⟨p, h1, h2, h3⟩ := h d List.mem_cons_self
    obtain ⟨ps, k1, k2, k3⟩ := pcs (ds := ds) fun x hx => h x (List.mem_cons_of_mem _ hx)
    exact ⟨p :: ps, .cons h1 k1, by simp [PyData.canLayAll0, h2, k2], by simp only [PyData.depthAll]; omega⟩
theorem pc_tup {ds : List D} (h : ∀ x ∈ ds, Pc k M x) : Pc (k + 1) M (.tup ds) := by
  obtain ⟨ps, h1, h2, h3⟩ := pcs h
  exact ⟨.tuple ps, .tup h1, by simpa [PyData.canLay0] using h2, by simp only [PyData.depth]; omega⟩
theorem pc_lst {a : Addr} {ds : List D} (ha : M a = some (.lst ds)) (h : ∀ x ∈ ds, Pc k M x) : Pc (k + 1) M (.ref a) := by
  obtain ⟨ps, h1, h2, h3⟩ := pcs h
  exact ⟨.list ps, .ref (.inl ha) h1, by simpa [PyData.canLay0] using h2, by simp only [PyData.depth]; omega⟩
theorem pc_row {l : List Int} : Pc 1 M (rowD l) := pc_tup fun x hx => by
  obtain ⟨i, _, rfl⟩ := List.mem_map.mp hx
  exact pc_int
theorem eq_py {Q : Q3} {x y : D} (hx : Pc 64 M x) (hy : Pc 64 M y) (nx : ∀ i, x ≠ .int i) (nb : ∀ i, x ≠ .bl i) (ns : ∀ i, x ≠ .str i) (h : ∀ p q, Py M x p → Py M y q → Q (.bl (PyData.eqv p q)) M) : r3Eq x y M Q := by
  obtain ⟨p, a1, a2, a3⟩ := hx
  obtain ⟨q, b1, b2, b3⟩ := hy
  unfold r3Eq
  have key : ∃ p q, Py M x p ∧ Py M y q ∧ SeqAt.shaped p = true ∧ SeqAt.shaped q = true ∧ Q (.bl (PyData.eqv p q)) M := ⟨p, q, a1, b1, shaped_of a2 a3, shaped_of b2 b3, h p q a1 b1⟩
  cases x with
  | int i => exact absurd rfl (nx i)
  | bl i => exact absurd rfl (nb i)
  | str i => exact absurd rfl (ns i)
  | _ => exact key
end
end L3

namespace L3
open PySem PySem.Spec PyProof.Rows L2
/-! ### values that may be shown, lists and dicts in them or not: by depth and bulk -/
structure SzP (k w : Nat) (M : MH) (d : D) (p : PyData) : Prop where
  py : PyZ M true [d] [p]
  sh : p.showable = true
  lv : p.leavesShort 13 = true
  dp : p.depth ≤ k
  bk : p.bulk ≤ w
def Sz (k w : Nat) (M : MH) (d : D) : Prop := ∃ p, SzP k w M d p
theorem SzP.mono {k w k' w' : Nat} {M M' : MH} {d : D} {p : PyData} (h : SzP k w M d p) (s : Sub M M') (hk : k ≤ k') (hw : w ≤ w') : SzP k' w' M' d p :=
  ⟨h.py.mono s (fun p d => py_mono s p d) (fun ps ds => pys_mono s ps ds), h.sh, h.lv, Nat.le_trans h.dp hk, Nat.le_trans h.bk hw⟩
theorem Sz.mono {k w k' w' : Nat} {M M' : MH} {d : D} (h : Sz k w M d) (s : Sub M M') (hk : k ≤ k') (hw : w ≤ w') : Sz k' w' M' d := by
  obtain ⟨p, h⟩ := h
  exact ⟨p, h.mono s hk hw⟩
theorem Sz.le {k w k' w' : Nat} {M : MH} {d : D} (h : Sz k w M d) (hk : k ≤ k') (hw : w ≤ w') : Sz k' w' M d := h.mono (Sub.refl M) hk hw
theorem Sz.sub {k w : Nat} {M M' : MH} {d : D} (h : Sz k w M d) (s : Sub M M') : Sz k w M' d := h.mono s (Nat.le_refl _) (Nat.le_refl _)
section
variable {M : MH} {k w : Nat}
theorem sz_non : Sz k w M .non := ⟨.none, .of .non, by simp [PyData.showable], by simp [PyData.leavesShort], by simp [PyData.depth], by simp [PyData.bulk]⟩
theorem sz_bl {b : Bool} : Sz k w M (.bl b) := ⟨.bool b, .of (.bl b), by simp [PyData.showable], by simp [PyData.leavesShort], by simp [PyData.depth], by simp [PyData.bulk]⟩
theorem sz_int {i : Int} (h : i.natAbs < 1000000000) : Sz k w M (.int i) := by
  refine ⟨.int i, .of (.int i), (small_show (.int i) (by simpa [smallP] using h)).1, ?_, by simp [PyData.depth], by simp [PyData.bulk]⟩
  have := (small_show (.int i) (by simpa [smallP] using h)).2.2
  simp only [PyData.leavesShort, decide_eq_true_eq] at this ⊢
  omega
theorem sz_str {x : Str} (h : (x.cps.toList.all fun c => decide (c < 16 ^ 8)) = true) (hw : x.cps.size ≤ w) : Sz k w M (.str x) := ⟨.str x, .of (.str x), by simp [PyData.showable], by simpa only [PyData.leavesShort] using h, by simp [PyData.depth], by simpa only [PyData.bulk] using hw⟩
theorem szs_all : ∀ {ds : List D}, (∀ x ∈ ds, Sz k w M x) → ∃ ps, PyZ M false ds ps ∧ PyData.showableAll ps = true ∧ PyData.leavesShortAll 13 ps = true ∧ PyData.depthAll ps ≤ k ∧ PyData.bulkAll ps ≤ ds.length * (w + 1)
  | [], _ => ⟨[], .nil, by simp [PyData.showableAll], by simp [PyData.leavesShortAll], by simp [PyData.depthAll], by simp [PyData.bulkAll]⟩
  | d :: ds, h => by
    obtain ⟨p, h1⟩ := h d List.mem_cons_self
    obtain ⟨ps, k1, k2, k3, k4, k5⟩ := szs_all (ds := ds) fun x hx => h x (List.mem_cons_of_mem _ hx)
    have d1 := h1.dp
    have b1 := h1.bk
    refine ⟨p :: ps, .cons h1.py k1, by simp [PyData.showableAll, h1.sh, k2], by simp [PyData.leavesShortAll, h1.lv, k3], by simp only [PyData.depthAll]; omega, ?_⟩
    simp only [PyData.bulkAll, List.length_cons]
    rw [Nat.add_mul, Nat.one_mul]
    omega
theorem sz_tup {n k' w' : Nat} {ds : List D} (h : ∀ x ∈ ds, Sz k w M x) (hl : ds.length ≤ n) (hw : n * (w + 1) ≤ w') (hk : k + 1 ≤ k') : Sz k' w' M (.tup ds) := by
  obtain ⟨ps, h1, h2, h3, h4, h5⟩ := szs_all h
  have : ds.length * (w + 1) ≤ n * (w + 1) := Nat.mul_le_mul_right _ hl
  exact ⟨.tuple ps, .tup h1, by simpa only [PyData.showable] using h2, by simpa only [PyData.leavesShort] using h3, by simp only [PyData.depth]; omega, by simp only [PyData.bulk]; omega⟩
theorem sz_lst {n k' w' : Nat} {a : Addr} {ds : List D} (ha : LstM M a ds) (h : ∀ x ∈ ds, Sz k w M x) (hl : ds.length ≤ n) (hw : n * (w + 1) ≤ w') (hk : k + 1 ≤ k') : Sz k' w' M (.ref a) := by
  obtain ⟨ps, h1, h2, h3, h4, h5⟩ := szs_all h
  have : ds.length * (w + 1) ≤ n * (w + 1) := Nat.mul_le_mul_right _ hl
  exact ⟨.list ps, .lst ha h1, by simpa only [PyData.showable] using h2, by simpa only [PyData.leavesShort] using h3, by simp only [PyData.depth]; omega, by simp only [PyData.bulk]; omega⟩
/-- an empty dict -/
theorem sz_d0 {a : Addr} (ha : M a = some (.dK [])) : Sz (k + 1) w M (.ref a) := by
  refine ⟨dP [] [], .dct ha .nil rfl, ?_, ?_, ?_, ?_⟩
  · show PyData.showable (.dict []) = true
    simp [PyData.showable, PyData.showableKv]
  · show PyData.leavesShort 13 (.dict []) = true
    simp [PyData.leavesShort, PyData.leavesShortKv]
  · show PyData.depth (.dict []) ≤ k + 1
    simp [PyData.depth, PyData.depthKv]
  · show PyData.bulk (.dict []) ≤ w
    simp [PyData.bulk, PyData.bulkKv]
theorem sz_row {l : List Int} {n w' : Nat} (h : ∀ x ∈ l, x.natAbs < 1000000000) (hl : l.length ≤ n) (hw : n ≤ w') (hk : 1 ≤ k) : Sz k w' M (rowD l) :=
  sz_tup (k := 0) (w := 0) (n := n) (fun x hx => by
    obtain ⟨i, hi, rfl⟩ := List.mem_map.mp hx
    exact sz_int (h i hi)) (by rw [List.length_map]; exact hl) (by omega) hk
theorem pyz_vk {b : Bool} {ds : List D} {ps : List PyData} (h : PyZ M b ds ps) : ∀ x ∈ ds, Vk M x := by
  induction h with
  | of h => exact fun x hx => by rw [List.mem_singleton] at hx; subst hx; exact py_vk _ _ h
  | dct e h n => exact fun x hx => by rw [List.mem_singleton] at hx; subst hx; simp only [Vk]; exact .inr ⟨_, e⟩
  | tup _ ih => exact fun x hx => by rw [List.mem_singleton] at hx; subst hx; exact vk_tup ih
  | lst l _ ih => exact fun x hx => by rw [List.mem_singleton] at hx; subst hx; exact vk_lst l
  | nil => exact fun x hx => by simp at hx
  | cons _ _ i1 i2 => exact fun x hx => (List.mem_cons.mp hx).elim (fun e => i1 x (by rw [e]; exact List.mem_singleton.mpr rfl)) (i2 x)
theorem Sz.vk {d : D} (h : Sz k w M d) : Vk M d := by
  obtain ⟨p, h⟩ := h
  exact pyz_vk h.py d (List.mem_singleton.mpr rfl)
theorem SzP.shz {d : D} {p : PyData} (h : SzP k w M d p) (hk : k ≤ 100) (hw : w ≤ 2 ^ 20) : ShZ p := ⟨h.sh, Nat.le_trans h.dp hk, PyData.shown_fits_bulk (B := 13) (by decide) (by decide) h.lv (Nat.le_trans h.bk hw)⟩
/-- repr([v, t]) -/
theorem repr_two {Q : Q3} {a : Addr} {v t : D} {p q : PyData} (ha : LstM M a [v, t]) (hv : SzP k w M v p) (ht : SzP k w M t q) (hk : k ≤ 99) (hw : w ≤ 500000) (z : Q (.str (PyData.list [p, q]).shown) M) : c3ReprZ [.ref a] M Q := by
  have h1 := hv.dp
  have h2 := hv.bk
  have h3 := ht.dp
  have h4 := ht.bk
  refine reprZ (.lst ha (.cons hv.py (.cons ht.py .nil))) (SzP.shz (k := 100) (w := 2 ^ 20) (d := .ref a) (M := M) ⟨.lst ha (.cons hv.py (.cons ht.py .nil)), ?_, ?_, ?_, ?_⟩ (Nat.le_refl _) (Nat.le_refl _)) z
  · simp [PyData.showable, PyData.showableAll, hv.sh, ht.sh]
  · simp [PyData.leavesShort, PyData.leavesShortAll, hv.lv, ht.lv]
  · simp only [PyData.depth, PyData.depthAll]; omega
  · simp only [PyData.bulk, PyData.bulkAll]; omega
end
/-! ### what is sorted is a range -/
theorem cut_le {ds : List D} {lo hi : Option Int} : (cutD ds lo hi).length ≤ ds.length := by
  unfold cutD
  rw [List.length_take, List.length_drop]
  omega
theorem cut_mem {ds : List D} {lo hi : Option Int} {x : D} (h : x ∈ cutD ds lo hi) : x ∈ ds := by
  unfold cutD at h
  exact List.mem_of_mem_drop (List.mem_of_mem_take h)
theorem lk_inv {n : Int} : ∀ {l seen : List Int}, lkOk n seen (l.map D.int) = true → l.Nodup ∧ ∀ x ∈ l, x ∉ seen
  | [], _, _ => ⟨List.nodup_nil, fun x hx => by simp at hx⟩
  | v :: l, seen, h => by
    have h' : (decide (0 ≤ v) && decide (v ≤ n - 1) && !(seen.contains v) && lkOk n (v :: seen) (l.map D.int)) = true := h
    rw [Bool.and_eq_true, Bool.and_eq_true, Bool.not_eq_true'] at h'
    obtain ⟨⟨_, hc⟩, hr⟩ := h'
    obtain ⟨nd, hs⟩ := lk_inv hr
    have hv : v ∉ seen := fun hm => by
      rw [List.contains_eq_mem, decide_eq_false_iff_not] at hc
      exact hc hm
    refine ⟨List.nodup_cons.mpr ⟨fun hm => hs v hm List.mem_cons_self, nd⟩, fun x hx => ?_⟩
    rcases List.mem_cons.mp hx with rfl | hx
    · exact hv
    · exact fun hm => hs x hx (List.mem_cons_of_mem _ hm)
theorem sorted_one : ∀ {a b : List Int}, a.Perm b → a.Pairwise (· ≤ ·) → b.Pairwise (· ≤ ·) → a = b
  | [], b, p, _, _ => (List.nil_perm.mp p).symm
  | x :: a, b, p, ha, hb => by
    cases b with
    | nil => exact absurd p.length_eq (by simp)
    | cons y b =>
      have ha' := List.pairwise_cons.mp ha
      have hb' := List.pairwise_cons.mp hb
      have hxy : x = y := by
        have h1 : x ∈ y :: b := p.mem_iff.mp List.mem_cons_self
        have h2 : y ∈ x :: a := p.mem_iff.mpr List.mem_cons_self
        have e1 : y ≤ x := by
          rcases List.mem_cons.mp h1 with h | h
          · omega
          · exact hb'.1 x h
        have e2 : x ≤ y := by
          rcases List.mem_cons.mp h2 with h | h
          · omega
          · exact ha'.1 y h
        omega
      subst hxy
      rw [sorted_one (List.perm_cons _ |>.mp p) ha'.2 hb'.2]
theorem rngI_sorted (m : Nat) : (rngI m).Pairwise (· ≤ ·) := by
  unfold rngI
  refine List.pairwise_map.mpr (List.Pairwise.imp (fun {a b} h => ?_) List.pairwise_lt_range)
  omega
/-- sorted(row) == list(range(n)), of a row whose numbers are in range -/
theorem sorted_row {n : Nat} {ns ms : List Int} (hl : ns.length = n) (hx : ∀ x ∈ ns, 0 ≤ x ∧ x < n) (p : ms.Perm ns) (h : ms.Pairwise (· ≤ ·)) : decide (ms = rngI n) = rowOk (n : Int) (rowD ns) := by
  have e : rowOk (n : Int) (rowD ns) = lkOk (n : Int) [] (ns.map D.int) := by
    show (decide (((ns.map D.int).length : Int) = (n : Int)) && lkOk (n : Int) [] (ns.map D.int)) = _
    rw [List.length_map, hl, decide_eq_true rfl, Bool.true_and]
  rw [e, Bool.eq_iff_iff, decide_eq_true_eq]
  constructor
  · intro e
    subst e
    exact lk_ints hx (p.nodup (rngI_nodup n)) fun x _ h => by simp at h
  · intro e
    exact sorted_one (p.trans (ord_of hl hx (lk_inv e).1)) h (rngI_sorted n)
theorem insOk_inv {n b : Int} {d : D} (h : insOk n b d = true) : ∃ ns : List Int, d = rowD ns ∧ (ns.length : Int) = n ∧ ∀ x ∈ ns, 0 ≤ x ∧ x < b := by
  cases d with
  | tup zs =>
    have h' : (decide ((zs.length : Int) = n) && zs.all fun x => isNum x 0 (b - 1)) = true := h
    rw [Bool.and_eq_true, decide_eq_true_eq, List.all_eq_true] at h'
    obtain ⟨hl, ha⟩ := h'
    suffices ∀ zs : List D, (∀ x ∈ zs, isNum x 0 (b - 1) = true) → ∃ ns : List Int, zs = ns.map D.int ∧ ∀ x ∈ ns, 0 ≤ x ∧ x < b by
      obtain ⟨ns, rfl, hn⟩ := this zs ha
      exact ⟨ns, rfl, by rwa [List.length_map] at hl, hn⟩
    intro zs
    induction zs with
    | nil => exact fun _ => ⟨[], rfl, fun x hx => by simp at hx⟩
    | cons z zs ih =>
      intro h
      obtain ⟨ns, rfl, hn⟩ := ih fun x hx => h x (List.mem_cons_of_mem _ hx)
      have hz := h z List.mem_cons_self
      cases z with
      | int i =>
        have hz' : (decide (0 ≤ i) && decide (i ≤ b - 1)) = true := hz
        rw [Bool.and_eq_true, decide_eq_true_eq, decide_eq_true_eq] at hz'
        refine ⟨i :: ns, rfl, fun x hx => ?_⟩
        rcases List.mem_cons.mp hx with rfl | hx
        · omega
        · exact hn x hx
      | _ => cases hz
  | _ => cases h
theorem row_insOk {n : Int} {d : D} (h : rowOk n d = true) : insOk n n d = true := by
  cases d with
  | tup zs =>
    have h' : (decide ((zs.length : Int) = n) && lkOk n [] zs) = true := h
    rw [Bool.and_eq_true] at h'
    show (decide ((zs.length : Int) = n) && zs.all fun x => isNum x 0 (n - 1)) = true
    rw [h'.1, Bool.true_and]
    have : ∀ (zs : List D) (seen : List Int), lkOk n seen zs = true → (zs.all fun x => isNum x 0 (n - 1)) = true := by
      intro zs
      induction zs with
      | nil => exact fun _ _ => rfl
      | cons z zs ih =>
        intro seen h
        cases z with
        | int v =>
          have h2 : (decide (0 ≤ v) && decide (v ≤ n - 1) && !(seen.contains v) && lkOk n (v :: seen) zs) = true := h
          rw [Bool.and_eq_true, Bool.and_eq_true] at h2
          rw [List.all_cons, ih _ h2.2, Bool.and_true]
          exact h2.1.1
        | _ => cases h
    exact this zs [] h'.2
  | _ => cases h
end L3

namespace L3
open PySem PySem.Spec PyProof.Rows L2
/-! ### sorted(rows), rows a list of tuples of ints -/
theorem lex_of_code {B : Int} : ∀ {ns ms : List Int}, ns.length = ms.length → TS.Bd B ns → TS.Bd B ms → TS.code B ns ≤ TS.code B ms → lexLeI ns ms = true
  | [], ms, _, _, _, _ => by unfold lexLeI; rfl
  | x :: xs, [], e, _, _, _ => by simp at e
  | x :: xs, y :: ys, e, h1, h2, h => by
    have e' : xs.length = ys.length := by simpa using e
    unfold lexLeI
    by_cases hxy : x = y
    · subst hxy
      rw [if_pos rfl]
      refine lex_of_code e' h1.tail h2.tail ?_
      have h3 : ¬ TS.code B (x :: ys) < TS.code B (x :: xs) := by omega
      have h4 : ¬ TS.code B ys < TS.code B xs := fun z => h3 ((TS.code_same e'.symm).mpr z)
      omega
    · rw [if_neg hxy]
      refine decide_eq_true ?_
      by_cases hlt : y < x
      · have := TS.code_lt (B := B) e'.symm h2.tail h1.tail hlt
        omega
      · omega
theorem rvs_perm {K : Fg} {H : Hp} {α : Type} (f : α → D) {vs ys : List V} (p : ys.Perm vs) : ∀ {rs : List α}, Rvs K H (rs.map f) vs → ∃ ms : List α, ms.Perm rs ∧ Rvs K H (ms.map f) ys := by
  induction p with
  | nil => exact fun {rs} r => ⟨rs, List.Perm.refl _, r⟩
  | @cons x l1 l2 _ ih =>
    intro rs r
    match rs, r with
    | [], r => cases r
    | a :: rs, r =>
      obtain ⟨v, vs, e, r1, r2⟩ := Rvs.cons_inv r
      injection e with e1 e2
      subst e1; subst e2
      obtain ⟨ms, pm, rm⟩ := ih r2
      exact ⟨a :: ms, pm.cons a, Rvs.cons r1 rm⟩
  | swap x y l =>
    intro rs r
    match rs, r with
    | [], r => cases r
    | [a], r =>
      obtain ⟨v, vs, e, r1, r2⟩ := Rvs.cons_inv r
      injection e with e1 e2
      subst e2
      cases r2
    | a :: b :: rs, r =>
      obtain ⟨v, vs, e, r1, r2⟩ := Rvs.cons_inv r
      injection e with e1 e2
      subst e1; subst e2
      obtain ⟨v, vs, e, r2, r3⟩ := Rvs.cons_inv r2
      injection e with e1 e2
      subst e1; subst e2
      exact ⟨b :: a :: rs, List.Perm.swap a b rs, Rvs.cons r2 (Rvs.cons r1 r3)⟩
  | trans _ _ ih1 ih2 =>
    intro rs r
    obtain ⟨ms, pm, rm⟩ := ih2 r
    obtain ⟨ms', pm', rm'⟩ := ih1 rm
    exact ⟨ms', pm'.trans pm, rm'⟩
theorem rvs_tup {K : Fg} {H : Hp} : ∀ {rs : List (List Int)} {vs : List V}, Rvs K H (rs.map rowD) vs → ∀ x ∈ vs, ∃ ns ∈ rs, TupI K H x ns
  | [], vs, r, x, hx => by
    cases r.nil_inv
    simp at hx
  | a :: rs, vs, r, x, hx => by
    obtain ⟨v, vs, rfl, r1, r2⟩ := Rvs.cons_inv r
    rcases List.mem_cons.mp hx with rfl | hx
    · obtain ⟨p, ws, rfl, hs, hv⟩ := Rv.tup_inv r1
      cases Rvs.intsV hv
      exact ⟨a, List.mem_cons_self, p, rfl, hs⟩
    · obtain ⟨ns, h1, h2⟩ := rvs_tup r2 x hx
      exact ⟨ns, List.mem_cons_of_mem _ h1, h2⟩
theorem rvs_lex {K : Fg} {H : Hp} {d : Nat} {B : Int} : ∀ {ms : List (List Int)} {ys : List V}, Rvs K H (ms.map rowD) ys → (∀ r ∈ ms, r.length = d ∧ TS.Bd B r) → ys.Pairwise (fun x y => ∀ n m, TupI K H x n → TupI K H y m → TS.code B n ≤ TS.code B m) → ms.Pairwise (fun a b => lexLeI a b = true)
  | [], ys, _, _, _ => List.Pairwise.nil
  | a :: ms, ys, r, hb, hp => by
    obtain ⟨v, vs, rfl, r1, r2⟩ := Rvs.cons_inv r
    have hp' := List.pairwise_cons.mp hp
    refine List.pairwise_cons.mpr ⟨fun b hm => ?_, rvs_lex r2 (fun r hr => hb r (List.mem_cons_of_mem _ hr)) hp'.2⟩
    obtain ⟨p, ws, rfl, hs, hv⟩ := Rv.tup_inv r1
    cases Rvs.intsV hv
    have : ∀ {ms : List (List Int)} {vs : List V}, Rvs K H (ms.map rowD) vs → b ∈ ms → ∃ y ∈ vs, TupI K H y b := by
      intro ms
      induction ms with
      | nil => exact fun _ h => by simp at h
      | cons c ms ih =>
        intro vs r h
        obtain ⟨v, vs, rfl, r1, r2⟩ := Rvs.cons_inv r
        rcases List.mem_cons.mp h with rfl | h
        · obtain ⟨p, ws, rfl, hs, hv⟩ := Rv.tup_inv r1
          cases Rvs.intsV hv
          exact ⟨_, List.mem_cons_self, p, rfl, hs⟩
        · obtain ⟨y, hy, t⟩ := ih r2 h
          exact ⟨y, List.mem_cons_of_mem _ hy, t⟩
    obtain ⟨y, hy, t⟩ := this r2 hm
    have h1 := hb a List.mem_cons_self
    have h2 := hb b (List.mem_cons_of_mem _ hm)
    exact lex_of_code (h1.1.trans h2.1.symm) h1.2 h2.2 (hp'.1 y hy a b ⟨p, rfl, hs⟩ t)
section
variable {X : Cx} {K : Fg} {e : Expr} {u : A3} {p pos : Pos}
def rSortR (K : Fg) : List V → Hp → VK → Prop := fun vs H Q => ∃ (d : Nat) (B : Int), 1 ≤ d ∧ rSortU K d B vs H Q
theorem cr_sortR : CallR X (.builtin "sorted") (rSortR X.K) := by
  rintro pins s σ H vs us Q I r ⟨d, B, hd, h⟩
  exact cr_sortT hd pins s σ H vs us Q I r h
def c3SortR : List D → MH → Q3 → Prop := fun ds M Q => ∃ (l : Addr) (rs : List (List Int)) (d : Nat) (B : Int), ds = [.ref l] ∧ LstM M l (rs.map rowD) ∧ rs.length < 64 ∧ 1 ≤ d ∧ (∀ r ∈ rs, r.length = d ∧ ∀ x ∈ r, 0 ≤ x ∧ x < B) ∧
  ∀ (ms : List (List Int)) (q : Addr), ms.Perm rs → ms.Pairwise (fun a b => lexLeI a b = true) → M q = none → Q (.ref q) (updM M q (.lst (ms.map rowD)))
theorem cl_sortR : CallL K (rSortR K) c3SortR := by
  intro ds vs H M Q Q2 r a q g
  obtain ⟨l, rs, d, B, rfl, hl, h64, hd, hb, q⟩ := q
  obtain ⟨v, rfl, rr⟩ := one_inv r
  cases rr.ref_inv
  obtain ⟨xs, hs, hv⟩ := a.rd hl
  refine ⟨d, B, hd, l, xs, rfl, hs, ?_, fun x hx => ?_, fun ys p hp hc np => ?_⟩
  · rw [← hv.length, List.length_map]
    exact h64
  · obtain ⟨ns, hn, t⟩ := rvs_tup hv x hx
    exact ⟨ns, t, (hb ns hn).1, (hb ns hn).2⟩
  · obtain ⟨ms, pm, rm⟩ := rvs_perm rowD hp hv
    exact g _ _ _ _ (Tps.new np) (a.lstN np rm) Rv.ref (q ms p pm (rvs_lex rm (fun r hr => hb r (pm.mem_iff.mp hr)) hc) (a.fresh np))
theorem d_sortR (hm : X.mg "sorted" = none) (ha : DA X [e] u) (hg : Gl X "sorted" := by rfl) (he : starEach (e :: []) X.env = (false, eval e X.env) :: starEach [] X.env := by rfl) (hpl : (backTo pos (starEach [] X.env)).any (·.1) = false := by rfl) : DE X (.Call (.Name "sorted" p) [e] [] pos) (e3CB c3SortR u) :=
  d_cb cr_sortR cl_sortR hg hm boot_sorted' ha (by decide) (by decide) he hpl
end
/-! ### str(i), text.join(texts) -/
section
variable {X : Cx} {K : Fg} {e o : Expr} {u : A3} {p pos : Pos} {to te : E3}
def c3Str : List D → MH → Q3 → Prop
  | [.int i], M, Q => i.natAbs.log2 < 1920 ∧ Q (.str (toString i)) M
  | _, _, _ => False
theorem cl_str : CallL K (fun xs H Q => ∃ i, xs = [.int i] ∧ i.natAbs.log2 < 1920 ∧ Q (.str (toString i)) H) c3Str := by
  intro ds vs H M Q Q2 r a q g
  unfold c3Str at q
  split at q
  · obtain ⟨v, rfl, rr⟩ := one_inv r
    cases rr.int_inv
    exact ⟨_, rfl, q.1, g _ _ H M (Tps.refl H) a Rv.str q.2⟩
  · exact q.elim
theorem d_strc (hm : X.mg "str" = none) (ha : DA X [e] u) (hg : Gl X "str" := by rfl) (he : starEach (e :: []) X.env = (false, eval e X.env) :: starEach [] X.env := by rfl) (hpl : (backTo pos (starEach [] X.env)).any (·.1) = false := by rfl) : DE X (.Call (.Name "str" p) [e] [] pos) (e3CB c3Str u) :=
  d_cty call_str_int cl_str hg hm boot_str ha (by decide) (by decide) he hpl
theorem rvs_strs {H : Hp} : ∀ {ys : List Str} {vs : List V}, Rvs K H (ys.map D.str) vs → vs = ys.map V.str
  | [], vs, r => by cases r.nil_inv; rfl
  | y :: ys, vs, r => by
    obtain ⟨v, vs, rfl, r1, r2⟩ := Rvs.cons_inv r
    cases r1.str_inv
    rw [rvs_strs r2]
    rfl
def r3Join : D → D → MH → Q3 → Prop := fun d e M Q => ∃ (a : Str) (p : Addr) (ys : List Str), d = .str a ∧ e = .ref p ∧ LstM M p (ys.map D.str) ∧ (ys.map (·.length)).sum + ys.length * a.length ≤ 16777216 ∧ Q (.str (Txt.join a ys)) M
def e3Join (to te : E3) : E3 := fun W env M Q => to W env M fun d M1 => (∃ a, d = .str a) ∧ te W env M1 fun e M2 => r3Join d e M2 Q
theorem d_join {apos cpos : Pos} (ho : DE X o to) (he : DE X e te) (hs : starEach [e] X.env = [(false, eval e X.env)] := by rfl) (hbase : attributeBase o "join" X.env (eval o X.env) = eval o X.env := by rfl) (hline : (apos.endLine == cpos.line) = true := by rfl) :
    DE X (.Call (.Attribute o "join" apos) [e] [] cpos) (e3Join to te) := fun W2 tk => (pe_join (ho W2 tk) (he W2 tk) hs hbase hline).imp fun σ H Q2 ⟨env, M, W, Q, s, a, l, q, g⟩ => by
  refine ⟨env, M, W, _, s, a, l, q, fun od v H1 M1 t1 a1 r1 q1 => ?_⟩
  obtain ⟨⟨x, rfl⟩, q1⟩ := q1
  cases r1.str_inv
  refine ⟨⟨x, rfl⟩, env, M1, W, _, s.mono t1, a1, l.mono t1, q1, fun d2 w H2 M2 t2 a2 r2 q2 => ?_⟩
  obtain ⟨y, p, ys, e1, rfl, hl, hz, q2⟩ := q2
  cases e1
  cases r2.ref_inv
  obtain ⟨vs, hv, rv⟩ := a2.rd hl
  cases rvs_strs rv
  exact ⟨x, p, ys, rfl, rfl, .inl hv, hz, g _ _ H2 M2 (t1.trans t2) a2 Rv.str q2⟩
end
end L3

namespace L3
open PySem PySem.Spec PyProof.Rows L2
/-! ### tasks by their data: numbers of labels, and for each input the rows -/
structure Tk where
  ls : List Int
  ws : List (List (List Int))
  bs : List (List (List Int))
def rsD (rs : List (List Int)) : D := .tup (rs.map rowD)
def tkD (T : Tk) : D := taskD (T.ls.map D.int) (T.ws.map rsD) (T.bs.map rsD)
/-- a row of these labels -/
def RwOk (ls r : List Int) : Prop := r.length = ls.length ∧ ∀ (j : Nat) (x l : Int), r[j]? = some x → ls[j]? = some l → 0 ≤ x ∧ x < l
def ltL (a b : List Int) : Prop := lexLeI b a = false
structure RsOk (n : Nat) (ls : List Int) (rs : List (List Int)) : Prop where
  len : rs.length ≤ n
  ok : ∀ r ∈ rs, RwOk ls r
  asc : rs.Pairwise ltL
structure TkOk (n : Nat) (T : Tk) : Prop where
  c2 : 2 ≤ T.ls.length
  c4 : T.ls.length ≤ 4
  lb : ∀ x ∈ T.ls, 1 ≤ x ∧ x ≤ 60
  pr : prodD (T.ls.map D.int) ≤ 4000
  w1 : 1 ≤ T.ws.length
  w4 : T.ws.length ≤ 4
  b1 : 1 ≤ T.bs.length
  b4 : T.bs.length ≤ 4
  wr : ∀ rs ∈ T.ws, RsOk n T.ls rs
  br : ∀ rs ∈ T.bs, RsOk n T.ls rs
def Tk.flip (T : Tk) : Tk := ⟨T.ls, T.bs, T.ws⟩
theorem TkOk.flip {n : Nat} {T : Tk} (h : TkOk n T) : TkOk n T.flip := ⟨h.c2, h.c4, h.lb, h.pr, h.b1, h.b4, h.w1, h.w4, h.br, h.wr⟩
theorem intsOf_map (ls : List Int) : intsOf (.tup (ls.map D.int)) = ls := intsOf_row ls
theorem rw_fits {ls r : List Int} (h : RwOk ls r) : rowFits ls (rowD r) = true := by
  show (decide ((r.map D.int).length = ls.length) && ((r.map D.int).zip ls).all fun p => isNum p.1 0 (p.2 - 1)) = true
  rw [List.length_map, decide_eq_true h.1, Bool.true_and, List.all_eq_true]
  rintro ⟨x, l⟩ hp
  obtain ⟨j, hj⟩ := List.getElem?_of_mem hp
  rw [List.getElem?_zip_eq_some] at hj
  obtain ⟨h1, h2⟩ := hj
  rw [List.getElem?_map, Option.map_eq_some_iff] at h1
  obtain ⟨i, hi, rfl⟩ := h1
  have := h.2 j i l hi h2
  show (decide (0 ≤ i) && decide (i ≤ l - 1)) = true
  rw [decide_eq_true this.1, decide_eq_true (by omega)]
  rfl
theorem fits_rw {ls : List Int} {d : D} (h : rowFits ls d = true) : ∃ r, d = rowD r ∧ RwOk ls r := by
  obtain ⟨e, hl⟩ := fits_row h
  generalize intsOf d = r at e hl
  subst e
  refine ⟨r, rfl, hl, fun j x l hx hl' => ?_⟩
  have h' : (decide ((r.map D.int).length = ls.length) && ((r.map D.int).zip ls).all fun p => isNum p.1 0 (p.2 - 1)) = true := h
  rw [Bool.and_eq_true, List.all_eq_true] at h'
  have hm : (D.int x, l) ∈ (r.map D.int).zip ls := List.mem_of_getElem? (i := j) (List.getElem?_zip_eq_some.mpr ⟨by rw [List.getElem?_map, hx]; rfl, hl'⟩)
  have := h'.2 _ hm
  have this : (decide (0 ≤ x) && decide (x ≤ l - 1)) = true := this
  rw [Bool.and_eq_true, decide_eq_true_eq, decide_eq_true_eq] at this
  omega
theorem asc_ok {n : Nat} {ls : List Int} : ∀ {rs : List (List Int)} {a : Option (List Int)}, (∀ r ∈ rs, RwOk ls r) → rs.Pairwise ltL → (∀ x, a = some x → ∀ r ∈ rs, ltL x r) → ascR ls a (rs.map rowD) = true
  | [], _, _, _, _ => rfl
  | r :: rs, a, h, hp, ha => by
    have hp' := List.pairwise_cons.mp hp
    show (rowFits ls (rowD r) && (afterR a (intsOf (rowD r)) && ascR ls (some (intsOf (rowD r))) (rs.map rowD))) = true
    rw [rw_fits (h r List.mem_cons_self), intsOf_row, asc_ok (n := n) (fun x hx => h x (List.mem_cons_of_mem _ hx)) hp'.2 (fun x e y hy => by cases e; exact hp'.1 y hy), Bool.and_true, Bool.true_and]
    cases a with
    | none => rfl
    | some x =>
      show (!lexLeI r x) = true
      have := ha x rfl r List.mem_cons_self
      unfold ltL at this
      rw [this]
      rfl
theorem rs_asc {n : Nat} {ls : List Int} {rs : List (List Int)} (h : RsOk n ls rs) : rowsAsc ls (rsD rs) = true := asc_ok (n := n) h.ok h.asc fun _ e => nomatch e
theorem TkOk.ok {n : Nat} {T : Tk} (h : TkOk n T) : taskOk (tkD T) = true := by
  have side : ∀ zs : List (List (List Int)), 1 ≤ zs.length → zs.length ≤ 4 → (∀ rs ∈ zs, RsOk n T.ls rs) → sideOk (intsOf (.tup (T.ls.map D.int))) (.tup (zs.map rsD)) = true := fun zs h1 h4 hm => by
    show (decide (1 ≤ (zs.map rsD).length) && decide ((zs.map rsD).length ≤ 4) && (zs.map rsD).all (rowsAsc (intsOf (.tup (T.ls.map D.int))))) = true
    rw [List.length_map, decide_eq_true h1, decide_eq_true h4, Bool.true_and, Bool.true_and, List.all_eq_true, intsOf_map]
    intro y hy
    obtain ⟨rs, hrs, rfl⟩ := List.mem_map.mp hy
    exact rs_asc (hm rs hrs)
  have labs : labsOk (.tup (T.ls.map D.int)) = true := by
    show ((T.ls.map D.int).all (fun x => isNum x 1 60) && decide (prodD (T.ls.map D.int) ≤ 4000)) = true
    rw [decide_eq_true h.pr, Bool.and_true, List.all_eq_true]
    intro y hy
    obtain ⟨i, hi, rfl⟩ := List.mem_map.mp hy
    have := h.lb i hi
    show (decide (1 ≤ i) && decide (i ≤ 60)) = true
    rw [decide_eq_true this.1, decide_eq_true this.2]
    rfl
  have hl : (T.ls.map D.int).length = T.ls.length := List.length_map ..
  have c2 := h.c2
  have c4 := h.c4
  show (decide (("task" : Str) = "task") && (isNum (.int ((T.ls.map D.int).length : Int)) 2 4 && (decide (((T.ls.map D.int).length : Int) = ((T.ls.map D.int).length : Int)) && (labsOk (.tup (T.ls.map D.int)) && (sideOk (intsOf (.tup (T.ls.map D.int))) (.tup (T.ws.map rsD)) && sideOk (intsOf (.tup (T.ls.map D.int))) (.tup (T.bs.map rsD))))))) = true
  rw [labs, side T.ws h.w1 h.w4 h.wr, side T.bs h.b1 h.b4 h.br, decide_eq_true rfl, decide_eq_true rfl, hl]
  show (decide (2 ≤ (T.ls.length : Int)) && decide ((T.ls.length : Int) ≤ 4) && true) = true
  rw [decide_eq_true (by omega), decide_eq_true (by omega)]
  rfl
/-! the order of rows -/
theorem lex_anti : ∀ {a b : List Int}, a.length = b.length → lexLeI a b = true → lexLeI b a = true → a = b
  | [], [], _, _, _ => rfl
  | [], b :: bs, e, _, _ => by simp at e
  | a :: as, [], e, _, _ => by simp at e
  | x :: a, y :: b, e, h1, h2 => by
    unfold lexLeI at h1 h2
    by_cases hxy : x = y
    · subst hxy
      rw [if_pos rfl] at h1 h2
      rw [lex_anti (by simpa using e) h1 h2]
    · rw [if_neg hxy] at h1
      rw [if_neg fun z => hxy z.symm] at h2
      have h1 := of_decide_eq_true h1
      have h2 := of_decide_eq_true h2
      omega
theorem asc_strict {n : Nat} {rs : List (List Int)} (hn : rs.Nodup) (hl : ∀ r ∈ rs, r.length = n) (h : rs.Pairwise fun a b => lexLeI a b = true) : rs.Pairwise ltL := by
  induction rs with
  | nil => exact List.Pairwise.nil
  | cons a rs ih =>
    have hn' := List.nodup_cons.mp hn
    have h' := List.pairwise_cons.mp h
    refine List.pairwise_cons.mpr ⟨fun b hb => ?_, ih hn'.2 (fun r hr => hl r (List.mem_cons_of_mem _ hr)) h'.2⟩
    unfold ltL
    cases e : lexLeI b a with
    | false => rfl
    | true =>
      have := lex_anti ((hl a List.mem_cons_self).trans (hl b (List.mem_cons_of_mem _ hb)).symm) (h'.1 b hb) e
      subst this
      exact absurd hb hn'.1
/-! parts of a task may be shown, are known -/
section
variable {M : MH} {n : Nat} {T : Tk}
theorem rw_small {ls r : List Int} (hlb : ∀ x ∈ ls, 1 ≤ x ∧ x ≤ 60) (h : RwOk ls r) : ∀ x ∈ r, 0 ≤ x ∧ x < 60 := fun x hx => by
  obtain ⟨j, hj⟩ := List.getElem?_of_mem hx
  have hlt : j < ls.length := by
    have := (List.getElem?_eq_some_iff.mp hj).1
    rw [h.1] at this
    exact this
  have := h.2 j x ls[j] hj (List.getElem?_eq_getElem hlt)
  have := hlb _ (List.getElem_mem hlt)
  omega
theorem rw_sz {ls r : List Int} (hlb : ∀ x ∈ ls, 1 ≤ x ∧ x ≤ 60) (h : RwOk ls r) (h4 : ls.length ≤ 4) {k w : Nat} (hk : 1 ≤ k) (hw : 4 ≤ w) : Sz k w M (rowD r) :=
  sz_row (n := 4) (fun x hx => by have := rw_small hlb h x hx; omega) (by rw [h.1]; exact h4) hw hk
theorem rs_sz {ls : List Int} {rs : List (List Int)} (hlb : ∀ x ∈ ls, 1 ≤ x ∧ x ≤ 60) (h4 : ls.length ≤ 4) (h : RsOk n ls rs) {k w : Nat} (hk : 2 ≤ k) (hw : n * 5 ≤ w) : Sz k w M (rsD rs) :=
  sz_tup (k := 1) (w := 4) (n := n) (fun y hy => by
    obtain ⟨r, hr, rfl⟩ := List.mem_map.mp hy
    exact rw_sz hlb (h.ok r hr) h4 (Nat.le_refl _) (Nat.le_refl _)) (by rw [List.length_map]; exact h.len) hw hk
theorem TkOk.parts (h : TkOk n T) : ∀ x ∈ [D.str "task", .int ((T.ls.map D.int).length : Int), .tup (T.ls.map D.int), .tup (T.ws.map rsD), .tup (T.bs.map rsD)], Sz 4 (4 * (n * 5 + 1) + 10) M x := fun x hx => by
  have c4 := h.c4
  have side : ∀ zs : List (List (List Int)), zs.length ≤ 4 → (∀ rs ∈ zs, RsOk n T.ls rs) → Sz 4 (4 * (n * 5 + 1) + 10) M (.tup (zs.map rsD)) := fun zs h4 hm =>
    sz_tup (k := 2) (w := n * 5) (n := 4) (fun y hy => by
      obtain ⟨rs, hrs, rfl⟩ := List.mem_map.mp hy
      exact rs_sz h.lb h.c4 (hm rs hrs) (Nat.le_refl _) (Nat.le_refl _)) (by rw [List.length_map]; exact h4) (by omega) (by decide)
  simp only [List.mem_cons, List.not_mem_nil, or_false] at hx
  rcases hx with rfl | rfl | rfl | rfl | rfl
  · exact sz_str (by decide) (by show 4 ≤ _; omega)
  · exact sz_int (by rw [List.length_map]; omega)
  · exact sz_row (l := T.ls) (n := 4) (fun x hx => by have := h.lb x hx; omega) c4 (by omega) (by decide)
  · exact side T.ws h.w4 h.wr
  · exact side T.bs h.b4 h.br
theorem TkOk.sz (h : TkOk n T) {w : Nat} (hw : 5 * (4 * (n * 5 + 1) + 11) ≤ w) : Sz 5 w M (tkD T) := sz_tup (n := 5) h.parts (Nat.le_refl _) hw (by decide)
theorem TkOk.vk (h : TkOk n T) : Vk M (tkD T) := (h.sz (Nat.le_refl _)).vk
theorem tk_wt : WT (tkD T) := fun w zs e _ => by
  unfold tkD taskD at e
  injection e with e
  injection e with e _
  exact ⟨_, e.symm⟩
end
/-! ### repr of a list whose parts may be shown -/
theorem szs_p {M : MH} {k w : Nat} : ∀ {ds : List D}, (∀ x ∈ ds, Sz k w M x) → ∃ ps, (∀ M', Sub M M' → PyZ M' false ds ps) ∧ PyData.showableAll ps = true ∧ PyData.leavesShortAll 13 ps = true ∧ PyData.depthAll ps ≤ k ∧ PyData.bulkAll ps ≤ ds.length * (w + 1)
  | [], _ => ⟨[], fun _ _ => .nil, by simp [PyData.showableAll], by simp [PyData.leavesShortAll], by simp [PyData.depthAll], by simp [PyData.bulkAll]⟩
  | d :: ds, h => by
    obtain ⟨p, h1⟩ := h d List.mem_cons_self
    obtain ⟨ps, k1, k2, k3, k4, k5⟩ := szs_p (ds := ds) fun x hx => h x (List.mem_cons_of_mem _ hx)
    have d1 := h1.dp
    have b1 := h1.bk
    refine ⟨p :: ps, fun M' s => .cons (h1.mono s (Nat.le_refl _) (Nat.le_refl _)).py (k1 M' s), by simp [PyData.showableAll, h1.sh, k2], by simp [PyData.leavesShortAll, h1.lv, k3], by simp only [PyData.depthAll]; omega, ?_⟩
    simp only [PyData.bulkAll, List.length_cons]
    rw [Nat.add_mul, Nat.one_mul]
    omega
/-- the text of repr([..]), the same each time -/
theorem repr_same {M : MH} {k w : Nat} {ds : List D} (h : ∀ x ∈ ds, Sz k w M x) (hk : k ≤ 99) (hw : ds.length * (w + 1) ≤ 2 ^ 20) : ∃ t : Str, ∀ (M' : MH) (a : Addr) (Q : Q3), Sub M M' → LstM M' a ds → Q (.str t) M' → c3ReprZ [.ref a] M' Q := by
  obtain ⟨ps, h1, h2, h3, h4, h5⟩ := szs_p h
  refine ⟨(PyData.list ps).shown, fun M' a Q s ha q => ?_⟩
  refine reprZ (.lst ha (h1 M' s)) (SzP.shz (k := 100) (w := 2 ^ 20) (d := .ref a) (M := M') ⟨.lst ha (h1 M' s), ?_, ?_, ?_, ?_⟩ (Nat.le_refl _) (Nat.le_refl _)) q
  · simpa only [PyData.showable] using h2
  · simpa only [PyData.leavesShort] using h3
  · simp only [PyData.depth]; omega
  · simp only [PyData.bulk]; omega
/-- the text of repr(x), the same each time -/
theorem repr_same1 {M : MH} {k w : Nat} {d : D} (h : Sz k w M d) (hk : k ≤ 99) (hw : w ≤ 2 ^ 20) : ∃ t : Str, ∀ (M' : MH) (Q : Q3), Sub M M' → Q (.str t) M' → c3ReprZ [d] M' Q := by
  obtain ⟨p, h⟩ := h
  exact ⟨p.shown, fun M' Q s q => reprZ (h.mono s (Nat.le_refl _) (Nat.le_refl _)).py ((h.mono s (Nat.le_refl _) (Nat.le_refl _)).shz (by omega) hw) q⟩
/-! ### x == text, x in (texts), of any x that may be compared -/
def SdV (M : MH) (x : D) : Prop := (∃ s, x = .str s ∧ PyData.strOk s = true) ∨ (Pc 5 M x ∧ ∀ s, x ≠ .str s)
theorem SdV.sub {M M' : MH} {x : D} (h : SdV M x) (s : Sub M M') : SdV M' x := h.imp id fun h => ⟨h.1.mono s (Nat.le_refl _), h.2⟩
theorem pc_str {M : MH} {k : Nat} {x : Str} (h : PyData.strOk x = true) : Pc k M (.str x) := ⟨.str x, .str x, by simpa only [PyData.canLay0] using h, by simp [PyData.depth]⟩
theorem eqv_notstr {M : MH} {x : D} {p : PyData} (hp : Py M x p) (hs : ∀ s, x ≠ .str s) (w : Str) : PyData.eqv p (.str w) = false := by
  cases hp with
  | str s => exact absurd rfl (hs s)
  | _ => rfl
theorem eq_sd {M : MH} {Q : Q3} {x : D} {w : Str} (h : SdV M x) (hw : PyData.strOk w = true) (q1 : ∀ s, x = .str s → Q (.bl (decide (s = w))) M) (q2 : (∀ s, x ≠ .str s) → Q (.bl false) M) : r3Eq x (.str w) M Q := by
  rcases h with ⟨s, rfl, _⟩ | ⟨⟨p, h1, h2, h3⟩, hs⟩
  · exact eq_str (q1 s rfl)
  · unfold r3Eq
    have key : ∃ p q, Py M x p ∧ Py M (.str w) q ∧ SeqAt.shaped p = true ∧ SeqAt.shaped q = true ∧ Q (.bl (PyData.eqv p q)) M := ⟨p, .str w, h1, .str w, shaped_of h2 (by omega), shaped_of (by simpa only [PyData.canLay0] using hw) (by simp [PyData.depth]), by
      rw [eqv_notstr h1 hs]
      exact q2 hs⟩
    cases x with
    | str s => exact absurd rfl (hs s)
    | _ => exact key
theorem in_strs {neg : Bool} {M : MH} {Q : Q3} {s : Str} {e : D} {ws : List Str} (h : Seq3 M (ws.map D.str) e) (hs : PyData.strOk s = true) (hw : ∀ w ∈ ws, PyData.strOk w = true) (q : Q (.bl (neg ^^ decide (s ∈ ws))) M) : r3In neg (.str s) e M Q := by
  unfold r3In
  have hp : Pys M (ws.map D.str) (ws.map PyData.str) := by
    clear h hw q
    induction ws with
    | nil => exact .nil
    | cons w ws ih => exact .cons (.str w) ih
  have hc : PyData.canLayAll0 (ws.map PyData.str) = true := by
    clear h q hp
    induction ws with
    | nil => simp [PyData.canLayAll0]
    | cons w ws ih => simp [PyData.canLayAll0, PyData.canLay0, hw w List.mem_cons_self, ih fun x hx => hw x (List.mem_cons_of_mem _ hx)]
  have hd : PyData.depthAll (ws.map PyData.str) = 0 := by
    clear h hw q hp hc
    induction ws with
    | nil => simp [PyData.depthAll]
    | cons w ws ih => simp [PyData.depthAll, PyData.depth, ih]
  refine ⟨.str s, _, _, .str s, h, hp, shaped_of (by simpa only [PyData.canLay0] using hs) (by simp [PyData.depth]), shaped_of (by simpa only [PyData.canLay0] using hc) (by simp only [PyData.depth, hd]; omega), shaped_of (by simpa only [PyData.canLay0] using hc) (by simp only [PyData.depth, hd]; omega), ?_⟩
  have e : ((ws.map PyData.str).any fun z => PyData.eqv z (.str s)) = decide (s ∈ ws) := by
    rw [Bool.eq_iff_iff, List.any_eq_true, decide_eq_true_eq]
    constructor
    · rintro ⟨z, hz, he⟩
      obtain ⟨w, hw, rfl⟩ := List.mem_map.mp hz
      have : w = s := by simpa [PyData.eqv] using he
      exact this ▸ hw
    · intro hm
      exact ⟨.str s, List.mem_map.mpr ⟨s, hm, rfl⟩, by simp [PyData.eqv]⟩
  rw [e]
  exact q
theorem in_bls {neg : Bool} {M : MH} {Q : Q3} {b : Bool} {e : D} {ws : List Bool} (h : Seq3 M (ws.map D.bl) e) (q : Q (.bl (neg ^^ decide (b ∈ ws))) M) : r3In neg (.bl b) e M Q := by
  unfold r3In
  have hp : Pys M (ws.map D.bl) (ws.map PyData.bool) := by
    clear h q
    induction ws with
    | nil => exact .nil
    | cons w ws ih => exact .cons (.bl w) ih
  have hc : PyData.canLayAll0 (ws.map PyData.bool) = true := by
    clear h q hp
    induction ws with
    | nil => simp [PyData.canLayAll0]
    | cons w ws ih => simp [PyData.canLayAll0, PyData.canLay0, ih]
  have hd : PyData.depthAll (ws.map PyData.bool) = 0 := by
    clear h q hp hc
    induction ws with
    | nil => simp [PyData.depthAll]
    | cons w ws ih => simp [PyData.depthAll, PyData.depth, ih]
  refine ⟨.bool b, _, _, .bl b, h, hp, shaped_of (by simp [PyData.canLay0]) (by simp [PyData.depth]), shaped_of (by simpa only [PyData.canLay0] using hc) (by simp only [PyData.depth, hd]; omega), shaped_of (by simpa only [PyData.canLay0] using hc) (by simp only [PyData.depth, hd]; omega), ?_⟩
  have e : ((ws.map PyData.bool).any fun z => PyData.eqv z (.bool b)) = decide (b ∈ ws) := by
    rw [Bool.eq_iff_iff, List.any_eq_true, decide_eq_true_eq]
    constructor
    · rintro ⟨z, hz, he⟩
      obtain ⟨w, hw, rfl⟩ := List.mem_map.mp hz
      have : w = b := by cases w <;> cases b <;> first | rfl | simp [PyData.eqv] at he
      exact this ▸ hw
    · intro hm
      exact ⟨.bool b, List.mem_map.mpr ⟨b, hm, rfl⟩, by simp [PyData.eqv]⟩
  rw [e]
  exact q
/-- a comprehension whose items are drawn, place by place -/
theorem lcHandI {ds : List D} {i : Nat} {te : E3} {env : En} {p h d : Addr} {M M1 : MH} {n : Int} {Q : MH → Prop} (P : Nat → D → Prop) (sub0 : Sub (setH M h d n) M1) (n0 : 0 ≤ n) (np : M1 p = none)
    (he : ∀ (k : Nat) (x : D) (M' : MH) (n' : Int) (R : Q3), ds[k]? = some x → 0 ≤ n' → Sub (setH M h d n') M' → (∀ y n2, P k y → 0 ≤ n2 → R y (setH M' h d n2)) → te W0 (env.set i (some x)) M' R) (hsz : ds.length < sizeLine)
    (hq : ∀ (acc : List D) (M' : MH) (n' : Int), acc.length = ds.length → (∀ j y, acc[j]? = some y → P j y) → 0 ≤ n' → Sub (setH M h d n') M' → M' p = some (.lst acc) → Q M') : LoopC ds True3 i t3Yes te env p M1 Q := by
  have ph : p ≠ h := free_h sub0 np
  have mp : M p = none := free_old sub0 np
  refine ⟨fun k acc M' => acc.length = k ∧ (∀ j y, acc[j]? = some y → P j y) ∧ k ≤ ds.length ∧ ∃ n', 0 ≤ n' ∧ Sub (setH M h d n') M', ⟨rfl, by simp, Nat.zero_le _, n, n0, sub0.new (sub0.free np)⟩, ?_, ?_⟩
  · rintro k x acc M' hx ⟨rfl, hp, hk, n', n0', sub⟩ hM
    have hlt : acc.length < ds.length := (List.getElem?_eq_some_iff.mp hx).1
    refine ⟨trivial, Br.tt (he acc.length x M' n' _ hx n0' sub fun y n2 py n20 => ⟨acc, (setH_ne ph).trans hM, Nat.lt_trans hlt hsz, by simp, fun j z hz => ?_, hlt, n2, n20, Sub.new (subH sub) (by rw [setH_ne ph]; exact mp)⟩)⟩
    by_cases hj : j < acc.length
    · rw [List.getElem?_append_left hj] at hz
      exact hp j z hz
    · rw [List.getElem?_append_right (by omega)] at hz
      have hj0 : j = acc.length := by
        have := (List.getElem?_eq_some_iff.mp hz).1
        simp at this
        omega
      subst hj0
      simp at hz
      subst hz
      exact py
  · rintro acc M' ⟨hl, hp, _, n', n0', sub⟩ hM
    exact ⟨trivial, hq acc M' n' hl hp n0' sub hM⟩
/-- what is drawn label by label is a row -/
theorem drawn_row {ls : List Int} {acc : List D} (hl : acc.length = (ls.map D.int).length) (h : ∀ (j : Nat) (y : D), acc[j]? = some y → ∃ v l : Int, y = .int v ∧ ls[j]? = some l ∧ 0 ≤ v ∧ v < l) : ∃ r, acc = r.map D.int ∧ RwOk ls r := by
  have e : ∃ r : List Int, acc = r.map D.int := by
    clear hl
    suffices ∀ acc : List D, (∀ y ∈ acc, ∃ v : Int, y = .int v) → ∃ r : List Int, acc = r.map D.int by
      refine this acc fun y hy => ?_
      obtain ⟨j, hj⟩ := List.getElem?_of_mem hy
      obtain ⟨v, l, e, _⟩ := h j y hj
      exact ⟨v, e⟩
    intro acc
    induction acc with
    | nil => exact fun _ => ⟨[], rfl⟩
    | cons y acc ih =>
      intro h
      obtain ⟨v, rfl⟩ := h y List.mem_cons_self
      obtain ⟨r, rfl⟩ := ih fun z hz => h z (List.mem_cons_of_mem _ hz)
      exact ⟨v :: r, rfl⟩
  obtain ⟨r, rfl⟩ := e
  refine ⟨r, rfl, by simpa using hl, fun j x l hx hl' => ?_⟩
  obtain ⟨v, l2, e, h1, h2⟩ := h j (.int x) (by rw [List.getElem?_map, hx]; rfl)
  cases e
  rw [hl'] at h1
  cases h1
  exact h2
end L3

namespace L3
open PySem PySem.Spec PyProof.Rows L2
theorem rest_set {M : MH} {h d : Addr} {n : Int} : L3.rest (setH M h d n) h = L3.rest M h := by
  funext b
  unfold L3.rest
  split
  · rfl
  · rename_i e
    exact setH_ne e
/-! ### texts of small numbers, joined -/
theorem joinL_small {S : List Nat} (hS : ∀ c ∈ S, c < 128) (hl : S.length ≤ 1) : ∀ {ps : List (List Nat)}, (∀ p ∈ ps, (∀ c ∈ p, c < 128) ∧ p.length ≤ 2) → (∀ c ∈ TL.joinL S ps, c < 128) ∧ (TL.joinL S ps).length ≤ 3 * ps.length
  | [], _ => ⟨fun c hc => by simp [TL.joinL] at hc, by simp [TL.joinL]⟩
  | [p], h => by
    have := h p List.mem_cons_self
    exact ⟨this.1, by show p.length ≤ 3 * 1; omega⟩
  | p :: q :: r, h => by
    have hp := h p List.mem_cons_self
    obtain ⟨h1, h2⟩ := joinL_small hS hl (ps := q :: r) fun x hx => h x (List.mem_cons_of_mem _ hx)
    refine ⟨fun c hc => ?_, ?_⟩
    · have hc : c ∈ p ++ (S ++ TL.joinL S (q :: r)) := hc
      rcases List.mem_append.mp hc with hc | hc
      · exact hp.1 c hc
      · rcases List.mem_append.mp hc with hc | hc
        · exact hS c hc
        · exact h1 c hc
    · show (p ++ (S ++ TL.joinL S (q :: r))).length ≤ 3 * (r.length + 1 + 1)
      rw [List.length_append, List.length_append]
      simp only [List.length_cons] at h2
      omega
theorem digits60 : ((List.range 60).all fun i => ((toString ((i : Nat) : Int) : Str)).cps.toList.all (fun c => decide (c < 128)) && decide (((toString ((i : Nat) : Int) : Str)).cps.toList.length ≤ 2)) = true := by decide +kernel
theorem digits_ok {i : Int} (h0 : 0 ≤ i) (h : i < 60) : (∀ c ∈ ((toString i : Str)).cps.toList, c < 128) ∧ ((toString i : Str)).cps.toList.length ≤ 2 := by
  obtain ⟨n, rfl⟩ := Int.eq_ofNat_of_zero_le h0
  have := List.all_eq_true.mp digits60 n (List.mem_range.mpr (by omega))
  rw [Bool.and_eq_true, decide_eq_true_eq, List.all_eq_true] at this
  exact ⟨fun c hc => of_decide_eq_true (this.1 c hc), this.2⟩
theorem join_small {r : List Int} {sep : Str} (hs : (∀ c ∈ sep.cps.toList, c < 128) ∧ sep.cps.toList.length ≤ 1) (h : ∀ x ∈ r, 0 ≤ x ∧ x < 60) : (∀ c ∈ (Txt.join sep (r.map fun i => (toString i : Str))).cps.toList, c < 128) ∧ (Txt.join sep (r.map fun i => (toString i : Str))).cps.toList.length ≤ 3 * r.length := by
  have e : (Txt.join sep (r.map fun i => (toString i : Str))).cps.toList = TL.joinL (TL.tl sep) ((r.map fun i => (toString i : Str)).map TL.tl) := by
    have := TL.tl_join sep (r.map fun i => (toString i : Str))
    rw [← TL.join_eq] at this
    exact this
  rw [e]
  have := joinL_small (S := TL.tl sep) hs.1 hs.2 (ps := (r.map fun i => (toString i : Str)).map TL.tl) fun p hp => by
    obtain ⟨y, hy, rfl⟩ := List.mem_map.mp hp
    obtain ⟨i, hi, rfl⟩ := List.mem_map.mp hy
    exact digits_ok (h i hi).1 (h i hi).2
  rw [List.length_map, List.length_map] at this
  exact this
end L3

namespace L3
open PySem PySem.Spec PyProof.Rows L2
/-! ### dicts whose keys are tuples (of ints and None, of any depth to 8) -/
mutual
theorem hash_N {w : World} : ∀ d : D, kOk d = true → (nk d).hash w = hashN (nk d)
  | .tup ds, h => by
    simp only [nk, NestedKey.hash, hashN]
    rw [hashes_N ds (by simpa only [kOk] using h)]
  | .int _, _ => by simp only [nk, NestedKey.hash, hashN]
  | .bl _, _ => by simp only [nk, NestedKey.hash, hashN]
  | .non, _ => by simp only [nk, NestedKey.hash, hashN]
  | .str _, h => by simp only [kOk] at h; cases h
  | .ref _, h => by simp only [kOk] at h; cases h
  | .ty _, h => by simp only [kOk] at h; cases h
theorem hashes_N {w : World} : ∀ ds : List D, kOks ds = true → NestedKey.hashes w (nks ds) = hashNs (nks ds)
  | [], _ => by simp only [nks, NestedKey.hashes, hashNs]
  | d :: ds, h => by
    simp only [kOks, Bool.and_eq_true] at h
    simp only [nks, NestedKey.hashes, hashNs]
    rw [hash_N d h.1, hashes_N ds h.2]
end
theorem keyD_ok {d : D} (h : keyD d = true) : kOk d = true ∧ (nk d).depth ≤ 8 := by
  cases d with
  | tup ds =>
    have h' : (kOk (.tup ds) && decide ((nk (.tup ds)).depth ≤ 8)) = true := h
    rw [Bool.and_eq_true, decide_eq_true_eq] at h'
    exact h'
  | _ => cases h
def valT (kvs : List (D × D)) (k : D) : Option D := (kvs.find? fun p => decide (nk p.1 = nk k)).map (·.2)
def storT (kvs : List (D × D)) (k v : D) : List (D × D) := if (valT kvs k).isSome = true then kvs.map (fun p => if nk p.1 = nk k then (p.1, v) else p) else kvs ++ [(k, v)]
section
variable {X : Cx} {pins : List (Addr × Obj)} {σ : L2.St} {H : Hp} {s : Shared}
mutual
theorem nest_is (I : Inv X pins σ H s) : ∀ (d : D) (v : V) (u : Value), kOk d = true → Rv X.K H d v → RelV v u → NestedIs s.heap (nk d) u
  | .tup ds, v, u, h, r, ru => by
    obtain ⟨a, vs, rfl, hs, hv⟩ := r.tup_inv
    obtain rfl : u = Value.ref a := ru
    obtain ⟨its, rv, ⟨o, ho, hc, n, hd⟩, _⟩ := I.tuple hs
    have h2 := nest_all I ds vs its (by simpa only [kOk] using h) hv rv
    simp only [nk]
    exact .tup ho hc hd (by simpa using h2)
  | .int i, v, u, _, r, ru => by
    cases r.int_inv
    obtain ⟨t, rfl⟩ := (show ∃ t, u = Value.int i t from ru)
    simp only [nk]
    exact .int i t
  | .bl b, v, u, _, r, ru => by
    cases r.bl_inv
    obtain rfl : u = Value.bool b := ru
    simp only [nk]
    exact .bool rfl
  | .non, v, u, _, r, ru => by
    cases r.non_inv
    obtain rfl : u = Value.none := ru
    simp only [nk]
    exact .none
  | .str _, _, _, h, _, _ => by simp only [kOk] at h; cases h
  | .ref _, _, _, h, _, _ => by simp only [kOk] at h; cases h
  | .ty _, _, _, h, _, _ => by simp only [kOk] at h; cases h
theorem nest_all (I : Inv X pins σ H s) : ∀ (ds : List D) (vs : List V) (us : List Value), kOks ds = true → Rvs X.K H ds vs → Vals vs us → NestedAll s.heap (nks ds) us
  | [], vs, us, _, r, ru => by
    cases r.nil_inv
    cases ru
    simp only [nks]
    exact .nil
  | d :: ds, vs, us, h, r, ru => by
    simp only [kOks, Bool.and_eq_true] at h
    obtain ⟨v, vs', rfl, r1, r2⟩ := r.cons_inv
    cases ru with
    | cons q1 q2 =>
      simp only [nks]
      exact .cons (nest_is I d v _ h.1 r1 q1) (nest_all I ds vs' _ h.2 r2 q2)
end
theorem key_isN (I : Inv X pins σ H s) {d : D} {b : Addr} (h : keyD d = true) (r : Rv X.K H d (.ref b)) : (nestedKind X.prog X.w).is s.heap (nk d) b :=
  ⟨nest_is I d _ _ (keyD_ok h).1 r (show RelV (.ref b) (.ref b) from rfl), (keyD_ok h).2⟩
theorem paired_mem {α β : Type} {F : α → β → Prop} {l : List α} {m : List β} (h : Paired F l m) : ∀ x ∈ m, ∃ p ∈ l, F p x := by
  induction h with
  | nil => exact fun x hx => by simp at hx
  | cons r t ih =>
    intro x hx
    rcases List.mem_cons.mp hx with rfl | hx
    · exact ⟨_, List.mem_cons_self, r⟩
    · obtain ⟨p, h1, h2⟩ := ih x hx
      exact ⟨p, List.mem_cons_of_mem _ h1, h2⟩
theorem ent_N {K : Fg} {P : Program} {w : World} {H : Hp} {kvs : List (D × D)} {xs : List (NestedKey × Addr × Value)} (h : Paired (EntR K H) kvs xs) : xs.map entN = xs.map (entryOfKey (nestedKind P w)) := by
  refine List.map_congr_left fun x hx => ?_
  obtain ⟨p, _, a1, a2, _⟩ := paired_mem h x hx
  unfold entN entryOfKey
  rw [a1]
  show (⟨hashN (nk p.1), _, _⟩ : DictEntry) = ⟨(nk p.1).hash w, _, _⟩
  rw [hash_N p.1 (keyD_ok a2).1]
theorem dict_N (I : Inv X pins σ H s) {a : Addr} {kvs : List (D × D)} {xs : List (NestedKey × Addr × Value)} (e : H a = some (.ext (RawN a xs))) (h : Paired (EntR X.K H) kvs xs) : (a == sysModules) = false ∧ s.heap.DictOfH (nestedKind X.prog X.w) a xs := by
  have ok : ObjOk X.prog X.w H s.heap a (.ext (RawN a xs)) := I.hok a _ e
  obtain ⟨⟨hm, o, es, ep, h1, h2, h3, h4, h5⟩, _⟩ := ok
  refine ⟨hm, o, es, ep, h1, h2, h3, h4.trans (ent_N h), fun x hx => ?_, h5⟩
  obtain ⟨p, _, a1, a2, a3, _⟩ := paired_mem h x hx
  rw [a1]
  exact key_isN I a2 a3
theorem raw_ok {P : Program} {w : World} {K : Fg} {H H' : Hp} {h' : Heap} {a : Addr} {kvs : List (D × D)} {xs : List (NestedKey × Addr × Value)} (hm : (a == sysModules) = false) (d : h'.DictOfH (nestedKind P w) a xs) (hp : Paired (EntR K H) kvs xs) : ObjOk P w H' h' a (.ext (RawN a xs)) := by
  obtain ⟨o, es, ep, h1, h2, h3, h4, _, h5⟩ := d
  refine ⟨⟨hm, o, es, ep, h1, h2, h3, h4.trans (ent_N hp).symm, h5⟩, ⟨o, h1⟩, ?_⟩
  rintro g1 g2 ⟨k0, o', es', ep', k1, k2, k3, k4, k5⟩ hk
  exact ⟨k0, o', es', ep', hk o' k1, k2, k3, k4, k5⟩
theorem raw_new {K : Fg} {P : Program} {w : World} {H : Hp} (h : Heap) (hb : sysModules < h.objs.size) : ObjOk P w H (h.push { cls := .type "dict", data := .dict #[] }) h.objs.size (.ext (RawN h.objs.size [])) :=
  raw_ok (K := K) (kvs := []) (H := H) (beq_eq_false_iff_ne.mpr (Ne.symm (Nat.ne_of_lt hb))) (Heap.DictOfH.new h) .nil
end
section
variable {K : Fg} {H : Hp}
theorem find_N {kvs : List (D × D)} {xs : List (NestedKey × Addr × Value)} (h : Paired (EntR K H) kvs xs) (d : D) : (valT kvs d = none ∧ atKey xs (nk d) = none) ∨ ∃ e v b u, valT kvs d = some e ∧ atKey xs (nk d) = some (b, u) ∧ Rv K H e v ∧ RelV v u := by
  induction h with
  | nil => exact .inl ⟨rfl, rfl⟩
  | @cons p x ps xs r t ih =>
    obtain ⟨a1, a2, a3, v, a4, a5⟩ := r
    by_cases e : nk p.1 = nk d
    · refine .inr ⟨p.2, v, x.2.1, x.2.2, ?_, ?_, a4, a5⟩
      · simp [valT, List.find?_cons, e]
      · simp [atKey, List.find?_cons, a1, e]
    · have e1 : valT (p :: ps) d = valT ps d := by simp [valT, List.find?_cons, e]
      have e2 : atKey (x :: xs) (nk d) = atKey xs (nk d) := by simp [atKey, List.find?_cons, a1, e]
      rw [e1, e2]
      exact ih
theorem paired_map {α β : Type} {F G : α → β → Prop} {f : α → α} {g : β → β} {l : List α} {m : List β} (h : Paired F l m) (k : ∀ a b, F a b → G (f a) (g b)) : Paired G (l.map f) (m.map g) := by
  induction h with
  | nil => exact .nil
  | cons r _ ih => exact .cons (k _ _ r) ih
theorem put_N {kvs : List (D × D)} {xs : List (NestedKey × Addr × Value)} (h : Paired (EntR K H) kvs xs) {d e : D} {b : Addr} {v : V} {u : Value} (hk : keyD d = true) (rk : Rv K H d (.ref b)) (rv : Rv K H e v) (ru : RelV v u) : Paired (EntR K H) (storT kvs d e) (storedH xs (nk d) b u) := by
  have hs : (valT kvs d).isSome = (atKey xs (nk d)).isSome := by
    rcases find_N h d with ⟨z1, z2⟩ | ⟨_, _, _, _, z1, z2, _⟩ <;> rw [z1, z2] <;> rfl
  unfold storT storedH
  rw [hs]
  split
  · refine paired_map h fun p x ⟨a1, a2, a3, w, a4, a5⟩ => ?_
    unfold putAt
    rw [a1]
    by_cases e : nk p.1 = nk d
    · rw [if_pos e, if_pos e]
      exact ⟨rfl, a2, a3, v, rv, ru⟩
    · rw [if_neg e, if_neg e]
      exact ⟨a1, a2, a3, w, a4, a5⟩
  · exact Paired.snoc h ⟨rfl, hk, rk, v, rv, ru⟩
theorem paired_len {α β : Type} {F : α → β → Prop} {l : List α} {m : List β} (h : Paired F l m) : l.length = m.length := by
  induction h with
  | nil => rfl
  | cons _ _ ih => rw [List.length_cons, List.length_cons, ih]
theorem ent_mono {H' : Hp} (t : Tps H H') {kvs : List (D × D)} {xs : List (NestedKey × Addr × Value)} (h : Paired (EntR K H) kvs xs) : Paired (EntR K H') kvs xs := Paired.mapP h fun p x ⟨a1, a2, a3, v, a4, a5⟩ => ⟨a1, a2, a3.mono t, v, a4.mono t, a5⟩
theorem Abs.dT {M : MH} (h : Abs K M H) {p : Addr} {kvs : List (D × D)} (e : M p = some (.dT kvs)) : ∃ xs, H p = some (.ext (RawN p xs)) ∧ xs.length ≤ sizeLine ∧ Paired (EntR K H) kvs xs := h p _ e
theorem Abs.dTN {M : MH} (h : Abs K M H) {p : Addr} (e : H p = none) : Abs K (updM M p (.dT [])) (L2.upd H p (.ext (RawN p []))) := h.upd (Tps.new e) ⟨[], upd_same, Nat.zero_le _, .nil⟩
theorem Abs.dTU {M : MH} (h : Abs K M H) {p : Addr} {φ : Heap → Prop} {kvs : List (D × D)} {xs : List (NestedKey × Addr × Value)} (e : H p = some (.ext φ)) (hz : xs.length ≤ sizeLine) (r : Paired (EntR K H) kvs xs) : Abs K (updM M p (.dT kvs)) (L2.upd H p (.ext (RawN p xs))) :=
  h.upd (Tps.ext e) ⟨xs, upd_same, hz, ent_mono (Tps.ext e) r⟩
theorem key_ref {d : D} {u : V} (h : keyD d = true) (r : Rv K H d u) : ∃ b, u = .ref b := by
  cases d with
  | tup ds =>
    obtain ⟨a, _, e, _⟩ := r.tup_inv
    exact ⟨a, e⟩
  | _ => cases h
theorem stored_len {xs : List (NestedKey × Addr × Value)} {k : NestedKey} {b : Addr} {u : Value} (h : xs.length < sizeLine) : (storedH xs k b u).length ≤ sizeLine := by
  unfold storedH
  split
  · rw [List.length_map]; omega
  · rw [List.length_append, List.length_singleton]; omega
end
section
variable {X : Cx} {e a b c o i : Expr} {es : List Expr} {pos p : Pos} {t ta tb tc : E3} {u : A3}
/-! {} -/
def e3DNewT : E3 := fun _ _ M Q => ∀ p, M p = none → Q (.ref p) (updM M p (.dT []))
theorem pe_dnewN : PE X (.Dict [] [] pos) (fun _ H Q => ∀ p, H p = none → Q (.ref p) (upd H p (.ext (RawN p [])))) := ⟨fun pins s σ H Q I h =>
  wpAny_Dict_empty ⟨.ref s.heap.objs.size, _, I.laid (a := s.heap.objs.size) (o := .ext (RawN s.heap.objs.size [])) (t' := s.toks) (fun _ _ q => Heap.get?_push_of_some _ q) (Nat.le_refl _) (raw_new (K := X.K) s.heap I.big), rfl, h _ (I.hok.fresh (Nat.le_refl _))⟩⟩
theorem d_dnewT : DE X (.Dict [] [] pos) e3DNewT := fun W2 _ => pe_dnewN.imp fun σ H Q2 ⟨env, M, W, Q, s, a, l, q, g⟩ p hp =>
  g _ _ _ _ (Tps.new hp) (a.dTN hp) Rv.ref (q p (a.fresh hp))
/-! d[k] -/
def rIxN (K : Fg) : R2 := fun x y H Q => ∃ a kvs xs d e b, x = .ref a ∧ y = .ref b ∧ H a = some (.ext (RawN a xs)) ∧ Paired (EntR K H) kvs xs ∧ keyD d = true ∧ Rv K H d (.ref b) ∧ valT kvs d = some e ∧ ∀ v, Rv K H e v → Q v H
theorem pe_ixN {td ty : TE} (hu : X.A.units + 65 < cLine) (ho : PE X o td) (hi : PE X i ty) (hs : NoSl i) : PE X (.Subscript o i pos) (tOp (rIxN X.K) td ty) := by
  refine ⟨fun pins s σ H Q I h => ?_⟩
  refine subD_of PySem.F.slot_dict_getitem.lookup hs (thn (ho.run pins s σ H _ I h) fun u s1 ⟨x, H1, I1, rx, q1⟩ => thn (hi.run pins s1 σ H1 _ I1 q1) fun iv s2 ⟨y, H2, I2, ry, q2⟩ => ?_)
  obtain ⟨a, kvs, xs, d, e, b, rfl, rfl, hx, hp, hk, rk, hv, q2⟩ := q2
  obtain rfl : u = Value.ref a := rx
  obtain rfl : iv = Value.ref b := ry
  obtain ⟨hm, dd⟩ := dict_N I2 hx hp
  rcases find_N hp d with ⟨z, _⟩ | ⟨e', v, c, w, z1, z2, r1, r2⟩
  · rw [z] at hv; cases hv
  · rw [z1] at hv
    cases hv
    exact ⟨dd.typeIs, wpAny_getItem_heap (by show X.A.units + 1 + 8 < cLine; omega) (key_isN I2 hk rk) dd z2 ⟨v, H2, I2.tok _, r2, q2 v r1⟩⟩
def r3IxN : D → D → MH → Q3 → Prop := fun x y M Q => ∃ p kvs e, x = .ref p ∧ M p = some (.dT kvs) ∧ keyD y = true ∧ valT kvs y = some e ∧ Q e M
theorem opl_ixN {K : Fg} : OpL K (rIxN K) r3IxN := by
  intro d e v u H M Q Q2 rd re a q g
  obtain ⟨p, kvs, x, rfl, hm, hk, hv, q⟩ := q
  cases rd.ref_inv
  obtain ⟨b, rfl⟩ := key_ref hk re
  obtain ⟨xs, hx, _, hp⟩ := a.dT hm
  exact ⟨p, kvs, xs, e, x, b, rfl, rfl, hx, hp, hk, re, hv, fun v r => g _ _ H M (Tps.refl H) a r q⟩
theorem d_ixN {n : Nat} (hr : Room n X.A) (ha : DE X a ta) (hb : DE X b tb) (hs : NoSl b := by exact fun _ _ => rfl) : DE X (.Subscript a b pos) (e3Op r3IxN ta tb) := fun W2 tk =>
  (pe_ixN (Room.u65 hr) (ha W2 tk) (hb W2 tk) hs).imp fun σ H Q2 h => op_low opl_ixN h
/-! k in d -/
def rInN (K : Fg) (neg : Bool) : R2 := fun y x H Q => ∃ a kvs xs d b, x = .ref a ∧ y = .ref b ∧ H a = some (.ext (RawN a xs)) ∧ Paired (EntR K H) kvs xs ∧ keyD d = true ∧ Rv K H d (.ref b) ∧ Q (.bl (neg ^^ (valT kvs d).isSome)) H
def r3InN (neg : Bool) : D → D → MH → Q3 → Prop := fun y x M Q => ∃ p kvs, x = .ref p ∧ M p = some (.dT kvs) ∧ keyD y = true ∧ Q (.bl (neg ^^ (valT kvs y).isSome)) M
theorem opl_inN {K : Fg} {neg : Bool} : OpL K (rInN K neg) (r3InN neg) := by
  intro d e v u H M Q Q2 rd re a q g
  obtain ⟨p, kvs, rfl, hm, hk, q⟩ := q
  cases re.ref_inv
  obtain ⟨b, rfl⟩ := key_ref hk rd
  obtain ⟨xs, hx, _, hp⟩ := a.dT hm
  exact ⟨p, kvs, xs, d, b, rfl, rfl, hx, hp, hk, rd, g _ _ H M (Tps.refl H) a Rv.bl q⟩
theorem some_N {K : Fg} {H : Hp} {kvs : List (D × D)} {xs : List (NestedKey × Addr × Value)} (h : Paired (EntR K H) kvs xs) (d : D) : (valT kvs d).isSome = (atKey xs (nk d)).isSome := by
  rcases find_N h d with ⟨z1, z2⟩ | ⟨_, _, _, _, z1, z2, _⟩ <;> rw [z1, z2] <;> rfl
theorem ho_inN {n : Nat} (hr : Room n X.A) : OpR X (compareOp .In) (rInN X.K false) := by
  rintro pins s σ H x y v u Q I rx ry ⟨p, kvs, xs, d, b, rfl, rfl, hx, hp, hk, rk, q⟩
  have := Room.u65 hr
  cases rx
  cases ry
  obtain ⟨hm, dd⟩ := dict_N I hx hp
  refine wpAny_in_heap (by show X.A.units + 1 + 8 < cLine; omega) (key_isN I hk rk) hm dd ?_
  rw [some_N hp, Bool.false_xor] at q
  exact ⟨.bl _, H, I.tok _, rfl, q⟩
theorem ho_notinN {n : Nat} (hr : Room n X.A) : OpR X (compareOp .NotIn) (rInN X.K true) := by
  rintro pins s σ H x y v u Q I rx ry ⟨p, kvs, xs, d, b, rfl, rfl, hx, hp, hk, rk, q⟩
  have := Room.u65 hr
  cases rx
  cases ry
  obtain ⟨hm, dd⟩ := dict_N I hx hp
  refine wpAny_notIn_heap (by show X.A.units + 1 + 8 < cLine; omega) (key_isN I hk rk) hm dd ?_
  rw [some_N hp, Bool.true_xor] at q
  exact ⟨.bl _, H, I.tok _, rfl, q⟩
/-! d[k] = v -/
def rSetN (K : Fg) : TSet := fun o i v H Q => ∃ a kvs xs d e b, o = .ref a ∧ i = .ref b ∧ H a = some (.ext (RawN a xs)) ∧ Paired (EntR K H) kvs xs ∧ xs.length < sizeLine ∧ keyD d = true ∧ Rv K H d (.ref b) ∧ Rv K H e v ∧
  ∀ ys, ys.length ≤ sizeLine → Paired (EntR K H) (storT kvs d e) ys → Q (upd H a (.ext (RawN a ys)))
theorem set_N (hu : X.A.units + 65 < cLine) : PSet X (rSetN X.K) := by
  rintro pins s σ H o i v ov iv u Q I ro ri rv ⟨a, kvs, xs, d, e, b, rfl, rfl, hx, hp, hz, hk, rk, re, q⟩
  cases (show ov = Value.ref a from ro)
  cases (show iv = Value.ref b from ri)
  obtain ⟨hm, dd⟩ := dict_N I hx hp
  refine wpAny_setItem_heap (hsz := Nat.le_of_lt hz) (by show X.A.units + 1 + 8 < cLine; omega) (key_isN I hk rk) dd fun h' dd' hs => ?_
  have hp' := put_N hp hk rk re rv
  have he : ∃ q, h'.get? a = some q := let ⟨q, _, _, hq, _⟩ := dd'; ⟨q, hq⟩
  exact ⟨_, d_write I (by rw [hx]; exact True.intro) hs he (raw_ok hm dd' hp'), q _ (stored_len hz) hp'⟩
def g3SubN (to ti : E3) : G3 := fun W d env M Q => to W env M fun od M1 => ti W env M1 fun i M2 => ∃ p kvs, od = .ref p ∧ M2 p = some (.dT kvs) ∧ keyD i = true ∧ kvs.length < sizeLine ∧ Q env (updM M2 p (.dT (storT kvs i d)))
theorem dg_subN {n : Nat} (hr : Room n X.A) (ho : DE X o ta) (hi : DE X i tb) (ha : ∀ v, assign (.Subscript o i pos) X.env v = (do
      let ov ← holding [v] (eval o X.env)
      let iv ← holding [v, ov] (eval i X.env)
      standAt pos
      holding [v, ov, iv] (setItem ov iv v)
      release [v, ov, iv] []) := by intro _; rfl) : DG X (.Subscript o i pos) (g3SubN ta tb) := fun W2 tk => (pg_sub (ho W2 tk) (hi W2 tk) (set_N (Room.u65 hr)) ha).imp fun v σ H Q2 ⟨d, env, M, W, Q, r, s, a, l, q, n⟩ => by
    refine ⟨env, M, W, _, s, a, l, q, fun od ov H1 M1 t1 a1 r1 q1 => ?_⟩
    refine ⟨env, M1, W, _, s.mono t1, a1, l.mono t1, q1, fun i iv H2 M2 t2 a2 r2 q2 => ?_⟩
    have t12 := t1.trans t2
    obtain ⟨p, kvs, rfl, hm, hk, hz, q2⟩ := q2
    cases (r1.mono t2).ref_inv
    obtain ⟨b, rfl⟩ := key_ref hk r2
    obtain ⟨xs, hx, hzx, hp⟩ := a2.dT hm
    refine ⟨p, kvs, xs, i, d, b, rfl, rfl, hx, hp, by rw [← paired_len hp]; exact hz, hk, r2, r.mono t12, fun ys hy hp' => ?_⟩
    exact n σ _ env _ (t12.trans (Tps.ext hx)) (s.mono (t12.trans (Tps.ext hx))) (a2.dTU hx hy hp') q2
end
end L3

namespace L3
open PySem PySem.Spec PyProof.Rows L2
/-! ### {k: v for k in ..}, keys tuples -/
abbrev Blk (X : Cx) (scope : Scope) (mk : Shared → Hp → Addr → List (Str × Addr) → List Addr → Prop) : Prop := ∀ (s : Shared) (H : Hp) (C : Addr) (cl : List (Str × Addr)) (fp : List Addr), mk s H C cl fp
/-- the turns of such a block, the dict at D as o tells, p one more pair -/
def tDcG (o : Addr → HO) (p : Addr → V → V → Hp → (Hp → Prop) → Prop) (wi : TI) (g : TG) (tt : TT) (tk tv : TE) (vs : List Nat) : TE := fun σ H Q =>
  wi σ H fun J Ha => ∀ D, Ha D = none → ∃ Z : Nat → Nat → Hp → Prop, (∃ m, Z 0 m (upd Ha D (o D))) ∧ ∀ i m Hb, Z i m Hb →
    (J.stop i Hb ∧ Q (.ref D) Hb) ∨ (J.go i Hb ∧ ∃ Y : Hp → Prop, (∀ Hc, Y Hc → ∃ m', m' < m ∧ Z (i + 1) m' Hc) ∧
      ∀ x Hc, J.yld i Hb x Hc → g x (L2.wipe σ vs) Hc fun σd Hd => L2.wipe σd vs = L2.wipe σ vs ∧ tt σd Hd fun b He => if b = true then tk σd He fun y Hf => tv σd Hf fun z Hg => p D y z Hg Y else Y He)
section
variable {X : Cx}
theorem pe_dcG {kx vx tg iter : Expr} {ifs : List Expr} {scope : Scope} {own : List (Str × Nat)} {pos : Pos} {wi : TI} {g : TG} {tt : TT} {tk tv : TE} {o : Addr → HO} {p : Addr → V → V → Hp → (Hp → Prop) → Prop}
    (calm : X.calm = true) (nd : X.N.Nodup)
    (onew : ∀ (H : Hp) (h : Heap), sysModules < h.objs.size → ObjOk X.prog X.w H (h.push { cls := .type "dict", data := .dict #[] }) h.objs.size (o h.objs.size))
    (oput : ∀ (s0 : Shared) (H0 : Hp) (ce : Env) (fp : List Addr) (pn : List (Addr × Obj)) (σ : L2.St) (H : Hp) (s : Shared) (D : Addr) (y z : V) (u r : Value) (Y : Hp → Prop) (Ex : Value → Shared → Prop), Inv (X.blk s0 H0 scope ce fp) pn σ H s → RelV y u → RelV z r → p D y z H Y →
      wpAny (model X.prog X.w) X.A (dictSet D u r) (fun _ s' => ∃ H', Inv (X.blk s0 H0 scope ce fp) pn σ H' s' ∧ Y H') Ex s)
    (di : PI X tg iter wi) (bok : BlkOk X.N X.env.scope scope own)
    (dg : Blk X scope fun s H C cl fp => PG (X.blk s H scope (compEnvC scope cl C X.env) fp) tg g) (dt : Blk X scope fun s H C cl fp => PTs (X.blk s H scope (compEnvC scope cl C X.env) fp) ifs tt)
    (dk : Blk X scope fun s H C cl fp => PE (X.blk s H scope (compEnvC scope cl C X.env) fp) kx tk) (dv : Blk X scope fun s H C cl fp => PE (X.blk s H scope (compEnvC scope cl C X.env) fp) vx tv)
    (unset : ∀ x, foldedSetIterable iter X.env x = pure x := by intro _; rfl) : PE X (.DictComp kx vx [⟨tg, iter, ifs, 0⟩] scope pos) (tDcG o p wi g tt tk tv (own.map (·.2))) := by
  refine ⟨fun pn s σ H Q inv0 want => ?_⟩
  rw [arm_eval_DictComp]
  have free : ∀ y ∈ scope.names, y.2 = .free → ∃ c, X.env.cells.lookup y.1 = some c := fun y hy e => (bok.free y hy e).elim (fun k => inv0.ok.has _ (.inl k)) fun k => inv0.ok.has _ (.inr k)
  refine wpAny_comprehension_free (use := none) rfl unset (closure_ok free) bok.kind (fun y hy e => by rw [bok.uniq y hy, e]) (thn (di.run pn s σ H _ inv0 want) fun _ sa ha => thn ha fun _ sb hb => ?_)
  obtain ⟨it, fp, tn, J, Hb, rfl, invb, turn, tn0, away, rest⟩ := hb
  refine wpAny_newObj_type (newEnv_comp ?_)
  generalize eD : sb.heap.objs.size = D
  have freeD : Hb D = none := invb.hok.fresh (Nat.le_of_eq eD)
  obtain ⟨Z, ⟨m0, z0⟩, step⟩ := rest D freeD
  generalize ec : ({ sb with heap := sb.heap.push { cls := .type "dict", data := .dict #[] } } : Shared) = sc
  have hc : sc.heap = sb.heap.push { cls := .type "dict", data := .dict #[] } := by rw [← ec]
  have invc : Inv X pn σ (upd Hb D (o D)) sc := by
    rw [← ec]
    refine invb.laid (t' := sb.toks) (fun b ob e => Heap.get?_push_of_some _ e) (Nat.le_of_eq eD) ?_
    have := onew (upd Hb sb.heap.objs.size (o sb.heap.objs.size)) sb.heap invb.big
    rw [eD] at this
    exact this
  have awayc : ∀ b ∈ fp, FpOk X pn (upd Hb D (o D)) b ∧ b < sc.heap.objs.size := fun b hb => by
    obtain ⟨ob, e, _⟩ := turn.obj _ _ tn0 b hb
    have lt := Heap.lt_size e
    refine ⟨⟨(upd_ne (by rw [← eD]; exact Nat.ne_of_lt lt)).trans (away b hb).1, (away b hb).2⟩, ?_⟩
    rw [hc, Heap.size_push]
    exact Nat.lt_succ_of_lt lt
  have tnc : tn 0 sc.heap := turn.keep _ _ _ tn0 fun b _ ob e => by rw [hc]; exact Heap.get?_push_of_some _ e
  have invd := block_start invc bok nd awayc
  have pg : PG (X.blk sc (upd Hb D (o D)) scope (compEnvC scope (cellsFrom (sc.heap.objs.size + 1) scope.names (cloFrom X.env.cells scope.names [])) sc.heap.objs.size X.env) fp) tg g := dg _ _ _ _ _
  have pt : PTs (X.blk sc (upd Hb D (o D)) scope (compEnvC scope (cellsFrom (sc.heap.objs.size + 1) scope.names (cloFrom X.env.cells scope.names [])) sc.heap.objs.size X.env) fp) ifs tt := dt _ _ _ _ _
  have pk : PE (X.blk sc (upd Hb D (o D)) scope (compEnvC scope (cellsFrom (sc.heap.objs.size + 1) scope.names (cloFrom X.env.cells scope.names [])) sc.heap.objs.size X.env) fp) kx tk := dk _ _ _ _ _
  have pv : PE (X.blk sc (upd Hb D (o D)) scope (compEnvC scope (cellsFrom (sc.heap.objs.size + 1) scope.names (cloFrom X.env.cells scope.names [])) sc.heap.objs.size X.env) fp) vx tv := dv _ _ _ _ _
  have bare : ∀ b ∈ fp, (upd Hb D (o D)) b = none := fun b hb => (awayc b hb).1.1
  show codeAny (model X.prog X.w) X.A (.compStart (.DictComp kx vx [⟨tg, iter, ifs, 0⟩] scope pos) 0 (.ref it) (.ref D) (compEnvC scope (cellsFrom (sc.heap.objs.size + 1) scope.names (cloFrom X.env.cells scope.names [])) sc.heap.objs.size X.env))
    (compPost (model X.prog X.w) X.A X.xe none (EP X pn σ Q) (.ref D) sc.heap.objs.size) { sc with heap := pushCells (sc.heap.push { cls := .type "dict", data := .dict #[] }) scope.names }
  generalize ece : compEnvC scope (cellsFrom (sc.heap.objs.size + 1) scope.names (cloFrom X.env.cells scope.names [])) sc.heap.objs.size X.env = ce at invd pg pt pk pv ⊢
  have loc : ce.locals = sc.heap.objs.size := by subst ece; rfl
  generalize upd Hb D (o D) = Hc at invc invd pg pt pk pv z0 bare awayc
  generalize ed : ({ sc with heap := pushCells (sc.heap.push { cls := .type "dict", data := .dict #[] }) scope.names } : Shared) = sd at invd ⊢
  have tnd : tn 0 sd.heap := turn.keep _ _ _ tnc fun b _ ob e => by rw [← ed]; exact pushCells_keeps _ _ _ _ (Heap.get?_push_of_some _ e)
  have outs : ∀ {σ' : L2.St} {H' : Hp} {s' : Shared}, Inv (X.blk sc Hc scope ce fp) [] σ' H' s' → (∀ b ∈ fp, H' b = none) → ∀ b ∈ fp, FpOk (X.blk sc Hc scope ce fp) [] H' b := fun {σ' H' s'} inv' hn b hb =>
    ⟨hn b hb, (inv'.ok.exf b hb).1, inv'.ok.exfs b hb, .inl hb, fun x c e => (inv'.ok.exf b hb).2 x c e, fun q hq => absurd (show q ∈ ([] : List (Addr × Obj)) ++ [] from hq) (by simp)⟩
  have loop : codeAny (model X.prog X.w) X.A (.compLoop (.DictComp kx vx [⟨tg, iter, ifs, 0⟩] scope pos) 0 (.ref it) (.ref D) ce) (compPost (model X.prog X.w) X.A X.xe none (EP X pn σ Q) (.ref D) sc.heap.objs.size) sd := by
    refine compLoop_anyD (fun n t => ∃ i Hx, Inv (X.blk sc Hc scope ce fp) [] (L2.wipe σ (own.map (·.2))) Hx t ∧ tn i t.heap ∧ (∀ b ∈ fp, Hx b = none) ∧ Z i n Hx) ?_ m0 ⟨0, Hc, invd, tnd, bare, z0⟩
    rintro n t5 ⟨i, H5, inv5, tn5, bare5, z5⟩
    rcases step i n H5 z5 with ⟨stop, fin⟩ | ⟨go, Y, hY, one⟩
    · refine thnF (turn.done (X.blk sc Hc scope ce fp) rfl rfl rfl calm i [] t5 _ H5 (fun _ _ => False) inv5 (outs inv5 bare5) tn5 stop) fun r t6 ⟨er, inv6⟩ => ?_
      subst er
      have inv7 : Inv X pn σ H5 t6 := invc.call' (ch := fp) inv6.os inv6.base inv6.hok inv6.bare fun b hb => ⟨(awayc b hb).1.2.2.2.1, (awayc b hb).1.2.1, (awayc b hb).1.2.2.2.2.1, (awayc b hb).1.2.2.2.2.2⟩
      have nC : H5 sc.heap.objs.size = none := by have := inv6.free; rw [show (X.blk sc Hc scope ce fp).env.locals = sc.heap.objs.size from loc] at this; exact this
      obtain ⟨mm, hn, _⟩ := inv6.loc
      rw [show (X.blk sc Hc scope ce fp).env.locals = sc.heap.objs.size from loc] at hn
      obtain ⟨q0, q1, q2, q3, q4, q5⟩ := invc.fpOk (Nat.le_refl _) nC
      exact ⟨mm, hn, fun h2 sb2 => ⟨.ref D, H5, inv7.turned (t' := t6.toks) (fun b ob hb e => (sb2.2 b hb).trans e) q0 q1 q3 q4 q5, rfl, fin⟩⟩
    · refine thnF (turn.item (X.blk sc Hc scope ce fp) rfl rfl rfl calm i [] t5 _ H5 (fun _ _ => False) inv5 (outs inv5 bare5) tn5 go) fun r t6 ⟨u, er, h6⟩ => ?_
      subst er
      refine thnF h6 fun _ t7 ⟨x, H7, inv7, rx, yl, tn7, bare7⟩ => ?_
      refine thnF (pg.run _ t7 _ H7 x u _ (inv7.pinned (outs inv7 bare7) (turn.obj _ _ tn7)) rx (one x H7 yl)) fun _ t8 ⟨σ8, H8, inv8, wiped, h8⟩ => ?_
      refine thnF (pt.run _ t8 σ8 H8 _ inv8 h8) fun b t9 ⟨H9, inv9, h9⟩ => ?_
      have turnEnds : ∀ {s' : Shared} {H' : Hp}, Inv (X.blk sc Hc scope ce fp) ([] ++ pinsAt fp t7.heap) σ8 H' s' → Y H' → ∃ m, m < n ∧ ∃ i Hx, Inv (X.blk sc Hc scope ce fp) [] (L2.wipe σ (own.map (·.2))) Hx s' ∧ tn i s'.heap ∧ (∀ b ∈ fp, Hx b = none) ∧ Z i m Hx := fun {s' H'} inv' y' => by
        obtain ⟨m', lt, z'⟩ := hY H' y'
        have kept : ∀ b ∈ fp, ∀ ob, t7.heap.get? b = some ob → s'.heap.get? b = some ob ∧ H' b = none := fun b hb ob e =>
          ⟨(inv'.pin (b, ob) (List.mem_append_right _ (List.mem_append_right _ (mem_pinsAt hb e)))).1, (inv'.pin (b, ob) (List.mem_append_right _ (List.mem_append_right _ (mem_pinsAt hb e)))).2.1⟩
        refine ⟨m', lt, i + 1, H', (inv'.unpinned (pins := [])).weak (by rw [← wiped, wipe_length]) (fun j v e => ?_), turn.keep _ _ _ tn7 fun b hb ob e => (kept b hb ob e).1, fun b hb => ?_, z'⟩
        · rw [← wiped] at e
          exact (wipe_some e).1
        · obtain ⟨ob, e, _⟩ := turn.obj _ _ tn7 b hb
          exact (kept b hb ob e).2
      cases b with
      | false =>
        simp only [Bool.false_eq_true, if_false] at h9 ⊢
        exact turnEnds inv9 h9
      | true =>
        simp only [if_true] at h9 ⊢
        exact thnF (pk.run _ t9 σ8 H9 _ inv9 h9) fun _ t10 ⟨_, H10, inv10, r10, h10⟩ => thnF (pv.run _ t10 σ8 H10 _ inv10 h10) fun _ t11 ⟨_, H11, inv11, r11, h11⟩ =>
          wpAny_mono (oput sc Hc ce fp _ σ8 H11 t11 D _ _ _ _ Y _ inv11 r10 r11 h11) (fun _ t12 ⟨H12, inv12, h12⟩ => turnEnds inv12 h12) fun _ _ z => z
  exact codeAny_compStart_dict loop (turn.self X.A 0 _ _ _ tnd loop)
end
def pDcN (K : Fg) (D : Addr) (y z : V) (H : Hp) (Y : Hp → Prop) : Prop := ∃ kvs xs d e b, y = .ref b ∧ H D = some (.ext (RawN D xs)) ∧ Paired (EntR K H) kvs xs ∧ xs.length < sizeLine ∧ keyD d = true ∧ Rv K H d (.ref b) ∧ Rv K H e z ∧
  ∀ ys, ys.length ≤ sizeLine → Paired (EntR K H) (storT kvs d e) ys → Y (upd H D (.ext (RawN D ys)))
def LoopT (ds : List D) (keep : MH → Prop) (i : Nat) (tt : T3) (tk tv : E3) (env : En) (p : Addr) (M : MH) (Q : MH → Prop) : Prop := ∃ Inv : Nat → List (D × D) → MH → Prop, Inv 0 [] (updM M p (.dT [])) ∧
  (∀ k d acc M', ds[k]? = some d → Inv k acc M' → M' p = some (.dT acc) → keep M' ∧ tt W0 (env.set i (some d)) M' fun b M3 => Br b
    (tk W0 (env.set i (some d)) M3 fun y M4 => tv W0 (env.set i (some d)) M4 fun z M5 => ∃ acc', M5 p = some (.dT acc') ∧ acc'.length < sizeLine ∧ keyD y = true ∧ Inv (k + 1) (storT acc' y z) (updM M5 p (.dT (storT acc' y z))))
    (∃ acc', M3 p = some (.dT acc') ∧ Inv (k + 1) acc' M3)) ∧
  ∀ acc M', Inv ds.length acc M' → M' p = some (.dT acc) → keep M' ∧ Q M'
def e3DcT (ti : I3) (i : Nat) (tt : T3) (tk tv : E3) (vs : List Nat) : E3 := fun W env M Q => ti W env M fun ds keep M1 => ∀ p, M1 p = none → LoopT ds keep i tt tk tv (wipe3 env vs) p M1 fun M' => Q (.ref p) M'
section
variable {X : Cx}
theorem dc_low {ti : I3} {i : Nat} {tt : T3} {tk tv : E3} {vs : List Nat} {W2 W2b : WX} (hv : i ∈ vs) (hW : W2b = fun _ _ _ _ => False) {σ : L2.St} {H : Hp} {Q2 : VK} (h : lowE X.K W2 (e3DcT ti i tt tk tv vs) σ H Q2) :
    tDcG (fun D => .ext (RawN D [])) (pDcN X.K) (lowI X.K W2 ti) (gName i) (lowT X.K W2b tt) (lowE X.K W2b tk) (lowE X.K W2b tv) vs σ H Q2 := by
  subst hW
  obtain ⟨env, M, W, Q, s, a, l, q, g⟩ := h
  refine ⟨env, M, W, _, s, a, l, q, fun ds keep J H1 M1 t1 a1 q1 ok => ?_⟩
  intro Dd nD
  obtain ⟨Inv, h0, hst, hd⟩ := q1 Dd (a1.fresh nD)
  have sw := (s.mono t1).wipe vs
  refine ⟨fun k m H' => m = ds.length - k ∧ k ≤ ds.length ∧ ∃ acc M', Tps H1 H' ∧ Abs X.K M' H' ∧ Inv k acc M' ∧ M' Dd = some (.dT acc), ⟨ds.length, by simp, Nat.zero_le _, [], _, Tps.new nD, a1.dTN nD, h0, updM_same⟩, ?_⟩
  rintro k m H' ⟨rfl, hk, acc, M', t2, a', iv, hD⟩
  by_cases hlt : k < ds.length
  · have hx : ds[k]? = some ds[k] := List.getElem?_eq_getElem hlt
    obtain ⟨hkeep, hg⟩ := hst k _ acc M' hx iv hD
    obtain ⟨go, yl⟩ := ok.step k _ H' M' hx t2 a' hkeep
    refine .inr ⟨go, fun H2 => ∃ acc M2, Tps H1 H2 ∧ Abs X.K M2 H2 ∧ Inv (k + 1) acc M2 ∧ M2 Dd = some (.dT acc), fun H2 hn => ⟨ds.length - (k + 1), by omega, rfl, hlt, hn⟩, fun x H2 y => ?_⟩
    obtain ⟨t3, a3, r3⟩ := yl x H2 y
    have t23 := t2.trans t3
    refine ⟨?_, ?_⟩
    · rw [wipe_set hv, wipe_wipe fun _ h => h]
    · have s2 : SE X.K H2 ((L2.wipe σ vs).set i (some x)) ((wipe3 env vs).set i (some ds[k])) := (sw.mono t23).set i r3
      refine ⟨_, M', W0, _, s2, a3, LW0, hg, fun b H3 M3 t4 a4 q4 => ?_⟩
      cases b with
      | true =>
        rw [if_pos rfl]
        refine ⟨_, M3, W0, _, s2.mono t4, a4, LW0, q4.1 rfl, fun d v H4 M4 t5 a5 r5 q5 => ?_⟩
        refine ⟨_, M4, W0, _, (s2.mono t4).mono t5, a5, LW0, q5, fun e w H5 M5 t6 a6 r6 q6 => ?_⟩
        obtain ⟨acc', e1, hz, hk, iv'⟩ := q6
        obtain ⟨xs, hx, hzx, hp⟩ := a6.dT e1
        have r5' := r5.mono t6
        obtain ⟨b, rfl⟩ := key_ref hk r5'
        refine ⟨acc', xs, d, e, b, rfl, hx, hp, by rw [← paired_len hp]; exact hz, hk, r5', r6, fun ys hy hp' => ?_⟩
        exact ⟨storT acc' d e, _, (((t23.trans t4).trans t5).trans t6).trans (Tps.ext hx), a6.dTU hx hy hp', iv', updM_same⟩
      | false =>
        rw [if_neg Bool.false_ne_true]
        obtain ⟨acc', e1, iv'⟩ := q4.2 rfl
        exact ⟨acc', M3, t23.trans t4, a4, iv', e1⟩
  · have e : k = ds.length := by omega
    subst e
    obtain ⟨hkeep, hq⟩ := hd acc M' iv hD
    exact .inl ⟨ok.stop H' M' t2 a' hkeep, g _ _ H' M' (t1.trans t2) a' Rv.ref hq⟩
theorem put_dc {scope : Scope} (hu : X.A.units + 65 < cLine) (s0 : Shared) (H0 : Hp) (ce : Env) (fp : List Addr) (pn : List (Addr × Obj)) (σ : L2.St) (H : Hp) (s : Shared) (Dd : Addr) (y z : V) (u r : Value) (Y : Hp → Prop) (Ex : Value → Shared → Prop)
    (I : Inv (X.blk s0 H0 scope ce fp) pn σ H s) (ry : RelV y u) (rz : RelV z r) (h : pDcN X.K Dd y z H Y) :
      wpAny (model X.prog X.w) X.A (dictSet Dd u r) (fun _ s' => ∃ H', Inv (X.blk s0 H0 scope ce fp) pn σ H' s' ∧ Y H') Ex s := by
  obtain ⟨kvs, xs, d, e, b, rfl, hx, hp, hz, hk, rk, re, q⟩ := h
  cases (show u = Value.ref b from ry)
  obtain ⟨hm, dd⟩ := dict_N I hx hp
  refine wpAny_dictSet_heap (hsz := Nat.le_of_lt hz) (by show X.A.units + 8 < cLine; omega) (key_isN I hk rk) dd fun h' dd' hs => ?_
  have hp' := put_N hp hk rk re rz
  have he : ∃ q, h'.get? Dd = some q := let ⟨q, _, _, hq, _⟩ := dd'; ⟨q, hq⟩
  exact ⟨_, d_write I (by rw [hx]; exact True.intro) hs he (raw_ok hm dd' hp'), q _ (stored_len hz) hp'⟩
theorem d_dcT {kx vx iter : Expr} {ifs : List Expr} {scope : Scope} {x : Str} {i : Nat} {p' : Pos} {pos : Pos} {ti : I3} {tt : T3} {tk tv : E3} {n : Nat} (hr : Room n X.A) (own : List (Str × Nat)) (hc : X.calm = true) (hN : X.N.Nodup) (hi : DI X (.Name x p') iter ti) (ok : BlkOk X.N X.env.scope scope own) (hv : i ∈ own.map (·.2))
    (hg : ∀ (s : Shared) (H : Hp) (C : Addr) (cl : List (Str × Addr)) (fp : List Addr), PG (X.blk s H scope (compEnvC scope cl C X.env) fp) (.Name x p') (gName i))
    (ht : ∀ (s : Shared) (H : Hp) (C : Addr) (cl : List (Str × Addr)) (fp : List Addr), DTs (X.blk s H scope (compEnvC scope cl C X.env) fp) ifs tt)
    (hk : ∀ (s : Shared) (H : Hp) (C : Addr) (cl : List (Str × Addr)) (fp : List Addr), DE (X.blk s H scope (compEnvC scope cl C X.env) fp) kx tk)
    (he : ∀ (s : Shared) (H : Hp) (C : Addr) (cl : List (Str × Addr)) (fp : List Addr), DE (X.blk s H scope (compEnvC scope cl C X.env) fp) vx tv) (hs : ∀ x, foldedSetIterable iter X.env x = pure x := by intro _; rfl) :
    DE X (.DictComp kx vx [⟨.Name x p', iter, ifs, 0⟩] scope pos) (e3DcT ti i tt tk tv (own.map (·.2))) := fun W2 tks =>
  (pe_dcG (o := fun D => .ext (RawN D [])) (p := pDcN X.K) hc hN (fun H h hb => raw_new (K := X.K) h hb) (fun s0 H0 ce fp pn σ H s D y z u r Y Ex I ry rz h => put_dc (Room.u65 hr) s0 H0 ce fp pn σ H s D y z u r Y Ex I ry rz h) (hi W2 tks) ok hg (fun s H C cl fp => ht s H C cl fp _ takesF) (fun s H C cl fp => hk s H C cl fp _ takesF) (fun s H C cl fp => he s H C cl fp _ takesF) hs).imp fun σ H Q2 h => dc_low hv rfl h
/-- the dict of a list of keys, each once -/
theorem dcMap {ds : List D} {keep : MH → Prop} {i : Nat} {tk tv : E3} {env : En} {p : Addr} {M : MH} {Q : MH → Prop} (v : D) (hk : ∀ d ∈ ds, keyD d = true) (nd : (ds.map nk).Nodup) (hp : M p = none) (hkeep : ∀ M', Sub M M' → keep M')
    (hek : ∀ (k : Nat) (d : D) (M' : MH) (R : Q3), ds[k]? = some d → Sub M M' → R d M' → tk W0 (env.set i (some d)) M' R)
    (hev : ∀ (k : Nat) (d : D) (M' : MH) (R : Q3), ds[k]? = some d → Sub M M' → R v M' → tv W0 (env.set i (some d)) M' R) (hsz : ds.length < sizeLine)
    (hq : ∀ M', Sub M M' → M' p = some (.dT (ds.map fun d => (d, v))) → Q M') : LoopT ds keep i t3Yes tk tv env p M Q := by
  refine ⟨fun k acc M' => acc = (ds.take k).map (fun d => (d, v)) ∧ Sub M M', ⟨by simp, (Sub.refl M).new hp⟩, ?_, ?_⟩
  · rintro k d acc M' hd ⟨rfl, sub⟩ hM
    have hlt := (List.getElem?_eq_some_iff.mp hd).1
    refine ⟨hkeep M' sub, Br.tt (hek k d M' _ hd sub (hev k d M' _ hd sub ⟨_, hM, ?_, hk d (List.mem_of_getElem? hd), ?_, (sub.new hp)⟩))⟩
    · rw [List.length_map, List.length_take]
      omega
    · unfold storT
      have hn : valT ((ds.take k).map fun d => (d, v)) d = none := by
        unfold valT
        rw [Option.map_eq_none_iff, List.find?_eq_none]
        intro q hq e
        obtain ⟨d', hd', rfl⟩ := List.mem_map.mp hq
        obtain ⟨j, hj⟩ := List.getElem?_of_mem hd'
        have hjk : j < k := by
          have := (List.getElem?_eq_some_iff.mp hj).1
          rw [List.length_take] at this
          omega
        rw [List.getElem?_take_of_lt hjk] at hj
        have e' : nk d' = nk d := of_decide_eq_true e
        have h1 : (ds.map nk)[j]? = some (nk d) := by rw [List.getElem?_map, hj, ← e']; rfl
        have h2 : (ds.map nk)[k]? = some (nk d) := by rw [List.getElem?_map, hd]; rfl
        have hjl : j < (ds.map nk).length := (List.getElem?_eq_some_iff.mp h1).1
        have := (List.getElem?_inj hjl nd).mp (h1.trans h2.symm)
        omega
      rw [hn]
      show _ ++ [(d, v)] = _
      rw [List.take_add_one, hd, List.map_append]
      rfl
  · rintro acc M' ⟨rfl, sub⟩ hM
    rw [List.take_length] at hM
    exact ⟨hkeep M' sub, hq M' sub hM⟩
end
end L3

namespace L3
open PySem PySem.Spec PyProof.Rows L2
/-! ### {k: v for x in .. for y in ..}, keys ints or texts -/
section
variable {prg : Program} {wd : World} {Ar : Around} {Pst : Result → Shared → Prop} {s : Shared} {kx vx ta ia tb ib : Expr} {ca cb : List Expr} {sco : Scope} {ps : Pos} {src : Value} {Dd : Addr} {en : Env}
abbrev twoD (kx vx ta ia tb ib : Expr) (ca cb : List Expr) (sco : Scope) (ps : Pos) : Expr := .DictComp kx vx [⟨ta, ia, ca, 0⟩, ⟨tb, ib, cb, 0⟩] sco ps
theorem turnD_a : compTurn (twoD kx vx ta ia tb ib ca cb sco ps) 0 src (.ref Dd) en = (do
      standAt ia.pos
      match ← pyNext src with
      | none => pure (.done .next)
      | some item =>
        letOwnedTupleGo ta src item
        assign ta en item
        let mut fit := true
        for one in ca do
          if fit then fit ← isTrue one en (eval one en)
        if fit then
          let inner ← eval ib en
          standAt ib.pos
          let inner ← foldedSetIterable ib en inner
          let _ ← runOwn (.compStart (twoD kx vx ta ia tb ib ca cb sco ps) 1 (← holding [inner] (pyIter inner)) (.ref Dd) en) en
        again (.compLoop (twoD kx vx ta ia tb ib ca cb sco ps) 0 src (.ref Dd) en)) := by rfl
theorem turnD_b : compTurn (twoD kx vx ta ia tb ib ca cb sco ps) 1 src (.ref Dd) en = (do
      standAt ib.pos
      match ← pyNext src with
      | none => pure (.done .next)
      | some item =>
        letOwnedTupleGo tb src item
        assign tb en item
        let mut fit := true
        for one in cb do
          if fit then fit ← isTrue one en (eval one en)
        if fit then
          (do
            let key ← eval kx en
            let val ← holding [key] (eval vx en)
            standAt { kx.pos with endLine := vx.pos.endLine, endCol := vx.pos.endCol }
            holding [key, val] (dictSet Dd key val))
        again (.compLoop (twoD kx vx ta ia tb ib ca cb sco ps) 1 src (.ref Dd) en)) := by rfl
/-- what an error does here -/
abbrev Err (prg : Program) (wd : World) (Ar : Around) (Pst : Result → Shared → Prop) (en : Env) : Value → Shared → Prop := notedBy (model prg wd) Ar en fun e t => Pst (.error e) t
theorem loopD_a (plain : ∀ x, foldedSetIterable ib en x = pure x) (J : Nat → Shared → Prop)
    (turn : ∀ n s, J n s → wpAny (model prg wd) Ar (pyNext src) (fun r t1 => match r with
      | none => Pst (.ok .next) t1
      | some item => wpAny (model prg wd) Ar (letOwnedTupleGo ta src item) (fun _ t2 => wpAny (model prg wd) Ar (assign ta en item) (fun _ t3 =>
          wpAny (model prg wd) Ar (forIn ca true fun c r => if r = true then do let fit ← isTrue c en (eval c en); pure (ForInStep.yield fit) else pure (ForInStep.yield r)) (fun fit t4 =>
            if fit = true then wpAny (model prg wd) Ar (eval ib en) (fun x t5 => wpAny (model prg wd) Ar (pyIter x) (fun in1 t6 =>
              codeAny (model prg wd) Ar (.compStart (twoD kx vx ta ia tb ib ca cb sco ps) 1 in1 (.ref Dd) en) (fun r t => match r with
                | .ok _ => ∃ m, m < n ∧ J m t
                | .error _ => False) t6) (Err prg wd Ar Pst en) t5) (Err prg wd Ar Pst en) t4
            else ∃ m, m < n ∧ J m t4) (Err prg wd Ar Pst en) t3) (Err prg wd Ar Pst en) t2) (Err prg wd Ar Pst en) t1) (Err prg wd Ar Pst en) s)
    (n : Nat) (start : J n s) : codeAny (model prg wd) Ar (.compLoop (twoD kx vx ta ia tb ib ca cb sco ps) 0 src (.ref Dd) en) Pst s := by
  refine codeAny_loop rfl J (fun n s hJ => ?_) n start
  show wpAny _ Ar ((compTurn (twoD kx vx ta ia tb ib ca cb sco ps) 0 src (.ref Dd) en).onRaise (fun x => do noteFrame x en; theTreesLotGoes x)) _ _ s
  refine wpAny_noted ?_
  rw [turnD_a]
  refine wpAny_bind (wpAny_standAt (wpAny_bind (wpAny_mono (turn n s hJ) (fun r t1 k1 => ?_) fun _ _ z => z)))
  match r, k1 with
  | none, k1 => exact wpAny_pure k1
  | some item, k1 =>
    refine wpAny_bind (wpAny_mono k1 (fun _ t2 k2 => wpAny_bind (wpAny_mono k2 (fun _ t3 k3 => wpAny_bind (wpAny_mono k3 (fun fit t4 k4 => ?_) fun _ _ z => z)) fun _ _ z => z)) fun _ _ z => z)
    match fit, k4 with
    | false, k4 => exact wpAny_pure ⟨rfl, k4⟩
    | true, k4 =>
      refine wpAny_bind (wpAny_mono k4 (fun x t5 k5 => wpAny_bind (wpAny_standAt (wpAny_bind (wpAny_of_eq (plain x) (wpAny_bind (wpAny_holding (wpAny_mono k5 (fun in1 t6 k6 => wpAny_bind (wpAny_runOwn ?_)) fun _ _ z => z))))))) fun _ _ z => z)
      rw [Around.mark_none]
      refine codeAny_mono k6 fun r t kr => ?_
      match r, kr with
      | .ok _, kr => first | exact wpAny_pure ⟨rfl, kr⟩ | exact wpAny_bind (wpAny_pure (wpAny_pure ⟨rfl, kr⟩))
      | .error _, kr => exact kr.elim
theorem loopD_b (J : Nat → Shared → Prop)
    (turn : ∀ n s, J n s → wpAny (model prg wd) Ar (pyNext src) (fun r t1 => match r with
      | none => Pst (.ok .next) t1
      | some item => wpAny (model prg wd) Ar (letOwnedTupleGo tb src item) (fun _ t2 => wpAny (model prg wd) Ar (assign tb en item) (fun _ t3 =>
          wpAny (model prg wd) Ar (forIn cb true fun c r => if r = true then do let fit ← isTrue c en (eval c en); pure (ForInStep.yield fit) else pure (ForInStep.yield r)) (fun fit t4 =>
            if fit = true then wpAny (model prg wd) Ar (eval kx en) (fun key t5 => wpAny (model prg wd) Ar (eval vx en) (fun val t6 =>
              wpAny (model prg wd) Ar (dictSet Dd key val) (fun _ t7 => ∃ m, m < n ∧ J m t7) (Err prg wd Ar Pst en) t6) (Err prg wd Ar Pst en) t5) (Err prg wd Ar Pst en) t4
            else ∃ m, m < n ∧ J m t4) (Err prg wd Ar Pst en) t3) (Err prg wd Ar Pst en) t2) (Err prg wd Ar Pst en) t1) (Err prg wd Ar Pst en) s)
    (n : Nat) (start : J n s) : codeAny (model prg wd) Ar (.compLoop (twoD kx vx ta ia tb ib ca cb sco ps) 1 src (.ref Dd) en) Pst s := by
  refine codeAny_loop rfl J (fun n s hJ => ?_) n start
  show wpAny _ Ar ((compTurn (twoD kx vx ta ia tb ib ca cb sco ps) 1 src (.ref Dd) en).onRaise (fun x => do noteFrame x en; theTreesLotGoes x)) _ _ s
  refine wpAny_noted ?_
  rw [turnD_b]
  refine wpAny_bind (wpAny_standAt (wpAny_bind (wpAny_mono (turn n s hJ) (fun r t1 k1 => ?_) fun _ _ z => z)))
  match r, k1 with
  | none, k1 => exact wpAny_pure k1
  | some item, k1 =>
    refine wpAny_bind (wpAny_mono k1 (fun _ t2 k2 => wpAny_bind (wpAny_mono k2 (fun _ t3 k3 => wpAny_bind (wpAny_mono k3 (fun fit t4 k4 => ?_) fun _ _ z => z)) fun _ _ z => z)) fun _ _ z => z)
    match fit, k4 with
    | false, k4 => exact wpAny_pure ⟨rfl, k4⟩
    | true, k4 =>
      refine wpAny_bind (wpAny_bind (wpAny_mono k4 (fun key t5 k5 => wpAny_bind (wpAny_holding (wpAny_mono k5 (fun val t6 k6 => ?_) fun _ _ z => z))) fun _ _ z => z))
      exact wpAny_bind (wpAny_standAt (wpAny_holding (wpAny_mono k6 (fun _ t7 k7 => wpAny_pure ⟨rfl, k7⟩) fun _ _ z => z)))
theorem startD_b (self : codeAny (model prg wd) Ar (.compLoop (twoD kx vx ta ia tb ib ca cb sco ps) 1 src (.ref Dd) en) Pst s)
    (more : wpAny (model prg wd) Ar (pyIter src) (fun in1 t => codeAny (model prg wd) Ar (.compLoop (twoD kx vx ta ia tb ib ca cb sco ps) 1 in1 (.ref Dd) en) Pst t) (Err prg wd Ar Pst en) s) :
    codeAny (model prg wd) Ar (.compStart (twoD kx vx ta ia tb ib ca cb sco ps) 1 src (.ref Dd) en) Pst s := by
  refine codeAny_of_tree ?_
  show wpAny _ _ ((compStart (twoD kx vx ta ia tb ib ca cb sco ps) 1 src (.ref Dd) en).onRaise (fun x => do noteFrame x en; standAt theWindowsPlace)) _ _ s
  refine wpAny_notedAt ?_
  unfold compStart
  show wpAny _ _ (ask >>= _) _ _ s
  refine wpAny_bind (wpAny_askSetting (wpAny_ite ?_))
  split
  · first | exact wpAny_bind (wpAny_pure (wpAny_pure (And.intro rfl self))) | exact wpAny_pure (And.intro rfl self)
  · refine wpAny_bind (wpAny_rule ?_)
    first
      | exact wpAny_bind (wpAny_standAt (wpAny_bind (wpAny_mono more (fun in1 t k => wpAny_pure (And.intro rfl k)) fun _ _ z => z)))
      | (show wpAny _ _ (standAt ib.pos >>= _) _ _ s; exact wpAny_bind (wpAny_standAt (wpAny_bind (wpAny_mono more (fun in1 t k => wpAny_pure (And.intro rfl k)) fun _ _ z => z))))
end
/-- the turns of such a block: the dict at D as o tells, p one more pair -/
def tDcW (o : Addr → HO) (p : Addr → V → V → Hp → (Hp → Prop) → Prop) (wi : TI) (g : TG) (tt : TT) (wj : TI) (gj : TG) (uu : TT) (tk tv : TE) (vs vj : List Nat) : TE := fun σ H Q =>
  wi σ H fun J Ha => ∀ D, Ha D = none → ∃ Z : Nat → Nat → Hp → Prop, (∃ m, Z 0 m (upd Ha D (o D))) ∧ ∀ i m Hb, Z i m Hb →
    (J.stop i Hb ∧ Q (.ref D) Hb) ∨ (J.go i Hb ∧ ∃ Y : Hp → Prop, (∀ Hc, Y Hc → ∃ m', m' < m ∧ Z (i + 1) m' Hc) ∧
      ∀ x Hc, J.yld i Hb x Hc → g x (L2.wipe σ vs) Hc fun σd Hd => L2.wipe σd vs = L2.wipe σ vs ∧ tt σd Hd fun b He => if b = true then
        wj σd He fun L Hf => ∃ T : Nat → Nat → Hp → Prop, (∃ m, T 0 m Hf) ∧ ∀ j n Hg, T j n Hg →
          (L.stop j Hg ∧ Y Hg) ∨ (L.go j Hg ∧ ∃ U : Hp → Prop, (∀ Hh, U Hh → ∃ n', n' < n ∧ T (j + 1) n' Hh) ∧
            ∀ x1 Hh, L.yld j Hg x1 Hh → gj x1 (L2.wipe σd vj) Hh fun σe Hi => L2.wipe σe vj = L2.wipe σd vj ∧ uu σe Hi fun b1 Hj => if b1 = true then tk σe Hj fun y Hk => tv σe Hk fun z Hl => p D y z Hl U else U Hj)
      else Y He)
section
variable {X : Cx}
theorem pe_dcW {kx vx ta ia tb ib : Expr} {ca cb : List Expr} {scope : Scope} {own : List (Str × Nat)} {vj : List Nat} {pos : Pos} {wi wj : TI} {g gj : TG} {tt uu : TT} {tk tv : TE} {o : Addr → HO} {p : Addr → V → V → Hp → (Hp → Prop) → Prop}
    (calm : X.calm = true) (nd : X.N.Nodup)
    (onew : ∀ (H : Hp) (h : Heap), sysModules < h.objs.size → ObjOk X.prog X.w H (h.push { cls := .type "dict", data := .dict #[] }) h.objs.size (o h.objs.size))
    (oput : ∀ (s0 : Shared) (H0 : Hp) (ce : Env) (fp : List Addr) (pn : List (Addr × Obj)) (σ : L2.St) (H : Hp) (s : Shared) (D : Addr) (y z : V) (u r : Value) (Y : Hp → Prop) (Ex : Value → Shared → Prop), Inv (X.blk s0 H0 scope ce fp) pn σ H s → RelV y u → RelV z r → p D y z H Y →
      wpAny (model X.prog X.w) X.A (dictSet D u r) (fun _ s' => ∃ H', Inv (X.blk s0 H0 scope ce fp) pn σ H' s' ∧ Y H') Ex s)
    (di : PI X ta ia wi) (bok : BlkOk X.N X.env.scope scope own) (inn : ∀ i ∈ vj, i ∈ own.map (·.2))
    (dg : Blk X scope fun s H C cl fp => PG (X.blk s H scope (compEnvC scope cl C X.env) fp) ta g) (dt : Blk X scope fun s H C cl fp => PTs (X.blk s H scope (compEnvC scope cl C X.env) fp) ca tt)
    (dj : Blk X scope fun s H C cl fp => PI (X.blk s H scope (compEnvC scope cl C X.env) fp) tb ib wj)
    (dh : Blk X scope fun s H C cl fp => PG (X.blk s H scope (compEnvC scope cl C X.env) fp) tb gj) (du : Blk X scope fun s H C cl fp => PTs (X.blk s H scope (compEnvC scope cl C X.env) fp) cb uu)
    (dk : Blk X scope fun s H C cl fp => PE (X.blk s H scope (compEnvC scope cl C X.env) fp) kx tk) (dv : Blk X scope fun s H C cl fp => PE (X.blk s H scope (compEnvC scope cl C X.env) fp) vx tv)
    (unset : ∀ x, foldedSetIterable ia X.env x = pure x := by intro _; rfl) (unset1 : ∀ en x, foldedSetIterable ib en x = pure x := by intro _ _; rfl) : PE X (twoD kx vx ta ia tb ib ca cb scope pos) (tDcW o p wi g tt wj gj uu tk tv (own.map (·.2)) vj) := by
  refine ⟨fun pn s σ H Q inv0 want => ?_⟩
  rw [arm_eval_DictComp]
  have free : ∀ y ∈ scope.names, y.2 = .free → ∃ c, X.env.cells.lookup y.1 = some c := fun y hy e => (bok.free y hy e).elim (fun k => inv0.ok.has _ (.inl k)) fun k => inv0.ok.has _ (.inr k)
  refine wpAny_comprehension_free (use := none) rfl unset (closure_ok free) bok.kind (fun y hy e => by rw [bok.uniq y hy, e]) (thn (di.run pn s σ H _ inv0 want) fun _ sa ha => thn ha fun _ sb hb => ?_)
  obtain ⟨it, fp, tn, J, Hb, rfl, invb, turn, tn0, away, rest⟩ := hb
  refine wpAny_newObj_type (newEnv_comp ?_)
  generalize eD : sb.heap.objs.size = D
  have freeD : Hb D = none := invb.hok.fresh (Nat.le_of_eq eD)
  obtain ⟨Z, ⟨m0, z0⟩, step⟩ := rest D freeD
  generalize ec : ({ sb with heap := sb.heap.push { cls := .type "dict", data := .dict #[] } } : Shared) = sc
  have hc : sc.heap = sb.heap.push { cls := .type "dict", data := .dict #[] } := by rw [← ec]
  have invc : Inv X pn σ (upd Hb D (o D)) sc := by
    rw [← ec]
    refine invb.laid (t' := sb.toks) (fun b ob e => Heap.get?_push_of_some _ e) (Nat.le_of_eq eD) ?_
    have := onew (upd Hb sb.heap.objs.size (o sb.heap.objs.size)) sb.heap invb.big
    rw [eD] at this
    exact this
  have awayc : ∀ b ∈ fp, FpOk X pn (upd Hb D (o D)) b ∧ b < sc.heap.objs.size := fun b hb => by
    obtain ⟨ob, e, _⟩ := turn.obj _ _ tn0 b hb
    have lt := Heap.lt_size e
    refine ⟨⟨(upd_ne (by rw [← eD]; exact Nat.ne_of_lt lt)).trans (away b hb).1, (away b hb).2⟩, ?_⟩
    rw [hc, Heap.size_push]
    exact Nat.lt_succ_of_lt lt
  have tnc : tn 0 sc.heap := turn.keep _ _ _ tn0 fun b _ ob e => by rw [hc]; exact Heap.get?_push_of_some _ e
  have invd := block_start invc bok nd awayc
  have pg : PG (X.blk sc (upd Hb D (o D)) scope (compEnvC scope (cellsFrom (sc.heap.objs.size + 1) scope.names (cloFrom X.env.cells scope.names [])) sc.heap.objs.size X.env) fp) ta g := dg _ _ _ _ _
  have pt : PTs (X.blk sc (upd Hb D (o D)) scope (compEnvC scope (cellsFrom (sc.heap.objs.size + 1) scope.names (cloFrom X.env.cells scope.names [])) sc.heap.objs.size X.env) fp) ca tt := dt _ _ _ _ _
  have pj : PI (X.blk sc (upd Hb D (o D)) scope (compEnvC scope (cellsFrom (sc.heap.objs.size + 1) scope.names (cloFrom X.env.cells scope.names [])) sc.heap.objs.size X.env) fp) tb ib wj := dj _ _ _ _ _
  have ph : PG (X.blk sc (upd Hb D (o D)) scope (compEnvC scope (cellsFrom (sc.heap.objs.size + 1) scope.names (cloFrom X.env.cells scope.names [])) sc.heap.objs.size X.env) fp) tb gj := dh _ _ _ _ _
  have pu : PTs (X.blk sc (upd Hb D (o D)) scope (compEnvC scope (cellsFrom (sc.heap.objs.size + 1) scope.names (cloFrom X.env.cells scope.names [])) sc.heap.objs.size X.env) fp) cb uu := du _ _ _ _ _
  have pk : PE (X.blk sc (upd Hb D (o D)) scope (compEnvC scope (cellsFrom (sc.heap.objs.size + 1) scope.names (cloFrom X.env.cells scope.names [])) sc.heap.objs.size X.env) fp) kx tk := dk _ _ _ _ _
  have pv : PE (X.blk sc (upd Hb D (o D)) scope (compEnvC scope (cellsFrom (sc.heap.objs.size + 1) scope.names (cloFrom X.env.cells scope.names [])) sc.heap.objs.size X.env) fp) vx tv := dv _ _ _ _ _
  have bare : ∀ b ∈ fp, (upd Hb D (o D)) b = none := fun b hb => (awayc b hb).1.1
  show codeAny (model X.prog X.w) X.A (.compStart (twoD kx vx ta ia tb ib ca cb scope pos) 0 (.ref it) (.ref D) (compEnvC scope (cellsFrom (sc.heap.objs.size + 1) scope.names (cloFrom X.env.cells scope.names [])) sc.heap.objs.size X.env))
    (compPost (model X.prog X.w) X.A X.xe none (EP X pn σ Q) (.ref D) sc.heap.objs.size) { sc with heap := pushCells (sc.heap.push { cls := .type "dict", data := .dict #[] }) scope.names }
  generalize ece : compEnvC scope (cellsFrom (sc.heap.objs.size + 1) scope.names (cloFrom X.env.cells scope.names [])) sc.heap.objs.size X.env = ce at invd pg pt pj ph pu pk pv ⊢
  have loc : ce.locals = sc.heap.objs.size := by subst ece; rfl
  generalize upd Hb D (o D) = Hc at invc invd pg pt pj ph pu pk pv z0 bare awayc
  generalize ed : ({ sc with heap := pushCells (sc.heap.push { cls := .type "dict", data := .dict #[] }) scope.names } : Shared) = sd at invd ⊢
  have tnd : tn 0 sd.heap := turn.keep _ _ _ tnc fun b _ ob e => by rw [← ed]; exact pushCells_keeps _ _ _ _ (Heap.get?_push_of_some _ e)
  have outs : ∀ {σ' : L2.St} {H' : Hp} {s' : Shared}, Inv (X.blk sc Hc scope ce fp) [] σ' H' s' → (∀ b ∈ fp, H' b = none) → ∀ b ∈ fp, FpOk (X.blk sc Hc scope ce fp) [] H' b := fun {σ' H' s'} inv' hn b hb =>
    ⟨hn b hb, (inv'.ok.exf b hb).1, inv'.ok.exfs b hb, .inl hb, fun x c e => (inv'.ok.exf b hb).2 x c e, fun q hq => absurd (show q ∈ ([] : List (Addr × Obj)) ++ [] from hq) (by simp)⟩
  have loop : codeAny (model X.prog X.w) X.A (.compLoop (twoD kx vx ta ia tb ib ca cb scope pos) 0 (.ref it) (.ref D) ce) (compPost (model X.prog X.w) X.A X.xe none (EP X pn σ Q) (.ref D) sc.heap.objs.size) sd := by
    refine loopD_a (unset1 ce) (fun n t => ∃ i Hx, Inv (X.blk sc Hc scope ce fp) [] (L2.wipe σ (own.map (·.2))) Hx t ∧ tn i t.heap ∧ (∀ b ∈ fp, Hx b = none) ∧ Z i n Hx) ?_ m0 ⟨0, Hc, invd, tnd, bare, z0⟩
    rintro n t5 ⟨i, H5, inv5, tn5, bare5, z5⟩
    rcases step i n H5 z5 with ⟨stop, fin⟩ | ⟨go, Y, hY, one⟩
    · refine thnF (turn.done (X.blk sc Hc scope ce fp) rfl rfl rfl calm i [] t5 _ H5 (fun _ _ => False) inv5 (outs inv5 bare5) tn5 stop) fun r t6 ⟨er, inv6⟩ => ?_
      subst er
      have inv7 : Inv X pn σ H5 t6 := invc.call' (ch := fp) inv6.os inv6.base inv6.hok inv6.bare fun b hb => ⟨(awayc b hb).1.2.2.2.1, (awayc b hb).1.2.1, (awayc b hb).1.2.2.2.2.1, (awayc b hb).1.2.2.2.2.2⟩
      have nC : H5 sc.heap.objs.size = none := by have := inv6.free; rw [show (X.blk sc Hc scope ce fp).env.locals = sc.heap.objs.size from loc] at this; exact this
      obtain ⟨mm, hn, _⟩ := inv6.loc
      rw [show (X.blk sc Hc scope ce fp).env.locals = sc.heap.objs.size from loc] at hn
      obtain ⟨q0, q1, q2, q3, q4, q5⟩ := invc.fpOk (Nat.le_refl _) nC
      exact ⟨mm, hn, fun h2 sb2 => ⟨.ref D, H5, inv7.turned (t' := t6.toks) (fun b ob hb e => (sb2.2 b hb).trans e) q0 q1 q3 q4 q5, rfl, fin⟩⟩
    · refine thnF (turn.item (X.blk sc Hc scope ce fp) rfl rfl rfl calm i [] t5 _ H5 (fun _ _ => False) inv5 (outs inv5 bare5) tn5 go) fun r t6 ⟨u, er, h6⟩ => ?_
      subst er
      refine thnF h6 fun _ t7 ⟨x, H7, inv7, rx, yl, tn7, bare7⟩ => ?_
      refine thnF (pg.run _ t7 _ H7 x u _ (inv7.pinned (outs inv7 bare7) (turn.obj _ _ tn7)) rx (one x H7 yl)) fun _ t8 ⟨σ8, H8, inv8, wiped, h8⟩ => ?_
      refine thnF (pt.run _ t8 σ8 H8 _ inv8 h8) fun b t9 ⟨H9, inv9, h9⟩ => ?_
      -- a turn's end, whatever the slots of this block hold
      have ends : ∀ {σ9 : L2.St} {s' : Shared} {H' : Hp}, Inv (X.blk sc Hc scope ce fp) ([] ++ pinsAt fp t7.heap) σ9 H' s' → σ9.length = (L2.wipe σ (own.map (·.2))).length → (∀ (j : Nat) v, (L2.wipe σ (own.map (·.2)))[j]? = some (some v) → σ9[j]? = some (some v)) → Y H' →
          ∃ m, m < n ∧ ∃ i Hx, Inv (X.blk sc Hc scope ce fp) [] (L2.wipe σ (own.map (·.2))) Hx s' ∧ tn i s'.heap ∧ (∀ b ∈ fp, Hx b = none) ∧ Z i m Hx := fun {σ9 s' H'} inv' len9 know9 y' => by
        obtain ⟨m', lt, z'⟩ := hY H' y'
        have kept : ∀ b ∈ fp, ∀ ob, t7.heap.get? b = some ob → s'.heap.get? b = some ob ∧ H' b = none := fun b hb ob e =>
          ⟨(inv'.pin (b, ob) (List.mem_append_right _ (List.mem_append_right _ (mem_pinsAt hb e)))).1, (inv'.pin (b, ob) (List.mem_append_right _ (List.mem_append_right _ (mem_pinsAt hb e)))).2.1⟩
        refine ⟨m', lt, i + 1, H', (inv'.unpinned (pins := [])).weak len9.symm know9, turn.keep _ _ _ tn7 fun b hb ob e => (kept b hb ob e).1, fun b hb => ?_, z'⟩
        obtain ⟨ob, e, _⟩ := turn.obj _ _ tn7 b hb
        exact (kept b hb ob e).2
      have len8 : σ8.length = (L2.wipe σ (own.map (·.2))).length := by rw [← wiped, wipe_length]
      have know8 : ∀ (j : Nat) v, (L2.wipe σ (own.map (·.2)))[j]? = some (some v) → σ8[j]? = some (some v) := fun j v e => by
        rw [← wiped] at e
        exact (wipe_some e).1
      have knowW : ∀ (j : Nat) v, (L2.wipe σ (own.map (·.2)))[j]? = some (some v) → (L2.wipe σ8 vj)[j]? = some (some v) := fun j v e => by
        rw [← wiped] at e
        have := wipe_some e
        rw [wipe_out fun z => this.2 (inn j z)]
        exact this.1
      match b, h9 with
      | false, h9 =>
        simp only [Bool.false_eq_true, if_false] at h9 ⊢
        exact ends inv9 len8 know8 h9
      | true, h9 =>
        simp only [if_true] at h9 ⊢
        refine thnF (pj.run _ t9 σ8 H9 _ inv9 h9) fun _ ta' k1 => thnF k1 fun _ tb' k2 => ?_
        obtain ⟨it1, fp1, tn1, L, Hq, rfl, invq, turn1, tnq, away1, T, ⟨n0, s0⟩, step1⟩ := k2
        have outs1 : ∀ {H' : Hp}, (∀ b ∈ fp1, H' b = none) → ∀ b ∈ fp1, FpOk (X.blk sc Hc scope ce fp) ([] ++ pinsAt fp t7.heap) H' b := fun hn b hb => ⟨hn b hb, (away1 b hb).2⟩
        have inner : codeAny (model X.prog X.w) X.A (.compLoop (twoD kx vx ta ia tb ib ca cb scope pos) 1 (.ref it1) (.ref D) ce)
            (fun r s' => match r with
              | .ok _ => ∃ m, m < n ∧ ∃ i Hx, Inv (X.blk sc Hc scope ce fp) [] (L2.wipe σ (own.map (·.2))) Hx s' ∧ tn i s'.heap ∧ (∀ b ∈ fp, Hx b = none) ∧ Z i m Hx
              | .error _ => False) tb' := by
          refine loopD_b (fun k t => ∃ j Hx, Inv (X.blk sc Hc scope ce fp) ([] ++ pinsAt fp t7.heap) (L2.wipe σ8 vj) Hx t ∧ tn1 j t.heap ∧ (∀ b ∈ fp1, Hx b = none) ∧ T j k Hx) ?_ n0 ⟨0, Hq, invq.weak (wipe_length _ _) (fun j v e => (wipe_some e).1), tnq, fun b hb => (away1 b hb).1, s0⟩
          rintro k tc ⟨j, Hr, invr, tnr, barer, sr⟩
          rcases step1 j k Hr sr with ⟨stop1, y1⟩ | ⟨go1, U, hU, one1⟩
          · refine thnF (turn1.done (X.blk sc Hc scope ce fp) rfl rfl rfl calm j _ tc (L2.wipe σ8 vj) Hr (fun _ _ => False) invr (outs1 barer) tnr stop1) fun r td ⟨er, invs⟩ => ?_
            subst er
            exact ends invs ((wipe_length σ8 vj).trans len8) knowW y1
          · refine thnF (turn1.item (X.blk sc Hc scope ce fp) rfl rfl rfl calm j _ tc (L2.wipe σ8 vj) Hr (fun _ _ => False) invr (outs1 barer) tnr go1) fun r td ⟨u1, er, hd⟩ => ?_
            subst er
            refine thnF hd fun _ te ⟨x1, Hs, invs, rs, ys, tns, bares⟩ => ?_
            refine thnF (ph.run _ te (L2.wipe σ8 vj) Hs x1 u1 _ (invs.pinned (outs1 bares) (turn1.obj _ _ tns)) rs (one1 x1 Hs ys)) fun _ tf ⟨σ9, Ht, invt, wiped1, ht⟩ => ?_
            refine thnF (pu.run _ tf σ9 Ht _ invt ht) fun b1 tg ⟨Hu, invu, hu⟩ => ?_
            have ends1 : ∀ {s' : Shared} {H' : Hp}, Inv (X.blk sc Hc scope ce fp) (([] ++ pinsAt fp t7.heap) ++ pinsAt fp1 te.heap) σ9 H' s' → U H' → ∃ m, m < k ∧ ∃ j Hx, Inv (X.blk sc Hc scope ce fp) ([] ++ pinsAt fp t7.heap) (L2.wipe σ8 vj) Hx s' ∧ tn1 j s'.heap ∧ (∀ b ∈ fp1, Hx b = none) ∧ T j m Hx := fun {s' H'} inv' y' => by
              obtain ⟨m', lt, z'⟩ := hU H' y'
              have kept : ∀ b ∈ fp1, ∀ ob, te.heap.get? b = some ob → s'.heap.get? b = some ob ∧ H' b = none := fun b hb ob e =>
                ⟨(inv'.pin (b, ob) (List.mem_append_right _ (List.mem_append_right _ (mem_pinsAt hb e)))).1, (inv'.pin (b, ob) (List.mem_append_right _ (List.mem_append_right _ (mem_pinsAt hb e)))).2.1⟩
              refine ⟨m', lt, j + 1, H', inv'.unpinned.weak (by rw [← wiped1, wipe_length]) (fun j v e => ?_), turn1.keep _ _ _ tns fun b hb ob e => (kept b hb ob e).1, fun b hb => ?_, z'⟩
              · rw [← wiped1] at e
                exact (wipe_some e).1
              · obtain ⟨ob, e, _⟩ := turn1.obj _ _ tns b hb
                exact (kept b hb ob e).2
            match b1, hu with
            | false, hu =>
              simp only [Bool.false_eq_true, if_false] at hu ⊢
              exact ends1 invu hu
            | true, hu =>
              simp only [if_true] at hu ⊢
              exact thnF (pk.run _ tg σ9 Hu _ invu hu) fun _ t10 ⟨_, H10, inv10, r10, h10⟩ => thnF (pv.run _ t10 σ9 H10 _ inv10 h10) fun _ t11 ⟨_, H11, inv11, r11, h11⟩ =>
                wpAny_mono (oput sc Hc ce fp _ σ9 H11 t11 D _ _ _ _ U _ inv11 r10 r11 h11) (fun _ t12 ⟨H12, inv12, h12⟩ => ends1 inv12 h12) fun _ _ z => z
        exact startD_b inner (turn1.self X.A 0 _ _ _ tnq inner)
  exact codeAny_compStart_dict loop (turn.self X.A 0 _ _ _ tnd loop)
end
end L3

namespace L3
open PySem PySem.Spec PyProof.Rows L2
def pDcK (p : Addr) (y z : V) (H : Hp) (Y : Hp → Prop) : Prop := ∃ kvs k, y = kV k ∧ H p = some (.dK kvs) ∧ kvs.length < sizeLine ∧ Y (upd H p (.dK (putK kvs k z)))
def LoopIK (ds : List D) (keep : MH → Prop) (j : Nat) (tt : T3) (tk tv : E3) (env : En) (p : Addr) (M : MH) (done : List (Key × D) → MH → Prop) : Prop := ∃ Iv : Nat → List (Key × D) → MH → Prop, (∃ acc, M p = some (.dK acc) ∧ Iv 0 acc M) ∧
  (∀ k d acc M', ds[k]? = some d → Iv k acc M' → M' p = some (.dK acc) → keep M' ∧ tt W0 (env.set j (some d)) M' fun b M3 => Br b
    (tk W0 (env.set j (some d)) M3 fun y M4 => tv W0 (env.set j (some d)) M4 fun z M5 => ∃ acc' key, y = kD key ∧ M5 p = some (.dK acc') ∧ acc'.length < sizeLine ∧ Iv (k + 1) (putD acc' key z) (updM M5 p (.dK (putD acc' key z))))
    (∃ acc', M3 p = some (.dK acc') ∧ Iv (k + 1) acc' M3)) ∧
  ∀ acc M', Iv ds.length acc M' → M' p = some (.dK acc) → keep M' ∧ done acc M'
def Loop2K (ds : List D) (keep : MH → Prop) (i : Nat) (tt : T3) (ti1 : I3) (j : Nat) (tt1 : T3) (tk tv : E3) (vs1 : List Nat) (env : En) (p : Addr) (M : MH) (Q : MH → Prop) : Prop := ∃ Iv : Nat → List (Key × D) → MH → Prop, Iv 0 [] (updM M p (.dK [])) ∧
  (∀ k d acc M', ds[k]? = some d → Iv k acc M' → M' p = some (.dK acc) → keep M' ∧ tt W0 (env.set i (some d)) M' fun b M3 => Br b
    (ti1 W0 (env.set i (some d)) M3 fun ds1 keep1 M4 => LoopIK ds1 keep1 j tt1 tk tv (wipe3 (env.set i (some d)) vs1) p M4 (Iv (k + 1)))
    (∃ acc', M3 p = some (.dK acc') ∧ Iv (k + 1) acc' M3)) ∧
  ∀ acc M', Iv ds.length acc M' → M' p = some (.dK acc) → keep M' ∧ Q M'
def e3DcK2 (ti : I3) (i : Nat) (tt : T3) (ti1 : I3) (j : Nat) (tt1 : T3) (tk tv : E3) (vs vs1 : List Nat) : E3 := fun W env M Q => ti W env M fun ds keep M1 => ∀ p, M1 p = none → Loop2K ds keep i tt ti1 j tt1 tk tv vs1 (wipe3 env vs) p M1 fun M' => Q (.ref p) M'
section
variable {X : Cx}
theorem dck2_low {ti ti1 : I3} {i j : Nat} {tt tt1 : T3} {tk tv : E3} {vs vs1 : List Nat} {W2 W2b : WX} (hv : i ∈ vs) (hv1 : j ∈ vs1) (hW : W2b = fun _ _ _ _ => False) {σ : L2.St} {H : Hp} {Q2 : VK} (h : lowE X.K W2 (e3DcK2 ti i tt ti1 j tt1 tk tv vs vs1) σ H Q2) :
    tDcW (fun _ => .dK []) pDcK (lowI X.K W2 ti) (gName i) (lowT X.K W2b tt) (lowI X.K W2b ti1) (gName j) (lowT X.K W2b tt1) (lowE X.K W2b tk) (lowE X.K W2b tv) vs vs1 σ H Q2 := by
  subst hW
  obtain ⟨env, M, W, Q, s, a, l, q, g⟩ := h
  refine ⟨env, M, W, _, s, a, l, q, fun ds keep J H1 M1 t1 a1 q1 ok Dd nD => ?_⟩
  obtain ⟨Iv, h0, hst, hd⟩ := q1 Dd (a1.fresh nD)
  have sw := (s.mono t1).wipe vs
  refine ⟨fun k m H' => m = ds.length - k ∧ k ≤ ds.length ∧ ∃ acc M', Tps H1 H' ∧ Abs X.K M' H' ∧ Iv k acc M' ∧ M' Dd = some (.dK acc), ⟨ds.length, by simp, Nat.zero_le _, [], _, Tps.new nD, a1.dKN nD DR.nil, h0, updM_same⟩, ?_⟩
  rintro k m H' ⟨rfl, hk, acc, M', t2, a', iv, hD⟩
  by_cases hlt : k < ds.length
  · have hx : ds[k]? = some ds[k] := List.getElem?_eq_getElem hlt
    obtain ⟨hkeep, hg⟩ := hst k _ acc M' hx iv hD
    obtain ⟨go, yl⟩ := ok.step k _ H' M' hx t2 a' hkeep
    refine .inr ⟨go, fun H2 => ∃ acc M2, Tps H1 H2 ∧ Abs X.K M2 H2 ∧ Iv (k + 1) acc M2 ∧ M2 Dd = some (.dK acc), fun H2 hn => ⟨ds.length - (k + 1), by omega, rfl, hlt, hn⟩, fun x H2 y => ?_⟩
    obtain ⟨t3, a3, r3⟩ := yl x H2 y
    have t23 := t2.trans t3
    refine ⟨by rw [wipe_set hv, wipe_wipe fun _ h => h], ?_⟩
    have s2 : SE X.K H2 ((L2.wipe σ vs).set i (some x)) ((wipe3 env vs).set i (some ds[k])) := (sw.mono t23).set i r3
    refine ⟨_, M', W0, _, s2, a3, LW0, hg, fun b H3 M3 t4 a4 q4 => ?_⟩
    cases b with
    | false =>
      show if false = true then _ else _
      rw [if_neg Bool.false_ne_true]
      obtain ⟨acc', e1, iv'⟩ := q4.2 rfl
      exact ⟨acc', M3, t23.trans t4, a4, iv', e1⟩
    | true =>
      show if true = true then _ else _
      rw [if_pos rfl]
      refine ⟨_, M3, W0, _, s2.mono t4, a4, LW0, q4.1 rfl, fun ds1 keep1 J1 H4 M4 t5 a5 q5 ok1 => ?_⟩
      obtain ⟨Iv1, ⟨acc0, e0, i0⟩, hst1, hd1⟩ := q5
      have t45 := t4.trans t5
      have sw1 := (s2.mono t45).wipe vs1
      refine ⟨fun k1 m1 H' => m1 = ds1.length - k1 ∧ k1 ≤ ds1.length ∧ ∃ acc M', Tps H4 H' ∧ Abs X.K M' H' ∧ Iv1 k1 acc M' ∧ M' Dd = some (.dK acc), ⟨ds1.length, by simp, Nat.zero_le _, acc0, M4, Tps.refl _, a5, i0, e0⟩, ?_⟩
      rintro k1 m1 H5 ⟨rfl, hk1, acc1, M5, t6, a6, iv1, hD1⟩
      by_cases hlt1 : k1 < ds1.length
      · have hx1 : ds1[k1]? = some ds1[k1] := List.getElem?_eq_getElem hlt1
        obtain ⟨hkeep1, hg1⟩ := hst1 k1 _ acc1 M5 hx1 iv1 hD1
        obtain ⟨go1, yl1⟩ := ok1.step k1 _ H5 M5 hx1 t6 a6 hkeep1
        refine .inr ⟨go1, fun H2 => ∃ acc M2, Tps H4 H2 ∧ Abs X.K M2 H2 ∧ Iv1 (k1 + 1) acc M2 ∧ M2 Dd = some (.dK acc), fun H2 hn => ⟨ds1.length - (k1 + 1), by omega, rfl, hlt1, hn⟩, fun x1 H6 y1 => ?_⟩
        obtain ⟨t7, a7, r7⟩ := yl1 x1 H6 y1
        have t67 := t6.trans t7
        refine ⟨by rw [wipe_set hv1, wipe_wipe fun _ h => h], ?_⟩
        refine ⟨_, M5, W0, _, (sw1.mono t67).set j r7, a7, LW0, hg1, fun b H7 M7 t8 a8 q8 => ?_⟩
        cases b with
        | false =>
          show if false = true then _ else _
          rw [if_neg Bool.false_ne_true]
          obtain ⟨acc', e1, iv'⟩ := q8.2 rfl
          exact ⟨acc', M7, t67.trans t8, a8, iv', e1⟩
        | true =>
          show if true = true then _ else _
          rw [if_pos rfl]
          refine ⟨_, M7, W0, _, ((sw1.mono t67).set j r7).mono t8, a8, LW0, q8.1 rfl, fun d v H8 M8 t9 a9 r9 q9 => ?_⟩
          refine ⟨_, M8, W0, _, (((sw1.mono t67).set j r7).mono t8).mono t9, a9, LW0, q9, fun e u H9 M9 t10 a10 r10 q10 => ?_⟩
          obtain ⟨acc', key, rfl, e1, hz, iv'⟩ := q10
          obtain ⟨ws, hw, rw'⟩ := a10.dK e1
          cases kD_inv r9
          exact ⟨ws, key, rfl, hw, by rw [rw'.len]; exact hz, putD acc' key e, _, (((t67.trans t8).trans t9).trans t10).trans (Tps.dK hw), a10.dKU hw (rw'.put r10), iv', updM_same⟩
      · have e1 : k1 = ds1.length := by omega
        subst e1
        obtain ⟨hkeep1, hn⟩ := hd1 acc1 M5 iv1 hD1
        exact .inl ⟨ok1.stop H5 M5 t6 a6 hkeep1, acc1, M5, (t23.trans t45).trans t6, a6, hn, hD1⟩
  · have e : k = ds.length := by omega
    subst e
    obtain ⟨hkeep, hq⟩ := hd acc M' iv hD
    exact .inl ⟨ok.stop H' M' t2 a' hkeep, g _ _ H' M' (t1.trans t2) a' Rv.ref hq⟩
theorem put_dcK {scope : Scope} (s0 : Shared) (H0 : Hp) (ce : Env) (fp : List Addr) (pn : List (Addr × Obj)) (σ : L2.St) (H : Hp) (s : Shared) (Dd : Addr) (y z : V) (u r : Value) (Y : Hp → Prop) (Ex : Value → Shared → Prop)
    (I : Inv (X.blk s0 H0 scope ce fp) pn σ H s) (ry : RelV y u) (rz : RelV z r) (h : pDcK Dd y z H Y) :
      wpAny (model X.prog X.w) X.A (dictSet Dd u r) (fun _ s' => ∃ H', Inv (X.blk s0 H0 scope ce fp) pn σ H' s' ∧ Y H') Ex s := by
  obtain ⟨kvs, k, rfl, hx, hz, q⟩ := h
  exact d_dictSet (X := X.blk s0 H0 scope ce fp) I hx hz ry rz fun s' I' => ⟨_, I', q⟩
theorem d_dcK2 {kx vx iter iter1 : Expr} {ifs ifs1 : List Expr} {scope : Scope} {x y : Str} {i j : Nat} {p1 p2 pos : Pos} {ti ti1 : I3} {tt tt1 : T3} {tk tv : E3} (own : List (Str × Nat)) (hc : X.calm = true) (hN : X.N.Nodup) (hi : DI X (.Name x p1) iter ti) (ok : BlkOk X.N X.env.scope scope own) (hv : i ∈ own.map (·.2)) (hv1 : j ∈ own.map (·.2))
    (hg : Blk X scope fun s H C cl fp => PG (X.blk s H scope (compEnvC scope cl C X.env) fp) (.Name x p1) (gName i))
    (ht : Blk X scope fun s H C cl fp => DTs (X.blk s H scope (compEnvC scope cl C X.env) fp) ifs tt)
    (hi1 : Blk X scope fun s H C cl fp => DI (X.blk s H scope (compEnvC scope cl C X.env) fp) (.Name y p2) iter1 ti1)
    (hg1 : Blk X scope fun s H C cl fp => PG (X.blk s H scope (compEnvC scope cl C X.env) fp) (.Name y p2) (gName j))
    (ht1 : Blk X scope fun s H C cl fp => DTs (X.blk s H scope (compEnvC scope cl C X.env) fp) ifs1 tt1)
    (hk : Blk X scope fun s H C cl fp => DE (X.blk s H scope (compEnvC scope cl C X.env) fp) kx tk)
    (he : Blk X scope fun s H C cl fp => DE (X.blk s H scope (compEnvC scope cl C X.env) fp) vx tv) (hs : ∀ x, foldedSetIterable iter X.env x = pure x := by intro _; rfl) (hs1 : ∀ env x, foldedSetIterable iter1 env x = pure x := by intro _ _; rfl) :
    DE X (.DictComp kx vx [⟨.Name x p1, iter, ifs, 0⟩, ⟨.Name y p2, iter1, ifs1, 0⟩] scope pos) (e3DcK2 ti i tt ti1 j tt1 tk tv (own.map (·.2)) [j]) := fun W2 tks =>
  (pe_dcW (vj := [j]) (o := fun _ => .dK []) (p := pDcK) hc hN (fun H h hb => dk_empty h hb) put_dcK (hi W2 tks) ok (fun k hk => by rw [List.mem_singleton.mp hk]; exact hv1) hg (fun s H C cl fp => ht s H C cl fp _ takesF) (fun s H C cl fp => hi1 s H C cl fp _ takesF) hg1 (fun s H C cl fp => ht1 s H C cl fp _ takesF) (fun s H C cl fp => hk s H C cl fp _ takesF) (fun s H C cl fp => he s H C cl fp _ takesF) hs hs1).imp fun σ H Q2 h => dck2_low hv List.mem_cons_self rfl h
end
/-! ### sorted(a dict with int keys) -/
section
variable {X : Cx} {e : Expr} {u : A3} {p pos : Pos} {K : Fg}
def c3SortedD : List D → MH → Q3 → Prop
  | [.ref a], M, Q => ∃ (kvs : List (Key × D)) (ks : List Int), M a = some (.dK kvs) ∧ kvs.map (·.1) = ks.map Sum.inl ∧ ks.length < 64 ∧ ∀ (ys : List Int) (p : Addr), ys.Perm ks → ys.Pairwise (· ≤ ·) → M p = none → Q (.ref p) (updM M p (.lst (ys.map D.int)))
  | _, _, _ => False
theorem cl_sortedD : CallL K (fun xs H Q => ∃ (a : Addr) (kvs : List (Key × V)) (ks : List Int), xs = [.ref a] ∧ Rd H a (.dK kvs) ∧ kvs.map (·.1) = ks.map Sum.inl ∧ ks.length < 64 ∧
    ∀ (ys : List Int) (p : Addr), ys.Perm ks → ys.Pairwise (· ≤ ·) → H p = none → Q (.ref p) (upd H p (.lst (ys.map V.int)))) c3SortedD := by
  intro ds vs H M Q Q2 r a q g
  unfold c3SortedD at q
  split at q
  · obtain ⟨v, rfl, rr⟩ := one_inv r
    cases rr.ref_inv
    obtain ⟨kvs, ks, h1, h2, h3, q⟩ := q
    obtain ⟨ws, hw, rw'⟩ := a.dK h1
    exact ⟨_, ws, ks, rfl, .inl hw, rw'.1.trans h2, h3, fun ys q' hp hs' nq => g _ _ _ _ (Tps.new nq) (a.lstN nq Rvs.ints) Rv.ref (q ys q' hp hs' (a.fresh nq))⟩
  · exact q.elim
theorem d_sortedD (hc : X.calm = true) (hm : X.mg "sorted" = none) (ha : DA X [e] u) (hg : Gl X "sorted" := by rfl) (he : starEach (e :: []) X.env = (false, eval e X.env) :: starEach [] X.env := by rfl) (hpl : (backTo pos (starEach [] X.env)).any (·.1) = false := by rfl) : DE X (.Call (.Name "sorted" p) [e] [] pos) (e3CB c3SortedD u) :=
  d_cb (call_sortedDI hc) cl_sortedD hg hm boot_sorted' ha (by decide) (by decide) he hpl
/-! ### sum(list of ints) -/
def c3Sum : List D → MH → Q3 → Prop
  | [.ref l], M, Q => ∃ ns : List Int, LstM M l (ns.map D.int) ∧ Q (.int ns.sum) M
  | _, _, _ => False
theorem cl_sum : CallL K (rSum K) c3Sum := by
  intro ds vs H M Q Q2 r a q g
  unfold c3Sum at q
  split at q
  · obtain ⟨v, rfl, rr⟩ := one_inv r
    cases rr.ref_inv
    obtain ⟨ns, hl, q⟩ := q
    obtain ⟨ws, hs, hw⟩ := a.rd hl
    rw [Rvs.intsV hw] at hs
    exact ⟨_, ns, rfl, hs, g _ _ _ _ (Tps.refl H) a Rv.int q⟩
  · exact q.elim
theorem d_sum (hc : X.calm = true) (hm : X.mg "sum" = none) (ha : DA X [e] u) (hg : Gl X "sum" := by rfl) (he : starEach (e :: []) X.env = (false, eval e X.env) :: starEach [] X.env := by rfl) (hpl : (backTo pos (starEach [] X.env)).any (·.1) = false := by rfl) : DE X (.Call (.Name "sum" p) [e] [] pos) (e3CB c3Sum u) :=
  d_cb (cr_sum hc) cl_sum hg hm boot_sum' ha (by decide) (by decide) he hpl
end
end L3

namespace L3
open PySem PySem.Spec PyProof.Rows L2
/-! ### zip of a list or tuple with a list or tuple -/
/-- true: a tuple; false: a list -/
def ItB : Bool → Heap → Addr → Addr → Nat → Prop
  | true, h, it, l, i => h.IsTupleIter it l i
  | false, h, it, l, i => h.IsListIter it l i
def SeqB : Bool → Heap → Addr → Array Value → Prop
  | true, h, l, xs => h.IsTuple l xs
  | false, h, l, xs => h.IsList l xs
def obB : Bool → Addr → Obj
  | true, l => { cls := .type "tuple_iterator", data := .fields #[.ref l, .int 0 0] }
  | false, l => { cls := .type "list_iterator", data := .fields #[.ref l, .int 0 0] }
theorem ItB.at_ {b : Bool} {h h' : Heap} {it l : Addr} {i : Nat} (x : ItB b h it l i) (e : ∀ o, h.get? it = some o → h'.get? it = some o) : ItB b h' it l i := by
  cases b with
  | true => exact Heap.IsTupleIter.at x e
  | false => exact Heap.IsListIter.at x e
theorem ItB.obj {b : Bool} {h : Heap} {it l : Addr} {i : Nat} (x : ItB b h it l i) : ∃ o, h.get? it = some o ∧ ∀ v, o.data ≠ .cell v := by
  cases b with
  | true => obtain ⟨o, e, _, d⟩ := x; exact ⟨o, e, fun v z => by rw [d] at z; cases z⟩
  | false => obtain ⟨o, e, _, d⟩ := x; exact ⟨o, e, fun v z => by rw [d] at z; cases z⟩
theorem drawB {prg : Program} {wd : World} {Ar : Around} (calm : Ar.handled = none) (b : Bool) (it l : Addr) (ne : l ≠ it) (items : Array Value) :
    Draws prg wd Ar it [it, l] items.size (fun i v => items[i]? = some v) (fun i h => ItB b h it l i ∧ SeqB b h l items) := by
  cases b with
  | true => exact Draws.tuple calm it l ne items
  | false => exact Draws.list calm it l ne items
theorem beginB (b : Bool) (l : Addr) (items : Array Value) : Begins (.ref l) (obB b l) fun h => SeqB b h l items := by
  cases b with
  | true => exact begins_tuple l items
  | false => exact begins_list l items
theorem itB_new {b : Bool} {h : Heap} {it l : Addr} (e : h.get? it = some (obB b l)) : ItB b h it l 0 := by
  cases b with
  | true => exact ⟨_, e, rfl, rfl⟩
  | false => exact ⟨_, e, rfl, rfl⟩
/-- what stands at a -/
def SqB (K : Fg) : Bool → Hp → Addr → List V → Prop
  | true, H, a, xs => SqT K H a xs
  | false, H, a, xs => SqL K H a xs
section
variable {X : Cx} {e e2 : Expr} {pos p : Pos} {u : A3} {K : Fg}
theorem inv_seqB {pins : List (Addr × Obj)} {σ : L2.St} {H : Hp} {s : Shared} {b : Bool} {a : Addr} {xs : List V} (I : Inv X pins σ H s) (h : SqB X.K b H a xs) : ∃ its : List Value, Vals xs its ∧ SeqB b s.heap a its.toArray := by
  cases b with
  | true => obtain ⟨its, rv, q, _⟩ := I.tuple h; exact ⟨its, rv, q⟩
  | false => obtain ⟨its, rv, q, _⟩ := I.list h; exact ⟨its, rv, q.isList⟩
theorem inv_seqB_inj {pins : List (Addr × Obj)} {σ : L2.St} {H : Hp} {s : Shared} {b : Bool} {a : Addr} {xs ys : List V} (I : Inv X pins σ H s) (h : SqB X.K b H a xs) (h' : SqB X.K b H a ys) : xs = ys := by
  cases b with
  | true => exact I.tuple_inj h h'
  | false => exact I.list_inj h h'
theorem SeqB.lt {b : Bool} {h : Heap} {l : Addr} {xs : Array Value} (x : SeqB b h l xs) : l < h.objs.size := by
  cases b with
  | true => obtain ⟨o, e, _⟩ := x; exact Heap.lt_size e
  | false => obtain ⟨o, e, _⟩ := x; exact Heap.lt_size e
def IzB (K : Fg) (b1 b2 : Bool) (a b : Addr) : It :=
  ⟨fun i H => ∃ (xs ys : List V) (x y : V), SqB K b1 H a xs ∧ SqB K b2 H b ys ∧ xs[i]? = some x ∧ ys[i]? = some y,
   fun i H v H' => ∃ T x y ob, v = .ref T ∧ H T = none ∧ ob.dict = none ∧ H' = upd H T (.frz ob (.tup [x, y])) ∧ (∀ xs, SqB K b1 H a xs → xs[i]? = some x) ∧ ∀ ys, SqB K b2 H b ys → ys[i]? = some y,
   fun i H => ∃ xs ys : List V, SqB K b1 H a xs ∧ SqB K b2 H b ys ∧ i ≤ xs.length ∧ i ≤ ys.length ∧ (xs.length = i ∨ ys.length = i)⟩
theorem sepB {z TI TO i1 i2 a b : Addr} (D : ZipApart z TI TO i1 i2 a b) : ZipSep2 z TI TO i1 i2 [i1, a] [i2, b] where
  TIz := D.TIz
  TOz := D.TOz
  TITO := D.TITO
  TIi1 := D.TIi1
  mem1 := by simp
  zf1 := by simp [D.i1z.symm, D.l1z.symm]
  Tf1 := by simp [D.TOi1, D.l1TO.symm]
  TIi2 := D.TIi2
  mem2 := by simp
  zf2 := by simp [D.i2z.symm, D.l2z.symm]
  Tf2 := by simp [D.TOi2, D.l2TO.symm]
  sep1_2 := by simp [D.i12, D.l2i1.symm]
  sep2_1 := by simp [D.i12.symm, D.l1i2.symm]
theorem turn_zipB {P : Program} {w : World} {K : Fg} {elts : List Expr} {kk : Nat} {tpos : Pos} {b1 b2 : Bool} {a b z TI TO i1 i2 : Addr} (D : ZipApart z TI TO i1 i2 a b) :
    Turn P w K (.Tuple elts kk tpos) (IzB K b1 b2 a b) [z, TI, TO, i1, i2] z (fun i h => IsZip h z TI TO .none ∧ IsPair h TI (.ref i1) (.ref i2) ∧ (∃ x y, IsPair h TO x y) ∧ ItB b1 h i1 a i ∧ ItB b2 h i2 b i) where
  mem := List.mem_cons_self
  obj := fun i h ⟨hz, hTI, ⟨x, y, hTO⟩, h1, h2⟩ c hc => by
    simp only [List.mem_cons, List.not_mem_nil, or_false] at hc
    rcases hc with rfl | rfl | rfl | rfl | rfl
    · exact ⟨_, hz, fun v q => nomatch q⟩
    · exact ⟨_, hTI, fun v q => nomatch q⟩
    · exact ⟨_, hTO, fun v q => nomatch q⟩
    · exact h1.obj
    · exact h2.obj
  keep := fun i h h' ⟨hz, hTI, ⟨x, y, hTO⟩, h1, h2⟩ k => ⟨k z (by simp) _ hz, k TI (by simp) _ hTI, ⟨x, y, k TO (by simp) _ hTO⟩, h1.at_ (k i1 (by simp)), h2.at_ (k i2 (by simp))⟩
  item := by
    rintro X rfl rfl rfl calm i pins s σ H E I hf ⟨hz, hTI, ⟨x0, y0, hTO⟩, h1, h2⟩ ⟨xs, ys, x, y, hqx, hqy, hx, hy⟩
    obtain ⟨its, rv, p⟩ := inv_seqB I hqx
    obtain ⟨its2, rv2, p2⟩ := inv_seqB I hqy
    obtain ⟨v, hv, rx⟩ := rv.get hx
    obtain ⟨v2, hv2, ry⟩ := rv2.get hy
    have small : ∀ c ∈ [z, TI, TO, i1, i2], c < s.heap.objs.size := fun c hcm => by
      simp only [List.mem_cons, List.not_mem_nil, or_false] at hcm
      rcases hcm with rfl | rfl | rfl | rfl | rfl
      · exact Heap.lt_size hz
      · exact Heap.lt_size hTI
      · exact Heap.lt_size hTO
      · obtain ⟨o, e, _⟩ := h1.obj; exact Heap.lt_size e
      · obtain ⟨o, e, _⟩ := h2.obj; exact Heap.lt_size e
    have hd : X.A.in1.handled = none := by rw [show X.A.in1.handled = X.A.handled from rfl]; exact I.ok.hd calm
    refine wpAny_pyNext_zipD2_item (sepB D) (drawB hd b1 i1 a D.l1i1 its.toArray) (drawB hd b2 i2 b D.l2i2 its2.toArray) hz hTI hTO ⟨h1, p⟩ ⟨h2, p2⟩ (i := i) (by have := (List.getElem?_eq_some_iff.mp hv).1; simpa using this) (by have := (List.getElem?_eq_some_iff.mp hv2).1; simpa using this)
      fun u1 u2 h3 tk e1 e2 z3 TO3 st1 st2 hT hsz hk => ?_
    have f1 : u1 = v := by
      have e1 : its[i]? = some u1 := by simpa using e1
      rw [hv] at e1
      exact (Option.some.inj e1).symm
    have f2 : u2 = v2 := by
      have e2 : its2[i]? = some u2 := by simpa using e2
      rw [hv2] at e2
      exact (Option.some.inj e2).symm
    subst f1
    subst f2
    refine ⟨_, rfl, wpAny_letOwnedTupleGo_zip (s := { s with heap := h3, toks := tk }) z3 fun h4 z4 sb => ?_⟩
    have hT2 : IsPair h4 s.heap.objs.size u1 u2 := (sb.2 _ (Nat.ne_of_gt (small z (by simp)))).trans hT
    have kept : ∀ (c : Addr) (ob : Obj), c ∉ [z, TI, TO, i1, i2] → s.heap.get? c = some ob → h4.get? c = some ob := fun c ob hb q =>
      (sb.2 c (fun q' => hb (by simp [q']))).trans (hk c ob (fun q' => hb (by simp [q'])) (fun q' => hb (by simp [q'])) (fun q' => hb (by simp [q'])) (fun q' => hb (by simp [q'])) q)
    have I1 : Inv X pins σ (upd H s.heap.objs.size (.frz { cls := .type "tuple", data := .seq #[u1, u2] } (.tup [x, y]))) { s with heap := h4, toks := tk } :=
      I.turnedNew (t' := tk) (ch := [z, TI, TO, i1, i2]) kept hf (Nat.le_refl _) ⟨hT2, by show 2 ≤ sizeLine; decide, [u1, u2], .cons rx (.cons ry .nil), ⟨_, hT2, rfl, _, rfl⟩⟩
    refine ⟨.ref s.heap.objs.size, _, I1, rfl, ⟨_, x, y, _, rfl, I.hok.fresh (Nat.le_refl _), rfl, rfl, fun l hl => by rw [inv_seqB_inj I hl hqx]; exact hx, fun l hl => by rw [inv_seqB_inj I hl hqy]; exact hy⟩,
      ⟨z4, (sb.2 _ D.TIz).trans (hk _ _ D.TIz D.TITO D.TIi1 D.TIi2 hTI), ⟨u1, u2, (sb.2 _ D.TOz).trans TO3⟩, st1.1.at_ fun ob q => (sb.2 _ D.i1z).trans q, st2.1.at_ fun ob q => (sb.2 _ D.i2z).trans q⟩, fun c hcm => ?_⟩
    rw [upd_ne (Nat.ne_of_lt (small c hcm))]
    exact (hf c hcm).1
  done := by
    rintro X rfl rfl rfl calm i pins s σ H E I hf ⟨hz, hTI, ⟨x0, y0, hTO⟩, h1, h2⟩ ⟨xs, ys, hqx, hqy, le1, le2, ends⟩
    obtain ⟨its, rv, p⟩ := inv_seqB I hqx
    obtain ⟨its2, rv2, p2⟩ := inv_seqB I hqy
    have l1 := rv.length
    have l2 := rv2.length
    have hd : X.A.in1.handled = none := by rw [show X.A.in1.handled = X.A.handled from rfl]; exact I.ok.hd calm
    exact wpAny_pyNext_zipD2_end (sepB D) (drawB hd b1 i1 a D.l1i1 its.toArray) (drawB hd b2 i2 b D.l2i2 its2.toArray) hz hTI hTO ⟨h1, p⟩ ⟨h2, p2⟩ (i := i) (by simp; omega) (by simp; omega) (by simp; omega)
      fun h' tk hk => ⟨rfl, I.turnedL (t' := tk) (ch := [z, TI, TO, i1, i2]) (fun c o hb q => hk c o (fun q' => hb (by simp [q'])) (fun q' => hb (by simp [q'])) (fun q' => hb (by simp [q'])) (fun q' => hb (by simp [q'])) q) hf⟩
  self := fun A i s Q E st h => wpAny_pyIter_zip st.1 h
def iZipB (K : Fg) (ta : TA) : TI := fun σ H R => ta σ H fun vs H1 => ∃ b1 b2 a b xs ys, vs = [.ref a, .ref b] ∧ SqB K b1 H1 a xs ∧ SqB K b2 H1 b ys ∧ R (IzB K b1 b2 a b) H1
theorem pi_zipB {ta : TA} {tpos : Pos} {elts : List Expr} {kk : Nat} (hg : Gl X "zip") (hm : X.mg "zip" = none) (ha : PA X [e, e2] ta) (hs : starEach [e, e2] X.env = (false, eval e X.env) :: starEach [e2] X.env) (hpl : (backTo pos (starEach [e2] X.env)).any (·.1) = false) :
    PI X (.Tuple elts kk tpos) (.Call (.Name "zip" p) [e, e2] [] pos) (iZipB X.K ta) :=
  ⟨fun pins s σ H R I h => Call_ (ld_blt I hg hm PyProof.Rows.boot_zip (PyProof.Rows.callWith_type1 (thn (ha.run pos pins s σ H _ I h) fun us s1 ⟨vs, H1, I1, r1, b1, b2, a, b, xs, ys, ex, hqx, hqy, q⟩ => by
    subst ex
    obtain ⟨v, v2, rfl, rv, rv2⟩ := vals2 r1
    cases rv
    cases rv2
    obtain ⟨its, rt, p1⟩ := inv_seqB I1 hqx
    obtain ⟨its2, rt2, p2⟩ := inv_seqB I1 hqy
    refine zip_begins2 (beginB b1 a its.toArray) (beginB b2 b its2.toArray) p1 p2 fun h' hz hTI hTO h1 h2 hsz hk => wpAny_pyIter_zip hz ?_
    refine ⟨s1.heap.objs.size + 4, [s1.heap.objs.size + 4, s1.heap.objs.size + 2, s1.heap.objs.size + 3, s1.heap.objs.size, s1.heap.objs.size + 1], _, _, H1, rfl, I1.kept (t' := s1.toks) hk, turn_zipB (PySem.W.ktu_apart s1.heap.objs.size a b p1.lt p2.lt), ⟨hz, hTI, ⟨_, _, hTO⟩, itB_new h1, itB_new h2⟩, fun c hcm => ?_, q⟩
    have hle : s1.heap.objs.size ≤ c := by
      simp only [List.mem_cons, List.not_mem_nil, or_false] at hcm
      rcases hcm with rfl | rfl | rfl | rfl | rfl <;> first | exact Nat.le_add_right _ _ | exact Nat.le_refl _
    exact I1.fpOk hle (I1.hok.fresh hle)) hs hpl))⟩
theorem seqB_rd {H : Hp} {M : MH} {x : D} {v : V} {ds : List D} (r : Rv K H x v) (a : Abs K M H) (h : Seq3 M ds x) : ∃ (b : Bool) (p : Addr), v = .ref p ∧ (∃ vs, SqB K b H p vs ∧ Rvs K H ds vs) ∧
    ∀ (M' : MH) (H' : Hp), Tps H H' → Abs K M' H' → Seq3 M' ds x → ∃ vs, SqB K b H' p vs ∧ Rvs K H' ds vs := by
  cases x with
  | tup es =>
    obtain rfl : es = ds := h
    obtain ⟨p, ws, rfl, hs, hv⟩ := r.tup_inv
    exact ⟨true, p, rfl, ⟨ws, hs, hv⟩, fun M' H' t _ _ => ⟨ws, t.seq hs, hv.mono t⟩⟩
  | ref l =>
    obtain rfl := r.ref_inv
    exact ⟨false, l, rfl, a.rd h, fun M' H' _ a' h' => a'.rd h'⟩
  | _ => exact h.elim
theorem itok_zipB {H : Hp} {p q : Addr} {b1 b2 : Bool} {x y : D} {ds es : List D}
    (k1 : ∀ (M' : MH) (H' : Hp), Tps H H' → Abs K M' H' → Seq3 M' ds x → ∃ vs, SqB K b1 H' p vs ∧ Rvs K H' ds vs)
    (k2 : ∀ (M' : MH) (H' : Hp), Tps H H' → Abs K M' H' → Seq3 M' es y → ∃ vs, SqB K b2 H' q vs ∧ Rvs K H' es vs) : ItOk K H (zipD ds es) (fun M' => Seq3 M' ds x ∧ Seq3 M' es y) (IzB K b1 b2 p q) where
  step := fun i d H' M' hd t a ⟨g1, g2⟩ => by
    obtain ⟨u, v, hu, hv, rfl⟩ := zipD_get hd
    obtain ⟨vs, s1, r1⟩ := k1 M' H' t a g1
    obtain ⟨ws, s2, r2⟩ := k2 M' H' t a g2
    obtain ⟨u', h1, ru⟩ := r1.get hu
    obtain ⟨v', h2, rv⟩ := r2.get hv
    refine ⟨⟨vs, ws, u', v', s1, s2, h1, h2⟩, ?_⟩
    rintro z H2 ⟨T, z1, z2, ob, rfl, nT, dT, rfl, e1, e2⟩
    have e1 := e1 vs s1
    have e2 := e2 ws s2
    rw [h1] at e1
    rw [h2] at e2
    cases e1
    cases e2
    exact ⟨Tps.new nT, a.tupN nT, Rv.tup (SqD.of dT) (Rvs.cons (ru.mono (Tps.new nT)) (Rvs.cons (rv.mono (Tps.new nT)) Rvs.nil))⟩
  stop := fun H' M' t a ⟨g1, g2⟩ => by
    obtain ⟨vs, s1, r1⟩ := k1 M' H' t a g1
    obtain ⟨ws, s2, r2⟩ := k2 M' H' t a g2
    exact ⟨vs, ws, s1, s2, by rw [zipD_length, ← r1.length]; omega, by rw [zipD_length, ← r2.length]; omega, by rw [zipD_length, ← r1.length, ← r2.length]; omega⟩
/-- zip(x, y), lists or tuples -/
def i3ZipX (u : A3) : I3 := fun W env M Q => u W env M fun ds M1 => match ds with
  | [x, y] => ∃ xs ys, Seq3 M1 xs x ∧ Seq3 M1 ys y ∧ Q (zipD xs ys) (fun M' => Seq3 M' xs x ∧ Seq3 M' ys y) M1
  | _ => False
theorem di_zipX {elts : List Expr} {kk : Nat} {tpos : Pos} (hm : X.mg "zip" = none) (ha : DA X [e, e2] u) (hg : Gl X "zip" := by rfl) (hs : starEach [e, e2] X.env = (false, eval e X.env) :: starEach [e2] X.env := by rfl) (hpl : (backTo pos (starEach [e2] X.env)).any (·.1) = false := by rfl) :
    DI X (.Tuple elts kk tpos) (.Call (.Name "zip" p) [e, e2] [] pos) (i3ZipX u) := fun W2 tk =>
  (pi_zipB hg hm (ha W2 tk) hs hpl).imp fun σ H R ⟨env, M, W, Q, s, a, l, q, k⟩ => ⟨env, M, W, _, s, a, l, q, fun ds vs H1 M1 t1 a1 r1 q1 => by
    split at q1
    · obtain ⟨v, v2, rfl, ra, rb⟩ := two_inv r1
      obtain ⟨xs, ys, g1, g2, q1⟩ := q1
      obtain ⟨b1, p1, rfl, ⟨vs1, s1, _⟩, k1⟩ := seqB_rd ra a1 g1
      obtain ⟨b2, p2, rfl, ⟨vs2, s2, _⟩, k2⟩ := seqB_rd rb a1 g2
      exact ⟨b1, b2, p1, p2, vs1, vs2, rfl, s1, s2, k _ _ _ H1 M1 t1 a1 q1 (itok_zipB k1 k2)⟩
    · exact q1.elim⟩
end
end L3

namespace L3
open PySem PySem.Spec PyProof.Rows L2
/-! ### sorted(set(x)), x a list or a tuple of few ints -/
def freshSet (w : World) : Obj := { cls := .type "set", dict := none, data := .set #[] 0 (.fresh 0 0 (!w.params.followText "set-order")) }
section
variable {P : Program} {w : World} {A : Around} {E : Value → Shared → Prop} {s : Shared}
theorem set_of_list {l : Addr} {items : Array Value} (ns : List Int) {Q : Value → Shared → Prop} (calm : A.handled = none) (isL : s.heap.IsList l items) (are : IntsAre items.toList ns) (few : ns.length + 1 < scanBound)
    (q : ∀ (h' : Heap) (tk c : Nat), SetR w h' s.heap.objs.size (fun j => decide (j ∈ ns)) c → c ≤ ns.length → (∀ b o, s.heap.get? b = some o → h'.get? b = some o) → Q (.ref s.heap.objs.size) { s with heap := h', toks := tk }) :
    wpAny (model P w) A (call (.type "set") [.ref l]) Q E s := by
  have many : items.size = ns.length := by have e := IntsAre.length are; rwa [Array.length_toList] at e
  obtain ⟨mc, mt, mro⟩ := F.called_set.mro
  have c1 := F.called_set.made
  have c2 := F.called_set.sub
  have c3 := F.called_set.notType
  have c4 := F.called_set.canCreate
  have c5 := F.typeCall_set_1 (.ref l)
  refine wpAny_call (codeAny_of_tree (show wpAny _ _ (callAny (.type "set") _) _ _ _ from wpAny_pure ⟨Code.quiet_builtin _ (by decide +kernel), codeAny_builtin F.entry_type_call ?_⟩))
  rw [Around.under_plain (weight_type_call_type "set" [.ref l] []) rfl]
  repeat any_goals first | assumption | wp_step
  refine codeAny_mono (code_set_led1 (.ref l) (E := E) (Q₁ := fun ob sa => ob = .ref s.heap.objs.size ∧ sa = { s with heap := s.heap.push (freshSet w) }) ⟨rfl, rfl⟩) fun r sa hr => ?_
  match r, hr with
  | .error e, hr => exact hr
  | .ok .next, hr => exact hr.elim
  | .ok .brk, hr => exact hr.elim
  | .ok .cont, hr => exact hr.elim
  | .ok (.ret ob), hr =>
    obtain ⟨rfl, rfl⟩ := hr
    have here : (s.heap.push (freshSet w)).get? s.heap.objs.size = some (freshSet w) := Heap.get?_push_size _ rfl
    have typ : Shared.TypeIs { s with heap := s.heap.push (freshSet w) } (.ref s.heap.objs.size) "set" := ⟨_, here, rfl⟩
    have d1 := F.called_set.init.lookup
    have d2 := F.called_set.init.bind (.ref s.heap.objs.size)
    repeat any_goals first | assumption | wp_step
    refine codeAny_mono (codeAny_call_builtin (R := wants (fun r sb => r = .none ∧ ∃ h' tk c, sb = { s with heap := h', toks := tk } ∧ SetR w h' s.heap.objs.size (fun j => decide (j ∈ ns)) c ∧ c ≤ ns.length ∧ ∀ b o, s.heap.get? b = some o → h'.get? b = some o) E)
      F.called_set.init.plain F.entry_set_init (check_set_init_1 typ ?_)) fun r2 sb hr2 => ?_
    · obtain ⟨⟨cls, dict, data, slots⟩, at_, hc, nl, hd⟩ := isL
      simp only at hc hd
      subst hc; subst hd
      have at1 : (s.heap.push (freshSet w)).get? l = some { cls := .type "list", dict := dict, data := .seq items nl, slots := slots } := Heap.get?_push_of_some _ at_
      have e1 := F.sub_list_set
      have e2 := F.sub_list_frozenset
      have e3 : (Value.type "list" == Value.type "dict") = false := by decide
      have isL1 : (s.heap.push (freshSet w)).IsList l items := ⟨_, at1, rfl, nl, rfl⟩
      unfold Builtin.«set.__init__» noKeywords Builtin.Frozenset.updateFrom
      generalize hPI : pyIter = PI
      wp_walk
      subst hPI
      refine wpAny_pyIter_list isL1 (wpAny_bind (wpAny_runValue ?_))
      have low : l < s.heap.objs.size := Heap.lt_size at_
      have sz : (s.heap.push (freshSet w)).objs.size = s.heap.objs.size + 1 := Heap.size_push ..
      have apart : l ≠ (s.heap.push (freshSet w)).objs.size := by rw [sz]; exact Nat.ne_of_lt (Nat.lt_succ_of_lt low)
      have out : s.heap.objs.size ∉ [(s.heap.push (freshSet w)).objs.size, l] := by
        rw [sz]
        simp only [List.mem_cons, List.not_mem_nil, or_false, not_or]
        exact ⟨Nat.ne_of_lt (Nat.lt_succ_self _), Nat.ne_of_gt low⟩
      refine set_update_ints ((Walks.list (show A.in1.in1.in1.handled = none by simp [calm]) _ l apart items).toS) s.heap.objs.size out ns many few (fun i v hv => ?_) (items.size - 0) 0 _ (by omega) (Nat.zero_le _) ⟨⟨_, Heap.get?_push_size _ rfl, rfl, rfl⟩, isL1.push _⟩ ?_ ?_
      · have hi : i < ns.length := by rw [← many]; exact (Array.getElem?_eq_some_iff.mp hv).1
        obtain ⟨t, e⟩ := PyProof.Rows.IntsAre.int_at are i v (by rw [Array.getElem?_toList]; exact hv)
        refine ⟨ns[i], t, List.getElem?_eq_getElem hi, ?_⟩
        rw [e, List.getD_eq_getElem?_getD, List.getElem?_eq_getElem hi]
        rfl
      · exact ⟨0, Nat.le_refl 0, setR_new_at (Heap.get?_push_of_some _ here)⟩
      · rintro ⟨h', gens, drawn, toks, os⟩ c mv hle R
        cases (show gens = s.gens from mv.gens)
        cases (show drawn = s.drawn from mv.drawn)
        cases (show os = s.os from mv.os)
        refine wpAny_pure (show wpAny _ _ (ret Value.none) _ _ _ from wpAny_pure ⟨rfl, h', toks, c, rfl, R, by rw [← many]; exact hle, fun b o e => ?_⟩)
        have hb := Heap.lt_size e
        refine mv.heap b o ?_ (Heap.get?_push_of_some _ (Heap.get?_push_of_some _ e))
        rw [sz]
        simp only [List.mem_cons, List.not_mem_nil, or_false, not_or]
        exact ⟨Nat.ne_of_lt hb, Nat.ne_of_lt (Nat.lt_succ_of_lt hb)⟩
    · match r2, hr2 with
      | .error e, hr2 => exact hr2
      | .ok .next, hr2 => exact hr2.elim
      | .ok .brk, hr2 => exact hr2.elim
      | .ok .cont, hr2 => exact hr2.elim
      | .ok (.ret r), hr2 =>
        obtain ⟨rfl, h', tk, c, rfl, R, hle, keep⟩ := hr2
        repeat any_goals first | assumption | wp_step
        exact q _ _ _ R hle keep
end
section
variable {X : Cx} {e : Expr} {u : A3} {p pos pos2 p2 : Pos} {K : Fg}
def rSetI (K : Fg) (w : World) : List V → Hp → VK → Prop := fun vs H Q => ∃ (a : Addr) (ns : List Int), vs = [V.ref a] ∧ (SqL K H a (ns.map V.int) ∨ SqT K H a (ns.map V.int)) ∧ ns.length < 63 ∧
  ∀ (p : Addr) (c : Nat), H p = none → c ≤ ns.length → Q (.ref p) (upd H p (SetO w p (fun j => decide (j ∈ ns)) c))
theorem scan64 : 64 ≤ scanBound := by decide
theorem cr_setI (hc : X.calm = true) : CallR X (.type "set") (rSetI X.K X.w) := by
  rintro pins s σ H vs us Q I r ⟨a, ns, rfl, hs, h63, q⟩
  have few : ns.length + 1 < scanBound := Nat.lt_of_lt_of_le (by omega) scan64
  have fin : ∀ (h' : Heap) (tk c : Nat), SetR X.w h' s.heap.objs.size (fun j => decide (j ∈ ns)) c → c ≤ ns.length → (∀ b o, s.heap.get? b = some o → h'.get? b = some o) → EP X pins σ Q (.ref s.heap.objs.size) { s with heap := h', toks := tk } := fun h' tk c R hle k =>
    ⟨.ref s.heap.objs.size, _, I.laid (t' := tk) (fun b o e => k b o e) (Nat.le_refl _) (setO_new R), rfl, q _ c (I.hok.fresh (Nat.le_refl _)) hle⟩
  rw [Vals.ref1 r]
  rcases hs with hs | hs
  · obtain ⟨its, rv, pl, _⟩ := I.list hs
    exact set_of_list ns (I.ok.hd hc) pl.isList (by simpa using rv.ints) few fin
  · obtain ⟨its, rv, pl, _⟩ := I.tuple hs
    exact call_set_tupI ns (I.ok.hd hc) pl (by simpa using rv.ints) few fin
def c3SortedSet : List D → MH → Q3 → Prop := fun ds M Q => ∃ (d : D) (ns : List Int), ds = [d] ∧ Seq3 M (ns.map D.int) d ∧ ns.length < 63 ∧
  ∀ (ms : List Int) (q : Addr), ms.Pairwise (· < ·) → (∀ k, k ∈ ms ↔ k ∈ ns) → M q = none → Q (.ref q) (updM M q (.lst (ms.map D.int)))
theorem d_sortedSet (hc : X.calm = true) (hm : X.mg "sorted" = none) (hm2 : X.mg "set" = none) (ha : DA X [e] u) (hg : Gl X "sorted" := by rfl) (hg2 : Gl X "set" := by rfl)
    (he : starEach (e :: []) X.env = (false, eval e X.env) :: starEach [] X.env := by rfl) (hpl : (backTo pos2 (starEach [] X.env)).any (·.1) = false := by rfl)
    (he2 : starEach (.Call (.Name "set" p2) [e] [] pos2 :: []) X.env = (false, eval (.Call (.Name "set" p2) [e] [] pos2) X.env) :: starEach [] X.env := by rfl) (hpl2 : (backTo pos (starEach [] X.env)).any (·.1) = false := by rfl) :
    DE X (.Call (.Name "sorted" p) [.Call (.Name "set" p2) [e] [] pos2] [] pos) (e3CB c3SortedSet u) := fun W2 tk =>
  (pe_callB (cr_sortedSet hc) hg hm boot_sorted' (pa_cons (pe_callTy (cr_setI hc) hg2 hm2 boot_set (ha W2 tk) (by decide) (by decide) he hpl) pa_nil) (by decide) (by decide) he2 hpl2).imp fun σ H Q2 h => by
    obtain ⟨env, M, W, Q, s, a, l, q, g⟩ := h
    refine ⟨env, M, W, _, s, a, l, q, fun ds vs H1 M1 t1 a1 r1 q1 => ?_⟩
    obtain ⟨d, ns, rfl, hs, h63, q1⟩ := q1
    obtain ⟨v, rfl, rv⟩ := one_inv r1
    have key : ∃ b, v = .ref b ∧ (SqL X.K H1 b (ns.map V.int) ∨ SqT X.K H1 b (ns.map V.int)) := by
      cases d with
      | tup es =>
        obtain rfl : es = ns.map D.int := hs
        obtain ⟨b, vs, rfl, hq, hv⟩ := rv.tup_inv
        rw [Rvs.intsV hv] at hq
        exact ⟨b, rfl, .inr hq⟩
      | ref l =>
        obtain ⟨vs, hq, hv⟩ := a1.rd (show LstM M1 l (ns.map D.int) from hs)
        rw [Rvs.intsV hv] at hq
        exact ⟨l, rv.ref_inv, .inl hq⟩
      | _ => exact hs.elim
    obtain ⟨b, rfl, hq⟩ := key
    refine ⟨b, ns, rfl, hq, h63, fun p c np hle => ?_⟩
    refine ⟨p, _, c, rfl, upd_same, by omega, fun ms q hp hm hl nq => ?_⟩
    exact g _ _ _ _ ((t1.trans (Tps.new np)).trans (Tps.new nq)) ((a1.tupN np).lstN nq Rvs.ints) Rv.ref (q1 ms q hp (fun k => by rw [hm k]; simp) ((a1.tupN np).fresh nq))
end
section
variable {X : Cx} {e e2 o : Expr} {u : A3} {to : E3} {K : Fg}
/-! ### l.insert(i, x) -/
def m3Ins (l : Addr) : List D → MH → Q3 → Prop
  | [.int i, d], M, Q => ∃ ds, M l = some (.lst ds) ∧ ds.length < sizeLine ∧ 0 ≤ i ∧ i < 2 ^ 63 ∧ Q .non (updM M l (.lst (ds.take i.toNat ++ [d] ++ ds.drop i.toNat)))
  | _, _, _ => False
theorem ml_ins : MtL K (fun x vs H Q => ∃ (l : Addr) (xs : List V) (i : Int) (y : V), x = .ref l ∧ vs = [.int i, y] ∧ H l = some (.lst xs) ∧ xs.length < sizeLine ∧ 0 ≤ i ∧ i < 2 ^ 63 ∧ Q .non (upd H l (.lst (xs.take i.toNat ++ [y] ++ xs.drop i.toNat)))) m3Ins := by
  intro l xs vs H M Q Q2 r a q g
  unfold m3Ins at q
  split at q
  · obtain ⟨v, w, rfl, r1, r2⟩ := two_inv r
    cases r1.int_inv
    obtain ⟨ds, h1, hz, b0, b1, q⟩ := q
    obtain ⟨ws, hw, rw'⟩ := a.lst h1
    exact ⟨l, ws, _, w, rfl, rfl, hw, by rw [← rw'.length]; exact hz, b0, b1, g _ _ _ _ (Tps.lst hw) (a.lstU hw (((rw'.take _).app (Rvs.cons r2 Rvs.nil)).app (rw'.drop _))) Rv.non q⟩
  · exact q.elim
theorem d_insert {apos cpos : Pos} (ho : DE X o to) (ha : DA X [e, e2] u) (hbase : attributeBase o "insert" X.env (eval o X.env) = eval o X.env := by rfl)
    (hfew : ((backTo cpos (starEach (e :: [e2]) X.env)).all (fun x => !x.1) && (backToKw cpos (keywordEach [] X.env)).all (fun x => x.1.isSome)
      && decide ((e :: [e2]).length + ([] : List Keyword).length + (if ([] : List Keyword).isEmpty then 0 else 1) < 30)) = true := by rfl)
    (hline : (apos.endLine == cpos.line) = true := by rfl) (hs : starEach (e :: [e2]) X.env = (false, eval e X.env) :: starEach [e2] X.env := by rfl) (hplain : (backTo cpos (starEach [e2] X.env)).any (·.1) = false := by rfl) :
    DE X (.Call (.Attribute o "insert" apos) [e, e2] [] cpos) (e3Bm m3Ins to u) := d_bm PySem.F.slot_list_insert PySem.F.type_list_insert mt_insert ml_ins ho ha hbase hfew hline hs hplain
end
end L3

namespace L3
open PySem PySem.Spec PyProof.Rows L2
/-! ### all choices out of lists, in order (rows_of, _law_choices) -/
def stepR (acc : List (List D)) (items : List D) : List (List D) := acc.flatMap fun r => items.map fun x => r ++ [x]
def prodR (ls : List (List D)) : List (List D) := ls.foldl stepR [[]]
theorem stepR_len {acc : List (List D)} {items : List D} : (stepR acc items).length = acc.length * items.length := by
  unfold stepR
  induction acc with
  | nil => simp
  | cons r acc ih => rw [List.flatMap_cons, List.length_append, ih, List.length_map, List.length_cons, Nat.add_mul, Nat.one_mul, Nat.add_comm]
def prodN (ns : List Nat) : Nat := ns.foldl (· * ·) 1
theorem foldl_len : ∀ (ls : List (List D)) (acc : List (List D)), (ls.foldl stepR acc).length = (ls.map (·.length)).foldl (· * ·) acc.length
  | [], acc => rfl
  | l :: ls, acc => by
    rw [List.foldl_cons, foldl_len ls, List.map_cons, List.foldl_cons, stepR_len]
theorem prodR_len (ls : List (List D)) : (prodR ls).length = prodN (ls.map (·.length)) := foldl_len ls [[]]
theorem foldl_mul : ∀ (ns : List Nat) (a : Nat), ns.foldl (· * ·) a = a * prodN ns
  | [], a => (Nat.mul_one a).symm
  | n :: ns, a => by
    rw [List.foldl_cons, foldl_mul ns]
    show _ = a * (ns.foldl (· * ·) (1 * n))
    rw [foldl_mul ns, Nat.one_mul, Nat.mul_assoc]
theorem prodN_cons (n : Nat) (ns : List Nat) : prodN (n :: ns) = n * prodN ns := by
  show ns.foldl (· * ·) (1 * n) = _
  rw [foldl_mul, Nat.one_mul]
theorem prodN_append (ns ms : List Nat) : prodN (ns ++ ms) = prodN ns * prodN ms := by
  unfold prodN
  rw [List.foldl_append, foldl_mul ms]
  rfl
theorem prodN_pos : ∀ {ns : List Nat}, (∀ n ∈ ns, 1 ≤ n) → 1 ≤ prodN ns
  | [], _ => Nat.le_refl 1
  | n :: ns, h => by
    rw [prodN_cons]
    exact Nat.mul_pos (h n List.mem_cons_self) (prodN_pos fun m hm => h m (List.mem_cons_of_mem _ hm))
theorem prodN_take {ns : List Nat} (h : ∀ n ∈ ns, 1 ≤ n) (k : Nat) : prodN (ns.take k) ≤ prodN ns := by
  have e : prodN ns = prodN (ns.take k) * prodN (ns.drop k) := by rw [← prodN_append, List.take_append_drop]
  rw [e]
  exact Nat.le_mul_of_pos_right _ (prodN_pos fun n hn => h n (List.mem_of_mem_drop hn))
theorem prodN_mem : ∀ {ns : List Nat} {n : Nat}, (∀ m ∈ ns, 1 ≤ m) → n ∈ ns → n ≤ prodN ns
  | m :: ns, n, h, hn => by
    rw [prodN_cons]
    have h2 : ∀ k ∈ ns, 1 ≤ k := fun k hk => h k (List.mem_cons_of_mem _ hk)
    rcases List.mem_cons.mp hn with rfl | hn
    · exact Nat.le_mul_of_pos_right _ (prodN_pos h2)
    · exact Nat.le_trans (prodN_mem h2 hn) (Nat.le_mul_of_pos_left _ (h m List.mem_cons_self))
theorem row_len : ∀ (ls : List (List D)) (acc : List (List D)) (n : Nat), (∀ r ∈ acc, r.length = n) → ∀ r ∈ ls.foldl stepR acc, r.length = n + ls.length
  | [], acc, n, h, r, hr => h r hr
  | l :: ls, acc, n, h, r, hr => by
    have := row_len ls (stepR acc l) (n + 1) (fun r' hr' => by
      obtain ⟨r0, h0, h1⟩ := List.mem_flatMap.mp hr'
      obtain ⟨x, _, rfl⟩ := List.mem_map.mp h1
      rw [List.length_append, h r0 h0]; rfl) r hr
    rw [this, List.length_cons]
    omega
theorem prodR_row {ls : List (List D)} {r : List D} (h : r ∈ prodR ls) : r.length = ls.length := by
  have := row_len ls [[]] 0 (fun r hr => by rw [List.mem_singleton.mp hr]; rfl) r h
  omega
theorem prodR_snoc (ls : List (List D)) (l : List D) : prodR (ls ++ [l]) = stepR (prodR ls) l := by
  unfold prodR
  rw [List.foldl_append]; rfl
def spProd : Sp3 := fun ds M Q _ => ∃ (a : Addr) (refs : List Addr) (ls : List (List D)), ds = [.ref a] ∧ LstM M a (refs.map D.ref) ∧ refs.length = ls.length ∧ (∀ (k : Nat) (b : Addr) (l : List D), refs[k]? = some b → ls[k]? = some l → LstM M b l) ∧ ls.length ≤ 1000 ∧
  (∀ k, (prodR (ls.take k)).length ≤ 200000) ∧ ∀ p, M p = none → Q (.ref p) (updM M p (.lst ((prodR ls).map D.tup)))
/-- one list more -/
def stepF (l : List D) : D → List D
  | .tup r => l.map fun x => .tup (r ++ [x])
  | _ => []
theorem stepF_eq (acc : List (List D)) (l : List D) : (acc.map D.tup).flatMap (stepF l) = (stepR acc l).map D.tup := by
  unfold stepR
  induction acc with
  | nil => rfl
  | cons r acc ih =>
    rw [List.map_cons, List.flatMap_cons, ih, List.flatMap_cons, List.map_append, List.map_map]
    rfl
theorem get_rows {acc : List (List D)} {k : Nat} {d : D} (h : (acc.map D.tup)[k]? = some d) : ∃ r, r ∈ acc ∧ acc[k]? = some r ∧ d = .tup r := by
  rw [List.getElem?_map] at h
  cases e : acc[k]? with
  | none => rw [e] at h; cases h
  | some r => rw [e] at h; exact ⟨r, List.mem_of_getElem? e, rfl, (Option.some.inj h).symm⟩
theorem take_step {ls : List (List D)} {i : Nat} {l : List D} (h : ls[i]? = some l) : prodR (ls.take (i + 1)) = stepR (prodR (ls.take i)) l := by
  rw [List.take_add_one, h, Option.toList_some, prodR_snoc]
theorem row_small {ls : List (List D)} {i : Nat} (hl : ls.length ≤ 1000) {r : List D} (h : r ∈ prodR (ls.take i)) : r.length ≤ 1000 := by
  rw [prodR_row h, List.length_take]
  omega
theorem take_small {ls : List (List D)} {i : Nat} {l : List D} (h : ls[i]? = some l) (hz : ∀ k, (prodR (ls.take k)).length ≤ 200000) (k : Nat) : ((((prodR (ls.take i)).map D.tup).take k).flatMap (stepF l)).length ≤ 200000 := by
  have h1 := hz (i + 1)
  rw [take_step h] at h1
  rw [← List.map_take, stepF_eq, List.length_map, stepR_len]
  rw [stepR_len] at h1
  refine Nat.le_trans (Nat.mul_le_mul_right _ ?_) h1
  rw [List.length_take]
  exact Nat.min_le_right _ _
def tRowsOf : S3 :=
    (s3Seq (s3Asg (e3Lst (a3Cons (e3Tup a3Nil) a3Nil)) 1)
    (s3Seq (s3For (i3Seq (e3Var 0)) (g3Name 2) (s3Asg (e3Lc2 (i3Seq (e3Var 1)) 3 t3Yes (i3Seq (e3Var 2)) 4 t3Yes (e3Op r3Add (e3Var 3) (e3Tup (a3Cons (e3Var 4) a3Nil))) [3, 4] [4]) 1))
    (s3Ret (e3Var 1))))
def tChoices : S3 :=
    (s3Seq (s3Asg (e3Lst (a3Cons (e3Tup a3Nil) a3Nil)) 1)
    (s3Seq (s3For (i3Seq (e3Var 0)) (g3Name 2) (s3Seq (s3Asg (e3Lst a3Nil) 3)
    (s3Seq (s3For (i3Seq (e3Var 1)) (g3Name 4) (s3For (i3Seq (e3Var 2)) (g3Name 5) (s3Expr (e3Bm m3App (e3Var 3) (a3Cons (e3Op r3Add (e3Var 4) (e3Tup (a3Cons (e3Var 5) a3Nil))) a3Nil)))))
    (s3Asg (e3Var 3) 1))))
    (s3Ret (e3Var 1))))
theorem rdRowsOf : Rd3 ["choices", "found", "items", "row", "item"] tRowsOf spProd := by
  rintro ds M Q E ⟨a, refs, ls, rfl, ha, hrl, hrefs, hl, hz, q⟩
  refine ⟨szLe (by show 0 ≤ 1000000; decide), szLe (by show 1 ≤ 1000000; decide), fun f0 nf0 => ⟨_, lstM_sub ((Sub.refl M).new nf0) ha, ?_⟩⟩
  refine ⟨fun i env' M' => ∃ (fp : Addr) (s2 s3 s4 : Option D), env' = [some (.ref a), some (.ref fp), s2, s3, s4] ∧ Sub M M' ∧ M fp = none ∧ M' fp = some (.lst ((prodR (ls.take i)).map D.tup)), ⟨f0, none, none, none, rfl, (Sub.refl M).new nf0, nf0, updM_same⟩, ?_, ?_⟩
  · rintro i d env' M' hd ⟨fp, s2, s3, s4, rfl, sub, nfp, hfp⟩
    rw [List.getElem?_map] at hd
    obtain ⟨b, hb, rfl⟩ : ∃ b, refs[i]? = some b ∧ d = .ref b := by
      cases e : refs[i]? with
      | none => rw [e] at hd; cases hd
      | some b => rw [e] at hd; exact ⟨b, rfl, (Option.some.inj hd).symm⟩
    have hi : i < ls.length := by rw [← hrl]; exact (List.getElem?_eq_some_iff.mp hb).1
    have hli : ls[i]? = some ls[i] := List.getElem?_eq_getElem hi
    have hbl := hrefs i b _ hb hli
    refine ⟨lstM_sub sub ha, _, .inl hfp, fun cp ncp => ?_⟩
    refine lc2Map (stepF ls[i]) ncp (fun M'' s => .inl (s _ _ hfp)) (fun k => szLt (Nat.le_trans (take_small hli hz k) (by decide))) (fun k d M'' R hdk sub2 hR => ?_) fun M'' sub2 h2 => ?_
    · obtain ⟨r, hr, _, rfl⟩ := get_rows hdk
      refine ⟨_, lstM_sub (sub.trans sub2) hbl, hR _ (fun x => .tup (r ++ [x])) _ rfl (fun M3 s3 => lstM_sub (sub.trans s3) hbl) fun k1 d1 M3 R1 hd1 s3 k3 => ?_⟩
      have := row_small hl hr
      exact ⟨szLe (by show 1 ≤ 1000000; decide), szLe (by show r.length + 1 ≤ 1000000; omega), k3 M3 (Sub.refl _)⟩
    · rw [stepF_eq, ← take_step hli] at h2
      exact ⟨cp, _, s3, s4, rfl, sub.trans sub2, sub.free ncp, h2⟩
  · rintro env' M' ⟨fp, s2, s3, s4, rfl, sub, nfp, hfp⟩
    rw [List.length_map, hrl, List.take_length] at hfp
    exact ⟨lstM_sub sub ha, _, sub.put hfp, q fp nfp⟩
theorem rdChoices : Rd3 ["lists", "found", "items", "longer", "row", "item"] tChoices spProd := by
  rintro ds M Q E ⟨a, refs, ls, rfl, ha, hrl, hrefs, hl, hz, q⟩
  refine ⟨szLe (by show 0 ≤ 1000000; decide), szLe (by show 1 ≤ 1000000; decide), fun f0 nf0 => ⟨_, lstM_sub ((Sub.refl M).new nf0) ha, ?_⟩⟩
  refine ⟨fun i env' M' => ∃ (fp : Addr) (s2 s3 s4 s5 : Option D), env' = [some (.ref a), some (.ref fp), s2, s3, s4, s5] ∧ Sub M M' ∧ M fp = none ∧ M' fp = some (.lst ((prodR (ls.take i)).map D.tup)), ⟨f0, none, none, none, none, rfl, (Sub.refl M).new nf0, nf0, updM_same⟩, ?_, ?_⟩
  · rintro i d env' M' hd ⟨fp, s2, s3, s4, s5, rfl, sub, nfp, hfp⟩
    rw [List.getElem?_map] at hd
    obtain ⟨b, hb, rfl⟩ : ∃ b, refs[i]? = some b ∧ d = .ref b := by
      cases e : refs[i]? with
      | none => rw [e] at hd; cases hd
      | some b => rw [e] at hd; exact ⟨b, rfl, (Option.some.inj hd).symm⟩
    have hi : i < ls.length := by rw [← hrl]; exact (List.getElem?_eq_some_iff.mp hb).1
    have hli : ls[i]? = some ls[i] := List.getElem?_eq_getElem hi
    have hbl := hrefs i b _ hb hli
    refine ⟨lstM_sub sub ha, szLe (by show 0 ≤ 1000000; decide), fun cp ncp => ⟨_, .inl (((Sub.refl M').new ncp) _ _ hfp), ?_⟩⟩
    have small := take_small hli hz
    refine ⟨fun k env' M'' => ∃ (s4 s5 : Option D), env' = [some (.ref a), some (.ref fp), some (.ref b), some (.ref cp), s4, s5] ∧ Sub M' M'' ∧ M'' cp = some (.lst ((((prodR (ls.take i)).map D.tup).take k).flatMap (stepF ls[i]))), ⟨s4, s5, rfl, (Sub.refl M').new ncp, updM_same⟩, ?_, ?_⟩
    · rintro k d env' M'' hdk ⟨s4, s5, rfl, sub2, hcp⟩
      obtain ⟨r, hr, hk, rfl⟩ := get_rows hdk
      have rs := row_small hl hr
      have step : (((prodR (ls.take i)).map D.tup).take (k + 1)).flatMap (stepF ls[i]) = (((prodR (ls.take i)).map D.tup).take k).flatMap (stepF ls[i]) ++ ls[i].map fun x => .tup (r ++ [x]) := by
        rw [List.take_add_one, hdk, Option.toList_some, List.flatMap_append]
        simp [stepF]
      refine ⟨.inl (sub2 _ _ hfp), _, lstM_sub (sub.trans sub2) hbl, ?_⟩
      refine ⟨fun k1 env' M3 => ∃ s5, env' = [some (.ref a), some (.ref fp), some (.ref b), some (.ref cp), some (.tup r), s5] ∧ Sub M' M3 ∧ M3 cp = some (.lst ((((prodR (ls.take i)).map D.tup).take k).flatMap (stepF ls[i]) ++ (ls[i].take k1).map fun x => .tup (r ++ [x]))), ⟨s5, rfl, sub2, by rw [List.take_zero, List.map_nil, List.append_nil]; exact hcp⟩, ?_, ?_⟩
      · rintro k1 d1 env' M3 hd1 ⟨s5, rfl, sub3, hcp3⟩
        refine ⟨lstM_sub (sub.trans sub3) hbl, ⟨_, .inl hcp3⟩, szLe (by show 1 ≤ 1000000; decide), szLe (by show r.length + 1 ≤ 1000000; omega), _, hcp3, ?_, _, rfl, sub3.new ncp, ?_⟩
        · have h1 := small (k + 1)
          rw [step, List.length_append, List.length_map] at h1
          rw [List.length_append, List.length_map]
          have : (ls[i].take k1).length ≤ ls[i].length := by rw [List.length_take]; exact Nat.min_le_right _ _
          exact szLt (by omega)
        · rw [updM_same, List.take_add_one, hd1, Option.toList_some, List.map_append, ← List.append_assoc]
          rfl
      · rintro env' M3 ⟨s5, rfl, sub3, hcp3⟩
        refine ⟨lstM_sub (sub.trans sub3) hbl, _, _, rfl, sub3, ?_⟩
        rw [List.take_length] at hcp3
        rw [step]
        exact hcp3
    · rintro env' M'' ⟨s4, s5, rfl, sub2, hcp⟩
      rw [List.take_length, stepF_eq, ← take_step hli] at hcp
      exact ⟨.inl (sub2 _ _ hfp), cp, _, _, s4, s5, rfl, sub.trans sub2, sub.free ncp, hcp⟩
  · rintro env' M' ⟨fp, s2, s3, s4, s5, rfl, sub, nfp, hfp⟩
    rw [List.length_map, hrl, List.take_length] at hfp
    exact ⟨lstM_sub sub ha, _, sub.put hfp, q fp nfp⟩
/-! by ints -/
def stepI (acc : List (List Int)) (s : List Int) : List (List Int) := acc.flatMap fun r => s.map fun x => r ++ [x]
def prodI (ss : List (List Int)) : List (List Int) := ss.foldl stepI [[]]
def Pick : List (List Int) → List Int → Prop
  | [], r => r = []
  | s :: ss, r => ∃ x t, r = x :: t ∧ x ∈ s ∧ Pick ss t
theorem fold_ints : ∀ (ss : List (List Int)) (acc : List (List Int)), (ss.map fun s => s.map D.int).foldl stepR (acc.map fun r => r.map D.int) = (ss.foldl stepI acc).map fun r => r.map D.int
  | [], _ => rfl
  | s :: ss, acc => by
    rw [List.map_cons, List.foldl_cons, List.foldl_cons, ← fold_ints ss]
    congr 1
    unfold stepR stepI
    induction acc with
    | nil => rfl
    | cons r acc ih =>
      rw [List.map_cons, List.flatMap_cons, List.flatMap_cons, ih, List.map_append, List.map_map, List.map_map]
      congr 1
      refine List.map_congr_left fun x _ => ?_
      simp
theorem prod_ints (ss : List (List Int)) : prodR (ss.map fun s => s.map D.int) = (prodI ss).map fun r => r.map D.int := fold_ints ss [[]]
theorem prod_rows (ss : List (List Int)) : (prodR (ss.map fun s => s.map D.int)).map D.tup = (prodI ss).map rowD := by
  rw [prod_ints, List.map_map]
  rfl
theorem mem_fold : ∀ (ss : List (List Int)) (acc : List (List Int)) (r : List Int), r ∈ ss.foldl stepI acc ↔ ∃ a ∈ acc, ∃ t, r = a ++ t ∧ Pick ss t
  | [], acc, r => by
    constructor
    · intro h
      exact ⟨r, h, [], by simp, rfl⟩
    · rintro ⟨a, ha, t, rfl, ht⟩
      have : t = [] := ht
      subst this
      simpa using ha
  | s :: ss, acc, r => by
    rw [List.foldl_cons, mem_fold ss]
    constructor
    · rintro ⟨a', ha', t, rfl, ht⟩
      unfold stepI at ha'
      obtain ⟨a, ha, h2⟩ := List.mem_flatMap.mp ha'
      obtain ⟨x, hx, rfl⟩ := List.mem_map.mp h2
      exact ⟨a, ha, x :: t, by simp, x, t, rfl, hx, ht⟩
    · rintro ⟨a, ha, t', rfl, x, t, rfl, hx, ht⟩
      exact ⟨a ++ [x], List.mem_flatMap.mpr ⟨a, ha, List.mem_map.mpr ⟨x, hx, rfl⟩⟩, t, by simp, ht⟩
theorem mem_prodI {ss : List (List Int)} {r : List Int} : r ∈ prodI ss ↔ Pick ss r := by
  unfold prodI
  rw [mem_fold]
  constructor
  · rintro ⟨a, ha, t, rfl, ht⟩
    rw [List.mem_singleton] at ha
    subst ha
    simpa using ht
  · intro h
    exact ⟨[], by simp, r, by simp, h⟩
theorem pick_get : ∀ {ss : List (List Int)} {r : List Int}, Pick ss r ↔ r.length = ss.length ∧ ∀ (j : Nat) (x : Int) (s : List Int), r[j]? = some x → ss[j]? = some s → x ∈ s
  | [], r => by
    constructor
    · intro h
      have : r = [] := h
      subst this
      exact ⟨rfl, fun j x s e => by simp at e⟩
    · rintro ⟨h, _⟩
      exact List.length_eq_zero_iff.mp h
  | s :: ss, r => by
    constructor
    · rintro ⟨x, t, rfl, hx, ht⟩
      obtain ⟨h1, h2⟩ := pick_get.mp ht
      refine ⟨by simp [h1], fun j y u e1 e2 => ?_⟩
      cases j with
      | zero =>
        simp at e1 e2
        subst e1; subst e2
        exact hx
      | succ j => exact h2 j y u (by simpa using e1) (by simpa using e2)
    · rintro ⟨h1, h2⟩
      cases r with
      | nil => simp at h1
      | cons x t => exact ⟨x, t, rfl, h2 0 x s rfl rfl, pick_get.mpr ⟨by simpa using h1, fun j y u e1 e2 => h2 (j + 1) y u (by simpa using e1) (by simpa using e2)⟩⟩
theorem prodI_len (ss : List (List Int)) : (prodI ss).length = prodN (ss.map (·.length)) := by
  have h := congrArg List.length (prod_ints ss)
  rw [List.length_map, prodR_len, List.map_map] at h
  rw [← h]
  congr 1
  refine List.map_congr_left fun s _ => ?_
  simp
theorem ltL_snoc {x y : Int} : ∀ {a b : List Int}, a.length = b.length → ltL a b → ltL (a ++ [x]) (b ++ [y])
  | [], [], _, h => by
    unfold ltL lexLeI at h
    cases h
  | [], v :: b, e, _ => by simp at e
  | u :: a, [], e, _ => by simp at e
  | u :: a, v :: b, e, h => by
    unfold ltL at h ⊢
    rw [List.cons_append, List.cons_append]
    unfold lexLeI at h ⊢
    by_cases hv : v = u
    · rw [if_pos hv] at h ⊢
      exact ltL_snoc (by simpa using e) h
    · rw [if_neg hv] at h ⊢
      exact h
theorem ltL_last {x y : Int} (h : x < y) : ∀ a : List Int, ltL (a ++ [x]) (a ++ [y])
  | [] => by
    unfold ltL
    rw [List.nil_append, List.nil_append]
    unfold lexLeI
    rw [if_neg (by omega)]
    exact decide_eq_false (by omega)
  | u :: a => by
    unfold ltL
    rw [List.cons_append, List.cons_append]
    unfold lexLeI
    rw [if_pos rfl]
    exact ltL_last h a
theorem fold_asc : ∀ (ss : List (List Int)) (acc : List (List Int)) (n : Nat), (∀ s ∈ ss, s.Pairwise (· < ·)) → (∀ r ∈ acc, r.length = n) → acc.Pairwise ltL → (ss.foldl stepI acc).Pairwise ltL
  | [], acc, n, _, _, h => h
  | s :: ss, acc, n, hs, hl, h => by
    rw [List.foldl_cons]
    refine fold_asc ss _ (n + 1) (fun t ht => hs t (List.mem_cons_of_mem _ ht)) (fun r hr => ?_) ?_
    · obtain ⟨a, ha, h2⟩ := List.mem_flatMap.mp hr
      obtain ⟨x, hx, rfl⟩ := List.mem_map.mp h2
      rw [List.length_append, hl a ha]
      rfl
    · unfold stepI
      rw [List.pairwise_flatMap]
      refine ⟨fun a ha => ?_, ?_⟩
      · rw [List.pairwise_map]
        exact (hs s List.mem_cons_self).imp fun hxy => ltL_last hxy a
      · refine List.Pairwise.imp_of_mem (fun {a b} ha hb hab r hr t ht => ?_) h
        obtain ⟨x, _, rfl⟩ := List.mem_map.mp hr
        obtain ⟨y, _, rfl⟩ := List.mem_map.mp ht
        exact ltL_snoc ((hl a ha).trans (hl b hb).symm) hab
theorem prodI_asc {ss : List (List Int)} (h : ∀ s ∈ ss, s.Pairwise (· < ·)) : (prodI ss).Pairwise ltL := fold_asc ss [[]] 0 h (fun r hr => by rw [List.mem_singleton] at hr; subst hr; rfl) (List.pairwise_singleton _ _)
end L3

namespace L3
open PySem PySem.Spec PyProof.Rows L2
/-! ### rows of sets that are good: every choice is allowed -/
def goodB (rows sets : List (List Int)) : Bool := (prodI sets).all fun r => decide (r ∈ rows)
theorem good_iff {rows sets : List (List Int)} : goodB rows sets = true ↔ ∀ r, Pick sets r → r ∈ rows := by
  unfold goodB
  rw [List.all_eq_true]
  constructor
  · intro h r hr
    exact of_decide_eq_true (h r (mem_prodI.mpr hr))
  · intro h r hr
    exact decide_eq_true (h r (mem_prodI.mp hr))
/-- each set of s lies in that of t -/
def Le (s t : List (List Int)) : Prop := s.length = t.length ∧ ∀ (j : Nat) (a b : List Int), s[j]? = some a → t[j]? = some b → ∀ x ∈ a, x ∈ b
theorem Le.refl (s : List (List Int)) : Le s s := ⟨rfl, fun j a b e1 e2 x hx => by rw [e1] at e2; cases e2; exact hx⟩
theorem Le.trans {s t u : List (List Int)} (h : Le s t) (k : Le t u) : Le s u := ⟨h.1.trans k.1, fun j a c e1 e3 x hx => by
  have hj : j < t.length := by rw [← h.1]; exact (List.getElem?_eq_some_iff.mp e1).1
  have e2 : t[j]? = some t[j] := List.getElem?_eq_getElem hj
  exact k.2 j _ c e2 e3 x (h.2 j a _ e1 e2 x hx)⟩
theorem pick_le {s t : List (List Int)} {r : List Int} (h : Le s t) (p : Pick s r) : Pick t r := by
  obtain ⟨h1, h2⟩ := pick_get.mp p
  refine pick_get.mpr ⟨h1.trans h.1, fun j x b e1 e2 => ?_⟩
  have hj : j < s.length := by rw [← h1]; exact (List.getElem?_eq_some_iff.mp e1).1
  have e3 : s[j]? = some s[j] := List.getElem?_eq_getElem hj
  exact h.2 j _ b e3 e2 x (h2 j x _ e1 e3)
theorem good_le {rows s t : List (List Int)} (h : Le s t) (g : goodB rows t = true) : goodB rows s = true := good_iff.mpr fun r p => good_iff.mp g r (pick_le h p)
theorem good_both {rows s t : List (List Int)} (h : Le s t) (k : Le t s) : goodB rows s = goodB rows t := by
  rw [Bool.eq_iff_iff]
  exact ⟨good_le k, good_le h⟩
theorem set_get {s : List (List Int)} {i j : Nat} {a b : List Int} (h : (s.set i a)[j]? = some b) : (j = i ∧ b = a ∧ i < s.length) ∨ (j ≠ i ∧ s[j]? = some b) := by
  rw [List.getElem?_set] at h
  by_cases e : i = j
  · subst e
    rw [if_pos rfl] at h
    split at h
    · cases h
      exact .inl ⟨rfl, rfl, by assumption⟩
    · cases h
  · rw [if_neg e] at h
    exact .inr ⟨fun z => e z.symm, h⟩
theorem le_set {s t : List (List Int)} {i : Nat} {a b : List Int} (h : Le s t) (k : ∀ x ∈ a, x ∈ b) : Le (s.set i a) (t.set i b) := by
  refine ⟨by simp [h.1], fun j c d e1 e2 x hx => ?_⟩
  rcases set_get e1 with ⟨rfl, rfl, _⟩ | ⟨n1, e1⟩
  · rcases set_get e2 with ⟨_, rfl, _⟩ | ⟨n2, _⟩
    · exact k x hx
    · exact absurd rfl n2
  · rcases set_get e2 with ⟨z, _, _⟩ | ⟨_, e2⟩
    · exact absurd z n1
    · exact h.2 j c d e1 e2 x hx
theorem getD_some {s : List (List Int)} {i : Nat} (h : i < s.length) : s[i]? = some (s.getD i []) := by
  rw [List.getD_eq_getElem?_getD, List.getElem?_eq_getElem h, Option.getD_some]
theorem set_self {s : List (List Int)} {i : Nat} (h : i < s.length) : s.set i (s.getD i []) = s := by
  refine List.ext_getElem? fun j => ?_
  rw [List.getElem?_set]
  split
  · rename_i e
    subst e
    first | exact (getD_some h).symm | (rw [if_pos h]; exact (getD_some h).symm)
  · rfl
/-- one label more -/
theorem good_more {rows s : List (List Int)} {i : Nat} {l : Int} (hi : i < s.length) : goodB rows (s.set i (s.getD i [] ++ [l])) = (goodB rows s && goodB rows (s.set i [l])) := by
  rw [Bool.eq_iff_iff, Bool.and_eq_true]
  constructor
  · intro h
    refine ⟨good_le ?_ h, good_le (le_set (Le.refl s) fun x hx => List.mem_append_right _ hx) h⟩
    have := le_set (i := i) (Le.refl s) (a := s.getD i []) (b := s.getD i [] ++ [l]) fun x hx => List.mem_append_left _ hx
    rwa [set_self hi] at this
  · rintro ⟨h1, h2⟩
    refine good_iff.mpr fun r p => ?_
    obtain ⟨q1, q2⟩ := pick_get.mp p
    have hir : i < r.length := by rw [q1, List.length_set]; exact hi
    have hx := q2 i r[i] (s.getD i [] ++ [l]) (List.getElem?_eq_getElem hir) (by rw [List.getElem?_set, if_pos rfl, if_pos hi])
    rcases List.mem_append.mp hx with hx | hx
    · refine good_iff.mp h1 r (pick_get.mpr ⟨by rw [q1, List.length_set], fun j x c e1 e2 => ?_⟩)
      by_cases e : j = i
      · subst e
        rw [List.getElem?_eq_getElem hir] at e1
        cases e1
        rw [getD_some hi] at e2
        cases e2
        exact hx
      · exact q2 j x c e1 (by rw [List.getElem?_set, if_neg (fun z => e z.symm)]; exact e2)
    · refine good_iff.mp h2 r (pick_get.mpr ⟨by rw [q1, List.length_set, List.length_set], fun j x c e1 e2 => ?_⟩)
      rcases set_get e2 with ⟨rfl, rfl, _⟩ | ⟨n, e2⟩
      · rw [List.getElem?_eq_getElem hir] at e1
        cases e1
        exact hx
      · exact q2 j x c e1 (by rw [List.getElem?_set, if_neg (fun z => n z.symm)]; exact e2)
/-! made greater, label by label -/
def stepG (rows : List (List Int)) (i : Nat) (l : Int) (F : List (List Int)) : List (List Int) :=
  if l ∈ F.getD i [] then F else if goodB rows (F.set i [l]) = true then F.set i (F.getD i [] ++ [l]) else F
def growAt (rows : List (List Int)) (i many : Nat) (F : List (List Int)) : List (List Int) := (List.range many).foldl (fun (F : List (List Int)) (l : Nat) => stepG rows i (l : Int) F) F
def growG (rows : List (List Int)) (ls : List Int) (k : Nat) (F : List (List Int)) : List (List Int) := (List.range k).foldl (fun (F : List (List Int)) (i : Nat) => growAt rows i (ls.getD i 0).toNat F) F
theorem growAt_succ {rows : List (List Int)} {i m : Nat} {F : List (List Int)} : growAt rows i (m + 1) F = stepG rows i (m : Int) (growAt rows i m F) := by
  unfold growAt
  rw [List.range_succ, List.foldl_append]
  rfl
theorem growG_succ {rows : List (List Int)} {ls : List Int} {k : Nat} {F : List (List Int)} : growG rows ls (k + 1) F = growAt rows k (ls.getD k 0).toNat (growG rows ls k F) := by
  unfold growG
  rw [List.range_succ, List.foldl_append]
  rfl
theorem stepG_le {rows : List (List Int)} {i : Nat} {l : Int} {F : List (List Int)} (hi : i < F.length) : Le F (stepG rows i l F) := by
  unfold stepG
  split
  · exact Le.refl F
  · split
    · have := le_set (i := i) (Le.refl F) (a := F.getD i []) (b := F.getD i [] ++ [l]) fun x hx => List.mem_append_left _ hx
      rwa [set_self hi] at this
    · exact Le.refl F
theorem stepG_len {rows : List (List Int)} {i : Nat} {l : Int} {F : List (List Int)} : (stepG rows i l F).length = F.length := by
  unfold stepG
  split
  · rfl
  · split
    · rw [List.length_set]
    · rfl
theorem growAt_len {rows : List (List Int)} {i : Nat} {F : List (List Int)} : ∀ m, (growAt rows i m F).length = F.length
  | 0 => rfl
  | m + 1 => by rw [growAt_succ, stepG_len, growAt_len m]
theorem growG_len {rows : List (List Int)} {ls : List Int} {F : List (List Int)} : ∀ k, (growG rows ls k F).length = F.length
  | 0 => rfl
  | k + 1 => by rw [growG_succ, growAt_len, growG_len k]
theorem stepG_good {rows : List (List Int)} {i : Nat} {l : Int} {F : List (List Int)} (hi : i < F.length) (g : goodB rows F = true) : goodB rows (stepG rows i l F) = true := by
  unfold stepG
  split
  · exact g
  · split
    · rename_i h
      rw [good_more hi, g, h]
      rfl
    · exact g
theorem growAt_good {rows : List (List Int)} {i : Nat} {F : List (List Int)} (hi : i < F.length) (g : goodB rows F = true) : ∀ m, goodB rows (growAt rows i m F) = true
  | 0 => g
  | m + 1 => by
    rw [growAt_succ]
    exact stepG_good (by rw [growAt_len]; exact hi) (growAt_good hi g m)
theorem growG_good {rows : List (List Int)} {ls : List Int} {F : List (List Int)} (g : goodB rows F = true) : ∀ k, k ≤ F.length → goodB rows (growG rows ls k F) = true
  | 0, _ => g
  | k + 1, h => by
    rw [growG_succ]
    exact growAt_good (by rw [growG_len]; omega) (growG_good g k (by omega)) _
theorem growAt_le {rows : List (List Int)} {i : Nat} {F : List (List Int)} (hi : i < F.length) : ∀ m, Le F (growAt rows i m F)
  | 0 => Le.refl F
  | m + 1 => by
    rw [growAt_succ]
    exact (growAt_le hi m).trans (stepG_le (by rw [growAt_len]; exact hi))
/-- a label that was asked for: it is in, or may not come in -/
def Shut (rows : List (List Int)) (i : Nat) (l : Int) (F : List (List Int)) : Prop := l ∈ F.getD i [] ∨ goodB rows (F.set i [l]) = false
theorem Shut.le {rows : List (List Int)} {i : Nat} {l : Int} {F F' : List (List Int)} (h : Shut rows i l F) (k : Le F F') (hi : i < F.length) : Shut rows i l F' := by
  rcases h with h | h
  · exact .inl (k.2 i _ _ (getD_some hi) (getD_some (by rw [← k.1]; exact hi)) l h)
  · refine .inr ?_
    cases e : goodB rows (F'.set i [l]) with
    | false => rfl
    | true =>
      rw [good_le (le_set k fun x hx => hx) e] at h
      cases h
theorem shut_step {rows : List (List Int)} {i : Nat} {l : Int} {F : List (List Int)} (hi : i < F.length) : Shut rows i l (stepG rows i l F) := by
  unfold stepG
  split
  · rename_i h
    exact .inl h
  · split
    · refine .inl ?_
      rw [List.getD_eq_getElem?_getD, List.getElem?_set, if_pos rfl, if_pos hi, Option.getD_some]
      exact List.mem_append_right _ (List.mem_singleton.mpr rfl)
    · rename_i h
      exact .inr (by simpa using h)
theorem shut_at {rows : List (List Int)} {i : Nat} {F : List (List Int)} (hi : i < F.length) : ∀ (m l : Nat), l < m → Shut rows i (l : Int) (growAt rows i m F)
  | 0, l, h => absurd h (Nat.not_lt_zero l)
  | m + 1, l, h => by
    rw [growAt_succ]
    have hl : i < (growAt rows i m F).length := by rw [growAt_len]; exact hi
    by_cases e : l = m
    · subst e
      exact shut_step hl
    · exact (shut_at hi m l (by omega)).le (stepG_le hl) hl
theorem shut_all {rows : List (List Int)} {ls : List Int} {F : List (List Int)} : ∀ (k i l : Nat), k ≤ F.length → i < k → l < (ls.getD i 0).toNat → Shut rows i (l : Int) (growG rows ls k F)
  | 0, i, l, _, h, _ => absurd h (Nat.not_lt_zero i)
  | k + 1, i, l, hk, h, hl => by
    rw [growG_succ]
    have hle : k < (growG rows ls k F).length := by rw [growG_len]; omega
    by_cases e : i = k
    · subst e
      exact shut_at hle _ l hl
    · exact (shut_all k i l (by omega) (by omega) hl).le (growAt_le hle _) (by rw [growG_len]; omega)
/-! sorted -/
def sortI (l : List Int) : List Int := l.mergeSort fun a b => decide (a ≤ b)
theorem sortI_perm (l : List Int) : (sortI l).Perm l := List.mergeSort_perm l _
theorem sortI_asc (l : List Int) : (sortI l).Pairwise (· ≤ ·) := by
  have := List.pairwise_mergeSort (le := fun a b : Int => decide (a ≤ b)) (fun a b c h1 h2 => by
    have h1 := of_decide_eq_true h1
    have h2 := of_decide_eq_true h2
    exact decide_eq_true (by omega)) (fun a b => by
    by_cases h : a ≤ b
    · rw [decide_eq_true h]; rfl
    · rw [show decide (b ≤ a) = true from decide_eq_true (by omega), Bool.or_true]) l
  exact this.imp fun h => of_decide_eq_true h
theorem sortI_is {l m : List Int} (p : m.Perm l) (h : m.Pairwise (· ≤ ·)) : m = sortI l := sorted_one (p.trans (sortI_perm l).symm) h (sortI_asc l)
theorem sortI_mem {l : List Int} {x : Int} : x ∈ sortI l ↔ x ∈ l := (sortI_perm l).mem_iff
theorem sortI_of {l m : List Int} (p : m.Perm l) : sortI m = sortI l := sortI_is ((sortI_perm m).trans p) (sortI_asc m)
/-- the same, with what stands there kept sorted -/
def stepN (rows : List (List Int)) (i : Nat) (l : Int) (N : List (List Int)) : List (List Int) :=
  if l ∈ N.getD i [] then N else if goodB rows (N.set i (sortI (N.getD i [] ++ [l]))) = true then N.set i (sortI (N.getD i [] ++ [l])) else N
theorem sort_le (F : List (List Int)) : Le F (F.map sortI) ∧ Le (F.map sortI) F := by
  refine ⟨⟨by simp, fun j a b e1 e2 x hx => ?_⟩, ⟨by simp, fun j a b e1 e2 x hx => ?_⟩⟩
  · rw [List.getElem?_map, e1] at e2
    cases e2
    exact sortI_mem.mpr hx
  · rw [List.getElem?_map, e2] at e1
    cases e1
    exact sortI_mem.mp hx
theorem sort_getD {F : List (List Int)} {i : Nat} (hi : i < F.length) : (F.map sortI).getD i [] = sortI (F.getD i []) := by
  rw [List.getD_eq_getElem?_getD, List.getElem?_map, List.getElem?_eq_getElem hi, List.getD_eq_getElem?_getD, List.getElem?_eq_getElem hi]
  rfl
theorem step_sort {rows : List (List Int)} {i : Nat} {l : Int} {F : List (List Int)} (hi : i < F.length) (g : goodB rows F = true) : (stepG rows i l F).map sortI = stepN rows i l (F.map sortI) := by
  have es : sortI (sortI (F.getD i []) ++ [l]) = sortI (F.getD i [] ++ [l]) := sortI_of ((sortI_perm _).append_right [l])
  have eset : (F.map sortI).set i (sortI (F.getD i [] ++ [l])) = (F.set i (F.getD i [] ++ [l])).map sortI := by rw [List.map_set]
  have eg : goodB rows ((F.set i (F.getD i [] ++ [l])).map sortI) = goodB rows (F.set i [l]) := by
    rw [good_both (sort_le _).2 (sort_le _).1, good_more hi, g, Bool.true_and]
  unfold stepG stepN
  rw [sort_getD hi, es, eset, eg]
  by_cases hm : l ∈ F.getD i []
  · rw [if_pos hm, if_pos (sortI_mem.mpr hm)]
  · rw [if_neg hm, if_neg fun z => hm (sortI_mem.mp z)]
    by_cases hg : goodB rows (F.set i [l]) = true
    · rw [if_pos hg, if_pos hg]
    · rw [if_neg hg, if_neg hg]
end L3

namespace L3
open PySem PySem.Spec PyProof.Rows L2
/-! ### sizes -/
theorem prodN_mono : ∀ {a b : List Nat}, a.length = b.length → (∀ (j x y : Nat), a[j]? = some x → b[j]? = some y → x ≤ y) → prodN a ≤ prodN b
  | [], [], _, _ => Nat.le_refl _
  | [], y :: b, e, _ => by simp at e
  | x :: a, [], e, _ => by simp at e
  | x :: a, y :: b, e, h => by
    rw [prodN_cons, prodN_cons]
    exact Nat.mul_le_mul (h 0 x y rfl rfl) (prodN_mono (by simpa using e) fun j u v h1 h2 => h (j + 1) u v (by simpa using h1) (by simpa using h2))
theorem prodD_nat : ∀ {ls : List Int}, (∀ x ∈ ls, 0 ≤ x) → prodD (ls.map D.int) = ((prodN (ls.map Int.toNat) : Nat) : Int)
  | [], _ => rfl
  | x :: ls, h => by
    rw [List.map_cons, List.map_cons, prodN_cons]
    show x * prodD (ls.map D.int) = _
    rw [prodD_nat fun y hy => h y (List.mem_cons_of_mem _ hy), Int.natCast_mul, Int.toNat_of_nonneg (h x List.mem_cons_self)]
theorem nodup_len {l : List Int} {n : Nat} (nd : l.Nodup) (h : ∀ x ∈ l, 0 ≤ x ∧ x < n) : l.length ≤ n := by
  by_cases e : l.length ≤ n
  · exact e
  · have := (perm_of_sub nd (fun x hx => mem_rngI.mpr (h x hx)) (by rw [rngI_length]; omega)).length_eq
    rw [rngI_length] at this
    omega
/-- sets of labels -/
structure OkS (ls : List Int) (F : List (List Int)) : Prop where
  len : F.length = ls.length
  nd : ∀ (j : Nat) (s : List Int) (l : Int), F[j]? = some s → ls[j]? = some l → s.Nodup ∧ ∀ x ∈ s, 0 ≤ x ∧ x < l
theorem OkS.set {ls : List Int} {F : List (List Int)} (h : OkS ls F) {i : Nat} {s : List Int} (hs : ∀ l, ls[i]? = some l → s.Nodup ∧ ∀ x ∈ s, 0 ≤ x ∧ x < l) : OkS ls (F.set i s) := by
  refine ⟨by rw [List.length_set]; exact h.len, fun j t l e1 e2 => ?_⟩
  rcases set_get e1 with ⟨rfl, rfl, _⟩ | ⟨_, e1⟩
  · exact hs l e2
  · exact h.nd j t l e1 e2
theorem OkS.at_ {ls : List Int} {F : List (List Int)} (h : OkS ls F) {i : Nat} {l : Int} (hl : ls[i]? = some l) : (F.getD i []).Nodup ∧ ∀ x ∈ F.getD i [], 0 ≤ x ∧ x < l := by
  have hi : i < F.length := by rw [h.len]; exact (List.getElem?_eq_some_iff.mp hl).1
  exact h.nd i _ l (getD_some hi) hl
theorem OkS.step {rows : List (List Int)} {ls : List Int} {F : List (List Int)} (h : OkS ls F) {i : Nat} {x l : Int} (hl : ls[i]? = some l) (h0 : 0 ≤ x) (h1 : x < l) : OkS ls (stepG rows i x F) := by
  unfold stepG
  split
  · exact h
  · rename_i hn
    split
    · refine h.set fun l' e => ?_
      rw [hl] at e
      cases e
      obtain ⟨k1, k2⟩ := h.at_ hl
      refine ⟨List.nodup_append.mpr ⟨k1, by simp, fun a ha c hc e => ?_⟩, fun y hy => ?_⟩
      · rw [List.mem_singleton] at hc
        rw [e, hc] at ha
        exact hn ha
      · rcases List.mem_append.mp hy with hy | hy
        · exact k2 y hy
        · rw [List.mem_singleton] at hy
          subst hy
          exact ⟨h0, h1⟩
    · exact h
theorem OkS.growAt {rows : List (List Int)} {ls : List Int} {F : List (List Int)} (h : OkS ls F) {i : Nat} {l : Int} (hl : ls[i]? = some l) : ∀ m : Nat, (m : Int) ≤ l → OkS ls (growAt rows i m F)
  | 0, _ => h
  | m + 1, hm => by
    rw [growAt_succ]
    exact (OkS.growAt h hl m (by omega)).step hl (by omega) (by omega)
theorem OkS.growG {rows : List (List Int)} {ls : List Int} {F : List (List Int)} (h : OkS ls F) : ∀ k : Nat, k ≤ ls.length → OkS ls (growG rows ls k F)
  | 0, _ => h
  | k + 1, hk => by
    rw [growG_succ]
    have hl : ls[k]? = some (ls.getD k 0) := by rw [List.getD_eq_getElem?_getD, List.getElem?_eq_getElem (by omega), Option.getD_some]
    by_cases h0 : 0 ≤ ls.getD k 0
    · exact (OkS.growG h k (by omega)).growAt hl _ (by omega)
    · rw [show (ls.getD k 0).toNat = 0 by omega]
      exact OkS.growG h k (by omega)
/-- few choices -/
def Few (F : List (List Int)) : Prop := F.length ≤ 4 ∧ ∀ k, prodN ((F.take k).map (·.length)) ≤ 4000
theorem OkS.few {ls : List Int} {F : List (List Int)} (h : OkS ls F) (h4 : ls.length ≤ 4) (h1 : ∀ x ∈ ls, 1 ≤ x) (hp : prodD (ls.map D.int) ≤ 4000) : Few F := by
  refine ⟨by rw [h.len]; exact h4, fun k => ?_⟩
  have e1 : prodN ((F.take k).map (·.length)) ≤ prodN ((ls.map Int.toNat).take k) := by
    refine prodN_mono (by rw [List.length_map, List.length_take, List.length_take, List.length_map, h.len]) fun j x y hx hy => ?_
    rw [List.getElem?_map, Option.map_eq_some_iff] at hx
    obtain ⟨s, hs, rfl⟩ := hx
    rw [List.getElem?_take] at hs hy
    split at hs
    · rename_i hjk
      rw [if_pos hjk, List.getElem?_map, Option.map_eq_some_iff] at hy
      obtain ⟨l, hl, rfl⟩ := hy
      obtain ⟨k1, k2⟩ := h.nd j s l hs hl
      have hl1 := h1 l (List.mem_of_getElem? hl)
      exact nodup_len k1 fun x hx => by have := k2 x hx; omega
    · cases hs
  have e2 := prodN_take (ns := ls.map Int.toNat) (fun n hn => by
    obtain ⟨x, hx, rfl⟩ := List.mem_map.mp hn
    have := h1 x hx
    omega) k
  have e3 := prodD_nat fun x hx => Int.le_trans (by decide) (h1 x hx)
  rw [e3] at hp
  omega
theorem Few.prod {F : List (List Int)} (h : Few F) : (prodI F).length ≤ 4000 := by
  have := h.2 F.length
  rw [List.take_length] at this
  rw [prodI_len]
  exact this
theorem Few.prods {F : List (List Int)} (h : Few F) (k : Nat) : (prodR ((F.map fun s => s.map D.int).take k)).length ≤ 200000 := by
  rw [prodR_len, ← List.map_take, List.map_map]
  have := h.2 k
  have e : (F.take k).map ((fun l : List D => l.length) ∘ fun s : List Int => s.map D.int) = (F.take k).map (·.length) := List.map_congr_left fun s _ => by simp
  rw [e]
  omega
/-! ### lists of lists of ints -/
def LL (M : MH) (a : Addr) (F : List (List Int)) : Prop := ∃ refs : List Addr, LstM M a (refs.map D.ref) ∧ refs.length = F.length ∧ ∀ (k : Nat) (b : Addr) (s : List Int), refs[k]? = some b → F[k]? = some s → LstM M b (s.map D.int)
theorem LL.sub {M M' : MH} {a : Addr} {F : List (List Int)} (h : LL M a F) (s : Sub M M') : LL M' a F := by
  obtain ⟨refs, h1, h2, h3⟩ := h
  exact ⟨refs, lstM_sub s h1, h2, fun k b t e1 e2 => lstM_sub s (h3 k b t e1 e2)⟩
theorem LL.prod {M : MH} {a : Addr} {F : List (List Int)} (h : LL M a F) (f : Few F) : ∃ refs : List Addr, LstM M a (refs.map D.ref) ∧ refs.length = (F.map fun s => s.map D.int).length ∧
    (∀ (k : Nat) (b : Addr) (l : List D), refs[k]? = some b → (F.map fun s => s.map D.int)[k]? = some l → LstM M b l) ∧ (F.map fun s => s.map D.int).length ≤ 1000 := by
  obtain ⟨refs, h1, h2, h3⟩ := h
  refine ⟨refs, h1, by rw [List.length_map]; exact h2, fun k b l e1 e2 => ?_, by rw [List.length_map]; have := f.1; omega⟩
  rw [List.getElem?_map, Option.map_eq_some_iff] at e2
  obtain ⟨s, hs, rfl⟩ := e2
  exact h3 k b s e1 hs
/-! ### rows as keys -/
theorem nks_ints : ∀ r : List Int, nks (r.map D.int) = r.map NestedKey.num
  | [] => by simp [nks]
  | x :: r => by simp only [List.map_cons, nks, nk, nks_ints r]
theorem nk_row (r : List Int) : nk (rowD r) = .tup (r.map NestedKey.num) := by
  show nk (.tup (r.map D.int)) = _
  simp only [nk]
  rw [nks_ints]
theorem num_inj : ∀ {r s : List Int}, r.map NestedKey.num = s.map NestedKey.num → r = s
  | [], [], _ => rfl
  | [], y :: s, h => by simp at h
  | x :: r, [], h => by simp at h
  | x :: r, y :: s, h => by
    rw [List.map_cons, List.map_cons] at h
    injection h with h1 h2
    injection h1 with h1
    rw [h1, num_inj h2]
theorem nk_inj {r s : List Int} (h : nk (rowD r) = nk (rowD s)) : r = s := by
  rw [nk_row, nk_row] at h
  injection h with h
  exact num_inj h
theorem kOks_ints : ∀ r : List Int, kOks (r.map D.int) = true
  | [] => by simp [kOks]
  | x :: r => by simp only [List.map_cons, kOks, kOk, kOks_ints r, Bool.and_self]
theorem depths_num : ∀ r : List Int, NestedKey.depthAll (r.map NestedKey.num) = 0
  | [] => by simp [NestedKey.depthAll]
  | x :: r => by simp only [List.map_cons, NestedKey.depthAll, NestedKey.depth, depths_num r]; omega
theorem keyD_row (r : List Int) : keyD (rowD r) = true := by
  show (kOk (.tup (r.map D.int)) && decide ((nk (rowD r)).depth ≤ 8)) = true
  rw [nk_row]
  simp only [kOk, kOks_ints, NestedKey.depth, depths_num, Bool.true_and]
  decide
def dOf (rows : List (List Int)) : List (D × D) := rows.map fun r => (rowD r, .bl true)
theorem val_rows (rows : List (List Int)) (r : List Int) : (valT (dOf rows) (rowD r)).isSome = decide (r ∈ rows) := by
  unfold valT dOf
  rw [Option.isSome_map, Bool.eq_iff_iff, List.find?_isSome, decide_eq_true_eq]
  constructor
  · rintro ⟨p, hp, e⟩
    obtain ⟨s, hs, rfl⟩ := List.mem_map.mp hp
    rw [← nk_inj (of_decide_eq_true e)]
    exact hs
  · intro h
    exact ⟨_, List.mem_map.mpr ⟨r, h, rfl⟩, decide_eq_true rfl⟩
/-! ### is_good, allowed_at, _law_is_good -/
def spGood : Sp3 := fun ds M Q _ => ∃ (al a : Addr) (rows F : List (List Int)), ds = [.ref al, .ref a] ∧ M al = some (.dT (dOf rows)) ∧ LL M a F ∧ Few F ∧ Q (.bl (goodB rows F)) M
def tIsGood : S3 :=
    (s3Ret (e3CB c3All (a3Cons (e3Lc (i3Seq (e3Call spProd (a3Cons (e3Var 1) a3Nil))) 2 t3Yes (e3Op (r3InN false) (e3Var 2) (e3Var 0)) [2]) a3Nil)))
theorem rdIsGood : Rd3 ["allowed", "sets", "row"] tIsGood spGood := by
  rintro ds M Q E ⟨al, a, rows, F, rfl, hal, hl, hf, q⟩
  obtain ⟨refs, h1, h2, h3, h4⟩ := hl.prod hf
  refine ⟨a, refs, _, rfl, h1, h2, h3, h4, hf.prods, fun p np => ?_⟩
  rw [prod_rows]
  have s1 : Sub M (updM M p (.lst ((prodI F).map rowD))) := (Sub.refl M).new np
  have hp := updM_same (M := M) (a := p) (o := .lst ((prodI F).map rowD))
  generalize updM M p (.lst ((prodI F).map rowD)) = M1 at s1 hp
  refine ⟨_, .inl hp, fun b nb => ?_⟩
  refine lcMap (fun d => .bl (valT (dOf rows) d).isSome) nb (fun M' s => .inl (s _ _ hp)) (fun k d M' R hd s k2 => ?_) (szLt (by rw [List.length_map]; have := hf.prod; omega)) fun M2 s2 h2 => ?_
  · obtain ⟨r, _, rfl⟩ := List.mem_map.mp (List.mem_of_getElem? hd)
    refine ⟨al, dOf rows, rfl, (s1.trans s) _ _ hal, keyD_row r, ?_⟩
    have := k2 M' (Sub.refl _)
    rw [Bool.false_xor]
    exact this
  have e2 : ((prodI F).map rowD).map (fun d => D.bl (valT (dOf rows) d).isSome) = bls ((prodI F).map fun r => decide (r ∈ rows)) := by
    unfold bls
    rw [List.map_map, List.map_map]
    refine List.map_congr_left fun r _ => ?_
    show D.bl (valT (dOf rows) (rowD r)).isSome = D.bl (decide (r ∈ rows))
    rw [val_rows]
  rw [e2] at h2
  refine ⟨_, .inl h2, M, s1.trans s2, ?_⟩
  have e3 : ((prodI F).map fun r => decide (r ∈ rows)).all id = goodB rows F := by
    unfold goodB
    rw [List.all_map]
    rfl
  rw [e3]
  exact q
def spAllowed : Sp3 := fun ds M Q _ => ∃ (T : Tk) (n j : Nat) (rows : List (List Int)), ds = [tkD T, .int (j : Int)] ∧ TkOk n T ∧ n ≤ 4000 ∧ T.bs[j]? = some rows ∧ ∀ p M', Sub M M' → M' p = some (.dT (dOf rows)) → Q (.ref p) M'
def tAllowed : S3 :=
    (s3Ret (e3DcT (i3Seq (e3Op r3Ix (e3Op r3Ix (e3Var 0) (e3C (.int 4))) (e3Var 1))) 2 t3Yes (e3Var 2) (e3C (.bl true)) [2]))
theorem asc_nodup {rows : List (List Int)} (h : rows.Pairwise ltL) (hl : ∀ a ∈ rows, ∀ b ∈ rows, a.length = b.length) : rows.Nodup := by
  refine List.Pairwise.imp_of_mem (fun {a b} ha hb hab e => ?_) h
  subst e
  unfold ltL at hab
  have : ∀ l : List Int, lexLeI l l = true := fun l => by
    induction l with
    | nil => unfold lexLeI; rfl
    | cons x l ih => unfold lexLeI; rw [if_pos rfl]; exact ih
  rw [this] at hab
  cases hab
theorem rdAllowed : Rd3 ["task", "number", "row"] tAllowed spAllowed := by
  rintro ds M Q E ⟨T, n, j, rows, rfl, ok, hn, hj, q⟩
  have hr := ok.br rows (List.mem_of_getElem? hj)
  have hat : atI (T.bs.map rsD) (j : Int) = some (rsD rows) := atI_nat (by rw [List.getElem?_map, hj]; rfl)
  refine ⟨_, rfl, _, hat, fun p np => ?_⟩
  refine dcMap (.bl true) (fun d hd => ?_) ?_ np (fun _ _ => trivial) (fun k d M' R hd s k2 => k2) (fun k d M' R hd s k2 => k2) (szLt (by rw [List.length_map]; have := hr.len; omega)) fun M' s h => ?_
  · obtain ⟨r, _, rfl⟩ := List.mem_map.mp hd
    exact keyD_row r
  · rw [List.map_map]
    have nd := asc_nodup hr.asc fun a ha b hb => (hr.ok a ha).1.trans (hr.ok b hb).1.symm
    exact List.Pairwise.map _ (fun a b h z => h (nk_inj z)) nd
  · have e : (rows.map rowD).map (fun d => (d, D.bl true)) = dOf rows := by
      unfold dOf
      rw [List.map_map]
      rfl
    rw [e] at h
    exact ⟨M', Sub.refl _, q p M' s h⟩
end L3

namespace L3
open PySem PySem.Spec PyProof.Rows L2
/-- a comprehension of new lists, all apart -/
theorem lcListsN {ds : List D} {keep : MH → Prop} {i : Nat} {te : E3} {env : En} {p : Addr} {M : MH} {Q : MH → Prop} (g : Nat → List D) (hp : M p = none) (hk : ∀ M', Sub M M' → keep M')
    (he : ∀ (k : Nat) (d : D) (M' : MH) (R : Q3), ds[k]? = some d → Sub M M' → (∀ q M'', M' q = none → Sub M' M'' → M'' q = some (.lst (g k)) → R (.ref q) M'') → te W0 (env.set i (some d)) M' R) (hsz : ds.length < sizeLine)
    (hq : ∀ (qs : List Addr) (M' : MH), qs.length = ds.length → (∀ k q, qs[k]? = some q → M' q = some (.lst (g k))) → qs.Nodup → (∀ q ∈ qs, M q = none ∧ q ≠ p) → Sub M M' → M' p = some (.lst (qs.map D.ref)) → Q M') : LoopC ds keep i t3Yes te env p M Q := by
  refine ⟨fun k acc M' => ∃ qs : List Addr, acc = qs.map D.ref ∧ qs.length = k ∧ (∀ j q, qs[j]? = some q → q ≠ p ∧ M' q = some (.lst (g j))) ∧ qs.Nodup ∧ (∀ q ∈ qs, M q = none) ∧ Sub M M', ⟨[], rfl, rfl, fun j q e => by simp at e, List.nodup_nil, (fun q h => by simp at h), (Sub.refl M).new hp⟩, ?_, ?_⟩
  · rintro k d acc M' hd ⟨qs, rfl, rfl, hqs, nd, hf, sub⟩ hpM
    have hlt := (List.getElem?_eq_some_iff.mp hd).1
    refine ⟨hk M' sub, Br.tt (he qs.length d M' _ hd sub fun q M'' nq s2 hM => ⟨qs.map D.ref, s2 p _ hpM, ?_, qs ++ [q], by rw [List.map_append]; rfl, by simp, fun j q' hj => ?_, ?_, fun q' hq' => ?_, (sub.trans s2).new hp⟩)⟩
    · rw [List.length_map]
      exact Nat.lt_trans hlt hsz
    · have nqp : q ≠ p := fun e => by
        subst e
        rw [hpM] at nq
        cases nq
      by_cases hjl : j < qs.length
      · rw [List.getElem?_append_left hjl] at hj
        obtain ⟨h1, h2⟩ := hqs j q' hj
        exact ⟨h1, (updM_ne h1).trans (s2 _ _ h2)⟩
      · rw [List.getElem?_append_right (by omega)] at hj
        have hj0 : j = qs.length := by
          have := (List.getElem?_eq_some_iff.mp hj).1
          simp at this
          omega
        subst hj0
        simp at hj
        subst hj
        exact ⟨nqp, (updM_ne nqp).trans hM⟩
    · refine List.nodup_append.mpr ⟨nd, by simp, fun a ha c hc e => ?_⟩
      rw [List.mem_singleton] at hc
      subst hc
      subst e
      obtain ⟨j, hj⟩ := List.getElem?_of_mem ha
      rw [(hqs j a hj).2] at nq
      cases nq
    · rcases List.mem_append.mp hq' with h | h
      · exact hf q' h
      · rw [List.mem_singleton] at h
        subst h
        exact sub.free nq
  · rintro acc M' ⟨qs, rfl, hl, hqs, nd, hf, sub⟩ hpM
    exact ⟨hk M' sub, hq qs M' hl (fun k q e => (hqs k q e).2) nd (fun q hm => ⟨hf q hm, by obtain ⟨j, hj⟩ := List.getElem?_of_mem hm; exact (hqs j q hj).1⟩) sub hpM⟩
theorem cut_lo {ds : List D} {k : Nat} (h : k ≤ ds.length) : cutD ds none (some (k : Int)) = ds.take k := by
  unfold cutD
  rw [show HT.sIx ds.length 0 none = 0 from rfl, show HT.sIx ds.length ds.length (some (k : Int)) = min k ds.length from HT.sIx_nat _ _ k, Nat.sub_zero, Nat.min_eq_left h, List.drop_zero]
theorem cut_hi {ds : List D} {k : Nat} (h : k ≤ ds.length) : cutD ds (some (k : Int)) none = ds.drop k := by
  unfold cutD
  rw [show HT.sIx ds.length ds.length none = ds.length from rfl, show HT.sIx ds.length 0 (some (k : Int)) = min k ds.length from HT.sIx_nat _ _ k, Nat.min_eq_left h]
  exact List.take_of_length_le (by rw [List.length_drop]; omega)
theorem cut_set {ds : List D} {k : Nat} {x : D} (h : k < ds.length) : (cutD ds none (some (k : Int)) ++ [x]) ++ cutD ds (some ((k : Int) + 1)) none = ds.set k x := by
  rw [cut_lo (by omega), show (k : Int) + 1 = ((k + 1 : Nat) : Int) from rfl, cut_hi (by omega), List.set_eq_take_append_cons_drop, if_pos h, List.append_assoc]
  rfl
theorem range_map {F : List (List Int)} {f : List Int → D} : (List.range F.length).map (fun j => f (F.getD j [])) = F.map f := by
  refine List.ext_getElem? fun j => ?_
  rw [List.getElem?_map, List.getElem?_map]
  by_cases h : j < F.length
  · rw [List.getElem?_range h, List.getElem?_eq_getElem h]
    show some (f (F.getD j [])) = some (f F[j])
    rw [List.getD_eq_getElem?_getD, List.getElem?_eq_getElem h]
    rfl
  · rw [List.getElem?_eq_none (by rw [List.length_range]; omega), List.getElem?_eq_none (by omega)]
    rfl
def tupS (F : List (List Int)) : D := .tup (F.map rowD)
def spGreater : Sp3 := fun ds M Q _ => ∃ (al a : Addr) (rows : List (List Int)) (ls : List Int) (F : List (List Int)), ds = [.ref al, rowD ls, .ref a] ∧ M al = some (.dT (dOf rows)) ∧ LL M a F ∧ OkS ls F ∧ ls.length ≤ 4 ∧ (∀ x ∈ ls, 1 ≤ x ∧ x ≤ 60) ∧ prodD (ls.map D.int) ≤ 4000 ∧ Q (tupS ((growG rows ls ls.length F).map sortI)) M
def tGreater : S3 :=
    (s3Seq (s3Asg (e3Lc (i3Seq (e3Var 2)) 7 t3Yes (e3CB c3List (a3Cons (e3Var 7) a3Nil)) [7]) 3)
    (s3Seq (s3For (i3Enum (a3Cons (e3Var 1) a3Nil)) (g3Tup 2 (g3sCons (g3Name 4) (g3sCons (g3Name 5) g3sNil))) (s3For (i3Rng1 (a3Cons (e3Var 5) a3Nil)) (g3Name 6) (s3If (t3Test (e3Op (r3In true) (e3Var 6) (e3Op r3Ix (e3Var 3) (e3Var 4)))) (s3Seq (s3Asg (e3Op r3Add (e3Op r3Add (e3Sl (e3Var 3) o3None (o3Some (e3Var 4))) (e3Lst (a3Cons (e3Lst (a3Cons (e3Var 6) a3Nil)) a3Nil))) (e3Sl (e3Var 3) (o3Some (e3Op r3Add (e3Var 4) (e3C (.int 1)))) o3None)) 8)
    (s3If (t3Test (e3Call spGood (a3Cons (e3Var 0) (a3Cons (e3Var 8) a3Nil)))) (s3Expr (e3Bm m3App (e3Op r3Ix (e3Var 3) (e3Var 4)) (a3Cons (e3Var 6) a3Nil))) s3Nil)) s3Nil)))
    (s3Ret (e3TupOf (e3Lc (i3Seq (e3Var 3)) 7 t3Yes (e3TupOf (e3CB c3Sorted (a3Cons (e3Var 7) a3Nil))) [7])))))
theorem rdGreater : Rd3 ["allowed", "labels", "sets", "found", "at", "many", "label", "one", "trial"] tGreater spGreater := by
  rintro ds M Q E ⟨al, a, rows, ls, F, rfl, hal, ⟨refs, hra, hrl, hrefs⟩, ok, l4, lb, lp, q⟩
  have lF := ok.len
  refine ⟨_, hra, fun p np => ?_⟩
  refine lcListsN (fun k => (F.getD k []).map D.int) np (fun M' s => lstM_sub s hra) (fun k d M' R hd s k2 => ?_) (szLt (by rw [List.length_map]; omega)) fun qs M1 lq hq nd fr s1 h1 => ?_
  · rw [List.getElem?_map, Option.map_eq_some_iff] at hd
    obtain ⟨b, hb, rfl⟩ := hd
    have hk : k < F.length := by rw [← hrl]; exact (List.getElem?_eq_some_iff.mp hb).1
    exact ⟨_, lstM_sub s (hrefs k b _ hb (getD_some hk)), fun q nq => k2 q _ nq ((Sub.refl M').new nq) updM_same⟩
  rw [List.length_map, hrl] at lq
  conv => whnf
  refine ⟨fun k env' M' => ∃ s4 s5 s6 s8, env' = [some (.ref al), some (rowD ls), some (.ref a), some (.ref p), s4, s5, s6, none, s8] ∧ Sub M M' ∧ M' p = some (.lst (qs.map D.ref)) ∧ ∀ (j : Nat) (b : Addr) (s : List Int), qs[j]? = some b → (growG rows ls k F)[j]? = some s → M' b = some (.lst (s.map D.int)), ⟨_, _, _, _, rfl, s1, h1, fun j b s e1 e2 => ?_⟩, ?_, ?_⟩
  · have := hq j b e1
    rw [show F.getD j [] = s by rw [List.getD_eq_getElem?_getD, show F[j]? = some s from e2]; rfl] at this
    exact this
  · rintro k d env' M' hd ⟨s4, s5, s6, s8, rfl, sub, hp, hg⟩
    obtain ⟨x, hx, rfl⟩ := enumD_get hd
    rw [Nat.zero_add]
    rw [List.getElem?_map, Option.map_eq_some_iff] at hx
    obtain ⟨l, hl, rfl⟩ := hx
    have hk : k < F.length := by rw [lF]; exact (List.getElem?_eq_some_iff.mp hl).1
    have hb := lb l (List.mem_of_getElem? hl)
    have okG := ok.growG (rows := rows) k (by omega)
    have lenG : (growG rows ls k F).length = F.length := growG_len k
    have hlD : ls.getD k 0 = l := by rw [List.getD_eq_getElem?_getD, hl]; rfl
    obtain ⟨qk, hqk⟩ : ∃ b, qs[k]? = some b := ⟨_, List.getElem?_eq_getElem (by omega)⟩
    refine ⟨trivial, rfl, rfl, ?_⟩
    conv => whnf
    refine ⟨by omega, by omega, fun m env' M2 => ∃ s6 s8, env' = [some (.ref al), some (rowD ls), some (.ref a), some (.ref p), some (.int (k : Int)), some (.int l), s6, none, s8] ∧ Sub M M2 ∧ M2 p = some (.lst (qs.map D.ref)) ∧
      ∀ (j : Nat) (b : Addr) (s : List Int), qs[j]? = some b → (growAt rows k m (growG rows ls k F))[j]? = some s → M2 b = some (.lst (s.map D.int)), ⟨_, _, rfl, sub, hp, hg⟩, ?_, ?_⟩
    · rintro m x env' M2 hd2 ⟨s6, s8, rfl, sub, hp, hg⟩
      obtain ⟨hm, rfl⟩ := rngD_get hd2
      rw [Int.zero_add]
      have hml : (m : Int) < l := by omega
      have okA : OkS ls (growAt rows k m (growG rows ls k F)) := okG.growAt hl m (by omega)
      have lenA : (growAt rows k m (growG rows ls k F)).length = F.length := by rw [growAt_len, lenG]
      generalize hGe : growAt rows k m (growG rows ls k F) = A at hg okA lenA
      have hAk : A[k]? = some (A.getD k []) := getD_some (by omega)
      have hqA := hg k qk _ hqk hAk
      have hat : atI (qs.map D.ref) (k : Int) = some (.ref qk) := atI_nat (by rw [List.getElem?_map, hqk]; rfl)
      refine ⟨trivial, ?_⟩
      conv => whnf
      refine ⟨_, _, .inl hp, hat, in_ints (.inl hqA) ?_⟩
      rw [Bool.true_xor]
      have next : growAt rows k (m + 1) (growG rows ls k F) = stepG rows k (m : Int) A := by rw [growAt_succ, hGe]
      refine ⟨fun e => ?_, fun e => ?_⟩
      · have hn : ¬ (m : Int) ∈ A.getD k [] := by simpa using e
        refine ⟨_, .inl hp, fun p1 np1 => ⟨szLe (by show 1 ≤ 1000000; decide), fun b nb => ⟨szLe (by show 1 ≤ 1000000; decide), fun p2 np2 => ?_⟩⟩⟩
        have lqD : (qs.map D.ref).length ≤ 4 := by rw [List.length_map]; omega
        have c1 := cut_le (ds := qs.map D.ref) (lo := none) (hi := some (k : Int))
        have c2 := cut_le (ds := qs.map D.ref) (lo := some ((k : Int) + 1)) (hi := none)
        have t1 := (Sub.refl M2).new (o := .lst (cutD (qs.map D.ref) none (some (k : Int)))) np1
        have g1 := updM_same (M := M2) (a := p1) (o := .lst (cutD (qs.map D.ref) none (some (k : Int))))
        generalize updM M2 p1 (.lst (cutD (qs.map D.ref) none (some (k : Int)))) = A1 at nb np2 t1 g1 ⊢
        have t2 := (Sub.refl A1).new (o := .lst [.int (m : Int)]) nb
        have g2 := updM_same (M := A1) (a := b) (o := .lst [.int (m : Int)])
        generalize updM A1 b (.lst [.int (m : Int)]) = A2 at np2 t2 g2 ⊢
        have t3 := (Sub.refl A2).new (o := .lst [.ref b]) np2
        have g3 := updM_same (M := A2) (a := p2) (o := .lst [.ref b])
        generalize updM A2 p2 (.lst [.ref b]) = A3 at t3 g3 ⊢
        refine ⟨_, _, t3 _ _ (t2 _ _ g1), g3, szLe (by show _ + 1 ≤ 1000000; omega), fun p3 np3 => ?_⟩
        have t4 := (Sub.refl A3).new (o := .lst (cutD (qs.map D.ref) none (some (k : Int)) ++ [.ref b])) np3
        have g4 := updM_same (M := A3) (a := p3) (o := .lst (cutD (qs.map D.ref) none (some (k : Int)) ++ [.ref b]))
        generalize updM A3 p3 (.lst (cutD (qs.map D.ref) none (some (k : Int)) ++ [.ref b])) = A4 at t4 g4 ⊢
        have t14 := ((t1.trans t2).trans t3).trans t4
        refine ⟨_, .inl (t14 _ _ hp), fun p4 np4 => ?_⟩
        have t5 := (Sub.refl A4).new (o := .lst (cutD (qs.map D.ref) (some ((k : Int) + 1)) none)) np4
        have g5 := updM_same (M := A4) (a := p4) (o := .lst (cutD (qs.map D.ref) (some ((k : Int) + 1)) none))
        generalize updM A4 p4 (.lst (cutD (qs.map D.ref) (some ((k : Int) + 1)) none)) = A5 at t5 g5 ⊢
        refine ⟨_, _, t5 _ _ g4, g5, szLe (by rw [List.length_append, List.length_singleton]; omega), fun p5 np5 => ?_⟩
        rw [cut_set (by rw [List.length_map]; omega), ← List.map_set]
        have t6 := (Sub.refl A5).new (o := .lst ((qs.set k b).map D.ref)) np5
        have g6 := updM_same (M := A5) (a := p5) (o := .lst ((qs.set k b).map D.ref))
        generalize updM A5 p5 (.lst ((qs.set k b).map D.ref)) = A6 at t6 g6 ⊢
        have t16 := (t14.trans t5).trans t6
        have gb := t6 _ _ (t5 _ _ (t4 _ _ (t3 _ _ g2)))
        conv => whnf
        have okT : OkS ls (A.set k [(m : Int)]) := okA.set fun l' e => by
          rw [hl] at e
          cases e
          exact ⟨by simp, fun x hx => by rw [List.mem_singleton] at hx; subst hx; omega⟩
        have hLL : LL A6 p5 (A.set k [(m : Int)]) := by
          refine ⟨qs.set k b, .inl g6, by rw [List.length_set, List.length_set]; omega, fun j c s e1 e2 => ?_⟩
          rw [List.getElem?_set] at e1
          by_cases e : k = j
          · subst e
            rw [if_pos rfl, if_pos (by omega)] at e1
            cases e1
            rcases set_get e2 with ⟨_, rfl, _⟩ | ⟨z, _⟩
            · exact .inl gb
            · exact absurd rfl z
          · rw [if_neg e] at e1
            rcases set_get e2 with ⟨z, _, _⟩ | ⟨_, e2⟩
            · exact absurd z.symm e
            · exact .inl (t16 _ _ (hg j c s e1 e2))
        refine ⟨al, p5, rows, A.set k [(m : Int)], rfl, t16 _ _ (sub _ _ hal), hLL, okT.few l4 (fun x hx => (lb x hx).1) lp, ?_⟩
        have sub6 := sub.trans t16
        refine ⟨fun e => ?_, fun e => ?_⟩
        · have hq6 := t16 _ _ hqA
          refine ⟨_, _, .inl (t16 _ _ hp), hat, ⟨_, .inl hq6⟩, _, hq6, szLt (by
            rw [List.length_map]
            obtain ⟨k1, k2⟩ := okA.at_ hl
            have := nodup_len (n := l.toNat) k1 fun x hx => by have := k2 x hx; omega
            omega), ?_⟩
          have hfr := fr qk (List.mem_of_getElem? hqk)
          refine ⟨_, _, rfl, sub6.new hfr.1, (updM_ne fun e => hfr.2 e.symm).trans (t16 _ _ hp), fun j c s e1 e2 => ?_⟩
          rw [next] at e2
          unfold stepG at e2
          rw [if_neg hn, if_pos e] at e2
          rcases set_get e2 with ⟨rfl, rfl, _⟩ | ⟨z, e2⟩
          · rw [hqk] at e1
            cases e1
            rw [updM_same, List.map_append]
            rfl
          · refine (updM_ne fun e3 => ?_).trans (t16 _ _ (hg j c s e1 e2))
            subst e3
            have hjl : j < qs.length := (List.getElem?_eq_some_iff.mp e1).1
            exact z ((List.getElem?_inj hjl nd).mp (e1.trans hqk.symm))
        · refine ⟨_, _, rfl, sub6, t16 _ _ hp, fun j c s e1 e2 => t16 _ _ (hg j c s e1 ?_)⟩
          rw [next] at e2
          unfold stepG at e2
          rwa [if_neg hn, if_neg (by rw [e]; decide)] at e2
      · have hn : (m : Int) ∈ A.getD k [] := by simpa using e
        refine ⟨_, _, rfl, sub, hp, fun j b s e1 e2 => hg j b s e1 ?_⟩
        rw [next] at e2
        unfold stepG at e2
        rwa [if_pos hn] at e2
    · rintro env' M2 ⟨s6, s8, rfl, sub, hp, hg⟩
      rw [rngD_length] at hg
      refine ⟨trivial, _, _, _, _, rfl, sub, hp, fun j b s e1 e2 => hg j b s e1 ?_⟩
      rw [growG_succ, hlD] at e2
      exact e2
  · rintro env' M' ⟨s4, s5, s6, s8, rfl, sub, hp, hg⟩
    rw [enumD_length, List.length_map] at hg
    have lenG : (growG rows ls ls.length F).length = F.length := growG_len _
    generalize growG rows ls ls.length F = A at hg q lenG
    refine ⟨trivial, _, .inl hp, fun b nb => ?_⟩
    refine lcIdx (fun j => rowD (sortI (A.getD j []))) nb (fun M2 s => .inl (s _ _ hp)) (fun j d M2 R hd s k2 => ?_) (szLt (by rw [List.length_map]; omega)) fun M2 s2 h2 => ?_
    · rw [List.getElem?_map, Option.map_eq_some_iff] at hd
      obtain ⟨c, hc, rfl⟩ := hd
      have hj : j < A.length := by
        have := (List.getElem?_eq_some_iff.mp hc).1
        omega
      refine ⟨A.getD j [], .inl (s _ _ (hg j c _ hc (getD_some hj))), fun ms z pm ps nz => ⟨_, .inl updM_same, ?_⟩⟩
      have := k2 _ ((Sub.refl M2).new nz (o := .lst (ms.map D.int)))
      rw [← sortI_is pm ps] at this
      exact this
    · rw [List.length_map, show qs.length = A.length by omega, range_map (f := fun s => rowD (sortI s))] at h2
      refine ⟨_, .inl h2, M, sub.trans s2, ?_⟩
      have e : tupS (A.map sortI) = .tup (A.map fun s => rowD (sortI s)) := by
        unfold tupS
        rw [List.map_map]
        rfl
      rw [e] at q
      exact q
/-! ### the law's own: _law_is_good, _law_is_greatest -/
def spLGood : Sp3 := fun ds M Q _ => ∃ (rows F : List (List Int)), ds = [rsD rows, tupS F] ∧ Few F ∧ Q (.bl (goodB rows F)) M
def tLGood : S3 :=
    (s3Seq (s3For (i3Seq (e3Call spProd (a3Cons (e3Lc (i3Seq (e3Var 1)) 3 t3Yes (e3CB c3List (a3Cons (e3Var 3) a3Nil)) [3]) a3Nil))) (g3Name 2) (s3If (t3Test (e3Op (r3In true) (e3Var 2) (e3Var 0))) (s3Ret (e3C (.bl false))) s3Nil))
    (s3Ret (e3C (.bl true))))
theorem rdLGood : Rd3 ["rows", "sets", "row", "one"] tLGood spLGood := by
  rintro ds M Q E ⟨rows, F, rfl, hf, q⟩
  refine fun p np => ?_
  refine lcListsN (fun k => (F.getD k []).map D.int) np (fun _ _ => trivial) (fun k d M' R hd s k2 => ?_) (szLt (by rw [List.length_map]; have := hf.1; omega)) fun qs M1 lq hq nd fr s1 h1 => ?_
  · rw [List.getElem?_map, Option.map_eq_some_iff] at hd
    obtain ⟨s, hs, rfl⟩ := hd
    have e : F.getD k [] = s := by rw [List.getD_eq_getElem?_getD, hs]; rfl
    refine fun z nz => k2 z _ nz ((Sub.refl M').new nz) ?_
    rw [updM_same, e]
  rw [List.length_map] at lq
  have hl : LL M1 p F := ⟨qs, .inl h1, lq, fun k b s e1 e2 => by
    have := hq k b e1
    rw [show F.getD k [] = s by rw [List.getD_eq_getElem?_getD, e2]; rfl] at this
    exact .inl this⟩
  obtain ⟨refs, h1, h2, h3, h4⟩ := hl.prod hf
  refine ⟨p, refs, _, rfl, h1, h2, h3, h4, hf.prods, fun z nz => ?_⟩
  rw [prod_rows]
  have s2 : Sub M (updM M1 z (.lst ((prodI F).map rowD))) := s1.trans ((Sub.refl M1).new nz)
  have hz := updM_same (M := M1) (a := z) (o := .lst ((prodI F).map rowD))
  generalize updM M1 z (.lst ((prodI F).map rowD)) = M2 at s2 hz
  refine ⟨_, .inl hz, fun k env' M' => ∃ s2, env' = [some (rsD rows), some (tupS F), s2, none] ∧ M' = M2 ∧ ∀ r ∈ (prodI F).take k, r ∈ rows, ⟨none, rfl, rfl, fun r hr => by simp at hr⟩, ?_, ?_⟩
  · rintro k d env' M' hd ⟨s2', rfl, rfl, hall⟩
    rw [List.getElem?_map, Option.map_eq_some_iff] at hd
    obtain ⟨r, hr, rfl⟩ := hd
    refine ⟨.inl hz, in_rows (r := r) (rs := rows) rfl ?_⟩
    rw [Bool.true_xor]
    refine ⟨fun e => ⟨M, s2, ?_⟩, fun e => ⟨_, rfl, rfl, fun t ht => ?_⟩⟩
    · have hn : ¬ r ∈ rows := by simpa using e
      have : goodB rows F = false := by
        unfold goodB
        rw [List.all_eq_false]
        exact ⟨r, List.mem_of_getElem? hr, by simpa using hn⟩
      rw [this] at q
      exact q
    · rw [List.take_add_one, hr] at ht
      rcases List.mem_append.mp ht with ht | ht
      · exact hall t ht
      · have : t = r := by simpa using ht
        subst this
        simpa using e
  · rintro env' M' ⟨s2', rfl, rfl, hall⟩
    rw [List.length_map, List.take_length] at hall
    have : goodB rows F = true := by
      unfold goodB
      rw [List.all_eq_true]
      exact fun r hr => decide_eq_true (hall r hr)
    rw [this] at q
    exact ⟨.inl hz, M, s2, q⟩
/-- greatest: no set can be given a label more -/
def Greatest (rows : List (List Int)) (ls : List Int) (F : List (List Int)) : Prop := ∀ (i : Nat) (x l : Int), ls[i]? = some l → 0 ≤ x → x < l → x ∈ F.getD i [] ∨ goodB rows (F.set i [x]) = false
def spLGreatest : Sp3 := fun ds M Q _ => ∃ (rows : List (List Int)) (ls : List Int) (F : List (List Int)), ds = [rsD rows, rowD ls, tupS F] ∧ OkS ls F ∧ ls.length ≤ 4 ∧ (∀ x ∈ ls, 1 ≤ x ∧ x ≤ 60) ∧ prodD (ls.map D.int) ≤ 4000 ∧ Greatest rows ls F ∧ Q (.bl true) M
def tLGreatest : S3 :=
    (s3Seq (s3For (i3Rng1 (a3Cons (e3CB c3Len (a3Cons (e3Var 1) a3Nil)) a3Nil)) (g3Name 3) (s3For (i3Rng1 (a3Cons (e3Op r3Ix (e3Var 1) (e3Var 3)) a3Nil)) (g3Name 4) (s3If (t3And (t3Test (e3Op (r3In true) (e3Var 4) (e3Op r3Ix (e3Var 2) (e3Var 3)))) (t3Test (e3Call spLGood (a3Cons (e3Var 0) (a3Cons (e3Op r3Add (e3Op r3Add (e3Sl (e3Var 2) o3None (o3Some (e3Var 3))) (e3Tup (a3Cons (e3Tup (a3Cons (e3Var 4) a3Nil)) a3Nil))) (e3Sl (e3Var 2) (o3Some (e3Op r3Add (e3Var 3) (e3C (.int 1)))) o3None)) a3Nil))))) (s3Ret (e3C (.bl false))) s3Nil)))
    (s3Ret (e3C (.bl true))))
theorem rdLGreatest : Rd3 ["rows", "labels", "sets", "at", "label"] tLGreatest spLGreatest := by
  rintro ds M Q E ⟨rows, ls, F, rfl, ok, l4, lb, lp, gr, q⟩
  have lF := ok.len
  conv => whnf
  rw [List.length_map]
  refine ⟨by omega, by omega, fun k env' M' => ∃ s3 s4, env' = [some (rsD rows), some (rowD ls), some (tupS F), s3, s4] ∧ M' = M, ⟨_, _, rfl, rfl⟩, ?_, ?_⟩
  · rintro k d env' M' hd ⟨s3, s4, rfl, rfl⟩
    obtain ⟨hk, rfl⟩ := rngD_get hd
    rw [Int.toNat_natCast] at hk
    rw [Int.zero_add]
    have hl : ls[k]? = some ls[k] := List.getElem?_eq_getElem hk
    have hb := lb _ (List.getElem_mem hk)
    have hlD : atI (ls.map D.int) (k : Int) = some (.int ls[k]) := atI_nat (by rw [List.getElem?_map, hl]; rfl)
    have hkF : k < F.length := by omega
    have hFD : atI (F.map rowD) (k : Int) = some (rowD (F.getD k [])) := atI_nat (by rw [List.getElem?_map, getD_some hkF]; rfl)
    refine ⟨trivial, _, hlD, ?_⟩
    conv => whnf
    refine ⟨by omega, by omega, fun m env' M2 => ∃ s4, env' = [some (rsD rows), some (rowD ls), some (tupS F), some (.int (k : Int)), s4] ∧ M2 = M', ⟨_, rfl, rfl⟩, ?_, ?_⟩
    · rintro m d env' M2 hd ⟨s4, rfl, rfl⟩
      obtain ⟨hm, rfl⟩ := rngD_get hd
      rw [Int.zero_add]
      refine ⟨trivial, ?_⟩
      conv => whnf
      refine ⟨_, hFD, in_ints rfl ?_⟩
      rw [Bool.true_xor]
      have c1 := cut_le (ds := F.map rowD) (lo := none) (hi := some (k : Int))
      have c2 := cut_le (ds := F.map rowD) (lo := some ((k : Int) + 1)) (hi := none)
      rw [List.length_map] at c1 c2
      refine ⟨fun e => ?_, fun e => Br.ff ⟨_, rfl, rfl⟩⟩
      have hn : ¬ (m : Int) ∈ F.getD k [] := by simpa using e
      conv => whnf
      refine ⟨szLe (by show 1 ≤ 1000000; decide), szLe (by show 1 ≤ 1000000; decide), szLe (by show _ + 1 ≤ 1000000; omega), szLe (by rw [List.length_append]; show _ + 1 + _ ≤ 1000000; omega), ?_⟩
      have ecut : (cutD (F.map rowD) none (some (k : Int)) ++ [rowD [(m : Int)]]) ++ cutD (F.map rowD) (some ((k : Int) + 1)) none = (F.set k [(m : Int)]).map rowD := by
        rw [cut_set (by rw [List.length_map]; exact hkF), ← List.map_set]
      have okT : OkS ls (F.set k [(m : Int)]) := ok.set fun l' e => by
        rw [hl] at e
        cases e
        exact ⟨by simp, fun x hx => by rw [List.mem_singleton] at hx; subst hx; omega⟩
      refine ⟨rows, F.set k [(m : Int)], ?_, okT.few l4 (fun x hx => (lb x hx).1) lp, ?_⟩
      · show [rsD rows, D.tup _] = [rsD rows, tupS _]
        unfold tupS
        rw [← ecut]
        rfl
      · rcases gr k (m : Int) ls[k] hl (by omega) (by omega) with h | h
        · exact absurd h hn
        · rw [h]
          exact Br.ff ⟨_, rfl, rfl⟩
    · rintro env' M' ⟨s4, rfl, rfl⟩
      exact ⟨trivial, _, _, rfl, rfl⟩
  · rintro env' M' ⟨s3, s4, rfl, rfl⟩
    exact ⟨trivial, _, Sub.refl _, q⟩
end L3

namespace L3
/-! ### rows struck out whose labels the other side never has: plain lists -/
abbrev Side := List (List (List Int))
def col (S : Side) (c : Nat) : List Int := S.flatten.map fun r => r.getD c 0
def fitsS (O : Side) (r : List Int) : Bool := (List.range r.length).all fun c => decide (r.getD c 0 ∈ col O c)
def strike (S O : Side) : Side := S.map fun rs => rs.filter (fitsS O)
theorem fitsS_iff {O : Side} {r : List Int} : fitsS O r = true ↔ ∀ c, c < r.length → r.getD c 0 ∈ col O c := by
  unfold fitsS
  rw [List.all_eq_true]
  constructor
  · intro h c hc
    exact of_decide_eq_true (h c (List.mem_range.mpr hc))
  · intro h c hc
    exact decide_eq_true (h c (List.mem_range.mp hc))
theorem mem_col {S : Side} {c : Nat} {x : Int} : x ∈ col S c ↔ ∃ rs ∈ S, ∃ r ∈ rs, r.getD c 0 = x := by
  unfold col
  rw [List.mem_map]
  constructor
  · rintro ⟨r, hr, e⟩
    obtain ⟨rs, h1, h2⟩ := List.mem_flatten.mp hr
    exact ⟨rs, h1, r, h2, e⟩
  · rintro ⟨rs, h1, r, h2, e⟩
    exact ⟨r, List.mem_flatten.mpr ⟨rs, h1, h2⟩, e⟩
def LeS (S T : Side) : Prop := S.length = T.length ∧ ∀ (i : Nat) (a b : List (List Int)), S[i]? = some a → T[i]? = some b → ∀ r ∈ a, r ∈ b
theorem LeS.refl (S : Side) : LeS S S := ⟨rfl, fun i a b e1 e2 r hr => by rw [e1] at e2; cases e2; exact hr⟩
theorem LeS.trans {S T U : Side} (h : LeS S T) (k : LeS T U) : LeS S U := ⟨h.1.trans k.1, fun i a c e1 e3 r hr => by
  have hi : i < T.length := by rw [← h.1]; exact (List.getElem?_eq_some_iff.mp e1).1
  exact k.2 i _ c (List.getElem?_eq_getElem hi) e3 r (h.2 i a _ e1 (List.getElem?_eq_getElem hi) r hr)⟩
theorem LeS.col {S T : Side} (h : LeS S T) {c : Nat} {x : Int} (hx : x ∈ col S c) : x ∈ col T c := by
  obtain ⟨rs, h1, r, h2, e⟩ := mem_col.mp hx
  obtain ⟨i, hi⟩ := List.getElem?_of_mem h1
  have hlt : i < T.length := by rw [← h.1]; exact (List.getElem?_eq_some_iff.mp hi).1
  exact mem_col.mpr ⟨T[i], List.getElem_mem hlt, r, h.2 i rs _ hi (List.getElem?_eq_getElem hlt) r h2, e⟩
theorem LeS.fits {S T : Side} (h : LeS S T) {r : List Int} (hr : fitsS S r = true) : fitsS T r = true :=
  fitsS_iff.mpr fun c hc => h.col (fitsS_iff.mp hr c hc)
theorem strike_le (S O : Side) : LeS (strike S O) S := ⟨by unfold strike; rw [List.length_map], fun i a b e1 e2 r hr => by
  unfold strike at e1
  rw [List.getElem?_map, e2] at e1
  cases e1
  exact (List.mem_filter.mp hr).1⟩
theorem strike_keep {S O Sc Oc : Side} (h1 : LeS Sc S) (h2 : LeS Oc O) (cl : strike Sc Oc = Sc) : LeS Sc (strike S O) := ⟨by unfold strike; rw [List.length_map]; exact h1.1, fun i a b e1 e2 r hr => by
  unfold strike at e2
  rw [List.getElem?_map, Option.map_eq_some_iff] at e2
  obtain ⟨rs, hrs, rfl⟩ := e2
  refine List.mem_filter.mpr ⟨h1.2 i a rs e1 hrs r hr, h2.fits ?_⟩
  rw [← cl] at e1
  unfold strike at e1
  rw [List.getElem?_map, Option.map_eq_some_iff] at e1
  obtain ⟨u, hu, rfl⟩ := e1
  exact (List.mem_filter.mp hr).2⟩
/-- S is what is left of S0 -/
def Flt (S0 S : Side) : Prop := S.length = S0.length ∧ ∀ (i : Nat) (a b : List (List Int)), S0[i]? = some a → S[i]? = some b → ∃ p : List Int → Bool, b = a.filter p
theorem Flt.refl (S : Side) : Flt S S := ⟨rfl, fun i a b e1 e2 => by
  rw [e1] at e2
  cases e2
  exact ⟨fun _ => true, (List.filter_eq_self.mpr fun _ _ => rfl).symm⟩⟩
theorem Flt.strike {S0 S : Side} (h : Flt S0 S) (O : Side) : Flt S0 (strike S O) := ⟨by unfold L3.strike; rw [List.length_map]; exact h.1, fun i a b e1 e2 => by
  unfold L3.strike at e2
  rw [List.getElem?_map, Option.map_eq_some_iff] at e2
  obtain ⟨u, hu, rfl⟩ := e2
  obtain ⟨p, rfl⟩ := h.2 i a u e1 hu
  exact ⟨_, by rw [List.filter_filter]⟩⟩
theorem Flt.le {S0 S : Side} (h : Flt S0 S) : LeS S S0 := ⟨h.1, fun i a b e1 e2 r hr => by
  obtain ⟨p, rfl⟩ := h.2 i b a e2 e1
  exact (List.mem_filter.mp hr).1⟩
theorem Flt.one {S0 S T : Side} (h : Flt S0 S) (k : Flt S0 T) (a : LeS S T) (b : LeS T S) : S = T := by
  refine List.ext_getElem? fun i => ?_
  by_cases hi : i < S0.length
  · have i1 : i < List.length S := by rw [h.1]; exact hi
    have i2 : i < List.length T := by rw [k.1]; exact hi
    have h1 : S[i]? = some S[i] := List.getElem?_eq_getElem i1
    have h2 : T[i]? = some T[i] := List.getElem?_eq_getElem i2
    obtain ⟨p, e1⟩ := h.2 i _ _ (List.getElem?_eq_getElem hi) h1
    obtain ⟨q, e2⟩ := k.2 i _ _ (List.getElem?_eq_getElem hi) h2
    rw [h1, h2, e1, e2]
    congr 1
    refine List.filter_congr fun r hr => ?_
    rw [Bool.eq_iff_iff]
    constructor
    · intro hp
      have := a.2 i _ _ h1 h2 r (by rw [e1]; exact List.mem_filter.mpr ⟨hr, hp⟩)
      rw [e2] at this
      exact (List.mem_filter.mp this).2
    · intro hq
      have := b.2 i _ _ h2 h1 r (by rw [e2]; exact List.mem_filter.mpr ⟨hr, hq⟩)
      rw [e1] at this
      exact (List.mem_filter.mp this).2
  · rw [List.getElem?_eq_none (by rw [h.1]; omega), List.getElem?_eq_none (by rw [k.1]; omega)]
/-- on the way to the greatest pair that stays -/
structure Way (W0 B0 W B : Side) : Prop where
  fw : Flt W0 W
  fb : Flt B0 B
  gr : ∀ Wc Bc, LeS Wc W0 → LeS Bc B0 → strike Wc Bc = Wc → strike Bc Wc = Bc → LeS Wc W ∧ LeS Bc B
theorem Way.start (W B : Side) : Way W B W B := ⟨.refl W, .refl B, fun Wc Bc h1 h2 _ _ => ⟨h1, h2⟩⟩
theorem Way.w {W0 B0 W B : Side} (h : Way W0 B0 W B) : Way W0 B0 (strike W B) B := ⟨h.fw.strike B, h.fb, fun Wc Bc h1 h2 c1 c2 => by
  obtain ⟨k1, k2⟩ := h.gr Wc Bc h1 h2 c1 c2
  exact ⟨strike_keep k1 k2 c1, k2⟩⟩
theorem Way.b {W0 B0 W B : Side} (h : Way W0 B0 W B) : Way W0 B0 W (strike B W) := ⟨h.fw, h.fb.strike W, fun Wc Bc h1 h2 c1 c2 => by
  obtain ⟨k1, k2⟩ := h.gr Wc Bc h1 h2 c1 c2
  exact ⟨k1, strike_keep k2 k1 c2⟩⟩
theorem Way.both {W0 B0 W B : Side} (h : Way W0 B0 W B) : Way W0 B0 (strike W B) (strike B W) := ⟨h.fw.strike B, h.fb.strike W, fun Wc Bc h1 h2 c1 c2 => by
  obtain ⟨k1, k2⟩ := h.gr Wc Bc h1 h2 c1 c2
  exact ⟨strike_keep k1 k2 c1, strike_keep k2 k1 c2⟩⟩
structure Ended (W0 B0 W B : Side) : Prop where
  way : Way W0 B0 W B
  w : strike W B = W
  b : strike B W = B
theorem Ended.one {W0 B0 W B W' B' : Side} (h : Ended W0 B0 W B) (k : Ended W0 B0 W' B') : W = W' ∧ B = B' := by
  obtain ⟨a1, a2⟩ := k.way.gr W B h.way.fw.le h.way.fb.le h.w h.b
  obtain ⟨b1, b2⟩ := h.way.gr W' B' k.way.fw.le k.way.fb.le k.w k.b
  exact ⟨h.way.fw.one k.way.fw a1 b1, h.way.fb.one k.way.fb a2 b2⟩
/-! how many rows are left -/
def cnt (S : Side) : Nat := (S.map List.length).sum
theorem strike_cnt : ∀ {S : Side} (O : Side), cnt (strike S O) ≤ cnt S ∧ (cnt (strike S O) = cnt S → strike S O = S)
  | [], O => ⟨Nat.le_refl _, fun _ => rfl⟩
  | rs :: S, O => by
    obtain ⟨h1, h2⟩ := strike_cnt (S := S) O
    have h3 := List.length_filter_le (fitsS O) rs
    have e : strike (rs :: S) O = rs.filter (fitsS O) :: strike S O := rfl
    have e1 : cnt (strike (rs :: S) O) = (rs.filter (fitsS O)).length + cnt (strike S O) := by rw [e]; simp [cnt]
    have e2 : cnt (rs :: S) = rs.length + cnt S := by simp [cnt]
    refine ⟨by omega, fun he => ?_⟩
    rw [e, h2 (by omega)]
    have : rs.filter (fitsS O) = rs := List.filter_sublist.eq_of_length (by omega)
    rw [this]
theorem strike_less {S O : Side} (h : strike S O ≠ S) : cnt (strike S O) < cnt S := by
  obtain ⟨h1, h2⟩ := strike_cnt (S := S) O
  by_cases e : cnt (strike S O) = cnt S
  · exact absurd (h2 e) h
  · omega
/-! labels, each once, in the order in which they come first -/
def addI (acc : List Int) (x : Int) : List Int := if x ∈ acc then acc else acc ++ [x]
def firstsI (l : List Int) : List Int := l.foldl addI []
theorem addI_mem {acc : List Int} {x y : Int} : y ∈ addI acc x ↔ y ∈ acc ∨ y = x := by
  unfold addI
  split
  · constructor
    · exact .inl
    · rintro (h | rfl)
      · exact h
      · assumption
  · rw [List.mem_append, List.mem_singleton]
theorem addI_nodup {acc : List Int} {x : Int} (h : acc.Nodup) : (addI acc x).Nodup := by
  unfold addI
  split
  · exact h
  · refine List.nodup_append.mpr ⟨h, by simp, fun a ha b hb e => ?_⟩
    rw [List.mem_singleton] at hb
    subst hb
    subst e
    contradiction
theorem fold_addI {l : List Int} : ∀ {acc : List Int}, (acc.Nodup → (l.foldl addI acc).Nodup) ∧ ∀ y, y ∈ l.foldl addI acc ↔ y ∈ acc ∨ y ∈ l := by
  induction l with
  | nil => exact fun {acc} => ⟨id, fun y => by simp⟩
  | cons x l ih =>
    intro acc
    obtain ⟨h1, h2⟩ := ih (acc := addI acc x)
    refine ⟨fun h => h1 (addI_nodup h), fun y => ?_⟩
    rw [List.foldl_cons, h2 y, addI_mem, List.mem_cons]
    constructor
    · rintro ((h | h) | h)
      · exact .inl h
      · exact .inr (.inl h)
      · exact .inr (.inr h)
    · rintro (h | h | h)
      · exact .inl (.inl h)
      · exact .inl (.inr h)
      · exact .inr h
theorem firstsI_nodup (l : List Int) : (firstsI l).Nodup := (fold_addI (l := l) (acc := [])).1 List.nodup_nil
theorem mem_firstsI {l : List Int} {x : Int} : x ∈ firstsI l ↔ x ∈ l := by
  have := (fold_addI (l := l) (acc := [])).2 x
  rw [show firstsI l = l.foldl addI [] from rfl, this]
  simp
/-- ascending lists of ints, each once, with the same members -/
theorem sort_firsts {l m : List Int} (h : ∀ x, x ∈ l ↔ x ∈ m) : sortI (firstsI l) = sortI (firstsI m) :=
  sorted_one ((sortI_perm _).trans (((List.perm_ext_iff_of_nodup (firstsI_nodup l) (firstsI_nodup m)).mpr fun x => by rw [mem_firstsI, mem_firstsI]; exact h x).trans (sortI_perm _).symm)) (sortI_asc _) (sortI_asc _)
end L3

namespace L3
open PySem PySem.Spec PyProof.Rows L2
/-! ### a task tidied: plain lists -/
def keptI (S : Side) (c : Nat) : List Int := if sortI (firstsI (col S c)) = [] then [0] else sortI (firstsI (col S c))
def keptS (S : Side) (C : Nat) : List (List Int) := (List.range C).map (keptI S)
def renumI (kept : List (List Int)) (r : List Int) : List Int := List.zipWith (fun x k => ((k.idxOf x : Nat) : Int)) r kept
def renS (kept : List (List Int)) (S : Side) : Side := S.map fun rs => rs.map (renumI kept)
def tidT (C : Nat) (W B : Side) : Tk := ⟨(keptS W C).map (fun k => (k.length : Int)), renS (keptS W C) W, renS (keptS W C) B⟩
/-- each row is as long as there are colours, and has labels that stand on the other side -/
structure Neat (ls : List Int) (W B : Side) : Prop where
  wr : ∀ rs ∈ W, ∀ r ∈ rs, RwOk ls r
  br : ∀ rs ∈ B, ∀ r ∈ rs, RwOk ls r
  w : strike W B = W
  b : strike B W = B
section
variable {ls : List Int} {W B : Side} {c : Nat} {x : Int}
theorem strike_fits {S O : Side} (h : strike S O = S) {rs : List (List Int)} (hrs : rs ∈ S) {r : List Int} (hr : r ∈ rs) : fitsS O r = true := by
  rw [← h] at hrs
  unfold strike at hrs
  obtain ⟨u, hu, rfl⟩ := List.mem_map.mp hrs
  exact (List.mem_filter.mp hr).2
theorem Neat.swap (h : Neat ls W B) : Neat ls B W := ⟨h.br, h.wr, h.b, h.w⟩
theorem Neat.col1 (h : Neat ls W B) (hc : c < ls.length) (hx : x ∈ col W c) : x ∈ col B c := by
  obtain ⟨rs, h1, r, h2, rfl⟩ := mem_col.mp hx
  exact fitsS_iff.mp (strike_fits h.w h1 h2) c (by rw [(h.wr rs h1 r h2).1]; exact hc)
theorem Neat.col (h : Neat ls W B) (hc : c < ls.length) : x ∈ L3.col W c ↔ x ∈ L3.col B c := ⟨h.col1 hc, h.swap.col1 hc⟩
theorem kept_asc (S : Side) (c : Nat) : (keptI S c).Pairwise (· < ·) := by
  unfold keptI
  split
  · exact List.pairwise_singleton _ _
  · have h1 := sortI_asc (firstsI (L3.col S c))
    have h2 : (sortI (firstsI (L3.col S c))).Nodup := (sortI_perm _).symm.nodup (firstsI_nodup _)
    exact (List.pairwise_and_iff.mpr ⟨h1, h2⟩).imp fun {a b} h => by have := h.1; have := h.2; omega
theorem kept_nodup (S : Side) (c : Nat) : (keptI S c).Nodup := (kept_asc S c).imp fun h => by omega
theorem kept_ne (S : Side) (c : Nat) : keptI S c ≠ [] := by
  unfold keptI
  split
  · simp
  · assumption
theorem kept_of {S : Side} (hx : x ∈ L3.col S c) : x ∈ keptI S c := by
  have h : x ∈ sortI (firstsI (L3.col S c)) := sortI_mem.mpr (mem_firstsI.mpr hx)
  unfold keptI
  rw [if_neg (List.ne_nil_of_mem h)]
  exact h
theorem of_kept {S : Side} (hx : x ∈ keptI S c) : x ∈ L3.col S c ∨ x = 0 ∧ keptI S c = [0] ∧ ∀ y, y ∉ L3.col S c := by
  unfold keptI at hx ⊢
  split at hx
  · rename_i h
    rw [if_pos h]
    refine .inr ⟨List.mem_singleton.mp hx, rfl, fun y hy => ?_⟩
    have : y ∈ sortI (firstsI (L3.col S c)) := sortI_mem.mpr (mem_firstsI.mpr hy)
    rw [h] at this
    simp at this
  · exact .inl (mem_firstsI.mp (sortI_mem.mp hx))
theorem kept_same {S T : Side} (h : ∀ x, x ∈ L3.col S c ↔ x ∈ L3.col T c) : keptI S c = keptI T c := by
  unfold keptI
  rw [sort_firsts h]
theorem kept_bound (hr : ∀ rs ∈ W, ∀ r ∈ rs, RwOk ls r) {l : Int} (hl : ls[c]? = some l) (l1 : 1 ≤ l) (hx : x ∈ keptI W c) : 0 ≤ x ∧ x < l := by
  rcases of_kept hx with hx | ⟨rfl, _⟩
  · obtain ⟨rs, h1, r, h2, rfl⟩ := mem_col.mp hx
    have hc : c < r.length := by rw [(hr rs h1 r h2).1]; exact (List.getElem?_eq_some_iff.mp hl).1
    refine (hr rs h1 r h2).2 c _ l ?_ hl
    rw [List.getD_eq_getElem?_getD, List.getElem?_eq_getElem hc]
    rfl
  · omega
theorem keptS_get {S : Side} {C : Nat} (hc : c < C) : (keptS S C)[c]? = some (keptI S c) := by
  unfold keptS
  rw [List.getElem?_map, List.getElem?_range hc]
  rfl
theorem keptS_len {S : Side} {C : Nat} : (keptS S C).length = C := by unfold keptS; simp
theorem renum_len {kept : List (List Int)} {r : List Int} (h : r.length = kept.length) : (renumI kept r).length = r.length := by
  unfold renumI
  rw [List.length_zipWith, h, Nat.min_self]
theorem renum_get {kept : List (List Int)} {r k : List Int} (h1 : r[c]? = some x) (h2 : kept[c]? = some k) : (renumI kept r)[c]? = some ((k.idxOf x : Nat) : Int) := by
  unfold renumI
  rw [List.getElem?_zipWith, h1, h2]
theorem row_getD {r : List Int} (hc : c < r.length) : r[c]? = some (r.getD c 0) := by
  rw [List.getD_eq_getElem?_getD, List.getElem?_eq_getElem hc]
  rfl
/-! the order stays -/
theorem idx_lt : ∀ {k : List Int} {x y : Int}, k.Pairwise (· < ·) → x ∈ k → y ∈ k → x < y → k.idxOf x < k.idxOf y
  | [], x, y, _, hx, _, _ => by simp at hx
  | z :: k, x, y, hp, hx, hy, h => by
    have hp' := List.pairwise_cons.mp hp
    have hyz : y ≠ z := by
      rintro rfl
      rcases List.mem_cons.mp hx with rfl | hx
      · omega
      · have := hp'.1 x hx; omega
    have hy' : y ∈ k := (List.mem_cons.mp hy).resolve_left hyz
    rw [List.idxOf_cons, List.idxOf_cons, show (z == y) = false by simpa using hyz.symm, cond_false]
    by_cases e : z = x
    · subst e
      simp
    · rw [show (z == x) = false by simpa using e, cond_false]
      have := idx_lt hp'.2 ((List.mem_cons.mp hx).resolve_left fun q => e q.symm) hy' h
      omega
theorem ren_lt : ∀ {kept : List (List Int)} {a b : List Int}, (∀ k ∈ kept, k.Pairwise (· < ·)) → a.length = kept.length → b.length = kept.length → (∀ (j : Nat) (x : Int) (k : List Int), a[j]? = some x → kept[j]? = some k → x ∈ k) → (∀ (j : Nat) (x : Int) (k : List Int), b[j]? = some x → kept[j]? = some k → x ∈ k) → ltL a b → ltL (renumI kept a) (renumI kept b)
  | [], [], [], _, _, _, _, _, h => h
  | k :: kept, x :: a, y :: b, hk, la, lb, ha, hb, h => by
    have hx : x ∈ k := ha 0 x k rfl rfl
    have hy : y ∈ k := hb 0 y k rfl rfl
    have ih := ren_lt (kept := kept) (a := a) (b := b) (fun k hm => hk k (List.mem_cons_of_mem _ hm)) (by simpa using la) (by simpa using lb) (fun j z q e1 e2 => ha (j + 1) z q e1 e2) (fun j z q e1 e2 => hb (j + 1) z q e1 e2)
    have hkp := hk k List.mem_cons_self
    have e1 : renumI (k :: kept) (x :: a) = ((k.idxOf x : Nat) : Int) :: renumI kept a := rfl
    have e2 : renumI (k :: kept) (y :: b) = ((k.idxOf y : Nat) : Int) :: renumI kept b := rfl
    rw [e1, e2]
    unfold ltL lexLeI at h ⊢
    by_cases hxy : y = x
    · subst hxy
      rw [if_pos rfl] at h ⊢
      exact ih h
    · rw [if_neg hxy] at h
      have hlt : x < y := by
        have := of_decide_eq_false h
        omega
      have := idx_lt hkp hx hy hlt
      rw [if_neg (by omega)]
      exact decide_eq_false (by omega)
  | [], x :: a, b, _, la, _, _, _, _ => by simp at la
  | [], [], y :: b, _, _, lb, _, _, _ => by simp at lb
  | k :: kept, [], b, _, la, _, _, _, _ => by simp at la
  | k :: kept, x :: a, [], _, _, lb, _, _, _ => by simp at lb
/-- the kept labels of a row's places -/
theorem Neat.inW (h : Neat ls W B) {rs : List (List Int)} (hrs : rs ∈ W) {r : List Int} (hr : r ∈ rs) {j : Nat} {k : List Int} (hx : r[j]? = some x) (hk : (keptS W ls.length)[j]? = some k) : x ∈ k := by
  have hj : j < r.length := (List.getElem?_eq_some_iff.mp hx).1
  have hl := (h.wr rs hrs r hr).1
  rw [keptS_get (by omega)] at hk
  cases hk
  refine kept_of (mem_col.mpr ⟨rs, hrs, r, hr, ?_⟩)
  rw [List.getD_eq_getElem?_getD, hx]
  rfl
theorem Neat.keptSwap (h : Neat ls W B) : keptS W ls.length = keptS B ls.length := by
  unfold keptS
  refine List.map_congr_left fun c hc => kept_same fun x => h.col (List.mem_range.mp hc)
theorem Neat.lens (h : Neat ls W B) (hlb : ∀ x ∈ ls, 1 ≤ x) {j : Nat} {k : List Int} {l : Int} (hk : (keptS W ls.length)[j]? = some k) (hl : ls[j]? = some l) : 1 ≤ k.length ∧ (k.length : Int) ≤ l := by
  have hj : j < ls.length := (List.getElem?_eq_some_iff.mp hl).1
  rw [keptS_get hj] at hk
  cases hk
  have l1 := hlb l (List.mem_of_getElem? hl)
  refine ⟨List.length_pos_iff.mpr (kept_ne W j), ?_⟩
  have := nodup_len (n := l.toNat) (kept_nodup W j) fun x hx => by
    have := kept_bound h.wr hl l1 hx
    omega
  omega
theorem ren_rows {n : Nat} {kept : List (List Int)} {rs : List (List Int)} (hr : RsOk n ls rs) (hl : kept.length = ls.length) (hk : ∀ k ∈ kept, k.Pairwise (· < ·)) (hin : ∀ r ∈ rs, ∀ (j : Nat) (x : Int) (k : List Int), r[j]? = some x → kept[j]? = some k → x ∈ k) :
    RsOk n (kept.map fun k => (k.length : Int)) (rs.map (renumI kept)) := ⟨by rw [List.length_map]; exact hr.len, fun r hr' => by
  obtain ⟨r, hm, rfl⟩ := List.mem_map.mp hr'
  have hrl := (hr.ok r hm).1
  refine ⟨by rw [renum_len (by omega), List.length_map]; omega, fun j x l e1 e2 => ?_⟩
  rw [List.getElem?_map, Option.map_eq_some_iff] at e2
  obtain ⟨k, hk', rfl⟩ := e2
  have hj : j < r.length := by
    have := (List.getElem?_eq_some_iff.mp hk').1
    omega
  rw [renum_get (row_getD hj) hk'] at e1
  cases e1
  have := List.idxOf_lt_length_of_mem (hin r hm j _ k (row_getD hj) hk')
  omega, by
  refine List.pairwise_map.mpr (hr.asc.imp_of_mem fun {a b} ha hb h => ?_)
  exact ren_lt hk (by rw [(hr.ok a ha).1, hl]) (by rw [(hr.ok b hb).1, hl]) (hin a ha) (hin b hb) h⟩
theorem tid_ok {n : Nat} (h : Neat ls W B) (c2 : 2 ≤ ls.length) (c4 : ls.length ≤ 4) (lb : ∀ x ∈ ls, 1 ≤ x ∧ x ≤ 60) (pr : prodD (ls.map D.int) ≤ 4000) (w1 : 1 ≤ W.length) (w4 : W.length ≤ 4) (b1 : 1 ≤ B.length) (b4 : B.length ≤ 4)
    (wr : ∀ rs ∈ W, RsOk n ls rs) (br : ∀ rs ∈ B, RsOk n ls rs) : TkOk n (tidT ls.length W B) := by
  have hlb : ∀ x ∈ ls, 1 ≤ x := fun x hx => (lb x hx).1
  have kl : (keptS W ls.length).length = ls.length := keptS_len
  have hk : ∀ k ∈ keptS W ls.length, k.Pairwise (· < ·) := fun k hk => by
    unfold keptS at hk
    obtain ⟨c, _, rfl⟩ := List.mem_map.mp hk
    exact kept_asc W c
  have each : ∀ k ∈ keptS W ls.length, 1 ≤ k.length ∧ k.length ≤ 60 := fun k hk => by
    obtain ⟨j, hj⟩ := List.getElem?_of_mem hk
    have hlt : j < ls.length := by rw [← kl]; exact (List.getElem?_eq_some_iff.mp hj).1
    have := h.lens hlb hj (List.getElem?_eq_getElem hlt)
    have := lb _ (List.getElem_mem hlt)
    omega
  refine ⟨by show 2 ≤ ((keptS W ls.length).map _).length; rw [List.length_map, kl]; exact c2, by show ((keptS W ls.length).map _).length ≤ 4; rw [List.length_map, kl]; exact c4, fun x hx => ?_, ?_, by show 1 ≤ (renS _ W).length; unfold renS; rw [List.length_map]; exact w1, by show (renS _ W).length ≤ 4; unfold renS; rw [List.length_map]; exact w4,
    by show 1 ≤ (renS _ B).length; unfold renS; rw [List.length_map]; exact b1, by show (renS _ B).length ≤ 4; unfold renS; rw [List.length_map]; exact b4, fun rs hrs => ?_, fun rs hrs => ?_⟩
  · obtain ⟨k, hm, rfl⟩ := List.mem_map.mp (show x ∈ (keptS W ls.length).map fun k => (k.length : Int) from hx)
    have := each k hm
    omega
  · show prodD (((keptS W ls.length).map fun k => (k.length : Int)).map D.int) ≤ 4000
    rw [prodD_nat fun x hx => by
      obtain ⟨k, hm, rfl⟩ := List.mem_map.mp hx
      omega]
    rw [prodD_nat fun x hx => by have := hlb x hx; omega] at pr
    have := prodN_mono (a := ((keptS W ls.length).map fun k => (k.length : Int)).map Int.toNat) (b := ls.map Int.toNat) (by rw [List.length_map, List.length_map, List.length_map, kl]) fun j x y e1 e2 => by
      rw [List.getElem?_map, List.getElem?_map] at e1
      rw [List.getElem?_map] at e2
      cases hk' : (keptS W ls.length)[j]? with
      | none => rw [hk'] at e1; cases e1
      | some k =>
        cases hl' : ls[j]? with
        | none => rw [hl'] at e2; cases e2
        | some l =>
          rw [hk'] at e1
          rw [hl'] at e2
          cases e1
          cases e2
          have := h.lens hlb hk' hl'
          show ((k.length : Nat) : Int).toNat ≤ l.toNat
          omega
    omega
  · obtain ⟨u, hu, rfl⟩ := List.mem_map.mp (show rs ∈ W.map _ from hrs)
    exact ren_rows (wr u hu) kl hk fun r hr j x k e1 e2 => h.inW hu hr e1 e2
  · obtain ⟨u, hu, rfl⟩ := List.mem_map.mp (show rs ∈ B.map _ from hrs)
    refine ren_rows (br u hu) kl hk fun r hr j x k e1 e2 => ?_
    rw [h.keptSwap] at e2
    exact h.swap.inW hu hr e1 e2
/-! tidied again: the same -/
theorem ren_getD {kept : List (List Int)} {r : List Int} {j : Nat} {k : List Int} (hj : j < r.length) (hk : kept[j]? = some k) : (renumI kept r).getD j 0 = ((k.idxOf (r.getD j 0) : Nat) : Int) := by
  rw [List.getD_eq_getElem?_getD, renum_get (row_getD hj) hk]
  rfl
theorem ren_strike {kept : List (List Int)} (h : Neat ls W B) (kl : kept.length = ls.length) : strike (renS kept W) (renS kept B) = renS kept W := by
  unfold strike
  conv => rhs; rw [← List.map_id (renS kept W)]
  refine List.map_congr_left fun rs hrs => ?_
  obtain ⟨u, hu, rfl⟩ := List.mem_map.mp (show rs ∈ W.map _ from hrs)
  refine List.filter_eq_self.mpr fun r' hr' => ?_
  obtain ⟨r, hr, rfl⟩ := List.mem_map.mp hr'
  have hrl := (h.wr u hu r hr).1
  refine fitsS_iff.mpr fun c hc => ?_
  rw [renum_len (by omega)] at hc
  have hk : kept[c]? = some kept[c] := List.getElem?_eq_getElem (by omega)
  obtain ⟨us, h1, r2, h2, e⟩ := mem_col.mp (fitsS_iff.mp (strike_fits h.w hu hr) c hc)
  have hr2 := (h.br us h1 r2 h2).1
  refine mem_col.mpr ⟨us.map (renumI kept), List.mem_map.mpr ⟨us, h1, rfl⟩, renumI kept r2, List.mem_map.mpr ⟨r2, h2, rfl⟩, ?_⟩
  rw [ren_getD (by omega) hk, ren_getD hc hk, e]
theorem idx_range : ∀ {n : Nat} {v : Nat}, v < n → (rngI n).idxOf (v : Int) = v := fun {n v} h => by
  have hv : (rngI n)[v]? = some (v : Int) := by
    unfold rngI
    rw [List.getElem?_map, List.getElem?_range h]
    rfl
  have hm : (v : Int) ∈ rngI n := List.mem_of_getElem? hv
  have hlt := List.idxOf_lt_length_of_mem hm
  have he := List.getElem_idxOf hlt
  have h1 : (rngI n)[(rngI n).idxOf (v : Int)]? = some (v : Int) := by rw [List.getElem?_eq_getElem hlt, he]
  exact (List.getElem?_inj hlt (rngI_nodup n)).mp (h1.trans hv.symm)
theorem rng_ascI (n : Nat) : (rngI n).Pairwise (· < ·) := by
  unfold rngI
  refine List.pairwise_map.mpr (List.Pairwise.imp (fun {a b} h => ?_) List.pairwise_lt_range)
  omega
theorem kept_again (h : Neat ls W B) {c : Nat} (hc : c < ls.length) : keptI (renS (keptS W ls.length) W) c = rngI (keptI W c).length := by
  have kl : (keptS W ls.length).length = ls.length := keptS_len
  have hk := keptS_get (S := W) hc
  have hcol : ∀ y, y ∈ col (renS (keptS W ls.length) W) c ↔ ∃ x ∈ col W c, y = (((keptI W c).idxOf x : Nat) : Int) := fun y => by
    constructor
    · intro hy
      obtain ⟨rs, h1, r', h2, e⟩ := mem_col.mp hy
      obtain ⟨u, hu, rfl⟩ := List.mem_map.mp (show rs ∈ W.map _ from h1)
      obtain ⟨r, hr, rfl⟩ := List.mem_map.mp h2
      have hrl := (h.wr u hu r hr).1
      rw [ren_getD (by omega) hk] at e
      exact ⟨r.getD c 0, mem_col.mpr ⟨u, hu, r, hr, rfl⟩, e.symm⟩
    · rintro ⟨x, hx, rfl⟩
      obtain ⟨u, hu, r, hr, rfl⟩ := mem_col.mp hx
      have hrl := (h.wr u hu r hr).1
      exact mem_col.mpr ⟨u.map (renumI (keptS W ls.length)), List.mem_map.mpr ⟨u, hu, rfl⟩, renumI (keptS W ls.length) r, List.mem_map.mpr ⟨r, hr, rfl⟩, ren_getD (by omega) hk⟩
  have one : ∀ (l m : List Int), l.Pairwise (· < ·) → m.Pairwise (· < ·) → (∀ x, x ∈ l ↔ x ∈ m) → l = m := fun l m h1 h2 h3 =>
    sorted_one ((List.perm_ext_iff_of_nodup (h1.imp fun h => by omega) (h2.imp fun h => by omega)).mpr h3) (h1.imp fun h => by omega) (h2.imp fun h => by omega)
  refine one _ _ (kept_asc _ c) (rng_ascI _) fun y => ?_
  rw [mem_rngI]
  by_cases hE : ∃ x, x ∈ col W c
  · obtain ⟨x0, hx0⟩ := hE
    have all : ∀ z, z ∈ keptI W c → z ∈ col W c := fun z hz => by
      rcases of_kept hz with hz | ⟨_, _, no⟩
      · exact hz
      · exact absurd hx0 (no x0)
    constructor
    · intro hy
      have hy' : y ∈ col (renS (keptS W ls.length) W) c := by
        rcases of_kept hy with hy | ⟨_, _, no⟩
        · exact hy
        · exact absurd ((hcol _).mpr ⟨x0, hx0, rfl⟩) (no _)
      obtain ⟨x, hx, rfl⟩ := (hcol y).mp hy'
      have := List.idxOf_lt_length_of_mem (kept_of hx)
      omega
    · rintro ⟨y0, y1⟩
      have hlt : y.toNat < (keptI W c).length := by omega
      refine kept_of ((hcol y).mpr ⟨(keptI W c)[y.toNat], all _ (List.getElem_mem hlt), ?_⟩)
      have : (keptI W c).idxOf (keptI W c)[y.toNat] = y.toNat := by
        have hm : (keptI W c)[y.toNat] ∈ keptI W c := List.getElem_mem hlt
        have hl2 := List.idxOf_lt_length_of_mem hm
        have he := List.getElem_idxOf hl2
        exact (List.getElem?_inj hl2 (kept_nodup W c)).mp (by rw [List.getElem?_eq_getElem hl2, List.getElem?_eq_getElem hlt, he])
      rw [this]
      omega
  · have e1 : keptI W c = [0] := by
      have : 0 < (keptI W c).length := List.length_pos_iff.mpr (kept_ne W c)
      rcases of_kept (List.getElem_mem this) with hz | ⟨_, e, _⟩
      · exact absurd ⟨_, hz⟩ hE
      · exact e
    have e2 : keptI (renS (keptS W ls.length) W) c = [0] := by
      have : 0 < (keptI (renS (keptS W ls.length) W) c).length := List.length_pos_iff.mpr (kept_ne _ c)
      rcases of_kept (List.getElem_mem this) with hz | ⟨_, e, _⟩
      · obtain ⟨x, hx, _⟩ := (hcol _).mp hz
        exact absurd ⟨x, hx⟩ hE
      · exact e
    rw [e1, e2]
    simp only [List.mem_singleton, List.length_cons, List.length_nil]
    omega
theorem tid_neat (h : Neat ls W B) (wr : ∀ rs ∈ renS (keptS W ls.length) W, ∀ r ∈ rs, RwOk (tidT ls.length W B).ls r) (br : ∀ rs ∈ renS (keptS W ls.length) B, ∀ r ∈ rs, RwOk (tidT ls.length W B).ls r) :
    Neat (tidT ls.length W B).ls (tidT ls.length W B).ws (tidT ls.length W B).bs :=
  ⟨wr, br, ren_strike h keptS_len, ren_strike h.swap keptS_len⟩
theorem keptS_again (h : Neat ls W B) : keptS (renS (keptS W ls.length) W) ls.length = (keptS W ls.length).map fun k => rngI k.length := by
  unfold keptS
  rw [List.map_map]
  refine List.map_congr_left fun c hc => ?_
  exact kept_again h (List.mem_range.mp hc)
theorem ren_id : ∀ {ls : List Int} {r : List Int}, RwOk ls r → renumI (ls.map fun l => rngI l.toNat) r = r := fun {ls r} h => by
  refine List.ext_getElem? fun j => ?_
  by_cases hj : j < r.length
  · have hj' : j < ls.length := by rw [← h.1]; exact hj
    have hl : ls[j]? = some ls[j] := List.getElem?_eq_getElem hj'
    have hx := row_getD (r := r) hj
    have hb := h.2 j _ _ hx hl
    rw [hx]
    rw [renum_get hx (k := rngI ls[j].toNat) (by rw [List.getElem?_map, hl]; rfl)]
    generalize r.getD j 0 = v at hb
    generalize ls[j] = l at hb
    have := idx_range (n := l.toNat) (v := v.toNat) (by omega)
    rw [show ((v.toNat : Nat) : Int) = v by omega] at this
    rw [this]
    rw [show ((v.toNat : Nat) : Int) = v by omega]
  · have e : (renumI (ls.map fun l => rngI l.toNat) r).length = r.length := renum_len (by rw [List.length_map]; exact h.1)
    rw [List.getElem?_eq_none (by omega), List.getElem?_eq_none (by omega)]
theorem tid_again (h : Neat ls W B) (k : Neat (tidT ls.length W B).ls (tidT ls.length W B).ws (tidT ls.length W B).bs) :
    keptS (tidT ls.length W B).ws ls.length = (tidT ls.length W B).ls.map (fun l => rngI l.toNat) ∧ tidT ls.length (tidT ls.length W B).ws (tidT ls.length W B).bs = tidT ls.length W B := by
  have e : keptS (renS (keptS W ls.length) W) ls.length = ((keptS W ls.length).map fun k => (k.length : Int)).map (fun l => rngI l.toNat) := by
    rw [keptS_again h, List.map_map]
    rfl
  refine ⟨e, ?_⟩
  have idS : ∀ S : Side, (∀ rs ∈ S, ∀ r ∈ rs, RwOk (tidT ls.length W B).ls r) → renS (((keptS W ls.length).map fun k => (k.length : Int)).map (fun l => rngI l.toNat)) S = S := fun S hS => by
    unfold renS
    conv => rhs; rw [← List.map_id S]
    refine List.map_congr_left fun rs hrs => ?_
    conv => rhs; rw [id, ← List.map_id rs]
    exact List.map_congr_left fun r hr => ren_id (hS rs hrs r hr)
  show Tk.mk ((keptS (renS (keptS W ls.length) W) ls.length).map fun k => (k.length : Int)) (renS (keptS (renS (keptS W ls.length) W) ls.length) (renS (keptS W ls.length) W)) (renS (keptS (renS (keptS W ls.length) W) ls.length) (renS (keptS W ls.length) B)) = _
  rw [e, idS (renS (keptS W ls.length) W) k.wr, idS (renS (keptS W ls.length) B) k.br]
  congr 1
  rw [List.map_map, List.map_map]
  refine List.map_congr_left fun k _ => ?_
  show (((rngI (k.length : Int).toNat).length : Nat) : Int) = _
  rw [rngI_length]
  omega
end
end L3

namespace L3
open PySem PySem.Spec PyProof.Rows L2
/-! ### sides compared -/
theorem eqv_map {α : Type} [DecidableEq α] {f : α → PyData} (h : ∀ x y, PyData.eqv (f x) (f y) = decide (x = y)) : ∀ xs ys : List α, PyData.eqvAll (xs.map f) (ys.map f) = decide (xs = ys)
  | [], [] => by simp [PyData.eqvAll]
  | [], y :: ys => by simp [PyData.eqvAll]
  | x :: xs, [] => by simp [PyData.eqvAll]
  | x :: xs, y :: ys => by
    simp only [List.map_cons, PyData.eqvAll, h, eqv_map h xs ys]
    by_cases e : x = y
    · subst e; simp
    · simp [e]
theorem pys_map {α : Type} {M : MH} {g : α → D} {f : α → PyData} (h : ∀ x, Py M (g x) (f x)) : ∀ xs : List α, Pys M (xs.map g) (xs.map f)
  | [] => .nil
  | x :: xs => .cons (h x) (pys_map h xs)
theorem lay_map {α : Type} {f : α → PyData} (h : ∀ x, (f x).canLay0 = true) : ∀ xs : List α, PyData.canLayAll0 (xs.map f) = true
  | [] => by simp [PyData.canLayAll0]
  | x :: xs => by simp [PyData.canLayAll0, h x, lay_map h xs]
theorem depth_map {α : Type} {f : α → PyData} {k : Nat} (h : ∀ x, (f x).depth ≤ k) : ∀ xs : List α, PyData.depthAll (xs.map f) ≤ k
  | [] => by simp [PyData.depthAll]
  | x :: xs => by
    have h1 := depth_map h xs
    have h2 := h x
    simp only [List.map_cons, PyData.depthAll]
    omega
def sdD (S : Side) : D := .tup (S.map rsD)
def rowsPT (rs : List (List Int)) : PyData := .tuple (rs.map rowP)
def rowsPL (rs : List (List Int)) : PyData := .list (rs.map rowP)
def sidePT (S : Side) : PyData := .tuple (S.map rowsPT)
def sidePL (S : Side) : PyData := .list (S.map rowsPL)
theorem eqv_rowsPT (a b : List (List Int)) : PyData.eqv (rowsPT a) (rowsPT b) = decide (a = b) := by
  unfold rowsPT
  rw [PyData.eqv]
  exact eqv_map eqv_row a b
theorem eqv_rowsPL (a b : List (List Int)) : PyData.eqv (rowsPL a) (rowsPL b) = decide (a = b) := by
  unfold rowsPL
  rw [PyData.eqv]
  exact eqv_map eqv_row a b
theorem eqv_sidePT (a b : Side) : PyData.eqv (sidePT a) (sidePT b) = decide (a = b) := by
  unfold sidePT
  rw [PyData.eqv]
  exact eqv_map eqv_rowsPT a b
theorem eqv_sidePL (a b : Side) : PyData.eqv (sidePL a) (sidePL b) = decide (a = b) := by
  unfold sidePL
  rw [PyData.eqv]
  exact eqv_map eqv_rowsPL a b
theorem lay_rowP (r : List Int) : (rowP r).canLay0 = true := by unfold rowP; simp only [PyData.canLay0]; exact lay_ints r
theorem dp_rowP (r : List Int) : (rowP r).depth ≤ 2 := by
  have := depth_ints r
  unfold rowP
  simp only [PyData.depth]
  omega
theorem py_rs {M : MH} (rs : List (List Int)) : Py M (rsD rs) (rowsPT rs) := .tup (pys_rows rs)
theorem lay_sidePT (S : Side) : (sidePT S).canLay0 = true := by
  unfold sidePT
  simp only [PyData.canLay0]
  exact lay_map (fun rs => by unfold rowsPT; simp only [PyData.canLay0]; exact lay_map lay_rowP rs) S
theorem dp_sidePT (S : Side) : (sidePT S).depth ≤ 4 := by
  have := depth_map (f := rowsPT) (k := 3) (fun rs => by
    have := depth_map dp_rowP rs
    unfold rowsPT
    simp only [PyData.depth]
    omega) S
  unfold sidePT
  simp only [PyData.depth]
  omega
theorem lay_sidePL (S : Side) : (sidePL S).canLay0 = true := by
  unfold sidePL
  simp only [PyData.canLay0]
  exact lay_map (fun rs => by unfold rowsPL; simp only [PyData.canLay0]; exact lay_map lay_rowP rs) S
theorem dp_sidePL (S : Side) : (sidePL S).depth ≤ 4 := by
  have := depth_map (f := rowsPL) (k := 3) (fun rs => by
    have := depth_map dp_rowP rs
    unfold rowsPL
    simp only [PyData.depth]
    omega) S
  unfold sidePL
  simp only [PyData.depth]
  omega
theorem ne_sides {M : MH} {Q : Q3} {S T : Side} (q : Q (.bl (!decide (S = T))) M) : r3Ne (sdD S) (sdD T) M Q := by
  unfold r3Ne sdD
  have hp : ∀ S : Side, Py M (.tup (S.map rsD)) (sidePT S) := fun S => .tup (pys_map py_rs S)
  exact ⟨_, _, hp S, hp T, shaped_of (lay_sidePT S) (by have := dp_sidePT S; omega), shaped_of (lay_sidePT T) (by have := dp_sidePT T; omega), by rw [eqv_sidePT]; exact q⟩
/-- a list of lists of rows -/
def LSd (M : MH) (a : Addr) (S : Side) : Prop := ∃ refs : List Addr, LstM M a (refs.map D.ref) ∧ refs.length = S.length ∧ ∀ (k : Nat) (b : Addr) (rs : List (List Int)), refs[k]? = some b → S[k]? = some rs → LstM M b (rs.map rowD)
theorem LSd.sub {M M' : MH} {a : Addr} {S : Side} (h : LSd M a S) (s : Sub M M') : LSd M' a S := by
  obtain ⟨refs, h1, h2, h3⟩ := h
  exact ⟨refs, lstM_sub s h1, h2, fun k b rs e1 e2 => lstM_sub s (h3 k b rs e1 e2)⟩
theorem LSd.py {M : MH} {a : Addr} {S : Side} (h : LSd M a S) : Py M (.ref a) (sidePL S) := by
  obtain ⟨refs, h1, h2, h3⟩ := h
  refine .ref h1 ?_
  have key : ∀ {refs : List Addr} {S : Side}, refs.length = S.length → (∀ (k : Nat) (b : Addr) (rs : List (List Int)), refs[k]? = some b → S[k]? = some rs → LstM M b (rs.map rowD)) → Pys M (refs.map D.ref) (S.map rowsPL) := by
    intro refs
    induction refs with
    | nil =>
      intro S hl _
      match S, hl with
      | [], _ => exact .nil
    | cons b refs ih =>
      intro S hl hk
      match S, hl with
      | rs :: S, hl => exact .cons (.ref (hk 0 b rs rfl rfl) (pys_rows rs)) (ih (by simpa using hl) fun k c u e1 e2 => hk (k + 1) c u e1 e2)
  exact key h2 h3
theorem eq_pairs {M : MH} {Q : Q3} {a b c d : Addr} {S T S' T' : Side} (h1 : LSd M a S) (h2 : LSd M b T) (h3 : LSd M c S') (h4 : LSd M d T') (q : Q (.bl (decide (S = S' ∧ T = T'))) M) : r3Eq (.tup [.ref a, .ref b]) (.tup [.ref c, .ref d]) M Q := by
  unfold r3Eq
  have hp : ∀ {a b : Addr} {S T : Side}, LSd M a S → LSd M b T → Py M (.tup [.ref a, .ref b]) (.tuple [sidePL S, sidePL T]) := fun h1 h2 => .tup (.cons h1.py (.cons h2.py .nil))
  have hs : ∀ S T : Side, SeqAt.shaped (.tuple [sidePL S, sidePL T]) = true := fun S T => shaped_of (by simp only [PyData.canLay0, PyData.canLayAll0, lay_sidePL]; rfl) (by
    have := dp_sidePL S
    have := dp_sidePL T
    simp only [PyData.depth, PyData.depthAll]
    omega)
  refine ⟨_, _, hp h1 h2, hp h3 h4, hs S T, hs S' T', ?_⟩
  have e : PyData.eqv (.tuple [sidePL S, sidePL T]) (.tuple [sidePL S', sidePL T']) = decide (S = S' ∧ T = T') := by
    simp only [PyData.eqv, PyData.eqvAll, eqv_sidePL, Bool.and_true]
    rw [Bool.decide_and]
  rw [e]
  exact q
/-! ### labels_at -/
def labK (S : Side) (c : Nat) : List (Key × D) := (firstsI (col S c)).map fun x => (Sum.inl x, D.bl true)
theorem put_lab {l : List Int} {x : Int} : putD (l.map fun x => ((Sum.inl x : Key), D.bl true)) (Sum.inl x) (.bl true) = (addI l x).map fun x => ((Sum.inl x : Key), D.bl true) := by
  have e : ((l.map fun x => ((Sum.inl x : Key), D.bl true)).any fun kv => decide (kv.1 = Sum.inl x)) = decide (x ∈ l) := by
    rw [List.any_map, Bool.eq_iff_iff, List.any_eq_true, decide_eq_true_eq]
    constructor
    · rintro ⟨y, hy, e⟩
      have e := of_decide_eq_true e
      injection e with e
      exact e ▸ hy
    · intro h
      exact ⟨x, h, decide_eq_true rfl⟩
  unfold putD addI
  rw [e]
  by_cases h : x ∈ l
  · rw [decide_eq_true h, if_pos rfl, if_pos h, List.map_map]
    refine List.map_congr_left fun y _ => ?_
    show (if (Sum.inl y : Key) = Sum.inl x then ((Sum.inl y : Key), D.bl true) else ((Sum.inl y : Key), D.bl true)) = _
    rw [ite_self]
  · rw [decide_eq_false h, if_neg Bool.false_ne_true, if_neg h, List.map_append]
    rfl
theorem lab_val {S : Side} {c : Nat} {x : Int} : (valD (labK S c) (Sum.inl x)).isSome = decide (x ∈ col S c) := by
  unfold valD labK
  rw [Option.isSome_map, List.find?_map, Option.isSome_map, Bool.eq_iff_iff, List.find?_isSome, decide_eq_true_eq]
  constructor
  · rintro ⟨y, hy, e⟩
    have e := of_decide_eq_true e
    have e : (Sum.inl y : Key) = Sum.inl x := e
    injection e with e
    exact mem_firstsI.mp (e ▸ hy)
  · intro h
    exact ⟨x, mem_firstsI.mpr h, decide_eq_true rfl⟩
theorem firsts_len (l : List Int) : (firstsI l).length ≤ l.length := by
  have key : ∀ (l acc : List Int), (l.foldl addI acc).length ≤ acc.length + l.length := by
    intro l
    induction l with
    | nil => exact fun acc => Nat.le_refl _
    | cons x l ih =>
      intro acc
      have := ih (addI acc x)
      have h : (addI acc x).length ≤ acc.length + 1 := by
        unfold addI
        split
        · omega
        · rw [List.length_append]; exact Nat.le_refl _
      rw [List.foldl_cons, List.length_cons]
      omega
  have := key l []
  simpa [firstsI] using this
theorem col_len (S : Side) (c : Nat) : (col S c).length = cnt S := by
  unfold col cnt
  rw [List.length_map, List.length_flatten]
def spLabels : Sp3 := fun ds M Q _ => ∃ (S : Side) (c : Nat), ds = [sdD S, .int (c : Int)] ∧ (∀ rs ∈ S, ∀ r ∈ rs, c < r.length) ∧ cnt S ≤ 100000 ∧ ∀ p M', Sub M M' → M' p = some (.dK (labK S c)) → Q (.ref p) M'
def tLabels : S3 := (s3Ret (e3DcK2 (i3Seq (e3Var 0)) 2 t3Yes (i3Seq (e3Var 2)) 3 t3Yes (e3Op r3Ix (e3Var 3) (e3Var 1)) (e3C (.bl true)) [2, 3] [3]))
theorem rdLabels : Rd3 ["rows", "at", "one", "row"] tLabels spLabels := by
  rintro ds M Q E ⟨S, c, rfl, hc, hz, q⟩
  refine fun p np => ?_
  have mono : ∀ k, cnt (S.take k) ≤ cnt S := fun k => by
    have : cnt S = cnt (S.take k) + cnt (S.drop k) := by
      unfold cnt
      conv => lhs; rw [← List.take_append_drop k S, List.map_append, List.sum_append]
    omega
  refine ⟨fun k acc M' => acc = labK (S.take k) c ∧ Sub M M', ⟨rfl, (Sub.refl M).new np⟩, ?_, ?_⟩
  · rintro k d acc M' hd ⟨rfl, sub⟩ hM
    rw [List.getElem?_map, Option.map_eq_some_iff] at hd
    obtain ⟨rs, hrs, rfl⟩ := hd
    have hmem := List.mem_of_getElem? hrs
    have colk : col (S.take (k + 1)) c = col (S.take k) c ++ rs.map fun r => r.getD c 0 := by
      unfold col
      rw [List.take_add_one, hrs, Option.toList_some, List.flatten_append, List.map_append]
      simp
    refine ⟨trivial, Br.tt ?_⟩
    refine ⟨fun j acc M' => acc = ((col (S.take k) c ++ (rs.take j).map fun r => r.getD c 0).foldl addI []).map (fun x => ((Sum.inl x : Key), D.bl true)) ∧ Sub M M', ⟨_, hM, by simp [labK, firstsI], sub⟩, ?_, ?_⟩
    · rintro j d acc M2 hd ⟨rfl, sub2⟩ hM2
      rw [List.getElem?_map, Option.map_eq_some_iff] at hd
      obtain ⟨r, hr, rfl⟩ := hd
      have hrc := hc rs hmem r (List.mem_of_getElem? hr)
      have hx := row_getD hrc
      refine ⟨trivial, Br.tt ⟨_, atI_nat (by rw [List.getElem?_map, hx]; rfl), _, .inl (r.getD c 0), rfl, hM2, ?_, ?_, sub2.new np⟩⟩
      · have h1 := firsts_len (col (S.take k) c ++ (rs.take j).map fun r => r.getD c 0)
        unfold firstsI at h1
        rw [List.length_append, List.length_map, List.length_take, col_len] at h1
        have h2 := mono (k + 1)
        rw [← col_len _ c, colk, List.length_append, List.length_map, col_len] at h2
        rw [List.length_map]
        exact szLt (by omega)
      · have e : (col (S.take k) c ++ (rs.take (j + 1)).map fun r => r.getD c 0).foldl addI [] = addI ((col (S.take k) c ++ (rs.take j).map fun r => r.getD c 0).foldl addI []) (r.getD c 0) := by
          rw [List.take_add_one, hr, Option.toList_some, List.map_append, ← List.append_assoc]
          show (_ ++ [r.getD c 0]).foldl addI [] = _
          rw [List.foldl_append]
          rfl
        rw [put_lab, e]
    · rintro acc M2 ⟨rfl, sub2⟩ hM2
      rw [List.length_map, List.take_length, ← colk]
      exact ⟨trivial, rfl, sub2⟩
  · rintro acc M' ⟨rfl, sub⟩ hM
    rw [List.length_map, List.take_length] at hM
    exact ⟨trivial, M', Sub.refl _, q p M' sub hM⟩
end L3

namespace L3
open PySem PySem.Spec PyProof.Rows L2
/-! ### struck -/
/-- a comprehension whose items are new dicts -/
theorem lcDicts {ds : List D} {keep : MH → Prop} {i : Nat} {te : E3} {env : En} {p : Addr} {M : MH} {Q : MH → Prop} (g : Nat → List (Key × D)) (hp : M p = none) (hk : ∀ M', Sub M M' → keep M')
    (he : ∀ (k : Nat) (d : D) (M' : MH) (R : Q3), ds[k]? = some d → Sub M M' → (∀ z M'', Sub M' M'' → M'' z = some (.dK (g k)) → R (.ref z) M'') → te W0 (env.set i (some d)) M' R) (hsz : ds.length < sizeLine)
    (hq : ∀ (qs : List Addr) (M' : MH), qs.length = ds.length → (∀ (k : Nat) (b : Addr), qs[k]? = some b → M' b = some (.dK (g k))) → Sub M M' → M' p = some (.lst (qs.map D.ref)) → Q M') : LoopC ds keep i t3Yes te env p M Q := by
  refine ⟨fun k acc M' => ∃ qs : List Addr, acc = qs.map D.ref ∧ qs.length = k ∧ (∀ (k : Nat) (b : Addr), qs[k]? = some b → M' b = some (.dK (g k))) ∧ Sub M M', ⟨[], rfl, rfl, fun k b e => by simp at e, (Sub.refl M).new hp⟩, ?_, ?_⟩
  · rintro k d acc M' hd ⟨qs, rfl, lq, hqs, sub⟩ hM
    have hlt := (List.getElem?_eq_some_iff.mp hd).1
    refine ⟨hk M' sub, Br.tt (he k d M' _ hd sub fun z M'' s2 hz => ⟨qs.map D.ref, s2 p _ hM, by rw [List.length_map, lq]; exact Nat.lt_trans hlt hsz, qs ++ [z], by rw [List.map_append]; rfl, by simp [lq], fun j b e => ?_, (sub.trans s2).new hp⟩)⟩
    have hpz : ∀ {b : Addr} {kvs : List (Key × D)}, M'' b = some (.dK kvs) → b ≠ p := fun {b kvs} h e => by
      rw [e, s2 p _ hM] at h
      cases h
    by_cases hj : j < qs.length
    · rw [List.getElem?_append_left hj] at e
      have h := s2 _ _ (hqs j b e)
      exact (updM_ne (hpz h)).trans h
    · have hj0 : j = qs.length := by
        have := (List.getElem?_eq_some_iff.mp e).1
        simp at this
        omega
      rw [List.getElem?_append_right (by omega), show j - qs.length = 0 by omega] at e
      cases e
      rw [hj0, lq]
      exact (updM_ne (hpz hz)).trans hz
  · rintro acc M' ⟨qs, rfl, lq, hqs, sub⟩ hM
    exact ⟨hk M' sub, hq qs M' lq hqs sub hM⟩
def spStruck : Sp3 := fun ds M Q _ => ∃ (T : Tk), ds = [tkD T] ∧ TkOk 4000 T ∧ ∀ a W B M', Sub M M' → Ended T.ws T.bs W B → M' a = some (.lst [sdD W, sdD B]) → Q (.ref a) M'
def tSide : S3 :=
    (s3Seq (s3Asg (e3Lc (i3Rng1 (a3Cons (e3Op r3Ix (e3Var 0) (e3C (.int 1))) a3Nil)) 7 t3Yes (e3Call spLabels (a3Cons (e3Op r3Ix (e3Var 1) (e3Op r3Sub (e3C (.int 1)) (e3Var 3))) (a3Cons (e3Var 7) a3Nil))) [7]) 4)
    (s3Seq (s3Asg (e3Lst a3Nil) 5)
    (s3Seq (s3For (i3Seq (e3Op r3Ix (e3Var 1) (e3Var 3))) (g3Name 6) (s3Expr (e3Bm m3App (e3Var 5) (a3Cons (e3TupOf (e3Lc (i3Seq (e3Var 6)) 8 (t3Test (e3CB c3All (a3Cons (e3LcP (i3ZipX (a3Cons (e3Var 8) (a3Cons (e3Var 4) a3Nil))) 9 10 t3Yes (e3Op (r3InD false) (e3Var 9) (e3Var 10)) [9, 10]) a3Nil))) (e3Var 8) [8])) a3Nil))))
    (s3If (t3Test (e3Op r3Ne (e3TupOf (e3Var 5)) (e3Op r3Ix (e3Var 1) (e3Var 3)))) (s3Seq (s3AsgG (e3TupOf (e3Var 5)) (g3SubL (e3Var 1) (e3Var 3)))
    (s3Asg (e3C (.bl true)) 2)) s3Nil))))
def tStruck : S3 :=
    (s3Seq (s3Asg (e3Lst (a3Cons (e3Op r3Ix (e3Var 0) (e3C (.int 3))) (a3Cons (e3Op r3Ix (e3Var 0) (e3C (.int 4))) a3Nil))) 1)
    (s3Seq (s3Asg (e3C (.bl true)) 2)
    (s3Seq (s3While (t3Test (e3Var 2)) (s3Seq (s3Asg (e3C (.bl false)) 2)
    (s3For (i3Seq (e3Tup (a3Cons (e3C (.int 0)) (a3Cons (e3C (.int 1)) a3Nil)))) (g3Name 3) tSide)))
    (s3Ret (e3Var 1)))))
theorem set_same_at {l : List D} {i : Nat} {x : D} (h : l[i]? = some x) : l.set i x = l := by
  refine List.ext_getElem? fun j => ?_
  rw [List.getElem?_set]
  by_cases e : i = j
  · subst e
    rw [if_pos rfl, if_pos (List.getElem?_eq_some_iff.mp h).1, h]
  · rw [if_neg e]
theorem side_ok {W : W3} {C : Ends3} {M M' : MH} {T : Tk} {a : Addr} {b : Bool} {sd : Nat} {s4 s5 s6 : Option D} {L : List D} {S O : Side} (ok : TkOk 4000 T) (na : M a = none) (sub : Sub M M') (hL : M' a = some (.lst L)) (h2 : L.length = 2) (hsd : sd ≤ 1) (hS : L[sd]? = some (sdD S)) (hO : L[1 - sd]? = some (sdD O))
    (rS : ∀ rs ∈ S, rs.length ≤ 4000 ∧ ∀ r ∈ rs, r.length = T.ls.length) (rO : ∀ rs ∈ O, ∀ r ∈ rs, r.length = T.ls.length) (zO : cnt O ≤ 100000) (zS : S.length ≤ 4)
    (hq : ∀ (s4 s5 s6 : Option D) (M'' : MH), Sub M M'' → M'' a = some (.lst (L.set sd (sdD (strike S O)))) → C.nx [some (tkD T), some (.ref a), some (.bl (b || !decide (strike S O = S))), some (.int (sd : Int)), s4, s5, s6, none, none, none, none] M'') :
    tSide W C [some (tkD T), some (.ref a), some (.bl b), some (.int (sd : Int)), s4, s5, s6, none, none, none, none] M' := by
  have c4 := ok.c4
  have c2 := ok.c2
  have e1 : ∃ o, atI [D.str "task", .int ((T.ls.map D.int).length : Int), .tup (T.ls.map D.int), .tup (T.ws.map rsD), .tup (T.bs.map rsD)] 1 = some o ∧ o = .int ((T.ls.map D.int).length : Int) := ⟨_, rfl, rfl⟩
  have hOD : atI L (1 - (sd : Int)) = some (sdD O) := by
    rw [show (1 - (sd : Int)) = ((1 - sd : Nat) : Int) by omega]
    exact atI_nat hO
  have hSD : atI L (sd : Int) = some (sdD S) := atI_nat hS
  conv => whnf
  refine ⟨_, rfl, ?_⟩
  conv => whnf
  rw [List.length_map]
  refine ⟨by omega, by omega, fun q nq => ?_⟩
  refine lcDicts (fun k => labK O k) nq (fun _ _ => trivial) (fun k d M2 R hd s k2 => ?_) (szLt (by rw [rngD_length]; omega)) fun qs M2 lq hqs s2 h2q => ?_
  · obtain ⟨hk, rfl⟩ := rngD_get hd
    rw [Int.toNat_natCast] at hk
    rw [Int.zero_add]
    exact ⟨_, _, .inl (s _ _ hL), hOD, O, k, rfl, fun rs hrs r hr => by rw [rO rs hrs r hr]; exact hk, zO, k2⟩
  rw [rngD_length, Int.toNat_natCast] at lq
  conv => whnf
  refine ⟨szLe (by show 0 ≤ 1000000; decide), fun l nl => ?_⟩
  have hl := updM_same (M := M2) (a := l) (o := .lst [])
  have s3 := (Sub.refl M2).new (o := .lst []) nl
  have nl' : M' l = none := s2.free nl
  generalize updM M2 l (.lst []) = M3 at hl s3
  have hL3 : M3 a = some (.lst L) := s3 _ _ (s2 _ _ hL)
  conv => whnf
  refine ⟨_, _, .inl hL3, hSD, ?_⟩
  conv => whnf
  refine ⟨fun k env' M4 => ∃ s6, env' = [some (tkD T), some (.ref a), some (.bl b), some (.int (sd : Int)), some (.ref q), some (.ref l), s6, none, none, none, none] ∧ Sub M2 M4 ∧ M4 l = some (.lst ((S.take k).map fun rs => rsD (rs.filter (fitsS O)))), ⟨s6, rfl, s3, hl⟩, ?_, ?_⟩
  · rintro k d env' M4 hd ⟨s6, rfl, s4, hl4⟩
    rw [List.getElem?_map, Option.map_eq_some_iff] at hd
    obtain ⟨rs, hrs, rfl⟩ := hd
    have hmem := List.mem_of_getElem? hrs
    obtain ⟨z1, z2⟩ := rS rs hmem
    have hkS : k < S.length := (List.getElem?_eq_some_iff.mp hrs).1
    refine ⟨trivial, ?_⟩
    conv => whnf
    refine ⟨⟨_, .inl hl4⟩, fun y ny => ?_⟩
    refine lcFilter (fun d => fitsS O (intsOf d)) id ny (fun _ _ => trivial) (fun j d M5 R hd5 s5 k2 => ?_) (fun j d M5 R hd5 _ s5 k2 => k2 M5 (Sub.refl _)) (szLt (by rw [List.length_map]; omega)) fun M5 s5 h5 => ?_
    · rw [List.getElem?_map, Option.map_eq_some_iff] at hd5
      obtain ⟨r, hr, rfl⟩ := hd5
      have hrl := z2 r (List.mem_of_getElem? hr)
      refine ⟨r.map D.int, qs.map D.ref, rfl, .inl ((s4.trans s5) _ _ h2q), fun v nv => ?_⟩
      have hzip : (zipD (r.map D.int) (qs.map D.ref)).length = r.length := by rw [zipD_length, List.length_map, List.length_map, lq, hrl, Nat.min_self]
      refine lcPIdx (fun c => .bl (decide (r.getD c 0 ∈ col O c))) nv (fun M6 s6 => ⟨rfl, .inl (((s4.trans s5).trans s6) _ _ h2q)⟩) (fun c d h => ?_) (fun c d1 d2 M6 R6 h s6 k6 => ?_) (szLt (by rw [hzip]; omega)) fun M6 s6 h6 => ?_
      · obtain ⟨u, w, _, _, rfl⟩ := zipD_get h
        exact ⟨u, w, rfl⟩
      · obtain ⟨u, w, hu, hw, e⟩ := zipD_get h
        cases e
        rw [List.getElem?_map, Option.map_eq_some_iff] at hu
        obtain ⟨x, hx, rfl⟩ := hu
        rw [List.getElem?_map, Option.map_eq_some_iff] at hw
        obtain ⟨dd, hdd, rfl⟩ := hw
        have hK := (((s4.trans s5).trans s6) _ _ (hqs c dd hdd))
        refine ⟨dd, labK O c, .inl x, rfl, rfl, hK, ?_⟩
        rw [Bool.false_xor, lab_val]
        have hxd : r.getD c 0 = x := by rw [List.getD_eq_getElem?_getD, hx]; rfl
        rw [← hxd]
        exact k6 M6 (Sub.refl _)
      · rw [hzip] at h6
        have eb : (List.range r.length).map (fun c => D.bl (decide (r.getD c 0 ∈ col O c))) = bls ((List.range r.length).map fun c => decide (r.getD c 0 ∈ col O c)) := by
          unfold bls
          rw [List.map_map]
          rfl
        rw [eb] at h6
        refine ⟨_, .inl h6, ?_⟩
        have ea : ((List.range r.length).map fun c => decide (r.getD c 0 ∈ col O c)).all id = fitsS O (intsOf (rowD r)) := by
          rw [intsOf_row, List.all_map]
          rfl
        rw [ea]
        exact k2 M6 s6
    · rw [List.map_id] at h5
      have ef : (rs.map rowD).filter (fun d => fitsS O (intsOf d)) = (rs.filter (fitsS O)).map rowD := by
        rw [List.filter_map]
        congr 1
        refine List.filter_congr fun r _ => ?_
        show fitsS O (intsOf (rowD r)) = _
        rw [intsOf_row]
      rw [ef] at h5
      refine ⟨_, .inl h5, _, s5 _ _ hl4, szLt (by rw [List.length_map, List.length_take]; omega), _, rfl, ?_, ?_⟩
      · exact (s4.trans s5).new nl
      · rw [updM_same, List.take_add_one, hrs, Option.toList_some, List.map_append]
        rfl
  · rintro env' M4 ⟨s6, rfl, s4, hl4⟩
    rw [List.length_map, List.take_length] at hl4
    refine ⟨trivial, ?_⟩
    conv => whnf
    have hL4 : M4 a = some (.lst L) := s4 _ _ (s2 _ _ hL)
    refine ⟨_, .inl hl4, _, _, .inl hL4, hSD, ?_⟩
    have et : D.tup (S.map fun rs => rsD (rs.filter (fitsS O))) = sdD (strike S O) := by
      unfold sdD strike
      rw [List.map_map]
      rfl
    rw [et]
    refine ne_sides ⟨fun e => ?_, fun e => ?_⟩
    · conv => whnf
      refine ⟨_, .inl hl4, ?_⟩
      rw [et]
      conv => whnf
      refine ⟨_, sd, hL4, ixN_nat (by omega), ?_⟩
      have := hq (some (.ref q)) (some (.ref l)) s6 (updM M4 a (.lst (L.set sd (sdD (strike S O))))) ((sub.trans (s2.trans s4)).new na) updM_same
      rw [show (b || !decide (strike S O = S)) = true by rw [e, Bool.or_true]] at this
      exact this
    · have e' : strike S O = S := by simpa using e
      conv => whnf
      have := hq (some (.ref q)) (some (.ref l)) s6 M4 (sub.trans (s2.trans s4)) (by rw [e', hL4, set_same_at hS])
      rw [e', decide_eq_true rfl, Bool.not_true, Bool.or_false] at this
      exact this
theorem TkOk.cnt_ws {n : Nat} {T : Tk} (h : TkOk n T) : cnt T.ws ≤ 4 * n := by
  have key : ∀ (S : Side), (∀ rs ∈ S, rs.length ≤ n) → cnt S ≤ S.length * n := by
    intro S
    induction S with
    | nil => exact fun _ => Nat.zero_le _
    | cons rs S ih =>
      intro h
      have h1 := h rs List.mem_cons_self
      have h2 := ih fun x hx => h x (List.mem_cons_of_mem _ hx)
      have e : cnt (rs :: S) = rs.length + cnt S := by simp [cnt]
      rw [e, List.length_cons, Nat.add_mul, Nat.one_mul]
      omega
  have := key T.ws fun rs hrs => (h.wr rs hrs).len
  have := Nat.mul_le_mul_right n h.w4
  omega
theorem TkOk.cnt_bs {n : Nat} {T : Tk} (h : TkOk n T) : cnt T.bs ≤ 4 * n := h.flip.cnt_ws
/-- what is known of a side that is left over -/
theorem Flt.rows {S0 S : Side} {ls : List Int} {n : Nat} (h : Flt S0 S) (k : ∀ rs ∈ S0, RsOk n ls rs) : ∀ rs ∈ S, RsOk n ls rs := fun rs hrs => by
  obtain ⟨i, hi⟩ := List.getElem?_of_mem hrs
  have hlt : i < List.length S0 := by rw [← h.1]; exact (List.getElem?_eq_some_iff.mp hi).1
  have h0 : S0[i]? = some S0[i] := List.getElem?_eq_getElem hlt
  obtain ⟨p, rfl⟩ := h.2 i _ rs h0 hi
  have := k _ (List.mem_of_getElem? h0)
  exact ⟨Nat.le_trans (List.length_filter_le _ _) this.len, fun r hr => this.ok r (List.mem_filter.mp hr).1, this.asc.sublist List.filter_sublist⟩
theorem Flt.cnt {S0 S : Side} {n : Nat} (h : Flt S0 S) (h4 : S0.length ≤ 4) (k : ∀ rs ∈ S, rs.length ≤ n) : L3.cnt S ≤ 4 * n := by
  have key : ∀ (S : Side), (∀ rs ∈ S, rs.length ≤ n) → L3.cnt S ≤ S.length * n := by
    intro S
    induction S with
    | nil => exact fun _ => Nat.zero_le _
    | cons rs S ih =>
      intro h
      have h1 := h rs List.mem_cons_self
      have h2 := ih fun x hx => h x (List.mem_cons_of_mem _ hx)
      have e : L3.cnt (rs :: S) = rs.length + L3.cnt S := by simp [L3.cnt]
      rw [e, List.length_cons, Nat.add_mul, Nat.one_mul]
      omega
  have := key S k
  have h5 : S.length ≤ 4 := by rw [h.1]; exact h4
  have := Nat.mul_le_mul_right n h5
  omega
theorem rdStruck : Rd3 ["task", "sides", "changed", "side", "known", "left", "rows", "at", "row", "one", "labels"] tStruck spStruck := by
  rintro ds M Q E ⟨T, rfl, ok, q⟩
  refine ⟨_, rfl, _, rfl, szLe (by show 2 ≤ 1000000; decide), fun a na => ?_⟩
  have h0 := updM_same (M := M) (a := a) (o := .lst [.tup (T.ws.map rsD), .tup (T.bs.map rsD)])
  have s0 := (Sub.refl M).new (o := .lst [.tup (T.ws.map rsD), .tup (T.bs.map rsD)]) na
  generalize updM M a (.lst [.tup (T.ws.map rsD), .tup (T.bs.map rsD)]) = M1 at h0 s0
  conv => whnf
  refine ⟨fun n env' M' => ∃ (b : Bool) (s3 s4 s5 s6 : Option D) (W B : Side), env' = [some (tkD T), some (.ref a), some (.bl b), s3, s4, s5, s6, none, none, none, none] ∧ Sub M M' ∧ M' a = some (.lst [sdD W, sdD B]) ∧ Way T.ws T.bs W B ∧ (b = false → strike W B = W ∧ strike B W = B) ∧ n = (if b = true then 1 else 0) + (cnt W + cnt B),
    ⟨_, true, none, none, none, none, T.ws, T.bs, rfl, s0, h0, Way.start _ _, (fun e => nomatch e), rfl⟩, ?_⟩
  rintro n env' M' ⟨b, s3, s4, s5, s6, W, B, rfl, sub, hM, way, hb, rfl⟩
  have wW := way.fw.rows ok.wr
  have wB := way.fb.rows ok.br
  have lW : List.length W ≤ 4 := by rw [way.fw.1]; exact ok.w4
  have lB : List.length B ≤ 4 := by rw [way.fb.1]; exact ok.b4
  cases b with
  | false =>
    obtain ⟨e1, e2⟩ := hb rfl
    refine Br.ff ?_
    conv => whnf
    exact ⟨M', Sub.refl _, q a W B M' sub ⟨way, e1, e2⟩ hM⟩
  | true =>
    refine Br.tt ?_
    conv => whnf
    refine ⟨szLe (by show 2 ≤ 1000000; decide), fun k env' M2 => ∃ (s3 s4 s5 s6 : Option D), env' = [some (tkD T), some (.ref a), some (.bl ((decide (1 ≤ k) && !decide (strike W B = W)) || (decide (2 ≤ k) && !decide (strike B (strike W B) = B)))), s3, s4, s5, s6, none, none, none, none] ∧ Sub M M2 ∧ M2 a = some (.lst [sdD (if 1 ≤ k then strike W B else W), sdD (if 2 ≤ k then strike B (strike W B) else B)]), ⟨s3, s4, s5, s6, rfl, sub, hM⟩, ?_, ?_⟩
    · rintro k d env' M2 hd ⟨s3, s4, s5, s6, rfl, sub2, hM2⟩
      refine ⟨trivial, ?_⟩
      match k, hd with
      | 0, hd =>
        cases hd
        conv => whnf
        refine side_ok (sd := 0) (S := W) (O := B) ok na sub2 hM2 rfl (by decide) rfl rfl (fun rs hrs => ⟨(wW rs hrs).len, fun r hr => ((wW rs hrs).ok r hr).1⟩) (fun rs hrs r hr => ((wB rs hrs).ok r hr).1) (by have := way.fb.cnt ok.b4 fun rs hrs => (wB rs hrs).len; omega) lW fun s4 s5 s6 M3 s hM3 => ?_
        refine ⟨some (.int ((0 : Nat) : Int)), s4, s5, s6, ?_, s, hM3⟩
        simp
      | 1, hd =>
        cases hd
        conv => whnf
        have way1 := way.w
        have wW1 := way1.fw.rows ok.wr
        refine side_ok (sd := 1) (S := B) (O := strike W B) ok na sub2 hM2 rfl (by decide) rfl rfl (fun rs hrs => ⟨(wB rs hrs).len, fun r hr => ((wB rs hrs).ok r hr).1⟩) (fun rs hrs r hr => ((wW1 rs hrs).ok r hr).1) (by have := way1.fw.cnt ok.w4 fun rs hrs => (wW1 rs hrs).len; omega) lB fun s4 s5 s6 M3 s hM3 => ?_
        refine ⟨some (.int ((1 : Nat) : Int)), s4, s5, s6, ?_, s, hM3⟩
        rw [show (decide (1 ≤ 1) && !decide (strike W B = W)) = !decide (strike W B = W) from Bool.true_and _]
        simp
      | k + 2, hd => simp at hd
    · rintro env' M2 ⟨s3, s4, s5, s6, rfl, sub2, hM2⟩
      refine ⟨trivial, ?_⟩
      have eb : ((decide (1 ≤ [D.int 0, D.int 1].length) && !decide (strike W B = W)) || (decide (2 ≤ [D.int 0, D.int 1].length) && !decide (strike B (strike W B) = B))) = (!decide (strike W B = W) || !decide (strike B (strike W B) = B)) := by
        show ((true && _) || (true && _)) = _
        rw [Bool.true_and, Bool.true_and]
      rw [eb]
      obtain ⟨k1, k2⟩ := strike_cnt (S := W) B
      obtain ⟨k3, k4⟩ := strike_cnt (S := B) (strike W B)
      refine ⟨_, ?_, _, s3, s4, s5, s6, strike W B, strike B (strike W B), rfl, sub2, hM2, way.w.b, fun e => ?_, rfl⟩
      · by_cases e1 : strike W B = W
        · by_cases e2 : strike B (strike W B) = B
          · rw [decide_eq_true e1, decide_eq_true e2]
            show 0 + _ < 1 + _
            omega
          · have := strike_less e2
            show (if _ then 1 else 0) + _ < 1 + _
            split <;> omega
        · have := strike_less e1
          show (if _ then 1 else 0) + _ < 1 + _
          split <;> omega
      · rw [Bool.or_eq_false_iff, Bool.not_eq_false', Bool.not_eq_false', decide_eq_true_eq, decide_eq_true_eq] at e
        obtain ⟨e1, e2⟩ := e
        rw [e1] at e2
        rw [e1, e2]
        exact ⟨e1, e2⟩
end L3

namespace L3
open PySem PySem.Spec PyProof.Rows L2
variable {X : Cx} {es : List Expr} {pos : Pos}
/-! ### a, b = a list -/
def g3Unl (k : Nat) (gs : Gs3) : G3 := fun W d env M Q => match d with | .ref l => ∃ ds, LstM M l ds ∧ ds.length = k ∧ gs W ds env M Q | _ => False
theorem dg_unl {k : Nat} {gs : Gs3} {n : Nat} (hc : X.calm = true) (h : DGs X es gs) (hn : (assignEach es X.env).length = n := by rfl) (hst : (assignEach es X.env).findIdx? (·.1) = none := by rfl) : DG X (.Tuple es k pos) (g3Unl n gs) := fun W2 tk =>
  (pg_lst hc (h W2 tk) hn hst).imp fun v σ H Q2 ⟨d, env, M, W, Q, r, s, a, l, q, n⟩ => by
    cases d with
    | ref p =>
      obtain ⟨ds, hl, hk, q⟩ := q
      cases r.ref_inv
      obtain ⟨vs, hs, hv⟩ := a.rd hl
      exact ⟨p, vs, rfl, hs, by rw [← hv.length]; exact hk, ds, env, M, W, Q, hv, s, a, l, q, n⟩
    | _ => exact q.elim
end L3

namespace L3
open PySem PySem.Spec PyProof.Rows L2
/-! ### tidied -/
def tidD (C : Nat) (W B : Side) : D := .tup [tkD (tidT C W B), tupS (keptS W C)]
theorem Ended.neat {n : Nat} {T : Tk} {W B : Side} (h : Ended T.ws T.bs W B) (ok : TkOk n T) : Neat T.ls W B :=
  ⟨fun rs hrs r hr => (h.way.fw.rows ok.wr rs hrs).ok r hr, fun rs hrs r hr => (h.way.fb.rows ok.br rs hrs).ok r hr, h.w, h.b⟩
theorem Ended.tidOk {n : Nat} {T : Tk} {W B : Side} (h : Ended T.ws T.bs W B) (ok : TkOk n T) : TkOk n (tidT T.ls.length W B) :=
  tid_ok (h.neat ok) ok.c2 ok.c4 ok.lb ok.pr (by have := h.way.fw.1; have := ok.w1; omega) (by have := h.way.fw.1; have := ok.w4; omega) (by have := h.way.fb.1; have := ok.b1; omega) (by have := h.way.fb.1; have := ok.b4; omega) (h.way.fw.rows ok.wr) (h.way.fb.rows ok.br)
theorem zipWith_range {r : List Int} {kept : List (List Int)} (hl : r.length = kept.length) : renumI kept r = (List.range r.length).map fun j => (((kept.getD j []).idxOf (r.getD j 0) : Nat) : Int) := by
  refine List.ext_getElem? fun j => ?_
  by_cases hj : j < r.length
  · have hk : kept[j]? = some (kept.getD j []) := getD_some (by omega)
    rw [renum_get (row_getD hj) hk, List.getElem?_map, List.getElem?_range hj]
    rfl
  · rw [List.getElem?_eq_none (by rw [renum_len hl]; omega), List.getElem?_eq_none (by rw [List.length_map, List.length_range]; omega)]
def spTidied (bad : Addr) : Sp3 := fun ds M Q E => ∃ t, ds = [t] ∧ ((Vk M t ∧ WT t ∧ taskOk t = false ∧ E (.ref bad) none M) ∨ ∃ T : Tk, t = tkD T ∧ TkOk 4000 T ∧ ∀ W B, Ended T.ws T.bs W B → Q (tidD T.ls.length W B) M)
def tTidied (bad : Addr) : S3 :=
    (s3Seq (s3Expr (e3Call (spTask bad) (a3Cons (e3Var 0) a3Nil)))
    (s3Seq (s3AsgG (e3Call spStruck (a3Cons (e3Var 0) a3Nil)) (g3Unl 2 (g3sCons (g3Name 5) (g3sCons (g3Name 6) g3sNil))))
    (s3Seq (s3Asg (e3Lst a3Nil) 1)
    (s3Seq (s3For (i3Rng1 (a3Cons (e3Op r3Ix (e3Var 0) (e3C (.int 1))) a3Nil)) (g3Name 2) (s3Seq (s3Asg (e3CB c3SortedD (a3Cons (e3Call spLabels (a3Cons (e3Op r3Add (e3Var 5) (e3Var 6)) (a3Cons (e3Var 2) a3Nil))) a3Nil)) 7)
    (s3Expr (e3Bm m3App (e3Var 1) (a3Cons (e3If (t3Test (e3Op r3Gt (e3CB c3Len (a3Cons (e3Var 7) a3Nil)) (e3C (.int 0)))) (e3TupOf (e3Var 7)) (e3Tup (a3Cons (e3C (.int 0)) a3Nil))) a3Nil)))))
    (s3Seq (s3Asg (e3Lst a3Nil) 3)
    (s3Seq (s3For (i3Seq (e3Tup (a3Cons (e3Var 5) (a3Cons (e3Var 6) a3Nil)))) (g3Name 4) (s3Seq (s3Asg (e3Lc (i3Seq (e3Var 4)) 9 t3Yes (e3TupOf (e3Lc (i3Seq (e3Var 9)) 10 t3Yes (e3TupOf (e3LcP (i3ZipX (a3Cons (e3Var 1) (a3Cons (e3Var 10) a3Nil))) 11 9 t3Yes (e3Tm m3Tix (e3Var 11) (a3Cons (e3Var 9) a3Nil)) [11, 9])) [10])) [9]) 8)
    (s3Expr (e3Bm m3App (e3Var 3) (a3Cons (e3TupOf (e3Var 8)) a3Nil)))))
    (s3Ret (e3Tup (a3Cons (e3Tup (a3Cons (e3C (.str "task")) (a3Cons (e3Op r3Ix (e3Var 0) (e3C (.int 1))) (a3Cons (e3TupOf (e3Lc (i3Seq (e3Var 1)) 11 t3Yes (e3CB c3Len (a3Cons (e3Var 11) a3Nil)) [11])) (a3Cons (e3Op r3Ix (e3Var 3) (e3C (.int 0))) (a3Cons (e3Op r3Ix (e3Var 3) (e3C (.int 1))) a3Nil)))))) (a3Cons (e3TupOf (e3Var 1)) a3Nil))))))))))
theorem rdTidied {bad : Addr} : Rd3 ["task", "kept", "at", "sides", "side", "white", "black", "labels", "rows", "one", "row", "known"] (tTidied bad) (spTidied bad) := by
  rintro ds M Q E ⟨t, rfl, ⟨hv, wt, bd, e⟩ | ⟨T, rfl, ok, q⟩⟩
  · conv => whnf
    exact ⟨t, rfl, hv, wt, fun k => absurd k (by rw [bd]; decide), fun _ => ⟨M, Sub.refl _, e⟩⟩
  conv => whnf
  refine ⟨tkD T, rfl, ok.vk, tk_wt, fun _ => ?_, fun b => absurd ok.ok (by rw [b]; decide)⟩
  have c4 := ok.c4
  have c2 := ok.c2
  conv => whnf
  refine ⟨T, rfl, ok, fun a W B M1 s1 hE hM1 => ?_⟩
  have q := q W B hE
  have neat := hE.neat ok
  have rW := hE.way.fw.rows ok.wr
  have rB := hE.way.fb.rows ok.br
  have lW : List.length W ≤ 4 := by rw [hE.way.fw.1]; exact ok.w4
  have lB : List.length B ≤ 4 := by rw [hE.way.fb.1]; exact ok.b4
  refine ⟨_, .inl hM1, rfl, ?_⟩
  refine ⟨rfl, ?_⟩
  conv => whnf
  refine ⟨szLe (by show 0 ≤ 1000000; decide), fun p np => ?_⟩
  have h0 := updM_same (M := M1) (a := p) (o := .lst [])
  have s2 := (Sub.refl M1).new (o := .lst []) np
  generalize updM M1 p (.lst []) = M2 at h0 s2
  conv => whnf
  refine ⟨_, rfl, ?_⟩
  conv => whnf
  rw [List.length_map]
  refine ⟨by omega, by omega, fun k env' M' => ∃ (s2 s7 : Option D), env' = [some (tkD T), some (.ref p), s2, none, none, some (sdD W), some (sdD B), s7, none, none, none, none] ∧ Sub M1 M' ∧ M' p = some (.lst ((List.range k).map fun c => rowD (keptI W c))), ⟨none, none, rfl, s2, h0⟩, ?_, ?_⟩
  · rintro k d env' M' hd ⟨z2, z7, rfl, sub, hM⟩
    obtain ⟨hk, rfl⟩ := rngD_get hd
    rw [Int.toNat_natCast] at hk
    rw [Int.zero_add]
    have hl : T.ls[k]? = some T.ls[k] := List.getElem?_eq_getElem hk
    have lb := ok.lb _ (List.getElem_mem hk)
    refine ⟨trivial, ?_⟩
    conv => whnf
    refine ⟨szLe (by rw [List.length_map, List.length_map]; show _ ≤ 1000000; omega), ?_⟩
    rw [← List.map_append]
    have same : ∀ x, x ∈ col (W ++ B) k ↔ x ∈ col W k := fun x => by
      constructor
      · intro h
        obtain ⟨rs, h1, r, h2, e⟩ := mem_col.mp h
        rcases List.mem_append.mp h1 with h1 | h1
        · exact mem_col.mpr ⟨rs, h1, r, h2, e⟩
        · exact (neat.col hk).mpr (mem_col.mpr ⟨rs, h1, r, h2, e⟩)
      · intro h
        obtain ⟨rs, h1, r, h2, e⟩ := mem_col.mp h
        exact mem_col.mpr ⟨rs, List.mem_append_left _ h1, r, h2, e⟩
    have cW := hE.way.fw.cnt ok.w4 fun rs hrs => (rW rs hrs).len
    have cB := hE.way.fb.cnt ok.b4 fun rs hrs => (rB rs hrs).len
    refine ⟨W ++ B, k, rfl, fun rs hrs r hr => ?_, ?_, fun z M3 s3 hz => ?_⟩
    · rcases List.mem_append.mp hrs with h | h
      · rw [((rW rs h).ok r hr).1]; exact hk
      · rw [((rB rs h).ok r hr).1]; exact hk
    · have e : cnt (W ++ B) = cnt W + cnt B := by simp [cnt]
      omega
    have few : (firstsI (col (W ++ B) k)).length < 64 := by
      have := nodup_len (n := 60) (firstsI_nodup (col (W ++ B) k)) fun x hx => by
        have hx := (same x).mp (mem_firstsI.mp hx)
        have := kept_bound neat.wr hl lb.1 (kept_of hx)
        omega
      omega
    refine ⟨labK (W ++ B) k, firstsI (col (W ++ B) k), hz, by unfold labK; rw [List.map_map]; rfl, few, fun ys y pm asc ny => ?_⟩
    have ey : ys = sortI (firstsI (col W k)) := (sortI_is pm asc).trans (sort_firsts same)
    subst ey
    have hp : (updM M3 y (.lst ((sortI (firstsI (col W k))).map D.int))) p = some (.lst ((List.range k).map fun c => rowD (keptI W c))) := (updM_ne (neM (s3 _ _ hM) ny)).trans (s3 _ _ hM)
    have hy := updM_same (M := M3) (a := y) (o := .lst ((sortI (firstsI (col W k))).map D.int))
    have s4 := (sub.trans s3).new (o := .lst ((sortI (firstsI (col W k))).map D.int)) ((sub.trans s3).free ny)
    generalize updM M3 y (.lst ((sortI (firstsI (col W k))).map D.int)) = M4 at hp hy s4
    conv => whnf
    have nxt : ∀ s7 : Option D, ∃ (s2 s7' : Option D), [some (tkD T), some (.ref p), some (.int (k : Int)), none, none, some (sdD W), some (sdD B), s7, none, none, none, none] = [some (tkD T), some (.ref p), s2, none, none, some (sdD W), some (sdD B), s7', none, none, none, none] ∧ Sub M1 (updM M4 p (.lst (((List.range k).map fun c => rowD (keptI W c)) ++ [rowD (keptI W k)]))) ∧ (updM M4 p (.lst (((List.range k).map fun c => rowD (keptI W c)) ++ [rowD (keptI W k)]))) p = some (.lst ((List.range (k + 1)).map fun c => rowD (keptI W c))) := fun s7 => by
      refine ⟨_, _, rfl, s4.new np, ?_⟩
      rw [updM_same, List.range_succ, List.map_append]
      rfl
    refine ⟨⟨_, .inl hp⟩, _, .inl hy, fun e => ?_, fun e => ?_⟩
    · have e' := of_decide_eq_true e
      rw [List.length_map] at e'
      have ek : sortI (firstsI (col W k)) = keptI W k := by
        unfold keptI
        rw [if_neg (fun h => by rw [h] at e'; simp at e')]
      refine ⟨_, .inl hy, _, hp, szLt (by rw [List.length_map, List.length_range]; omega), ?_⟩
      rw [ek]
      exact nxt _
    · have e' := of_decide_eq_false e
      rw [List.length_map] at e'
      have ek : rowD [0] = rowD (keptI W k) := by
        unfold keptI
        rw [if_pos (List.eq_nil_of_length_eq_zero (by omega))]
      refine ⟨szLe (by show 1 ≤ 1000000; decide), _, hp, szLt (by rw [List.length_map, List.length_range]; omega), ?_⟩
      show _
      rw [show D.tup [D.int 0] = rowD [0] from rfl, ek]
      exact nxt _
  rintro env' M' ⟨z2, z7, rfl, sub, hM⟩
  rw [rngD_length, Int.toNat_natCast] at hM
  have ekept : (List.range T.ls.length).map (fun c => rowD (keptI W c)) = (keptS W T.ls.length).map rowD := by
    unfold keptS
    rw [List.map_map]
    rfl
  rw [ekept] at hM
  have lk : (keptS W T.ls.length).length = T.ls.length := keptS_len
  refine ⟨trivial, ?_⟩
  conv => whnf
  refine ⟨szLe (by show 0 ≤ 1000000; decide), fun r nr => ?_⟩
  have hr0 := updM_same (M := M') (a := r) (o := .lst [])
  have s5 := (Sub.refl M').new (o := .lst []) nr
  generalize updM M' r (.lst []) = M5 at hr0 s5
  conv => whnf
  have inW : ∀ rs ∈ W, ∀ r ∈ rs, ∀ (j : Nat) (x : Int) (k : List Int), r[j]? = some x → (keptS W T.ls.length)[j]? = some k → x ∈ k := fun rs hrs r hr j x k e1 e2 => neat.inW hrs hr e1 e2
  have inB : ∀ rs ∈ B, ∀ r ∈ rs, ∀ (j : Nat) (x : Int) (k : List Int), r[j]? = some x → (keptS W T.ls.length)[j]? = some k → x ∈ k := fun rs hrs r hr j x k e1 e2 => by
    rw [neat.keptSwap] at e2
    exact neat.swap.inW hrs hr e1 e2
  generalize ekk : keptS W T.ls.length = kept at hM lk inW inB q
  have hp5 := s5 _ _ hM
  have hpr : p ≠ r := neM hM nr
  have mr : M r = none := (s1.trans sub).free nr
  refine ⟨szLe (by show 2 ≤ 1000000; decide), fun j env' M'' => ∃ (s4 s8 : Option D), env' = [some (tkD T), some (.ref p), z2, some (.ref r), s4, some (sdD W), some (sdD B), z7, s8, none, none, none] ∧ M'' p = some (.lst (kept.map rowD)) ∧ Sub M M'' ∧ M'' r = some (.lst ([sdD (renS kept W), sdD (renS kept B)].take j)), ⟨none, none, rfl, hp5, (s1.trans sub).trans s5, hr0⟩, ?_, ?_⟩
  · rintro j d env' M'' hd ⟨s4, s8, rfl, hp6, s6, hr6⟩
    obtain ⟨S, rfl, lS, rS, inS, tk⟩ : ∃ S : Side, d = sdD S ∧ List.length S ≤ 4 ∧ (∀ rs ∈ S, RsOk 4000 T.ls rs) ∧ (∀ rs ∈ S, ∀ r ∈ rs, ∀ (j : Nat) (x : Int) (k : List Int), r[j]? = some x → kept[j]? = some k → x ∈ k) ∧ [sdD (renS kept W), sdD (renS kept B)].take (j + 1) = [sdD (renS kept W), sdD (renS kept B)].take j ++ [sdD (renS kept S)] := by
      match j, hd with
      | 0, hd => cases hd; exact ⟨W, rfl, lW, rW, inW, rfl⟩
      | 1, hd => cases hd; exact ⟨B, rfl, lB, rB, inB, rfl⟩
      | j + 2, hd => simp at hd
    refine ⟨trivial, ?_⟩
    conv => whnf
    refine fun y ny => ?_
    refine lcIdx (fun j => rsD ((S.getD j []).map (renumI kept))) ny (fun _ _ => trivial) (fun k d M3 R hd3 s3 k3 => ?_) (szLt (by rw [List.length_map]; omega)) fun M3 s3 h3 => ?_
    · rw [List.getElem?_map, Option.map_eq_some_iff] at hd3
      obtain ⟨rs, hrs, rfl⟩ := hd3
      have hmem := List.mem_of_getElem? hrs
      have hlen := (rS rs hmem).len
      have eg : S.getD k [] = rs := by rw [List.getD_eq_getElem?_getD, hrs]; rfl
      rw [eg] at k3
      refine fun u nu => ?_
      refine lcIdx (fun j => rowD (renumI kept (rs.getD j []))) nu (fun _ _ => trivial) (fun m d M4 R4 hd4 s4 k4 => ?_) (szLt (by rw [List.length_map]; omega)) fun M4 s4 h4 => ?_
      · rw [List.getElem?_map, Option.map_eq_some_iff] at hd4
        obtain ⟨row, hrow, rfl⟩ := hd4
        have hrm := List.mem_of_getElem? hrow
        have hrl := ((rS rs hmem).ok row hrm).1
        have er : rs.getD m [] = row := by rw [List.getD_eq_getElem?_getD, hrow]; rfl
        rw [er] at k4
        have hp7 := (s3.trans s4) _ _ hp6
        refine ⟨kept.map rowD, row.map D.int, .inl hp7, rfl, fun v nv => ?_⟩
        have hzip : (zipD (kept.map rowD) (row.map D.int)).length = row.length := by rw [zipD_length, List.length_map, List.length_map, lk, hrl, Nat.min_self]
        refine lcPIdx (fun c => .int (((kept.getD c []).idxOf (row.getD c 0) : Nat) : Int)) nv (fun M6 s6 => ⟨.inl (s6 _ _ hp7), rfl⟩) (fun c d h => ?_) (fun c d1 d2 M6 R6 h s6 k6 => ?_) (szLt (by rw [hzip]; omega)) fun M6 s6 h6 => ?_
        · obtain ⟨a1, a2, _, _, rfl⟩ := zipD_get h
          exact ⟨a1, a2, rfl⟩
        · obtain ⟨a1, a2, h1, h2, e⟩ := zipD_get h
          cases e
          rw [List.getElem?_map, Option.map_eq_some_iff] at h1
          obtain ⟨kk, hkk, rfl⟩ := h1
          rw [List.getElem?_map, Option.map_eq_some_iff] at h2
          obtain ⟨x, hx, rfl⟩ := h2
          have e1 : kept.getD c [] = kk := by rw [List.getD_eq_getElem?_getD, hkk]; rfl
          have e2 : row.getD c 0 = x := by rw [List.getD_eq_getElem?_getD, hx]; rfl
          rw [e1, e2] at k6
          exact ⟨kk, rfl, inS rs hmem row hrm c x kk hx hkk, k6 M6 (Sub.refl _)⟩
        · rw [hzip] at h6
          refine ⟨_, .inl h6, ?_⟩
          have e : D.tup ((List.range row.length).map fun c => D.int (((kept.getD c []).idxOf (row.getD c 0) : Nat) : Int)) = rowD (renumI kept row) := by
            rw [zipWith_range (by omega)]
            unfold rowD
            rw [List.map_map]
            rfl
          rw [e]
          exact k4 M6 s6
      · refine ⟨_, .inl h4, ?_⟩
        have e : D.tup ((List.range (rs.map rowD).length).map fun j => rowD (renumI kept (rs.getD j []))) = rsD (rs.map (renumI kept)) := by
          unfold rsD
          rw [List.length_map, range_map (f := fun r => rowD (renumI kept r)), List.map_map]
          rfl
        rw [e]
        exact k3 M4 s4
    · rw [List.length_map] at h3
      have e : D.tup ((List.range S.length).map fun j => rsD ((S.getD j []).map (renumI kept))) = sdD (renS kept S) := by
        unfold sdD renS
        rw [List.map_map]
        congr 1
        refine List.ext_getElem? fun j => ?_
        rw [List.getElem?_map, List.getElem?_map]
        by_cases hj : j < List.length S
        · have eg : S.getD j [] = S[j] := by rw [List.getD_eq_getElem?_getD, List.getElem?_eq_getElem hj]; rfl
          rw [List.getElem?_range hj, List.getElem?_eq_getElem hj]
          show some (rsD (List.map (renumI kept) (List.getD S j []))) = some (rsD (List.map (renumI kept) S[j]))
          rw [eg]
        · rw [List.getElem?_eq_none (by rw [List.length_range]; omega), List.getElem?_eq_none (by omega)]
          rfl
      conv => whnf
      refine ⟨⟨_, .inl (s3 _ _ hr6)⟩, _, .inl h3, _, s3 _ _ hr6, szLt (by rw [List.length_take]; show min j 2 ≤ 1000000; omega), some (sdD S), some (.ref y), ?_, (updM_ne hpr).trans (s3 _ _ hp6), (s6.trans s3).new mr, ?_⟩
      · rfl
      · rw [updM_same, tk, e]
  · rintro env' M'' ⟨s4, s8, rfl, hp6, s6, hr6⟩
    refine ⟨trivial, ?_⟩
    conv => whnf
    rw [show [sdD (renS kept W), sdD (renS kept B)].take [sdD W, sdD B].length = [sdD (renS kept W), sdD (renS kept B)] from rfl] at hr6
    refine ⟨_, rfl, _, .inl hp6, fun y ny => ?_⟩
    refine lcIdx (fun j => .int ((kept.getD j []).length : Int)) ny (fun M3 s => .inl (s _ _ hp6)) (fun k d M3 R hd3 s3 k3 => ?_) (szLt (by rw [List.length_map]; omega)) fun M3 s3 h3 => ?_
    · rw [List.getElem?_map, Option.map_eq_some_iff] at hd3
      obtain ⟨kk, hkk, rfl⟩ := hd3
      have e1 : kept.getD k [] = kk := by rw [List.getD_eq_getElem?_getD, hkk]; rfl
      rw [e1] at k3
      show R (.int ((kk.map D.int).length : Int)) M3
      rw [List.length_map]
      exact k3 M3 (Sub.refl _)
    rw [List.length_map, range_map (f := fun k => D.int (k.length : Int))] at h3
    refine ⟨_, .inl h3, _, _, .inl (s3 _ _ hr6), rfl, _, _, .inl (s3 _ _ hr6), rfl, szLe (by show 5 ≤ 1000000; decide), _, .inl (s3 _ _ hp6), szLe (by show 2 ≤ 1000000; decide), M, s6.trans s3, ?_⟩
    unfold tidD tidT at q
    rw [ekk] at q
    have e : tkD ⟨kept.map fun k => (k.length : Int), renS kept W, renS kept B⟩ = D.tup [D.str "task", D.int ((T.ls.map D.int).length : Int), D.tup (kept.map fun k => D.int (k.length : Int)), sdD (renS kept W), sdD (renS kept B)] := by
      show D.tup [D.str "task", D.int (((kept.map fun k => (k.length : Int)).map D.int).length : Int), D.tup ((kept.map fun k => (k.length : Int)).map D.int), sdD (renS kept W), sdD (renS kept B)] = _
      rw [List.map_map, List.length_map, List.length_map, lk]
      rfl
    rw [e] at q
    exact q
end L3

namespace L3
open PySem PySem.Spec PyProof.Rows L2
/-! ### the law's own tidying -/
theorem LL.get {M : MH} {a : Addr} {F : List (List Int)} (h : LL M a F) {c : Nat} (hc : c < F.length) : ∃ b ds, LstM M a ds ∧ atI ds (c : Int) = some (.ref b) ∧ LstM M b ((F.getD c []).map D.int) := by
  obtain ⟨refs, h1, h2, h3⟩ := h
  have hr : refs[c]? = some refs[c] := List.getElem?_eq_getElem (by omega)
  exact ⟨refs[c], _, h1, atI_nat (by rw [List.getElem?_map, hr]; rfl), h3 c _ _ hr (getD_some hc)⟩
def choiceB (r : List Int) (F : List (List Int)) : Bool := (List.range r.length).all fun c => decide (r.getD c 0 ∈ F.getD c [])
def spChoice : Sp3 := fun ds M Q _ => ∃ (r : List Int) (a : Addr) (F : List (List Int)), ds = [rowD r, .ref a] ∧ LL M a F ∧ r.length ≤ F.length ∧ r.length ≤ 1000 ∧ Q (.bl (choiceB r F)) M
def tChoice : S3 :=
    (s3Seq (s3For (i3Rng1 (a3Cons (e3CB c3Len (a3Cons (e3Var 0) a3Nil)) a3Nil)) (g3Name 2) (s3If (t3Test (e3Op (r3In true) (e3Op r3Ix (e3Var 0) (e3Var 2)) (e3Op r3Ix (e3Var 1) (e3Var 2)))) (s3Ret (e3C (.bl false))) s3Nil))
    (s3Ret (e3C (.bl true))))
theorem rdChoice : Rd3 ["row", "sets", "at"] tChoice spChoice := by
  rintro ds M Q E ⟨r, a, F, rfl, hF, hl, hz, q⟩
  conv => whnf
  rw [List.length_map]
  refine ⟨by omega, by omega, fun k env' M' => ∃ s2, env' = [some (rowD r), some (.ref a), s2] ∧ M' = M ∧ ∀ c, c < k → r.getD c 0 ∈ F.getD c [], ⟨none, rfl, rfl, fun c hc => absurd hc (Nat.not_lt_zero c)⟩, ?_, ?_⟩
  · rintro k d env' M' hd ⟨s2, rfl, rfl, hall⟩
    obtain ⟨hk, rfl⟩ := rngD_get hd
    rw [Int.toNat_natCast] at hk
    rw [Int.zero_add]
    obtain ⟨b, ds, h1, h2, h3⟩ := hF.get (c := k) (by omega)
    refine ⟨trivial, ?_⟩
    conv => whnf
    refine ⟨_, atI_nat (by rw [List.getElem?_map, row_getD hk]; rfl), _, _, h1, h2, ?_⟩
    refine in_ints (xs := F.getD k []) h3 ?_
    rw [Bool.true_xor]
    refine ⟨fun e => ?_, fun e => ⟨_, rfl, rfl, fun c hc => ?_⟩⟩
    · have hn : ¬ r.getD k 0 ∈ F.getD k [] := by simpa using e
      have : choiceB r F = false := by
        unfold choiceB
        rw [List.all_eq_false]
        exact ⟨k, List.mem_range.mpr hk, by simpa using hn⟩
      rw [this] at q
      exact ⟨M', Sub.refl _, q⟩
    · by_cases e' : c = k
      · subst e'
        simpa using e
      · exact hall c (by omega)
  · rintro env' M' ⟨s2, rfl, rfl, hall⟩
    rw [rngD_length, Int.toNat_natCast] at hall
    have : choiceB r F = true := by
      unfold choiceB
      rw [List.all_eq_true]
      exact fun c hc => decide_eq_true (hall c (List.mem_range.mp hc))
    rw [this] at q
    exact ⟨trivial, M', Sub.refl _, q⟩
def spRenum : Sp3 := fun ds M Q _ => ∃ (r : List Int) (a : Addr) (kept : List (List Int)), ds = [rowD r, .ref a] ∧ LstM M a (kept.map rowD) ∧ r.length = kept.length ∧ r.length ≤ 1000 ∧ (∀ (j : Nat) (x : Int) (k : List Int), r[j]? = some x → kept[j]? = some k → x ∈ k) ∧ Q (rowD (renumI kept r)) M
def tRenum : S3 :=
    (s3Ret (e3TupOf (e3Lc (i3Rng1 (a3Cons (e3CB c3Len (a3Cons (e3Var 0) a3Nil)) a3Nil)) 2 t3Yes (e3Tm m3Tix (e3Op r3Ix (e3Var 1) (e3Var 2)) (a3Cons (e3Op r3Ix (e3Var 0) (e3Var 2)) a3Nil)) [2])))
theorem rdRenum : Rd3 ["row", "kept", "c"] tRenum spRenum := by
  rintro ds M Q E ⟨r, a, kept, rfl, ha, hl, hz, hin, q⟩
  conv => whnf
  rw [List.length_map]
  refine ⟨by omega, by omega, fun p np => ?_⟩
  refine lcIdx (fun j => .int (((kept.getD j []).idxOf (r.getD j 0) : Nat) : Int)) np (fun _ _ => trivial) (fun k d M' R hd s k2 => ?_) (szLt (by rw [rngD_length]; omega)) fun M1 s1 h1 => ?_
  · obtain ⟨hk, rfl⟩ := rngD_get hd
    rw [Int.toNat_natCast] at hk
    rw [Int.zero_add]
    have hkk : kept[k]? = some (kept.getD k []) := getD_some (by omega)
    refine ⟨_, _, lstM_sub s ha, atI_nat (by rw [List.getElem?_map, hkk]; rfl), ?_⟩
    conv => whnf
    refine ⟨.int (r.getD k 0), atI_nat (by rw [List.getElem?_map, row_getD hk]; rfl), ?_⟩
    exact ⟨kept.getD k [], rfl, hin k _ _ (row_getD hk) hkk, k2 M' (Sub.refl _)⟩
  rw [rngD_length, Int.toNat_natCast] at h1
  refine ⟨_, .inl h1, M, s1, ?_⟩
  have e : D.tup ((List.range r.length).map fun c => D.int (((kept.getD c []).idxOf (r.getD c 0) : Nat) : Int)) = rowD (renumI kept r) := by
    rw [zipWith_range (by omega)]
    unfold rowD
    rw [List.map_map]
    rfl
  rw [e]
  exact q
/-! standing -/
def fI (R : List (List Int)) (c : Nat) : List Int := firstsI (R.map fun r => r.getD c 0)
theorem fI_snoc {R : List (List Int)} {r : List Int} {c : Nat} : fI (R ++ [r]) c = addI (fI R c) (r.getD c 0) := by
  unfold fI firstsI
  rw [List.map_append]
  show (_ ++ [r.getD c 0]).foldl addI [] = _
  rw [List.foldl_append]
  rfl
/-- new lists of the labels that stand, colour by colour -/
def StOut (M M' : MH) (p : Addr) (C : Nat) (S : Side) : Prop := ∃ refs : List Addr, M p = none ∧ LstM M' p (refs.map D.ref) ∧ refs.length = C ∧ (∀ b ∈ refs, M b = none) ∧ ∀ (c : Nat) (b : Addr), refs[c]? = some b → LstM M' b ((firstsI (col S c)).map D.int)
theorem StOut.ll {M M' : MH} {p : Addr} {C : Nat} {S : Side} (h : StOut M M' p C S) : LL M' p ((List.range C).map fun c => firstsI (col S c)) := by
  obtain ⟨refs, _, h1, h2, _, h3⟩ := h
  refine ⟨refs, h1, by rw [List.length_map, List.length_range]; exact h2, fun c b s e1 e2 => ?_⟩
  have hc : c < C := by rw [← h2]; exact (List.getElem?_eq_some_iff.mp e1).1
  rw [List.getElem?_map, List.getElem?_range hc] at e2
  cases e2
  exact h3 c b e1
def spStand : Sp3 := fun ds M Q _ => ∃ (a : Addr) (C : Nat) (S : Side), ds = [.ref a, .int (C : Int)] ∧ LSd M a S ∧ (∀ rs ∈ S, ∀ r ∈ rs, r.length = C) ∧ C ≤ 1000 ∧ cnt S ≤ 100000 ∧
  ∀ p M', Sub M M' → StOut M M' p C S → Q (.ref p) M'
def tStand : S3 :=
    (s3Seq (s3Asg (e3Lc (i3Rng1 (a3Cons (e3Var 1) a3Nil)) 5 t3Yes (e3Lst a3Nil) [5]) 2)
    (s3Seq (s3For (i3Seq (e3Var 0)) (g3Name 3) (s3For (i3Seq (e3Var 3)) (g3Name 4) (s3For (i3Rng1 (a3Cons (e3Var 1) a3Nil)) (g3Name 5) (s3If (t3Test (e3Op (r3In true) (e3Op r3Ix (e3Var 4) (e3Var 5)) (e3Op r3Ix (e3Var 2) (e3Var 5)))) (s3Expr (e3Bm m3App (e3Op r3Ix (e3Var 2) (e3Var 5)) (a3Cons (e3Op r3Ix (e3Var 4) (e3Var 5)) a3Nil))) s3Nil))))
    (s3Ret (e3Var 2))))
structure StF (M M' : MH) (p : Addr) (qs : List Addr) (f : Nat → List Int) : Prop where
  sub : Sub M M'
  at_ : M' p = some (.lst (qs.map D.ref))
  it : ∀ (c : Nat) (b : Addr), qs[c]? = some b → M' b = some (.lst ((f c).map D.int))
theorem StF.step {M M' : MH} {p : Addr} {qs : List Addr} {f : Nat → List Int} {b : Addr} {c : Nat} {l : List Int} (h : StF M M' p qs f) (nd : qs.Nodup) (fr : ∀ q ∈ qs, M q = none ∧ q ≠ p) (hb : qs[c]? = some b) : StF M (updM M' b (.lst (l.map D.int))) p qs (fun j => if j = c then l else f j) := by
  obtain ⟨n1, n2⟩ := fr b (List.mem_of_getElem? hb)
  refine ⟨h.sub.new n1, (updM_ne n2.symm).trans h.at_, fun j d hj => ?_⟩
  by_cases e : j = c
  · subst e
    rw [hb] at hj
    cases hj
    rw [updM_same, if_pos rfl]
  · have hd : d ≠ b := by
      rintro rfl
      exact e ((List.getElem?_inj (List.getElem?_eq_some_iff.mp hj).1 nd).mp (hj.trans hb.symm))
    rw [if_neg e]
    exact (updM_ne hd).trans (h.it j d hj)
theorem StF.same {M M' : MH} {p : Addr} {qs : List Addr} {f g : Nat → List Int} (h : StF M M' p qs f) (e : ∀ c, c < qs.length → f c = g c) : StF M M' p qs g :=
  ⟨h.sub, h.at_, fun c b hb => by rw [← e c (List.getElem?_eq_some_iff.mp hb).1]; exact h.it c b hb⟩
theorem rdStand : Rd3 ["side", "colours", "found", "rows", "row", "c"] tStand spStand := by
  rintro ds M Q E ⟨a, C, S, rfl, ⟨refs, hra, hrl, hrefs⟩, hC, hz, hcnt, q⟩
  conv => whnf
  refine ⟨by omega, by omega, fun p np => ?_⟩
  refine lcListsN (fun _ => []) np (fun _ _ => trivial) (fun k d M' R hd s k2 => ?_) (szLt (by rw [rngD_length]; omega)) fun qs M1 lq hq nd fr s1 h1 => ?_
  · exact ⟨szLe (by show 0 ≤ 1000000; decide), fun z nz => k2 z _ nz ((Sub.refl M').new nz) updM_same⟩
  rw [rngD_length, Int.toNat_natCast] at lq
  conv => whnf
  have st0 : StF M M1 p qs (fI []) := ⟨s1, h1, fun c b hb => by rw [hq c b hb]; rfl⟩
  refine ⟨_, lstM_sub s1 hra, fun k env' M' => ∃ s3 s4 s5, env' = [some (.ref a), some (.int (C : Int)), some (.ref p), s3, s4, s5] ∧ StF M M' p qs (fI ((S.take k).flatten)), ⟨none, none, none, rfl, st0⟩, ?_, ?_⟩
  · rintro k d env' M' hd ⟨s3, s4, s5, rfl, st⟩
    rw [List.getElem?_map, Option.map_eq_some_iff] at hd
    obtain ⟨b, hb, rfl⟩ := hd
    have hkS : k < S.length := by rw [← hrl]; exact (List.getElem?_eq_some_iff.mp hb).1
    have hrs : S[k]? = some S[k] := List.getElem?_eq_getElem hkS
    have hmem := List.mem_of_getElem? hrs
    have flat : (S.take (k + 1)).flatten = (S.take k).flatten ++ S[k] := by
      rw [List.take_add_one, hrs, Option.toList_some, List.flatten_append]
      simp
    have hcntk : ((S.take (k + 1)).flatten).length ≤ 100000 := by
      have e : cnt S = ((S.take (k + 1)).flatten).length + ((S.drop (k + 1)).flatten).length := by
        unfold cnt
        rw [← List.length_flatten, ← List.length_append, ← List.flatten_append, List.take_append_drop]
      omega
    rw [flat] at hcntk
    generalize S[k] = rs at hrs hmem flat hcntk
    have hbl := hrefs k b rs hb hrs
    refine ⟨lstM_sub st.sub hra, ?_⟩
    conv => whnf
    refine ⟨_, lstM_sub st.sub hbl, fun j env' M' => ∃ s4 s5, env' = [some (.ref a), some (.int (C : Int)), some (.ref p), some (.ref b), s4, s5] ∧ StF M M' p qs (fI ((S.take k).flatten ++ rs.take j)), ⟨s4, s5, rfl, by rw [List.take_zero, List.append_nil]; exact st⟩, ?_, ?_⟩
    · rintro j d env' M' hd ⟨s4, s5, rfl, st⟩
      rw [List.getElem?_map, Option.map_eq_some_iff] at hd
      obtain ⟨r, hr, rfl⟩ := hd
      have hrl := hC rs hmem r (List.mem_of_getElem? hr)
      have htk : (S.take k).flatten ++ rs.take (j + 1) = ((S.take k).flatten ++ rs.take j) ++ [r] := by
        rw [List.take_add_one, hr, Option.toList_some, List.append_assoc]
      have hRl : ((S.take k).flatten ++ rs.take j).length ≤ 100000 := by
        rw [List.length_append] at hcntk ⊢
        rw [List.length_take]
        omega
      generalize (S.take k).flatten ++ rs.take j = R at st hRl htk
      refine ⟨lstM_sub st.sub hbl, ?_⟩
      conv => whnf
      refine ⟨by omega, by omega, fun m env' M' => ∃ s5, env' = [some (.ref a), some (.int (C : Int)), some (.ref p), some (.ref b), some (rowD r), s5] ∧ StF M M' p qs (fun c => if c < m then fI (R ++ [r]) c else fI R c), ⟨s5, rfl, st⟩, ?_, ?_⟩
      · rintro m d env' M' hd ⟨s5, rfl, st⟩
        obtain ⟨hm, rfl⟩ := rngD_get hd
        rw [Int.toNat_natCast] at hm
        rw [Int.zero_add]
        have hqm : qs[m]? = some qs[m] := List.getElem?_eq_getElem (by omega)
        generalize qs[m] = b' at hqm
        have hb' := st.it m b' hqm
        rw [if_neg (Nat.lt_irrefl m)] at hb'
        have hpD : atI (qs.map D.ref) (m : Int) = some (.ref b') := atI_nat (by rw [List.getElem?_map, hqm]; rfl)
        have hrD : atI (r.map D.int) (m : Int) = some (.int (r.getD m 0)) := atI_nat (by rw [List.getElem?_map, row_getD (by omega)]; rfl)
        refine ⟨trivial, ?_⟩
        conv => whnf
        refine ⟨_, hrD, _, _, .inl st.at_, hpD, in_ints (xs := fI R m) (.inl hb') ?_⟩
        rw [Bool.true_xor]
        refine ⟨fun e => ?_, fun e => ⟨_, rfl, st.same fun c hc => ?_⟩⟩
        · have hn : ¬ r.getD m 0 ∈ fI R m := by simpa using e
          conv => whnf
          have hlen : (fI R m).length ≤ R.length := by
            have := firsts_len (R.map fun r => r.getD m 0)
            rw [List.length_map] at this
            exact this
          refine ⟨_, _, .inl st.at_, hpD, ⟨_, .inl hb'⟩, _, hrD, _, hb', szLt (by rw [List.length_map]; omega), _, rfl, ?_⟩
          have e1 : fI R m ++ [r.getD m 0] = fI (R ++ [r]) m := by
            rw [fI_snoc]
            unfold addI
            rw [if_neg hn]
          have := st.step (l := fI R m ++ [r.getD m 0]) nd fr hqm
          rw [List.map_append] at this
          refine this.same fun c hc => ?_
          by_cases e2 : c = m
          · subst e2
            rw [if_pos rfl, if_pos (by omega), e1]
          · rw [if_neg e2]
            by_cases e3 : c < m
            · rw [if_pos e3, if_pos (by omega)]
            · rw [if_neg e3, if_neg (by omega)]
        · have hy : r.getD m 0 ∈ fI R m := by simpa using e
          by_cases e2 : c = m
          · subst e2
            rw [if_neg (Nat.lt_irrefl c), if_pos (by omega), fI_snoc]
            unfold addI
            rw [if_pos hy]
          · by_cases e3 : c < m
            · rw [if_pos e3, if_pos (by omega)]
            · rw [if_neg e3, if_neg (by omega)]
      · rintro env' M' ⟨s5, rfl, st⟩
        rw [rngD_length, Int.toNat_natCast] at st
        exact ⟨trivial, _, _, rfl, by rw [htk]; exact st.same fun c hc => by rw [if_pos (by omega)]⟩
    · rintro env' M' ⟨s4, s5, rfl, st⟩
      rw [List.length_map, List.take_length] at st
      exact ⟨lstM_sub st.sub hbl, _, _, _, rfl, by rw [flat]; exact st⟩
  · rintro env' M' ⟨s3, s4, s5, rfl, st⟩
    rw [List.length_map, hrl, List.take_length] at st
    exact ⟨lstM_sub st.sub hra, M', Sub.refl _, q p M' st.sub ⟨qs, np, .inl st.at_, lq, fun b hb => (fr b hb).1, fun c b e => .inl (st.it c b e)⟩⟩
end L3

namespace L3
open PySem PySem.Spec PyProof.Rows L2
/-! ### the law's _law_tidied -/
def LSe (M : MH) (a : Addr) (S : Side) : Prop := ∃ refs : List Addr, M a = some (.lst (refs.map D.ref)) ∧ refs.length = S.length ∧ ∀ (k : Nat) (b : Addr) (rs : List (List Int)), refs[k]? = some b → S[k]? = some rs → M b = some (.lst (rs.map rowD))
theorem LSe.d {M : MH} {a : Addr} {S : Side} (h : LSe M a S) : LSd M a S := by
  obtain ⟨refs, h1, h2, h3⟩ := h
  exact ⟨refs, .inl h1, h2, fun k b rs e1 e2 => .inl (h3 k b rs e1 e2)⟩
theorem LSe.sub {M M' : MH} {a : Addr} {S : Side} (h : LSe M a S) (s : Sub M M') : LSe M' a S := by
  obtain ⟨refs, h1, h2, h3⟩ := h
  exact ⟨refs, s _ _ h1, h2, fun k b rs e1 e2 => s _ _ (h3 k b rs e1 e2)⟩
theorem LSe.of {M : MH} {p : Addr} {qs : List Addr} {S : Side} (h1 : M p = some (.lst (qs.map D.ref))) (hl : qs.length = S.length) (hq : ∀ k q, qs[k]? = some q → M q = some (.lst ((S.getD k []).map rowD))) : LSe M p S :=
  ⟨qs, h1, hl, fun k b rs e1 e2 => by
    have := hq k b e1
    rw [show S.getD k [] = rs by rw [List.getD_eq_getElem?_getD, e2]; rfl] at this
    exact this⟩
theorem strike_getD {S O : Side} {k : Nat} : (strike S O).getD k [] = (S.getD k []).filter (fitsS O) := by
  unfold strike
  rw [List.getD_eq_getElem?_getD, List.getD_eq_getElem?_getD, List.getElem?_map]
  cases S[k]? with
  | none => rfl
  | some rs => rfl
theorem choice_fits {O : Side} {r : List Int} {C : Nat} (h : r.length = C) : choiceB r ((List.range C).map fun c => firstsI (col O c)) = fitsS O r := by
  unfold choiceB fitsS
  rw [Bool.eq_iff_iff, List.all_eq_true, List.all_eq_true]
  have e : ∀ c, c < r.length → (((List.range C).map fun c => firstsI (col O c)).getD c []) = firstsI (col O c) := fun c hc => by
    rw [List.getD_eq_getElem?_getD, List.getElem?_map, List.getElem?_range (by omega)]
    rfl
  constructor
  · intro h c hc
    have := of_decide_eq_true (h c hc)
    rw [e c (List.mem_range.mp hc)] at this
    exact decide_eq_true (mem_firstsI.mp this)
  · intro h c hc
    have := of_decide_eq_true (h c hc)
    refine decide_eq_true ?_
    rw [e c (List.mem_range.mp hc)]
    exact mem_firstsI.mpr this
theorem tid_eq {C : Nat} {n : Int} {W B : Side} (hn : n = (C : Int)) : D.tup [D.tup [D.str "task", D.int n, D.tup ((keptS W C).map fun k => D.int (k.length : Int)), sdD (renS (keptS W C) W), sdD (renS (keptS W C) B)], D.tup ((keptS W C).map rowD)] = tidD C W B := by
  subst hn
  unfold tidD
  congr 2
  show _ = D.tup [D.str "task", D.int ((((keptS W C).map fun k => (k.length : Int)).map D.int).length : Int), D.tup (((keptS W C).map fun k => (k.length : Int)).map D.int), sdD (renS (keptS W C) W), sdD (renS (keptS W C) B)]
  rw [List.map_map, List.length_map, keptS_len]
  rfl
def spLawTid : Sp3 := fun ds M Q _ => ∃ T : Tk, ds = [tkD T] ∧ TkOk 4000 T ∧ ∀ W B, Ended T.ws T.bs W B → Q (tidD T.ls.length W B) M
def tTidRest : S3 :=
    (s3Seq (s3Asg (e3Lst a3Nil) 4)
    (s3Seq (s3For (i3Seq (e3Call spStand (a3Cons (e3Var 1) (a3Cons (e3Op r3Ix (e3Var 0) (e3C (.int 1))) a3Nil)))) (g3Name 5) (s3Expr (e3Bm m3App (e3Var 4) (a3Cons (e3TupOf (e3CB c3Sorted (a3Cons (e3Op r3Add (e3Lc (i3Seq (e3Var 5)) 13 t3Yes (e3CB c3Int (a3Cons (e3Var 13) a3Nil)) [13]) (e3Op r3Mul (e3Lst (a3Cons (e3C (.int 0)) a3Nil)) (e3CB c3Int (a3Cons (e3Op r3Eq (e3CB c3Len (a3Cons (e3Var 5) a3Nil)) (e3C (.int 0))) a3Nil)))) a3Nil))) a3Nil))))
    (s3Seq (s3Asg (e3Lst a3Nil) 6)
    (s3Seq (s3For (i3Seq (e3Tup (a3Cons (e3Var 1) (a3Cons (e3Var 2) a3Nil)))) (g3Name 7) (s3Expr (e3Bm m3App (e3Var 6) (a3Cons (e3TupOf (e3Lc (i3Seq (e3Var 7)) 11 t3Yes (e3TupOf (e3Lc (i3Seq (e3Var 11)) 12 t3Yes (e3Call spRenum (a3Cons (e3Var 12) (a3Cons (e3Var 4) a3Nil))) [12])) [11])) a3Nil))))
    (s3Ret (e3Tup (a3Cons (e3Tup (a3Cons (e3C (.str "task")) (a3Cons (e3Op r3Ix (e3Var 0) (e3C (.int 1))) (a3Cons (e3TupOf (e3Lc (i3Seq (e3Var 4)) 5 t3Yes (e3CB c3Len (a3Cons (e3Var 5) a3Nil)) [5])) (a3Cons (e3Op r3Ix (e3Var 6) (e3C (.int 0))) (a3Cons (e3Op r3Ix (e3Var 6) (e3C (.int 1))) a3Nil)))))) (a3Cons (e3TupOf (e3Var 4)) a3Nil))))))))
def tLawTid : S3 :=
    (s3Seq (s3Asg (e3Lc (i3Seq (e3Op r3Ix (e3Var 0) (e3C (.int 3)))) 11 t3Yes (e3CB c3List (a3Cons (e3Var 11) a3Nil)) [11]) 1)
    (s3Seq (s3Asg (e3Lc (i3Seq (e3Op r3Ix (e3Var 0) (e3C (.int 4)))) 11 t3Yes (e3CB c3List (a3Cons (e3Var 11) a3Nil)) [11]) 2)
    (s3Seq (s3For (i3Rng1 (a3Cons (e3Op r3Add (e3C (.int 1)) (e3CB c3Sum (a3Cons (e3Lc (i3Seq (e3Op r3Add (e3Var 1) (e3Var 2))) 11 t3Yes (e3CB c3Len (a3Cons (e3Var 11) a3Nil)) [11]) a3Nil))) a3Nil)) (g3Name 3) (s3Seq (s3Asg (e3Tup (a3Cons (e3Var 1) (a3Cons (e3Var 2) a3Nil))) 8)
    (s3Seq (s3Asg (e3Call spStand (a3Cons (e3Var 1) (a3Cons (e3Op r3Ix (e3Var 0) (e3C (.int 1))) a3Nil))) 9)
    (s3Seq (s3Asg (e3Call spStand (a3Cons (e3Var 2) (a3Cons (e3Op r3Ix (e3Var 0) (e3C (.int 1))) a3Nil))) 10)
    (s3Seq (s3Asg (e3Lc (i3Seq (e3Var 1)) 11 t3Yes (e3Lc (i3Seq (e3Var 11)) 12 (t3Test (e3Call spChoice (a3Cons (e3Var 12) (a3Cons (e3Var 10) a3Nil)))) (e3Var 12) [12]) [11]) 1)
    (s3Seq (s3Asg (e3Lc (i3Seq (e3Var 2)) 11 t3Yes (e3Lc (i3Seq (e3Var 11)) 12 (t3Test (e3Call spChoice (a3Cons (e3Var 12) (a3Cons (e3Var 9) a3Nil)))) (e3Var 12) [12]) [11]) 2)
    (s3If (t3Test (e3Op r3Eq (e3Var 8) (e3Tup (a3Cons (e3Var 1) (a3Cons (e3Var 2) a3Nil))))) s3Brk s3Nil)))))))
    tTidRest)))
theorem strike_loopW {o0 o1 o2 o3 o4 o5 o6 o7 o8 o9 : Option D} {M : MH} {p fd : Addr} {S O : Side} {C : Nat} {keep : MH → Prop} {refs : List Addr} {Q : MH → Prop} (np : M p = none) (hk : ∀ M', Sub M M' → keep M')
    (hl : refs.length = S.length) (hr : ∀ (k : Nat) (b : Addr) (rs : List (List Int)), refs[k]? = some b → S[k]? = some rs → M b = some (.lst (rs.map rowD))) (hLL : LL M fd ((List.range C).map fun c => firstsI (col O c))) (hS : ∀ rs ∈ S, rs.length ≤ 4000 ∧ ∀ r ∈ rs, r.length = C) (hz : S.length ≤ 100) (hC : C ≤ 1000)
    (hq : ∀ (M' : MH), Sub M M' → LSe M' p (strike S O) → Q M') :
    LoopC (refs.map D.ref) keep 11 t3Yes (e3Lc (i3Seq (e3Var 11)) 12 (t3Test (e3Call spChoice (a3Cons (e3Var 12) (a3Cons (e3Var 10) a3Nil)))) (e3Var 12) [12]) [o0, o1, o2, o3, o4, o5, o6, o7, o8, o9, some (.ref fd), none, none, none] p M Q := by
  refine lcListsN (fun k => ((strike S O).getD k []).map rowD) np hk (fun k d M' R hd s k2 => ?_) (szLt (by rw [List.length_map]; omega)) fun qs M9 lq hqs nd fr s9 h9 => ?_
  · rw [List.getElem?_map, Option.map_eq_some_iff] at hd
    obtain ⟨b, hb, rfl⟩ := hd
    have hkS : k < List.length S := by rw [← hl]; exact (List.getElem?_eq_some_iff.mp hb).1
    have hrs : S[k]? = some S[k] := List.getElem?_eq_getElem hkS
    have hmem := List.mem_of_getElem? hrs
    obtain ⟨z1, z2⟩ := hS _ hmem
    have e : (strike S O).getD k [] = S[k].filter (fitsS O) := by
      rw [strike_getD, List.getD_eq_getElem?_getD, hrs]
      rfl
    rw [e] at k2
    have hbM := s _ _ (hr k b _ hb hrs)
    generalize S[k] = rs at hrs hmem z1 z2 k2 hbM
    refine ⟨_, .inl hbM, fun y ny => ?_⟩
    refine lcFilter (fun d => fitsS O (intsOf d)) id ny (fun M5 s5 => .inl (s5 _ _ hbM)) (fun j d M5 R5 hd5 s5 k5 => ?_) (fun j d M5 R5 hd5 _ s5 k5 => k5 M5 (Sub.refl _)) (szLt (by rw [List.length_map]; omega)) fun M5 s5 h5 => ?_
    · rw [List.getElem?_map, Option.map_eq_some_iff] at hd5
      obtain ⟨r, hr5, rfl⟩ := hd5
      have hrl := z2 r (List.mem_of_getElem? hr5)
      refine ⟨r, fd, (List.range C).map fun c => firstsI (col O c), rfl, hLL.sub (s.trans s5), by rw [List.length_map, List.length_range]; omega, by omega, ?_⟩
      rw [choice_fits hrl]
      have := k5 M5 (Sub.refl _)
      rw [intsOf_row] at this
      exact this
    · have ef : ((rs.map rowD).filter (fun d => fitsS O (intsOf d))).map id = (rs.filter (fitsS O)).map rowD := by
        rw [List.map_id, List.filter_map]
        congr 1
        refine List.filter_congr fun r _ => ?_
        show fitsS O (intsOf (rowD r)) = _
        rw [intsOf_row]
      rw [ef] at h5
      exact k2 y M5 ny s5 h5
  · rw [List.length_map] at lq
    refine hq M9 s9 (LSe.of h9 (by rw [lq, hl]; unfold strike; rw [List.length_map]) hqs)
theorem strike_loopB {o0 o1 o2 o3 o4 o5 o6 o7 o8 o10 : Option D} {M : MH} {p fd : Addr} {S O : Side} {C : Nat} {keep : MH → Prop} {refs : List Addr} {Q : MH → Prop} (np : M p = none) (hk : ∀ M', Sub M M' → keep M')
    (hl : refs.length = S.length) (hr : ∀ (k : Nat) (b : Addr) (rs : List (List Int)), refs[k]? = some b → S[k]? = some rs → M b = some (.lst (rs.map rowD))) (hLL : LL M fd ((List.range C).map fun c => firstsI (col O c))) (hS : ∀ rs ∈ S, rs.length ≤ 4000 ∧ ∀ r ∈ rs, r.length = C) (hz : S.length ≤ 100) (hC : C ≤ 1000)
    (hq : ∀ (M' : MH), Sub M M' → LSe M' p (strike S O) → Q M') :
    LoopC (refs.map D.ref) keep 11 t3Yes (e3Lc (i3Seq (e3Var 11)) 12 (t3Test (e3Call spChoice (a3Cons (e3Var 12) (a3Cons (e3Var 9) a3Nil)))) (e3Var 12) [12]) [o0, o1, o2, o3, o4, o5, o6, o7, o8, some (.ref fd), o10, none, none, none] p M Q := by
  refine lcListsN (fun k => ((strike S O).getD k []).map rowD) np hk (fun k d M' R hd s k2 => ?_) (szLt (by rw [List.length_map]; omega)) fun qs M9 lq hqs nd fr s9 h9 => ?_
  · rw [List.getElem?_map, Option.map_eq_some_iff] at hd
    obtain ⟨b, hb, rfl⟩ := hd
    have hkS : k < List.length S := by rw [← hl]; exact (List.getElem?_eq_some_iff.mp hb).1
    have hrs : S[k]? = some S[k] := List.getElem?_eq_getElem hkS
    have hmem := List.mem_of_getElem? hrs
    obtain ⟨z1, z2⟩ := hS _ hmem
    have e : (strike S O).getD k [] = S[k].filter (fitsS O) := by
      rw [strike_getD, List.getD_eq_getElem?_getD, hrs]
      rfl
    rw [e] at k2
    have hbM := s _ _ (hr k b _ hb hrs)
    generalize S[k] = rs at hrs hmem z1 z2 k2 hbM
    refine ⟨_, .inl hbM, fun y ny => ?_⟩
    refine lcFilter (fun d => fitsS O (intsOf d)) id ny (fun M5 s5 => .inl (s5 _ _ hbM)) (fun j d M5 R5 hd5 s5 k5 => ?_) (fun j d M5 R5 hd5 _ s5 k5 => k5 M5 (Sub.refl _)) (szLt (by rw [List.length_map]; omega)) fun M5 s5 h5 => ?_
    · rw [List.getElem?_map, Option.map_eq_some_iff] at hd5
      obtain ⟨r, hr5, rfl⟩ := hd5
      have hrl := z2 r (List.mem_of_getElem? hr5)
      refine ⟨r, fd, (List.range C).map fun c => firstsI (col O c), rfl, hLL.sub (s.trans s5), by rw [List.length_map, List.length_range]; omega, by omega, ?_⟩
      rw [choice_fits hrl]
      have := k5 M5 (Sub.refl _)
      rw [intsOf_row] at this
      exact this
    · have ef : ((rs.map rowD).filter (fun d => fitsS O (intsOf d))).map id = (rs.filter (fitsS O)).map rowD := by
        rw [List.map_id, List.filter_map]
        congr 1
        refine List.filter_congr fun r _ => ?_
        show fitsS O (intsOf (rowD r)) = _
        rw [intsOf_row]
      rw [ef] at h5
      exact k2 y M5 ny s5 h5
  · rw [List.length_map] at lq
    refine hq M9 s9 (LSe.of h9 (by rw [lq, hl]; unfold strike; rw [List.length_map]) hqs)
theorem range_mapG {α : Type} {F : List α} {x : α} {f : α → D} : (List.range F.length).map (fun j => f (F.getD j x)) = F.map f := by
  refine List.ext_getElem? fun j => ?_
  rw [List.getElem?_map, List.getElem?_map]
  by_cases hj : j < F.length
  · have e : F.getD j x = F[j] := by rw [List.getD_eq_getElem?_getD, List.getElem?_eq_getElem hj]; rfl
    rw [List.getElem?_range hj, List.getElem?_eq_getElem hj]
    show some (f (F.getD j x)) = some (f F[j])
    rw [e]
  · rw [List.getElem?_eq_none (by rw [List.length_range]; omega), List.getElem?_eq_none (by omega)]
    rfl
theorem tidRest_ok {Q : Q3} {E : Value → Option Addr → MH → Prop} {M0 M : MH} {T : Tk} {W B : Side} {wa ba : Addr} {s3 s8 s9 s10 : Option D} (ok : TkOk 4000 T) (hE : Ended T.ws T.bs W B) (hW : LSe M wa W) (hB : LSe M ba B) (sub : Sub M0 M) (q : Q (tidD T.ls.length W B) M0) :
    tTidRest (rtX E) (rtD Q) [some (tkD T), some (.ref wa), some (.ref ba), s3, none, none, none, none, s8, s9, s10, none, none, none] M := by
  have c4 := ok.c4
  have c2 := ok.c2
  have neat := hE.neat ok
  have wW := hE.way.fw.rows ok.wr
  have wB := hE.way.fb.rows ok.br
  have lW : List.length W ≤ 4 := by rw [hE.way.fw.1]; exact ok.w4
  have lB : List.length B ≤ 4 := by rw [hE.way.fb.1]; exact ok.b4
  have cW := hE.way.fw.cnt ok.w4 fun rs hrs => (wW rs hrs).len
  conv => whnf
  refine ⟨szLe (by show 0 ≤ 1000000; decide), fun p np => ?_⟩
  have hp0 := updM_same (M := M) (a := p) (o := .lst [])
  have t1 := (Sub.refl M).new (o := .lst []) np
  generalize updM M p (.lst []) = M1 at hp0 t1
  conv => whnf
  refine ⟨_, rfl, wa, T.ls.length, W, by rw [List.length_map], (hW.sub t1).d, fun rs hrs r hr => ((wW rs hrs).ok r hr).1, by omega, by omega, fun st M2 t2 hst => ?_⟩
  obtain ⟨refs, n1, r1, r2, n2, r3⟩ := hst
  have stp : st ≠ p := (neM hp0 n1).symm
  have bpn : ∀ b ∈ refs, b ≠ p := fun b hb => (neM hp0 (n2 b hb)).symm
  have t12 := t1.trans t2
  refine ⟨_, r1, fun k env' M' => ∃ s5, env' = [some (tkD T), some (.ref wa), some (.ref ba), s3, some (.ref p), s5, none, none, s8, s9, s10, none, none, none] ∧ Sub M M' ∧ LstM M' st (refs.map D.ref) ∧ (∀ c b, c < T.ls.length → refs[c]? = some b → LstM M' b ((firstsI (col W c)).map D.int)) ∧ M' p = some (.lst ((List.range k).map fun c => rowD (keptI W c))), ⟨none, rfl, t12, r1, fun c b hc e => r3 c b e, t2 _ _ hp0⟩, ?_, ?_⟩
  · rintro k d env' M' hd ⟨s5, rfl, sub', hst', hit, hp⟩
    rw [List.getElem?_map, Option.map_eq_some_iff] at hd
    obtain ⟨b, hb, rfl⟩ := hd
    have hk : k < T.ls.length := by rw [← r2]; exact (List.getElem?_eq_some_iff.mp hb).1
    have hbl := hit k b hk hb
    have hl : T.ls[k]? = some T.ls[k] := List.getElem?_eq_getElem hk
    have lbk := ok.lb _ (List.getElem_mem hk)
    have few : (firstsI (col W k)).length ≤ 60 := nodup_len (n := 60) (firstsI_nodup _) fun x hx => by
      have := kept_bound neat.wr hl lbk.1 (kept_of (mem_firstsI.mp hx))
      omega
    refine ⟨hst', ?_⟩
    conv => whnf
    refine ⟨⟨_, .inl hp⟩, _, hbl, fun y ny => ?_⟩
    refine lcMap id ny (fun M3 s => lstM_sub s hbl) (fun j d M3 R hd3 s k3 => ?_) (szLt (by rw [List.length_map]; omega)) fun M3 t3 h3 => ?_
    · rw [List.getElem?_map, Option.map_eq_some_iff] at hd3
      obtain ⟨x, hx, rfl⟩ := hd3
      exact k3 M3 (Sub.refl _)
    rw [List.map_id] at h3
    refine ⟨szLe (by show 1 ≤ 1000000; decide), fun z nz => ⟨_, lstM_sub (t3.new (t3.free nz)) hbl, eq_int ?_⟩⟩
    have hz := updM_same (M := M3) (a := z) (o := .lst [D.int 0])
    have t4 := (Sub.refl M3).new (o := .lst [D.int 0]) nz
    generalize updM M3 z (.lst [D.int 0]) = M4 at hz t4
    rw [List.length_map]
    conv => whnf
    refine ⟨_, hz, ?_, ?_, ?_, fun u nu => ?_⟩
    · split <;> decide
    · split <;> decide
    · split
      · exact szLe (by show 1 ≤ 1000000; decide)
      · exact szLe (by show 0 ≤ 1000000; decide)
    have hu := updM_same (M := M4) (a := u) (o := .lst (List.replicate (if decide (((firstsI (col W k)).length : Int) = 0) = true then (1 : Int) else 0).toNat [D.int 0]).flatten)
    have t5 := (Sub.refl M4).new (o := .lst (List.replicate (if decide (((firstsI (col W k)).length : Int) = 0) = true then (1 : Int) else 0).toNat [D.int 0]).flatten) nu
    generalize updM M4 u (.lst (List.replicate (if decide (((firstsI (col W k)).length : Int) = 0) = true then (1 : Int) else 0).toNat [D.int 0]).flatten) = M5 at hu t5
    have ezero : (List.replicate (if decide (((firstsI (col W k)).length : Int) = 0) = true then (1 : Int) else 0).toNat [D.int 0]).flatten = (if firstsI (col W k) = [] then [(0 : Int)] else []).map D.int := by
      by_cases e : firstsI (col W k) = []
      · rw [e]
        rfl
      · have : ((firstsI (col W k)).length : Int) ≠ 0 := by
          have := List.length_pos_iff.mpr e
          omega
        rw [decide_eq_false this, if_neg Bool.false_ne_true, if_neg e]
        rfl
    rw [ezero] at hu
    refine ⟨_, _, t5 _ _ (t4 _ _ h3), hu, szLe (by rw [List.length_map, List.length_map]; split <;> (show _ + _ ≤ 1000000; simp; omega)), fun v nv => ?_⟩
    rw [← List.map_append]
    have hv := updM_same (M := M5) (a := v) (o := .lst ((firstsI (col W k) ++ (if firstsI (col W k) = [] then [(0 : Int)] else [])).map D.int))
    have t6 := (Sub.refl M5).new (o := .lst ((firstsI (col W k) ++ (if firstsI (col W k) = [] then [(0 : Int)] else [])).map D.int)) nv
    generalize updM M5 v (.lst ((firstsI (col W k) ++ (if firstsI (col W k) = [] then [(0 : Int)] else [])).map D.int)) = M6 at hv t6
    refine ⟨_, .inl hv, fun ms x pm asc nx => ⟨_, .inl updM_same, ?_⟩⟩
    have t36 := (((t3.trans t4).trans t5).trans t6).new (o := .lst (ms.map D.int)) ((((t3.trans t4).trans t5).trans t6).free nx)
    have ems : ms = keptI W k := by
      have := sortI_is pm asc
      rw [this]
      unfold keptI
      by_cases e : firstsI (col W k) = []
      · rw [e, if_pos rfl]
        have h0 : ([] : List Int) = sortI [] := sortI_is (List.Perm.refl _) List.Pairwise.nil
        have h1 : [(0 : Int)] = sortI [0] := sortI_is (List.Perm.refl _) (List.pairwise_singleton _ _)
        rw [← h0, if_pos rfl, List.nil_append, ← h1]
      · rw [if_neg e, List.append_nil, if_neg]
        intro h
        have := (sortI_perm (firstsI (col W k))).length_eq
        rw [h] at this
        exact e (List.eq_nil_of_length_eq_zero this.symm)
    subst ems
    generalize updM M6 x (.lst ((keptI W k).map D.int)) = M7 at t36
    have t37 := sub'.trans t36
    have hit7 : ∀ c b, c < T.ls.length → refs[c]? = some b → LstM M7 b ((firstsI (col W c)).map D.int) := fun c b hc e => lstM_sub t36 (hit c b hc e)
    have upl : ∀ {b : Addr} {ds : List D} {o : MO}, b ≠ p → LstM M7 b ds → LstM (updM M7 p o) b ds := fun {b ds o} ne h => by
      unfold LstM
      rw [updM_ne ne]
      exact h
    refine ⟨_, t36 _ _ hp, szLt (by rw [List.length_map, List.length_range]; omega), _, rfl, t37.new np, upl stp (lstM_sub t36 hst'), fun c b hc e => upl (bpn b (List.mem_of_getElem? e)) (hit7 c b hc e), ?_⟩
    rw [updM_same, List.range_succ, List.map_append]
    rfl
  · rintro env' M' ⟨s5, rfl, sub', hst', hit, hp⟩
    rw [List.length_map, r2] at hp
    refine ⟨hst', ?_⟩
    conv => whnf
    have ekept : (List.range T.ls.length).map (fun c => rowD (keptI W c)) = (keptS W T.ls.length).map rowD := by
      unfold keptS
      rw [List.map_map]
      rfl
    rw [ekept] at hp
    have lk : (keptS W T.ls.length).length = T.ls.length := keptS_len
    have inW : ∀ rs ∈ W, ∀ r ∈ rs, ∀ (j : Nat) (x : Int) (k : List Int), r[j]? = some x → (keptS W T.ls.length)[j]? = some k → x ∈ k := fun rs hrs r hr j x k e1 e2 => neat.inW hrs hr e1 e2
    have inB : ∀ rs ∈ B, ∀ r ∈ rs, ∀ (j : Nat) (x : Int) (k : List Int), r[j]? = some x → (keptS W T.ls.length)[j]? = some k → x ∈ k := fun rs hrs r hr j x k e1 e2 => by
      rw [neat.keptSwap] at e2
      exact neat.swap.inW hrs hr e1 e2
    rw [← tid_eq (n := ((T.ls.map D.int).length : Int)) (by rw [List.length_map])] at q
    generalize keptS W T.ls.length = kept at hp lk inW inB q
    have hW' := hW.sub sub'
    have hB' := hB.sub sub'
    refine ⟨szLe (by show 0 ≤ 1000000; decide), fun r nr => ?_⟩
    have hr0 := updM_same (M := M') (a := r) (o := .lst [])
    have u1 := (Sub.refl M').new (o := .lst []) nr
    have hpr : p ≠ r := neM hp nr
    generalize updM M' r (.lst []) = M3 at hr0 u1
    conv => whnf
    have mr : M r = none := sub'.free nr
    refine ⟨szLe (by show 2 ≤ 1000000; decide), fun j env' M'' => ∃ (s7 : Option D), env' = [some (tkD T), some (.ref wa), some (.ref ba), s3, some (.ref p), s5, some (.ref r), s7, s8, s9, s10, none, none, none] ∧ LstM M'' p (kept.map rowD) ∧ Sub M M'' ∧ M'' r = some (.lst ([sdD (renS kept W), sdD (renS kept B)].take j)), ⟨none, rfl, .inl (u1 _ _ hp), sub'.trans u1, hr0⟩, ?_, ?_⟩
    · rintro j d env' M4 hd ⟨s7, rfl, hp4, sub4, hr4⟩
      obtain ⟨S, sa, rfl, hS, lS, rS, inS, tk⟩ : ∃ (S : Side) (sa : Addr), d = .ref sa ∧ LSe M sa S ∧ List.length S ≤ 4 ∧ (∀ rs ∈ S, RsOk 4000 T.ls rs) ∧ (∀ rs ∈ S, ∀ r ∈ rs, ∀ (j : Nat) (x : Int) (k : List Int), r[j]? = some x → kept[j]? = some k → x ∈ k) ∧ [sdD (renS kept W), sdD (renS kept B)].take (j + 1) = [sdD (renS kept W), sdD (renS kept B)].take j ++ [sdD (renS kept S)] := by
        match j, hd with
        | 0, hd => cases hd; exact ⟨W, wa, rfl, hW, lW, wW, inW, rfl⟩
        | 1, hd => cases hd; exact ⟨B, ba, rfl, hB, lB, wB, inB, rfl⟩
        | j + 2, hd => simp at hd
      obtain ⟨rf, f1, f2, f3⟩ := hS.sub sub4
      refine ⟨trivial, ?_⟩
      conv => whnf
      refine ⟨⟨_, .inl hr4⟩, _, .inl f1, fun y ny => ?_⟩
      refine lcIdx (fun j => rsD ((S.getD j []).map (renumI kept))) ny (fun M5 s => .inl (s _ _ f1)) (fun k d M5 R hd5 s5 k5 => ?_) (szLt (by rw [List.length_map]; omega)) fun M5 v5 h5 => ?_
      · rw [List.getElem?_map, Option.map_eq_some_iff] at hd5
        obtain ⟨b, hb, rfl⟩ := hd5
        have hk : k < List.length S := by rw [← f2]; exact (List.getElem?_eq_some_iff.mp hb).1
        have hrs : S[k]? = some S[k] := List.getElem?_eq_getElem hk
        have eg : S.getD k [] = S[k] := by rw [List.getD_eq_getElem?_getD, hrs]; rfl
        rw [eg] at k5
        have hbM := s5 _ _ (f3 k b _ hb hrs)
        have hmem := List.mem_of_getElem? hrs
        generalize S[k] = rs at hrs k5 hbM hmem
        have hlen := (rS rs hmem).len
        refine ⟨_, .inl hbM, fun u nu => ?_⟩
        refine lcIdx (fun j => rowD (renumI kept (rs.getD j []))) nu (fun M6 s => .inl (s _ _ hbM)) (fun m d M6 R6 hd6 s6 k6 => ?_) (szLt (by rw [List.length_map]; omega)) fun M6 v6 h6 => ?_
        · rw [List.getElem?_map, Option.map_eq_some_iff] at hd6
          obtain ⟨row, hrow, rfl⟩ := hd6
          have hrm := List.mem_of_getElem? hrow
          have hrl := ((rS rs hmem).ok row hrm).1
          have er : rs.getD m [] = row := by rw [List.getD_eq_getElem?_getD, hrow]; rfl
          rw [er] at k6
          exact ⟨row, p, kept, rfl, lstM_sub (s5.trans s6) hp4, by omega, by omega, inS rs hmem row hrm, k6 M6 (Sub.refl _)⟩
        · refine ⟨_, .inl h6, ?_⟩
          have e : D.tup ((List.range (rs.map rowD).length).map fun j => rowD (renumI kept (rs.getD j []))) = rsD (rs.map (renumI kept)) := by
            unfold rsD
            rw [List.length_map, range_map (f := fun r => rowD (renumI kept r)), List.map_map]
            rfl
          rw [e]
          exact k5 M6 v6
      · rw [List.length_map, f2] at h5
        have e : D.tup ((List.range S.length).map fun j => rsD ((S.getD j []).map (renumI kept))) = sdD (renS kept S) := by
          unfold sdD renS
          rw [range_mapG (F := S) (x := []) (f := fun rs => rsD (rs.map (renumI kept))), List.map_map]
          rfl
        refine ⟨_, .inl h5, _, v5 _ _ hr4, szLt (by rw [List.length_take]; show min j 2 ≤ 1000000; omega), some (.ref sa), rfl, ?_, (sub4.trans v5).new mr, ?_⟩
        · unfold LstM
          rw [updM_ne hpr]
          exact lstM_sub v5 hp4
        · rw [updM_same, tk, e]
    · rintro env' M4 ⟨s7, rfl, hp4, sub4, hr4⟩
      refine ⟨trivial, ?_⟩
      rw [show [sdD (renS kept W), sdD (renS kept B)].take [D.ref wa, D.ref ba].length = [sdD (renS kept W), sdD (renS kept B)] from rfl] at hr4
      conv => whnf
      refine ⟨_, rfl, _, hp4, fun y ny => ?_⟩
      refine lcIdx (fun j => .int ((kept.getD j []).length : Int)) ny (fun M5 s => lstM_sub s hp4) (fun k d M5 R hd5 s5 k5 => ?_) (szLt (by rw [List.length_map]; omega)) fun M5 v5 h5 => ?_
      · rw [List.getElem?_map, Option.map_eq_some_iff] at hd5
        obtain ⟨kk, hkk, rfl⟩ := hd5
        have e1 : kept.getD k [] = kk := by rw [List.getD_eq_getElem?_getD, hkk]; rfl
        rw [e1] at k5
        show R (.int ((kk.map D.int).length : Int)) M5
        rw [List.length_map]
        exact k5 M5 (Sub.refl _)
      rw [List.length_map, range_map (f := fun k => D.int (k.length : Int))] at h5
      exact ⟨_, .inl h5, _, _, .inl (v5 _ _ hr4), rfl, _, _, .inl (v5 _ _ hr4), rfl, szLe (by show 5 ≤ 1000000; decide), _, lstM_sub v5 hp4, szLe (by show 2 ≤ 1000000; decide), M0, (sub.trans sub4).trans v5, q⟩
theorem rdLawTid : Rd3 ["task", "white", "black", "turn", "kept", "labels", "sides", "side", "was", "up", "down", "rows", "row", "label"] tLawTid spLawTid := by
  rintro ds M Q E ⟨T, rfl, ok, q⟩
  have c4 := ok.c4
  have c2 := ok.c2
  have w4 := ok.w4
  have b4 := ok.b4
  conv => whnf
  refine ⟨_, rfl, fun wp nw => ?_⟩
  refine lcListsN (fun k => ((T.ws.getD k []).map rowD)) nw (fun _ _ => trivial) (fun k d M' R hd s k2 => ?_) (szLt (by rw [List.length_map]; omega)) fun qw M1 lw hw ndw frw s1 h1 => ?_
  · rw [List.getElem?_map, Option.map_eq_some_iff] at hd
    obtain ⟨rs, hrs, rfl⟩ := hd
    have e : T.ws.getD k [] = rs := by rw [List.getD_eq_getElem?_getD, hrs]; rfl
    rw [e] at k2
    exact fun z nz => k2 z _ nz ((Sub.refl M').new nz) updM_same
  have LW : LSe M1 wp T.ws := LSe.of h1 (by rw [lw, List.length_map]) hw
  conv => whnf
  refine ⟨_, rfl, fun bp nb => ?_⟩
  refine lcListsN (fun k => ((T.bs.getD k []).map rowD)) nb (fun _ _ => trivial) (fun k d M' R hd s k2 => ?_) (szLt (by rw [List.length_map]; omega)) fun qb M2 lb hb ndb frb s2 h2 => ?_
  · rw [List.getElem?_map, Option.map_eq_some_iff] at hd
    obtain ⟨rs, hrs, rfl⟩ := hd
    have e : T.bs.getD k [] = rs := by rw [List.getD_eq_getElem?_getD, hrs]; rfl
    rw [e] at k2
    exact fun z nz => k2 z _ nz ((Sub.refl M').new nz) updM_same
  have LB : LSe M2 bp T.bs := LSe.of h2 (by rw [lb, List.length_map]) hb
  have LW2 := LW.sub s2
  have s12 := s1.trans s2
  rw [List.length_map] at lw lb
  conv => whnf
  have hw2 := s2 _ _ h1
  refine ⟨_, _, hw2, h2, szLe (by rw [List.length_map, List.length_map]; show _ ≤ 1000000; omega), fun y ny => ?_⟩
  have hy := updM_same (M := M2) (a := y) (o := .lst (qw.map D.ref ++ qb.map D.ref))
  have s3 := (Sub.refl M2).new (o := .lst (qw.map D.ref ++ qb.map D.ref)) ny
  generalize updM M2 y (.lst (qw.map D.ref ++ qb.map D.ref)) = M3 at hy s3
  refine ⟨_, .inl hy, fun z nz => ?_⟩
  refine lcIdx (fun j => .int (((T.ws ++ T.bs).getD j []).length : Int)) nz (fun M' s => .inl (s _ _ hy)) (fun k d M' R hd s k2 => ?_) (szLt (by rw [List.length_append, List.length_map, List.length_map]; omega)) fun M4 s4 h4 => ?_
  · have key : ∃ (b : Addr) (rs : List (List Int)), d = .ref b ∧ (T.ws ++ T.bs).getD k [] = rs ∧ LstM M' b (rs.map rowD) := by
      by_cases hk : k < T.ws.length
      · rw [List.getElem?_append_left (by rw [List.length_map, lw]; exact hk), List.getElem?_map, Option.map_eq_some_iff] at hd
        obtain ⟨b, hb', rfl⟩ := hd
        refine ⟨b, T.ws.getD k [], rfl, ?_, .inl ((s3.trans s) _ _ (s2 _ _ (hw k b hb')))⟩
        rw [List.getD_eq_getElem?_getD, List.getElem?_append_left hk, ← List.getD_eq_getElem?_getD]
      · rw [List.getElem?_append_right (by rw [List.length_map, lw]; omega), List.length_map, lw, List.getElem?_map, Option.map_eq_some_iff] at hd
        obtain ⟨b, hb', rfl⟩ := hd
        refine ⟨b, T.bs.getD (k - T.ws.length) [], rfl, ?_, .inl ((s3.trans s) _ _ (hb _ b hb'))⟩
        rw [List.getD_eq_getElem?_getD, List.getElem?_append_right (by omega), ← List.getD_eq_getElem?_getD]
    obtain ⟨b, rs, rfl, e, hl⟩ := key
    refine ⟨_, hl, ?_⟩
    rw [List.length_map, ← e]
    exact k2 M' (Sub.refl _)
  rw [List.length_append, List.length_map, List.length_map, lw, lb, ← List.length_append, range_mapG (f := fun rs : List (List Int) => D.int (rs.length : Int))] at h4
  have hsum : ((T.ws ++ T.bs).map fun rs => (rs.length : Int)).sum = ((cnt T.ws + cnt T.bs : Nat) : Int) := by
    have key : ∀ S : Side, (S.map fun rs => (rs.length : Int)).sum = ((cnt S : Nat) : Int) := by
      intro S
      induction S with
      | nil => rfl
      | cons rs S ih =>
        have e : cnt (rs :: S) = rs.length + cnt S := by simp [cnt]
        rw [List.map_cons, List.sum_cons, ih, e]
        omega
    rw [List.map_append, List.sum_append, key, key]
    omega
  refine ⟨(T.ws ++ T.bs).map fun rs => (rs.length : Int), .inl (by rw [h4, List.map_map]; rfl), ?_⟩
  rw [hsum]
  have cw := ok.cnt_ws
  have cb := ok.cnt_bs
  conv => whnf
  have LW4 := (LW2.sub s3).sub s4
  have LB4 := (LB.sub s3).sub s4
  have s14 := (s12.trans s3).trans s4
  refine ⟨by omega, by omega, fun k env' M' => ∃ (s3 s8 s9 s10 : Option D) (wa ba : Addr) (W B : Side), env' = [some (tkD T), some (.ref wa), some (.ref ba), s3, none, none, none, none, s8, s9, s10, none, none, none] ∧ Sub M M' ∧ LSe M' wa W ∧ LSe M' ba B ∧ Way T.ws T.bs W B ∧ k + (cnt W + cnt B) ≤ cnt T.ws + cnt T.bs,
    ⟨none, none, none, none, wp, bp, T.ws, T.bs, rfl, s14, LW4, LB4, Way.start _ _, by omega⟩, ?_, ?_⟩
  · rintro k d env' M' hd ⟨z3, z8, z9, z10, wa, ba, W, B, rfl, sub, hW, hB, way, hle⟩
    have wW := way.fw.rows ok.wr
    have wB := way.fb.rows ok.br
    have lW : List.length W ≤ 4 := by rw [way.fw.1]; exact ok.w4
    have lB : List.length B ≤ 4 := by rw [way.fb.1]; exact ok.b4
    have cW := way.fw.cnt ok.w4 fun rs hrs => (wW rs hrs).len
    have cB := way.fb.cnt ok.b4 fun rs hrs => (wB rs hrs).len
    have rW : ∀ rs ∈ W, rs.length ≤ 4000 ∧ ∀ r ∈ rs, r.length = T.ls.length := fun rs hrs => ⟨(wW rs hrs).len, fun r hr => ((wW rs hrs).ok r hr).1⟩
    have rB : ∀ rs ∈ B, rs.length ≤ 4000 ∧ ∀ r ∈ rs, r.length = T.ls.length := fun rs hrs => ⟨(wB rs hrs).len, fun r hr => ((wB rs hrs).ok r hr).1⟩
    refine ⟨trivial, ?_⟩
    conv => whnf
    refine ⟨szLe (by show 2 ≤ 1000000; decide), ?_⟩
    conv => whnf
    refine ⟨_, rfl, wa, T.ls.length, W, by rw [List.length_map], hW.d, fun rs hrs => (rW rs hrs).2, by omega, by omega, fun up M5 s5 hup' => ?_⟩
    have hup := hup'.ll
    conv => whnf
    refine ⟨_, rfl, ba, T.ls.length, B, by rw [List.length_map], (hB.sub s5).d, fun rs hrs => (rB rs hrs).2, by omega, by omega, fun dn M6 s6 hdn' => ?_⟩
    have hdn := hdn'.ll
    conv => whnf
    have hW6 := (hW.sub s5).sub s6
    obtain ⟨rfw, f1, f2, f3⟩ := hW6
    refine ⟨_, .inl f1, fun nw' nnw => ?_⟩
    refine strike_loopW nnw (fun M7 s => .inl (s _ _ f1)) f2 f3 hdn rW (by omega) (by omega) fun M7 s7 hW7 => ?_
    have hB7 := ((hB.sub s5).sub s6).sub s7
    obtain ⟨rfb, g1, g2, g3⟩ := hB7
    conv => whnf
    refine ⟨_, .inl g1, fun nb' nnb => ?_⟩
    refine strike_loopB nnb (fun M8 s => .inl (s _ _ g1)) g2 g3 ((hup.sub s6).sub s7) rB (by omega) (by omega) fun M8 s8 hB8 => ?_
    conv => whnf
    have s58 := ((s5.trans s6).trans s7).trans s8
    have sub8 := sub.trans s58
    obtain ⟨k1, k2⟩ := strike_cnt (S := W) B
    obtain ⟨k3, k4⟩ := strike_cnt (S := B) W
    refine ⟨szLe (by show 2 ≤ 1000000; decide), ?_⟩
    refine eq_pairs (hW.sub s58).d (hB.sub s58).d (hW7.sub s8).d hB8.d ⟨fun e => ?_, fun e => ?_⟩
    · obtain ⟨e1, e2⟩ := of_decide_eq_true e
      rw [← e1] at hW7
      rw [← e2] at hB8
      exact tidRest_ok ok ⟨way, e1.symm, e2.symm⟩ (hW7.sub s8) hB8 sub8 (q W B ⟨way, e1.symm, e2.symm⟩)
    · have e' := of_decide_eq_false e
      refine ⟨_, _, _, _, nw', nb', strike W B, strike B W, rfl, sub8, hW7.sub s8, hB8, way.both, ?_⟩
      by_cases e1 : strike W B = W
      · have e2 : strike B W ≠ B := fun h => e' ⟨e1.symm, h.symm⟩
        have := strike_less e2
        omega
      · have := strike_less e1
        omega
  · rintro env' M' ⟨z3, z8, z9, z10, wa, ba, W, B, rfl, sub, hW, hB, way, hle⟩
    rw [rngD_length] at hle
    exact absurd hle (by omega)
end L3

namespace L3
open PySem PySem.Spec PyProof.Rows L2
/-! ### _law_like of two equal values: None, ints, texts, tuples -/
def PlS0 (d : D) : Prop := d = .non ∨ (∃ i, d = .int i) ∨ ∃ s, d = .str s
def PlS : Nat → D → Prop
  | 0, d => PlS0 d
  | n + 1, d => PlS0 d ∨ ∃ ds, d = .tup ds ∧ ds.length ≤ 100000 ∧ ∀ x ∈ ds, PlS n x
theorem PlS.up : ∀ {n : Nat} {d : D}, PlS n d → PlS (n + 1) d
  | 0, d, h => .inl h
  | n + 1, d, h => by
    rcases h with h | ⟨ds, rfl, hl, h⟩
    · exact .inl h
    · exact .inr ⟨ds, rfl, hl, fun x hx => (h x hx).up⟩
theorem PlS.tup {n : Nat} {ds : List D} (h : ∀ x ∈ ds, PlS n x) (hl : ds.length ≤ 100000) : PlS (n + 1) (.tup ds) := .inr ⟨ds, rfl, hl, h⟩
theorem PlS.int {n : Nat} {i : Int} : PlS n (.int i) := by
  cases n with
  | zero => exact .inr (.inl ⟨i, rfl⟩)
  | succ n => exact .inl (.inr (.inl ⟨i, rfl⟩))
theorem PlS.str {n : Nat} {s : Str} : PlS n (.str s) := by
  cases n with
  | zero => exact .inr (.inr ⟨s, rfl⟩)
  | succ n => exact .inl (.inr (.inr ⟨s, rfl⟩))
theorem PlS.row {n : Nat} {r : List Int} (hl : r.length ≤ 100000) : PlS (n + 1) (rowD r) := .tup (fun x hx => by
  obtain ⟨i, _, rfl⟩ := List.mem_map.mp hx
  exact .int) (by rw [List.length_map]; exact hl)
theorem TkOk.pl {n m : Nat} {T : Tk} (h : TkOk n T) (hn : n ≤ 100000) : PlS (m + 4) (tkD T) := by
  have c4 := h.c4
  have side : ∀ zs : List (List (List Int)), zs.length ≤ 4 → (∀ rs ∈ zs, RsOk n T.ls rs) → PlS (m + 3) (.tup (zs.map rsD)) := fun zs h4 hm => .tup (fun y hy => by
    obtain ⟨rs, hrs, rfl⟩ := List.mem_map.mp hy
    refine .tup (fun z hz => ?_) (by rw [List.length_map]; exact Nat.le_trans (hm rs hrs).len hn)
    obtain ⟨r, hr, rfl⟩ := List.mem_map.mp hz
    exact .row (by rw [((hm rs hrs).ok r hr).1]; omega)) (by rw [List.length_map]; omega)
  refine .tup (fun x hx => ?_) (by show 5 ≤ 100000; decide)
  simp only [List.mem_cons, List.not_mem_nil, or_false] at hx
  rcases hx with rfl | rfl | rfl | rfl | rfl
  · exact .str
  · exact .int
  · exact .row (n := m + 2) (by omega)
  · exact side T.ws h.w4 h.wr
  · exact side T.bs h.b4 h.br
def spLkS (n : Nat) : Sp3 := fun ds M Q _ => ∃ d, ds = [d, d] ∧ PlS n d ∧ Q (.bl true) M
abbrev NLike : List Str := ["found", "due", "k"]
def tLike (sf : Sp3) : S3 :=
    (s3Seq (s3If (t3Test (e3CB c3Isi (a3Cons (e3Var 1) (a3Cons (e3C (.ty "tuple")) a3Nil)))) (s3Seq (s3If (t3Or (t3Not (t3Test (e3CB c3Isi (a3Cons (e3Var 0) (a3Cons (e3C (.ty "tuple")) a3Nil))))) (t3Test (e3Op r3Ne (e3CB c3Len (a3Cons (e3Var 0) a3Nil)) (e3CB c3Len (a3Cons (e3Var 1) a3Nil))))) (s3Ret (e3C (.bl false))) s3Nil)
    (s3Ret (e3CB c3All (a3Cons (e3Lc (i3Rng1 (a3Cons (e3CB c3Len (a3Cons (e3Var 1) a3Nil)) a3Nil)) 2 t3Yes (e3Call sf (a3Cons (e3Op r3Ix (e3Var 0) (e3Var 2)) (a3Cons (e3Op r3Ix (e3Var 1) (e3Var 2)) a3Nil))) [2]) a3Nil)))) s3Nil)
    (s3Seq (s3If (t3Test (e3Op r3Is (e3Var 1) (e3C .non))) (s3Ret (e3Op r3Is (e3Var 0) (e3C .non))) s3Nil)
    (s3Seq (s3If (t3Test (e3CB c3Isi (a3Cons (e3Var 1) (a3Cons (e3C (.ty "int")) a3Nil)))) (s3Ret (e3And (e3Call spWhole (a3Cons (e3Var 0) a3Nil)) (e3Op r3Eq (e3Var 0) (e3Var 1)))) s3Nil)
    (s3Ret (e3And (e3CB c3Isi (a3Cons (e3Var 0) (a3Cons (e3C (.ty "str")) a3Nil))) (e3Op r3Eq (e3Var 0) (e3Var 1)))))))
theorem rdLikeS {n : Nat} {sf : Sp3} (hf : n = 0 ∨ ∃ j, n = j + 1 ∧ sf = spLkS j) : Rd3 NLike (tLike sf) (spLkS n) := by
  rintro ds M Q E ⟨d, rfl, hp, q⟩
  have simple : PlS0 d → tLike sf (rtX E) (rtD Q) (startE NLike [d, d]) M := fun h => by
    conv => whnf
    rcases h with rfl | ⟨i, rfl⟩ | ⟨s, rfl⟩
    · refine isi_tuple (own_known trivial) (fun _ e => nomatch e) fun _ => Br.ff ?_
      conv => whnf
      exact Br.tt ⟨M, Sub.refl _, q⟩
    · refine isi_tuple (own_known trivial) (fun _ e => nomatch e) fun _ => Br.ff ?_
      conv => whnf
      refine Br.ff ?_
      conv => whnf
      refine isi_int (own_known trivial) (fun _ _ => ?_) (fun _ e => nomatch e) fun h _ => absurd rfl (h i)
      refine Br.tt ⟨_, rfl, own_known trivial, ?_⟩
      refine Br.tt (eq_int ?_)
      rw [decide_eq_true rfl]
      exact ⟨M, Sub.refl _, q⟩
    · refine isi_tuple (own_known trivial) (fun _ e => nomatch e) fun _ => Br.ff ?_
      conv => whnf
      refine Br.ff ?_
      conv => whnf
      refine isi_int (own_known trivial) (fun _ e => nomatch e) (fun _ e => nomatch e) fun _ _ => Br.ff ?_
      conv => whnf
      refine isi_str (own_known trivial) (fun _ _ => ?_) fun h => absurd rfl (h s)
      refine Br.tt (eq_str ?_)
      rw [decide_eq_true rfl]
      exact ⟨M, Sub.refl _, q⟩
  cases n with
  | zero => exact simple hp
  | succ n =>
    rcases hp with h | ⟨ds, rfl, hl, hx⟩
    · exact simple h
    obtain ⟨j, e, rfl⟩ : ∃ j, n + 1 = j + 1 ∧ sf = spLkS j := by
      rcases hf with h | h
      · omega
      · exact h
    have e' : n = j := by omega
    subst e'
    conv => whnf
    refine isi_tuple (own_known trivial) (fun _ _ => Br.tt ?_) fun h => absurd rfl (h ds)
    conv => whnf
    refine isi_tuple (own_known trivial) (fun _ _ => Br.ff ?_) fun h => absurd rfl (h ds)
    conv => whnf
    refine ne_int ⟨fun e => (by simp at e), fun _ => ?_⟩
    refine ⟨by omega, by omega, fun p np => lcMap (fun _ => .bl true) np (fun _ _ => trivial) (fun k x M' R hd s k2 => ?_) (szLt (by rw [rngD_length, Int.toNat_natCast]; omega)) fun M1 s1 h1 => ?_⟩
    · obtain ⟨hk, rfl⟩ := rngD_get hd
      rw [Int.toNat_natCast] at hk
      rw [Int.zero_add]
      have hx' : ds[k]? = some ds[k] := List.getElem?_eq_getElem hk
      exact ⟨_, atI_nat hx', _, atI_nat hx', ds[k], rfl, hx _ (List.getElem_mem hk), k2 M' (Sub.refl _)⟩
    · have eb : (rngD 0 (ds.length : Int).toNat).map (fun _ => D.bl true) = bls (List.replicate ds.length true) := by
        unfold bls
        rw [List.map_replicate, List.map_const', rngD_length, Int.toNat_natCast]
      rw [eb] at h1
      refine ⟨_, .inl h1, M, s1, ?_⟩
      have : (List.replicate ds.length true).all id = true := by
        rw [List.all_eq_true]
        intro x hx
        exact (List.mem_replicate.mp hx).2
      rw [this]
      exact q
end L3

namespace L3
open PySem PySem.Spec PyProof.Rows L2
/-! ### drawn tasks -/
structure LsO (ls : List Int) : Prop where
  c2 : 2 ≤ ls.length
  c4 : ls.length ≤ 4
  lb : ∀ x ∈ ls, 1 ≤ x ∧ x ≤ 60
  pr : prodD (ls.map D.int) ≤ 4000
theorem rows_of {α : Type} {f : α → D} {P : α → Prop} : ∀ {acc : List D}, (∀ y ∈ acc, ∃ l, y = f l ∧ P l) → ∃ ls : List α, acc = ls.map f ∧ ∀ l ∈ ls, P l
  | [], _ => ⟨[], rfl, by simp⟩
  | y :: acc, h => by
    obtain ⟨l, rfl, hl⟩ := h y List.mem_cons_self
    obtain ⟨ls, rfl, hs⟩ := rows_of fun z hz => h z (List.mem_cons_of_mem _ hz)
    refine ⟨l :: ls, rfl, fun x hx => ?_⟩
    rcases List.mem_cons.mp hx with rfl | hx
    · exact hl
    · exact hs x hx
theorem prod_small : ∀ {xs : List Int}, (∀ y ∈ xs, 1 ≤ y ∧ y ≤ 4) → 1 ≤ prodD (xs.map D.int) ∧ prodD (xs.map D.int) ≤ 4 ^ xs.length
  | [], _ => ⟨by decide, by decide⟩
  | i :: xs, h => by
    have hi := h i List.mem_cons_self
    obtain ⟨h1, h2⟩ := prod_small fun y hy => h y (List.mem_cons_of_mem _ hy)
    show 1 ≤ i * prodD (xs.map D.int) ∧ i * prodD (xs.map D.int) ≤ 4 ^ (xs.length + 1)
    have hi : i = 1 ∨ i = 2 ∨ i = 3 ∨ i = 4 := by omega
    rw [Int.pow_succ]
    generalize (4 : Int) ^ xs.length = t at *
    rcases hi with rfl | rfl | rfl | rfl <;> omega
/-- the sets of all labels -/
def fullS (ls : List Int) : List (List Int) := ls.map fun l => rngI l.toNat
theorem rng_asc (n : Nat) : (rngI n).Pairwise (· < ·) := by
  unfold rngI
  refine List.pairwise_map.mpr (List.Pairwise.imp (fun {a b} h => ?_) List.pairwise_lt_range)
  omega
theorem full_ok {ls : List Int} (h : ∀ x ∈ ls, 1 ≤ x) : OkS ls (fullS ls) := ⟨by unfold fullS; rw [List.length_map], fun j s l e1 e2 => by
  unfold fullS at e1
  rw [List.getElem?_map, e2] at e1
  cases e1
  have := h l (List.mem_of_getElem? e2)
  exact ⟨rngI_nodup _, fun x hx => by have := mem_rngI.mp hx; omega⟩⟩
theorem pick_rw {ls : List Int} {F : List (List Int)} (h : OkS ls F) {r : List Int} (p : Pick F r) : RwOk ls r := by
  obtain ⟨h1, h2⟩ := pick_get.mp p
  refine ⟨h1.trans h.len, fun j x l e1 e2 => ?_⟩
  have hj : j < F.length := by rw [h.len]; exact (List.getElem?_eq_some_iff.mp e2).1
  exact (h.nd j _ l (getD_some hj) e2).2 x (h2 j x _ e1 (getD_some hj))
/-- a comprehension that keeps some, by draws -/
theorem lcKeep {ds : List D} {keep : MH → Prop} {i : Nat} {tt : T3} {te : E3} {env : En} {p h d : Addr} {M : MH} {n : Int} {Q : MH → Prop} (z : HandD M h d n) (np : M p = none) (hk : ∀ M' n', Sub (setH M h d n') M' → keep M')
    (ht : ∀ (k : Nat) (x : D) (M' : MH) (n' : Int) (R : Bool → MH → Prop), ds[k]? = some x → 0 ≤ n' → Sub (setH M h d n') M' → (∀ b n2, 0 ≤ n2 → R b (setH M' h d n2)) → tt W0 (env.set i (some x)) M' R)
    (he : ∀ (k : Nat) (x : D) (M' : MH) (R : Q3), ds[k]? = some x → R x M' → te W0 (env.set i (some x)) M' R) (hsz : ds.length < sizeLine)
    (hq : ∀ (acc : List D) (M' : MH) (n' : Int), acc.Sublist ds → 0 ≤ n' → Sub (setH M h d n') M' → M' p = some (.lst acc) → Q M') : LoopC ds keep i tt te env p M Q := by
  have ph : p ≠ h := free_h z.start np
  refine ⟨fun k acc M' => acc.Sublist (ds.take k) ∧ ∃ n', 0 ≤ n' ∧ Sub (setH M h d n') M', ⟨by simp, n, z.n0, z.start.new (z.start.free np)⟩, ?_, ?_⟩
  · rintro k x acc M' hx ⟨hs, n', n0', sub⟩ hM
    have hlt := (List.getElem?_eq_some_iff.mp hx).1
    have lacc : acc.length < sizeLine := by
      have := hs.length_le
      rw [List.length_take] at this
      omega
    have etake : ds.take (k + 1) = ds.take k ++ [x] := by rw [List.take_add_one, hx]; rfl
    refine ⟨hk M' n' sub, ht k x M' n' _ hx n0' sub fun b n2 n20 => ⟨fun e => he k x _ _ hx ⟨acc, (setH_ne ph).trans hM, lacc, ?_, n2, n20, Sub.new (subH sub) (by rw [setH_ne ph]; exact np)⟩, fun e => ⟨acc, (setH_ne ph).trans hM, ?_, n2, n20, subH sub⟩⟩⟩
    · rw [etake]
      exact hs.append (List.Sublist.refl _)
    · rw [etake]
      exact hs.trans (List.sublist_append_left _ _)
  · rintro acc M' ⟨hs, n', n0', sub⟩ hM
    rw [List.take_length] at hs
    exact ⟨hk M' n' sub, hq acc M' n' hs n0' sub hM⟩
/-- a comprehension whose items are drawn, lists made beside -/
theorem lcHandS {ds : List D} {i : Nat} {te : E3} {env : En} {p h d : Addr} {M M1 : MH} {n : Int} {Q : MH → Prop} (P : Nat → D → Prop) (sub0 : Sub (setH M h d n) M1) (n0 : 0 ≤ n) (np : M1 p = none)
    (he : ∀ (k : Nat) (x : D) (M' : MH) (n' : Int) (R : Q3), ds[k]? = some x → 0 ≤ n' → Sub (setH M h d n') M' → (∀ y M'' n2, P k y → 0 ≤ n2 → Sub (setH M' h d n2) M'' → R y M'') → te W0 (env.set i (some x)) M' R) (hsz : ds.length < sizeLine)
    (hq : ∀ (acc : List D) (M' : MH) (n' : Int), acc.length = ds.length → (∀ j y, acc[j]? = some y → P j y) → 0 ≤ n' → Sub (setH M h d n') M' → M' p = some (.lst acc) → Q M') : LoopC ds True3 i t3Yes te env p M1 Q := by
  have ph : p ≠ h := free_h sub0 np
  have mp : M p = none := free_old sub0 np
  refine ⟨fun k acc M' => acc.length = k ∧ (∀ j y, acc[j]? = some y → P j y) ∧ k ≤ ds.length ∧ ∃ n', 0 ≤ n' ∧ Sub (setH M h d n') M', ⟨rfl, by simp, Nat.zero_le _, n, n0, sub0.new (sub0.free np)⟩, ?_, ?_⟩
  · rintro k x acc M' hx ⟨rfl, hp, hk, n', n0', sub⟩ hM
    have hlt : acc.length < ds.length := (List.getElem?_eq_some_iff.mp hx).1
    refine ⟨trivial, Br.tt (he acc.length x M' n' _ hx n0' sub fun y M'' n2 py n20 s2 => ⟨acc, s2 _ _ ((setH_ne ph).trans hM), Nat.lt_trans hlt hsz, by simp, fun j z hz => ?_, hlt, n2, n20, Sub.new ((subH sub).trans s2) (by rw [setH_ne ph]; exact mp)⟩)⟩
    by_cases hj : j < acc.length
    · rw [List.getElem?_append_left hj] at hz
      exact hp j z hz
    · rw [List.getElem?_append_right (by omega)] at hz
      have hj0 : j = acc.length := by
        have := (List.getElem?_eq_some_iff.mp hz).1
        simp at this
        omega
      subst hj0
      simp at hz
      subst hz
      exact py
  · rintro acc M' ⟨hl, hp, _, n', n0', sub⟩ hM
    exact ⟨trivial, hq acc M' n' hl hp n0' sub hM⟩
theorem sub_map {α β : Type} {f : α → β} : ∀ {l : List α} {m : List β}, m.Sublist (l.map f) → ∃ k : List α, k.Sublist l ∧ m = k.map f := fun {l m} h => by
  obtain ⟨k, hk, e⟩ := List.sublist_map_iff.mp h
  exact ⟨k, hk, e⟩
def spRows4 : Sp3 := fun ds M Q _ => ∃ (h d : Addr) (n share : Int) (ls : List Int), ds = [.ref h, rowD ls, .int share] ∧ HandD M h d n ∧ LsO ls ∧ ∀ (rs : List (List Int)) (n' : Int), RsOk 4000 ls rs → 0 ≤ n' → Q (rsD rs) (setH M h d n')
def tRows4 : S3 :=
    (s3Seq (s3Asg (e3Call spProd (a3Cons (e3Lc (i3Seq (e3Var 1)) 4 t3Yes (e3LstRg1 (e3Var 4)) [4]) a3Nil)) 3)
    (s3Ret (e3TupOf (e3Lc (i3Seq (e3Var 3)) 5 (t3Test (e3Op r3Lt (e3Call spTakeD (a3Cons (e3Var 0) (a3Cons (e3C (.int 4)) a3Nil))) (e3Var 2))) (e3Var 5) [5]))))
theorem rdRows4 : Rd3 ["hand", "labels", "share", "rows", "many", "row"] tRows4 spRows4 := by
  rintro ds M Q E ⟨h, d, n, share, ls, rfl, z, lok, q⟩
  have c4 := lok.c4
  have lb := lok.lb
  refine fun p np => ?_
  refine lcListsN (fun k => ((fullS ls).getD k []).map D.int) np (fun _ _ => trivial) (fun k d M' R hd s k2 => ?_) (szLt (by rw [List.length_map]; omega)) fun qs M1 lq hq nd fr s1 h1 => ?_
  · rw [List.getElem?_map, Option.map_eq_some_iff] at hd
    obtain ⟨l, hl, rfl⟩ := hd
    have := lb l (List.mem_of_getElem? hl)
    have e : (fullS ls).getD k [] = rngI l.toNat := by
      unfold fullS
      rw [List.getD_eq_getElem?_getD, List.getElem?_map, hl]
      rfl
    refine ⟨RgOk.of_le (by decide) (by omega) (by decide) (by omega), fun z nz => k2 z _ nz ((Sub.refl M').new nz) ?_⟩
    rw [updM_same, e, rngI_D]
  have fok := full_ok fun x hx => (lb x hx).1
  have few := fok.few c4 (fun x hx => (lb x hx).1) lok.pr
  have hl : LL M1 p (fullS ls) := ⟨qs, .inl h1, by rw [lq, List.length_map]; unfold fullS; rw [List.length_map], fun k b s e1 e2 => by
    have := hq k b e1
    rw [show (fullS ls).getD k [] = s by rw [List.getD_eq_getElem?_getD, e2]; rfl] at this
    exact .inl this⟩
  obtain ⟨refs, h1, h2, h3, h4⟩ := hl.prod few
  refine ⟨p, refs, _, rfl, h1, h2, h3, h4, few.prods, fun y ny => ?_⟩
  rw [prod_rows]
  have s2 : Sub M (updM M1 y (.lst ((prodI (fullS ls)).map rowD))) := s1.trans ((Sub.refl M1).new ny)
  have hy := updM_same (M := M1) (a := y) (o := .lst ((prodI (fullS ls)).map rowD))
  generalize updM M1 y (.lst ((prodI (fullS ls)).map rowD)) = M2 at s2 hy
  have z2 := z.sub s2
  have hyh : y ≠ h := by
    intro e
    subst e
    rw [z2.own] at hy
    injection hy with hy
    injection hy with hy
    match prodI (fullS ls), hy with
    | [], hy => cases hy
    | r :: _, hy => cases hy
  conv => whnf
  refine ⟨_, .inl hy, fun b nb => ?_⟩
  refine lcKeep z2 nb (fun M' n' s => .inl (s _ _ ((setH_ne hyh).trans hy))) (fun k x M' n' R hx n0 s k2 => ?_) (fun k x M' R hx k2 => k2) (szLt (by rw [List.length_map]; have := few.prod; omega)) fun acc M' n' hs n0 s hacc => ?_
  · exact ⟨h, d, n', 4, rfl, z2.at_ s n0, by decide, fun v v0 v1 => k2 _ _ (by omega)⟩
  obtain ⟨rs, hrs, rfl⟩ := sub_map hs
  have s0 : Sub (setH M h d n) M2 := by rw [z.self]; exact s2
  refine ⟨_, .inl hacc, _, (subH (m := n') s0).trans s, q rs n' ⟨Nat.le_trans hrs.length_le few.prod, fun r hr => ?_, ?_⟩ n0⟩
  · exact pick_rw fok (mem_prodI.mp (hrs.subset hr))
  · refine (prodI_asc fun t ht => ?_).sublist hrs
    unfold fullS at ht
    obtain ⟨l, _, rfl⟩ := List.mem_map.mp ht
    exact rng_asc _

def spShape : Sp3 := fun ds M Q _ => ∃ (h d : Addr) (n : Int), ds = [.ref h] ∧ HandD M h d n ∧ ∀ (ls : List Int) (p q n' : Int), LsO ls → ls.length ≤ 3 → (∀ x ∈ ls, 1 ≤ x ∧ x ≤ 3) → 1 ≤ p → p ≤ 2 → 1 ≤ q → q ≤ 2 → (ls.length = 3 → (∀ x ∈ ls, x ≤ 2) ∧ p + q ≤ 3) → 0 ≤ n' → Q (.tup [.int (ls.length : Int), .int p, .int q, rowD ls]) (setH M h d n')
def tShapeR : S3 :=
    (s3Seq (s3Asg (e3TupOf (e3Lc (i3Rng1 (a3Cons (e3Var 1) a3Nil)) 6 t3Yes (e3Op r3Ix (e3Var 2) (e3Call spTakeD (a3Cons (e3Var 0) (a3Cons (e3C (.int 5)) a3Nil)))) [6])) 3)
    (s3Seq (s3Asg (e3Op r3Add (e3C (.int 1)) (e3Call spTakeD (a3Cons (e3Var 0) (a3Cons (e3C (.int 2)) a3Nil)))) 4)
    (s3Seq (s3Asg (e3Op r3Add (e3C (.int 1)) (e3Call spTakeD (a3Cons (e3Var 0) (a3Cons (e3C (.int 2)) a3Nil)))) 5)
    (s3Seq (s3If (t3And (t3Test (e3Op r3Eq (e3Var 1) (e3C (.int 3)))) (t3Test (e3Op r3Eq (e3Op r3Add (e3Var 4) (e3Var 5)) (e3C (.int 4))))) (s3Asg (e3C (.int 1)) 5) s3Nil)
    (s3Ret (e3Tup (a3Cons (e3Var 1) (a3Cons (e3Var 4) (a3Cons (e3Var 5) (a3Cons (e3Var 3) a3Nil))))))))))
def tShape : S3 :=
    (s3Seq (s3Asg (e3Op r3Add (e3C (.int 2)) (e3CB c3Int (a3Cons (e3Op r3Eq (e3Call spTakeD (a3Cons (e3Var 0) (a3Cons (e3C (.int 4)) a3Nil))) (e3C (.int 0))) a3Nil))) 1)
    (s3Seq (s3Asg (e3Tup (a3Cons (e3C (.int 1)) (a3Cons (e3C (.int 2)) (a3Cons (e3C (.int 2)) (a3Cons (e3C (.int 3)) (a3Cons (e3C (.int 3)) a3Nil)))))) 2)
    (s3Seq (s3If (t3Test (e3Op r3Eq (e3Var 1) (e3C (.int 3)))) (s3Asg (e3Tup (a3Cons (e3C (.int 1)) (a3Cons (e3C (.int 2)) (a3Cons (e3C (.int 2)) (a3Cons (e3C (.int 2)) (a3Cons (e3C (.int 2)) a3Nil)))))) 2) s3Nil)
    tShapeR)))
theorem shapeR_ok {Q : Q3} {E : Value → Option Addr → MH → Prop} {M : MH} {h d : Addr} {n : Int} {c : Nat} {ms : List Int} (z : HandD M h d n) (hc : c = 2 ∨ c = 3) (hm : ms.length = 5) (hb : ∀ x ∈ ms, 1 ≤ x ∧ x ≤ 3) (h3 : c = 3 → ∀ x ∈ ms, x ≤ 2)
    (q : ∀ (ls : List Int) (p q n' : Int), LsO ls → ls.length ≤ 3 → (∀ x ∈ ls, 1 ≤ x ∧ x ≤ 3) → 1 ≤ p → p ≤ 2 → 1 ≤ q → q ≤ 2 → (ls.length = 3 → (∀ x ∈ ls, x ≤ 2) ∧ p + q ≤ 3) → 0 ≤ n' → Q (.tup [.int (ls.length : Int), .int p, .int q, rowD ls]) (setH M h d n')) :
    tShapeR (rtX E) (rtD Q) [some (.ref h), some (.int (c : Int)), some (.tup (ms.map D.int)), none, none, none, none] M := by
  have n0 := z.n0
  conv => whnf
  refine ⟨by omega, by omega, fun b nb => ?_⟩
  refine lcHandS (M := M) (h := h) (d := d) (fun _ y => ∃ l : Int, y = .int l ∧ l ∈ ms) z.start z.n0 nb (fun k x M' n' R hx n0 sub k2 => ?_) (szLt (by rw [rngD_length]; omega)) fun acc M4 n4 la hp n40 s4 h4 => ?_
  · refine ⟨h, d, n', 5, rfl, z.at_ sub n0, by decide, fun v v0 v1 => ?_⟩
    obtain ⟨x, hx, hm'⟩ := at_mem (ds := ms.map D.int) (v := v) (by omega) (by rw [List.length_map, hm]; exact v1)
    obtain ⟨l, hl, rfl⟩ := List.mem_map.mp hm'
    exact ⟨_, hx, k2 _ _ (n' + 1) ⟨l, rfl, hl⟩ (by omega) (Sub.refl _)⟩
  obtain ⟨ls, rfl, hls⟩ := rows_of (f := D.int) (P := fun l : Int => l ∈ ms) fun y hy => by
    obtain ⟨j, hj⟩ := List.getElem?_of_mem hy
    exact hp j y hj
  rw [List.length_map, rngD_length, Int.toNat_natCast] at la
  subst la
  have lb : ∀ x ∈ ls, 1 ≤ x ∧ x ≤ 3 := fun x hx => hb x (hls x hx)
  have pr := (prod_small fun x hx => by have := lb x hx; omega).2
  have h64 : (4 : Int) ^ ls.length ≤ 64 := by
    rcases hc with e | e <;> rw [e] <;> decide
  have lok : LsO ls := ⟨by omega, by omega, fun x hx => by have := lb x hx; omega, by omega⟩
  have z4 := z.at_ s4 n40
  refine ⟨_, .inl h4, h, d, n4, 2, rfl, z4, by decide, fun v v0 v1 => ?_⟩
  conv => whnf
  refine ⟨h, d, n4 + 1, 2, rfl, z4.set (by omega), by decide, fun w w0 w1 => ?_⟩
  rw [setH_setH]
  have s5 : Sub (setH M h d (n4 + 1 + 1)) (setH M4 h d (n4 + 1 + 1)) := subH (m := n4 + 1 + 1) s4
  have fin : ∀ (p q' : Int), 1 ≤ p → p ≤ 2 → 1 ≤ q' → q' ≤ 2 → (ls.length = 3 → p + q' ≤ 3) → (rtD Q).rt (.tup [.int (ls.length : Int), .int p, .int q', .tup (ls.map D.int)]) (setH M4 h d (n4 + 1 + 1)) := fun p q' p1 p2 q1 q2 h => by
    exact ⟨_, s5, q ls p q' (n4 + 1 + 1) lok (by omega) lb p1 p2 q1 q2 (fun e => ⟨fun x hx => h3 e x (hls x hx), h e⟩) (by omega)⟩
  conv => whnf
  refine eq_int ⟨fun e => ?_, fun e => Br.ff ?_⟩
  · conv => whnf
    refine eq_int ⟨fun e2 => ?_, fun e2 => ?_⟩
    · conv => whnf
      exact ⟨szLe (by show 4 ≤ 1000000; decide), fin (1 + v) 1 (by omega) (by omega) (by omega) (by omega) fun _ => by omega⟩
    · have e2' := of_decide_eq_false e2
      conv => whnf
      exact ⟨szLe (by show 4 ≤ 1000000; decide), fin (1 + v) (1 + w) (by omega) (by omega) (by omega) (by omega) fun _ => by omega⟩
  · have e' := of_decide_eq_false e
    conv => whnf
    exact ⟨szLe (by show 4 ≤ 1000000; decide), fin (1 + v) (1 + w) (by omega) (by omega) (by omega) (by omega) fun e3 => absurd (by omega) e'⟩
theorem rdShape : Rd3 ["hand", "colours", "menu", "labels", "p", "q", "c"] tShape spShape := by
  rintro ds M Q E ⟨h, d, n, rfl, z, q⟩
  have n0 := z.n0
  refine ⟨h, d, n, 4, rfl, z, by decide, fun v v0 v1 => eq_int ?_⟩
  conv => whnf
  have z1 := z.set (m := n + 1) (by omega)
  have q1 : ∀ (ls : List Int) (p q' n' : Int), LsO ls → ls.length ≤ 3 → (∀ x ∈ ls, 1 ≤ x ∧ x ≤ 3) → 1 ≤ p → p ≤ 2 → 1 ≤ q' → q' ≤ 2 → (ls.length = 3 → (∀ x ∈ ls, x ≤ 2) ∧ p + q' ≤ 3) → 0 ≤ n' → Q (.tup [.int (ls.length : Int), .int p, .int q', rowD ls]) (setH (setH M h d (n + 1)) h d n') := fun ls p q' n' a1 a2 a3 a4 a5 a6 a7 a8 a9 => by
    rw [setH_setH]
    exact q ls p q' n' a1 a2 a3 a4 a5 a6 a7 a8 a9
  refine ⟨szLe (by show 5 ≤ 1000000; decide), ?_⟩
  conv => whnf
  by_cases hv : v = 0
  · rw [decide_eq_true hv]
    refine eq_int (Br.yes rfl ?_)
    conv => whnf
    refine ⟨szLe (by show 5 ≤ 1000000; decide), ?_⟩
    exact shapeR_ok (c := 3) (ms := [1, 2, 2, 2, 2]) z1 (.inr rfl) rfl (by decide) (by decide) q1
  · rw [decide_eq_false hv]
    refine eq_int (Br.no rfl ?_)
    exact shapeR_ok (c := 2) (ms := [1, 2, 2, 3, 3]) z1 (.inl rfl) rfl (by decide) (by decide) q1
def spDrawn : Sp3 := fun ds M Q _ => ∃ (h d : Addr) (n : Int) (ls : List Int) (p q : Nat), ds = [.ref h, .int (ls.length : Int), .int (p : Int), .int (q : Int), rowD ls] ∧ HandD M h d n ∧ LsO ls ∧ 1 ≤ p ∧ p ≤ 4 ∧ 1 ≤ q ∧ q ≤ 4 ∧
  ∀ (T : Tk) (n' : Int), TkOk 4000 T → T.ls = ls → T.ws.length = p → T.bs.length = q → 0 ≤ n' → Q (tkD T) (setH M h d n')
def tDrawn : S3 :=
    (s3Seq (s3Asg (e3Op r3Add (e3C (.int 1)) (e3Call spTakeD (a3Cons (e3Var 0) (a3Cons (e3C (.int 3)) a3Nil)))) 5)
    (s3Seq (s3Asg (e3TupOf (e3Lc (i3Rng1 (a3Cons (e3Var 2) a3Nil)) 7 t3Yes (e3Call spRows4 (a3Cons (e3Var 0) (a3Cons (e3Var 4) (a3Cons (e3Var 5) a3Nil)))) [7])) 6)
    (s3Ret (e3Tup (a3Cons (e3C (.str "task")) (a3Cons (e3Var 1) (a3Cons (e3Var 4) (a3Cons (e3Var 6) (a3Cons (e3TupOf (e3Lc (i3Rng1 (a3Cons (e3Var 3) a3Nil)) 8 t3Yes (e3Call spRows4 (a3Cons (e3Var 0) (a3Cons (e3Var 4) (a3Cons (e3Var 5) a3Nil)))) [8])) a3Nil)))))))))
theorem rdDrawn : Rd3 ["hand", "colours", "p", "q", "labels", "share", "white", "x", "y"] tDrawn spDrawn := by
  rintro ds M Q E ⟨h, d, n, ls, p, q', rfl, z, lok, p1, p4, q1, q4, q⟩
  have n0 := z.n0
  refine ⟨h, d, n, 3, rfl, z, by decide, fun v v0 v1 => ?_⟩
  conv => whnf
  have z1 := z.set (m := n + 1) (by omega)
  refine ⟨by omega, by omega, fun b nb => ?_⟩
  refine lcHandI (M := setH M h d (n + 1)) (h := h) (d := d) (fun _ y => ∃ rs, y = rsD rs ∧ RsOk 4000 ls rs) z1.start z1.n0 nb (fun k x M' n' R hx n0 sub k2 => ?_) (szLt (by rw [rngD_length]; omega)) fun acc M4 n4 la hp n40 s4 h4 => ?_
  · exact ⟨h, d, n', 1 + v, ls, rfl, z1.at_ sub n0, lok, fun rs n'' rok n0'' => k2 _ n'' ⟨rs, rfl, rok⟩ n0''⟩
  obtain ⟨ws, rfl, hws⟩ := rows_of (f := rsD) (P := fun rs => RsOk 4000 ls rs) fun y hy => by
    obtain ⟨j, hj⟩ := List.getElem?_of_mem hy
    exact hp j y hj
  rw [List.length_map, rngD_length, Int.toNat_natCast] at la
  have z4 := z1.at_ s4 n40
  refine ⟨_, .inl h4, ?_⟩
  conv => whnf
  refine ⟨by omega, by omega, fun b2 nb2 => ?_⟩
  refine lcHandI (M := M4) (h := h) (d := d) (fun _ y => ∃ rs, y = rsD rs ∧ RsOk 4000 ls rs) z4.start z4.n0 nb2 (fun k x M' n' R hx n0 sub k2 => ?_) (szLt (by rw [rngD_length]; omega)) fun acc2 M5 n5 la2 hp2 n50 s5 h5 => ?_
  · exact ⟨h, d, n', 1 + v, ls, rfl, z4.at_ sub n0, lok, fun rs n'' rok n0'' => k2 _ n'' ⟨rs, rfl, rok⟩ n0''⟩
  obtain ⟨bs, rfl, hbs⟩ := rows_of (f := rsD) (P := fun rs => RsOk 4000 ls rs) fun y hy => by
    obtain ⟨j, hj⟩ := List.getElem?_of_mem hy
    exact hp2 j y hj
  rw [List.length_map, rngD_length, Int.toNat_natCast] at la2
  have s6 : Sub (setH M h d n5) M5 := by
    have h1 : Sub (setH (setH M h d (n + 1)) h d n5) (setH M4 h d n5) := subH s4
    rw [setH_setH] at h1
    exact h1.trans s5
  refine ⟨_, .inl h5, szLe (by show 5 ≤ 1000000; decide), _, s6, ?_⟩
  have := q ⟨ls, ws, bs⟩ n5 ⟨lok.c2, lok.c4, lok.lb, lok.pr, by show 1 ≤ ws.length; omega, by show ws.length ≤ 4; omega, by show 1 ≤ bs.length; omega, by show bs.length ≤ 4; omega, hws, hbs⟩ rfl la la2 n50
  unfold tkD taskD at this
  rw [List.length_map] at this
  exact this
end L3

namespace L3
open PySem PySem.Spec PyProof.Rows L2
/-! ### wrong tasks -/
mutual
theorem vk_upd {M : MH} {p : Addr} {xs ys : List D} (hp : M p = some (.lst xs)) : ∀ d : D, Vk M d → Vk (updM M p (.lst ys)) d
  | .tup ds, h => by
    simp only [Vk] at h ⊢
    exact vks_upd hp ds h
  | .ref a, h => by
    simp only [Vk] at h ⊢
    by_cases e : a = p
    · subst e
      exact .inl ⟨ys, .inl updM_same⟩
    · rcases h with ⟨ds, h | h⟩ | ⟨kvs, h⟩
      · exact .inl ⟨ds, .inl ((updM_ne e).trans h)⟩
      · exact .inl ⟨ds, .inr ((updM_ne e).trans h)⟩
      · exact .inr ⟨kvs, (updM_ne e).trans h⟩
  | .ty _, h => by simp only [Vk] at h
  | .non, _ => by simp only [Vk]
  | .bl _, _ => by simp only [Vk]
  | .int _, _ => by simp only [Vk]
  | .str _, _ => by simp only [Vk]
theorem vks_upd {M : MH} {p : Addr} {xs ys : List D} (hp : M p = some (.lst xs)) : ∀ ds : List D, Vks M ds → Vks (updM M p (.lst ys)) ds
  | [], _ => by simp only [Vks]
  | d :: ds, h => by
    simp only [Vks] at h ⊢
    exact ⟨vk_upd hp d h.1, vks_upd hp ds h.2⟩
end
def BadT (M : MH) (x : D) : Prop := Vk M x ∧ WT x ∧ taskOk x = false
theorem vk_cut {M : MH} {ds : List D} {lo hi : Option Int} (h : ∀ x ∈ ds, Vk M x) : ∀ x ∈ L3.cutD ds lo hi, Vk M x := fun x hx => h x (List.mem_of_mem_drop (List.mem_of_mem_take hx))
theorem vk_i {M : MH} {i : Int} : Vk M (.int i) := by simp only [Vk]
theorem vk_n {M : MH} : Vk M .non := by simp only [Vk]
theorem vk_b {M : MH} {b : Bool} : Vk M (.bl b) := by simp only [Vk]
theorem vk_s {M : MH} {x : Str} : Vk M (.str x) := by simp only [Vk]
theorem vk_app {M : MH} {xs ys : List D} (hx : ∀ x ∈ xs, Vk M x) (hy : ∀ x ∈ ys, Vk M x) : Vk M (.tup (xs ++ ys)) := vk_tup fun x h => (List.mem_append.mp h).elim (hx x) (hy x)
theorem vk_one {M : MH} {x : D} (h : Vk M x) : ∀ y ∈ [x], Vk M y := fun y hy => by
  rw [List.mem_singleton] at hy
  subst hy
  exact h
theorem mul_one_list {x : D} : ∀ n : Nat, (List.replicate n [x]).flatten = List.replicate n x
  | 0 => rfl
  | n + 1 => by rw [List.replicate_succ, List.flatten_cons, mul_one_list n]; rfl
theorem bt_mono {M M' : MH} {x : D} (s : Sub M M') (h : BadT M x) : BadT M' x := ⟨vk_mono s x h.1, h.2⟩
theorem bt_snoc {M : MH} {p : Addr} {xs : List D} {x : D} (hp : M p = some (.lst xs)) (hb : ∀ y ∈ xs, BadT M y) (hx : BadT M x) : ∀ y ∈ xs ++ [x], BadT (updM M p (.lst (xs ++ [x]))) y := fun y hy => by
  have : BadT M y := by
    rcases List.mem_append.mp hy with hy | hy
    · exact hb y hy
    · rw [List.mem_singleton] at hy
      subst hy
      exact hx
  exact ⟨vk_upd hp y this.1, this.2⟩
/-- the list of wrong ones, as it grows -/
def WtS (M : MH) (p : Addr) (hi : Nat) (M' : MH) : Prop := Sub M M' ∧ ∃ xs, M' p = some (.lst xs) ∧ 6 ≤ xs.length ∧ xs.length ≤ hi ∧ ∀ x ∈ xs, BadT M' x
theorem WtS.new {M M' : MH} {p a : Addr} {hi : Nat} {o : MO} (w : WtS M p hi M') (na : M' a = none) : WtS M p hi (updM M' a o) := by
  obtain ⟨s, xs, h1, h2, h3, h4⟩ := w
  have pa : p ≠ a := fun e => by
    subst e
    rw [h1] at na
    cases na
  exact ⟨s.new (s.free na), xs, (updM_ne pa).trans h1, h2, h3, fun x hx => bt_mono ((Sub.refl M').new na) (h4 x hx)⟩
theorem WtS.app {M M' : MH} {p : Addr} {hi : Nat} {x : D} {env : En} {R : MH → Prop} (w : WtS M p hi M') (np : M p = none) (hx : BadT M' x) (hh : hi ≤ 1000) (k : ∀ M'', WtS M p (hi + 1) M'' → (∀ a, a ≠ p → M'' a = M' a) → R M'') : ∃ ds, M' p = some (.lst ds) ∧ ds.length < sizeLine ∧ R (updM M' p (.lst (ds ++ [x]))) := by
  obtain ⟨s, xs, h1, h2, h3, h4⟩ := w
  exact ⟨xs, h1, szLt (by omega), k _ ⟨s.new np, xs ++ [x], updM_same, by simp; omega, by simp; omega, bt_snoc h1 h4 hx⟩ fun a ha => updM_ne ha⟩
theorem WtS.ne {M M' : MH} {p a : Addr} {hi : Nat} (w : WtS M p hi M') (na : M' a = none) : a ≠ p := fun e => by
  obtain ⟨_, xs, h1, _⟩ := w
  subst e
  rw [h1] at na
  cases na
theorem WtS.lst {M M' : MH} {p : Addr} {hi : Nat} (w : WtS M p hi M') : ∃ ds, LstM M' p ds := by
  obtain ⟨_, xs, h1, _⟩ := w
  exact ⟨xs, .inl h1⟩
theorem wt_len {ds : List D} (h : ds.length ≠ 5) : WT (.tup ds) := fun w zs e hz => by
  injection e with e
  rw [e, List.length_cons, hz] at h
  exact absurd rfl h
theorem wt_str {s : Str} {ds : List D} : WT (.tup (.str s :: ds)) := fun w zs e _ => by
  injection e with e
  injection e with e _
  exact ⟨_, e.symm⟩
theorem bt5 {M : MH} {m l a b : D} (vm : Vk M m) (vl : Vk M l) (va : Vk M a) (vb : Vk M b) (h : taskOk (.tup [.str "task", m, l, a, b]) = false) : BadT M (.tup [.str "task", m, l, a, b]) := by
  refine ⟨vk_tup fun x hx => ?_, wt_str, h⟩
  simp only [List.mem_cons, List.not_mem_nil, or_false] at hx
  rcases hx with rfl | rfl | rfl | rfl | rfl
  · exact vk_s
  · exact vm
  · exact vl
  · exact va
  · exact vb
section
variable {w : Str} {c l a b : D} {n : Int} {xs : List D}
theorem tok_w (h : w ≠ "task") : taskOk (.tup [.str w, c, l, a, b]) = false := by
  unfold taskOk
  dsimp only
  rw [decide_eq_false h, Bool.false_and]
theorem tok_c (h : isNum c 2 4 = false) : taskOk (.tup [.str w, c, l, a, b]) = false := by
  unfold taskOk
  dsimp only
  rw [h, Bool.false_and, Bool.and_false]
theorem tok_l (h : ∀ xs, l = .tup xs → (xs.length : Int) ≠ n ∨ labsOk l = false) : taskOk (.tup [.str w, .int n, l, a, b]) = false := by
  cases l with
  | tup xs =>
    show (decide _ && (_ && (decide ((xs.length : Int) = n) && (labsOk (.tup xs) && _)))) = false
    rcases h xs rfl with h | h
    · rw [decide_eq_false h, Bool.false_and, Bool.and_false, Bool.and_false]
    · rw [h, Bool.false_and, Bool.and_false, Bool.and_false, Bool.and_false]
  | _ =>
    show (decide _ && (_ && false)) = false
    rw [Bool.and_false, Bool.and_false]
theorem tok_a (h : sideOk (intsOf (.tup xs)) a = false) : taskOk (.tup [.str w, .int n, .tup xs, a, b]) = false := by
  show (decide _ && (_ && (_ && (_ && (sideOk (intsOf (.tup xs)) a && _))))) = false
  rw [h, Bool.false_and, Bool.and_false, Bool.and_false, Bool.and_false, Bool.and_false]
theorem tok_b (h : sideOk (intsOf (.tup xs)) b = false) : taskOk (.tup [.str w, .int n, .tup xs, a, b]) = false := by
  show (decide _ && (_ && (_ && (_ && (_ && sideOk (intsOf (.tup xs)) b))))) = false
  rw [h, Bool.and_false, Bool.and_false, Bool.and_false, Bool.and_false, Bool.and_false]
theorem lab_head {x : D} (h : isNum x 1 60 = false) : labsOk (.tup (x :: xs)) = false := by
  show ((x :: xs).all (fun x => isNum x 1 60) && _) = false
  rw [List.all_cons, h, Bool.false_and, Bool.false_and]
theorem side_bad {L : List Int} {x : D} (hx : x ∈ xs) (h : rowsAsc L x = false) : sideOk L (.tup xs) = false := by
  show (_ && _ && xs.all (rowsAsc L)) = false
  have : xs.all (rowsAsc L) = false := List.all_eq_false.mpr ⟨x, hx, by rw [h]; decide⟩
  rw [this, Bool.and_false]
theorem rows_head {L : List Int} {x : D} (h : rowFits L x = false) : rowsAsc L (.tup (x :: xs)) = false := by
  show (rowFits L x && _) = false
  rw [h, Bool.false_and]
theorem fits_head {L : List Int} {x : D} {l0 : Int} (h : isNum x 0 (l0 - 1) = false) : rowFits (l0 :: L) (.tup (x :: xs)) = false := by
  show (_ && (isNum x 0 (l0 - 1) && _)) = false
  rw [h, Bool.false_and, Bool.and_false]
theorem fits_len {L : List Int} (h : xs.length ≠ L.length) : rowFits L (.tup xs) = false := by
  show (decide _ && _) = false
  rw [decide_eq_false h, Bool.false_and]
end
theorem lex_refl : ∀ r : List Int, lexLeI r r = true
  | [] => rfl
  | x :: r => by
    unfold lexLeI
    rw [if_pos rfl]
    exact lex_refl r
theorem rows_twice {L : List Int} {x : D} : rowsAsc L (.tup [x, x]) = false := by
  show (rowFits L x && (_ && (rowFits L x && (!lexLeI (intsOf x) (intsOf x) && _)))) = false
  rw [lex_refl, Bool.not_true, Bool.false_and, Bool.and_false, Bool.and_false, Bool.and_false]
def spWrong : Sp3 := fun ds M Q _ => ∃ (h d : Addr) (n : Int) (T : Tk), ds = [.ref h, tkD T] ∧ HandD M h d n ∧ TkOk 4000 T ∧ ∀ x M' n', Sub (setH M h d n') M' → 0 ≤ n' → Vk M' x → WT x → taskOk x = false → Q x M'
def tWrong : S3 :=
    (s3Seq (s3Asg (e3Op r3MulT (e3Tup (a3Cons (e3C (.int 0)) a3Nil)) (e3Op r3Ix (e3Var 1) (e3C (.int 1)))) 2)
    (s3Seq (s3Asg (e3Op r3Add (e3Tup (a3Cons (e3Op r3Ix (e3Op r3Ix (e3Var 1) (e3C (.int 2))) (e3C (.int 0))) a3Nil)) (e3Sl (e3Var 2) (o3Some (e3C (.int 1))) o3None)) 3)
    (s3Seq (s3Asg (e3Lst (a3Cons (e3CB c3List (a3Cons (e3Var 1) a3Nil)) (a3Cons (e3Sl (e3Var 1) o3None (o3Some (e3C (.int 4)))) (a3Cons (e3Op r3Add (e3Var 1) (e3Tup (a3Cons (e3C (.int 0)) a3Nil))) (a3Cons (e3Op r3Add (e3Tup (a3Cons (e3C (.str "Task")) a3Nil)) (e3Sl (e3Var 1) (o3Some (e3C (.int 1))) o3None)) (a3Cons (e3Op r3Add (e3Tup (a3Cons (e3C (.str "task")) (a3Cons (e3C (.int 5)) a3Nil))) (e3Sl (e3Var 1) (o3Some (e3C (.int 2))) o3None)) (a3Cons (e3Op r3Add (e3Tup (a3Cons (e3C (.str "task")) (a3Cons (e3C (.bl true)) a3Nil))) (e3Sl (e3Var 1) (o3Some (e3C (.int 2))) o3None)) a3Nil))))))) 4)
    (s3Seq (s3For (i3Seq (e3Tup (a3Cons (e3Op r3Add (e3Op r3Ix (e3Var 1) (e3C (.int 2))) (e3Tup (a3Cons (e3C (.int 2)) a3Nil))) (a3Cons (e3CB c3List (a3Cons (e3Op r3Ix (e3Var 1) (e3C (.int 2))) a3Nil)) (a3Cons (e3Op r3Add (e3Tup (a3Cons (e3C (.int 0)) a3Nil)) (e3Sl (e3Op r3Ix (e3Var 1) (e3C (.int 2))) (o3Some (e3C (.int 1))) o3None)) (a3Cons (e3Op r3Add (e3Tup (a3Cons (e3C (.int 61)) a3Nil)) (e3Sl (e3Op r3Ix (e3Var 1) (e3C (.int 2))) (o3Some (e3C (.int 1))) o3None)) (a3Cons (e3Op r3Add (e3Tup (a3Cons (e3C (.bl true)) a3Nil)) (e3Sl (e3Op r3Ix (e3Var 1) (e3C (.int 2))) (o3Some (e3C (.int 1))) o3None)) a3Nil))))))) (g3Name 5) (s3Expr (e3Bm m3App (e3Var 4) (a3Cons (e3Tup (a3Cons (e3C (.str "task")) (a3Cons (e3Op r3Ix (e3Var 1) (e3C (.int 1))) (a3Cons (e3Var 5) (a3Cons (e3Op r3Ix (e3Var 1) (e3C (.int 3))) (a3Cons (e3Op r3Ix (e3Var 1) (e3C (.int 4))) a3Nil)))))) a3Nil))))
    (s3Seq (s3For (i3Seq (e3Tup (a3Cons (e3Tup a3Nil) (a3Cons (e3Op r3MulT (e3Op r3Ix (e3Var 1) (e3C (.int 3))) (e3C (.int 5))) (a3Cons (e3CB c3List (a3Cons (e3Op r3Ix (e3Var 1) (e3C (.int 3))) a3Nil)) a3Nil))))) (g3Name 6) (s3Seq (s3Expr (e3Bm m3App (e3Var 4) (a3Cons (e3Op r3Add (e3Sl (e3Var 1) o3None (o3Some (e3C (.int 3)))) (e3Tup (a3Cons (e3Var 6) (a3Cons (e3Op r3Ix (e3Var 1) (e3C (.int 4))) a3Nil)))) a3Nil)))
    (s3Expr (e3Bm m3App (e3Var 4) (a3Cons (e3Op r3Add (e3Sl (e3Var 1) o3None (o3Some (e3C (.int 3)))) (e3Tup (a3Cons (e3Op r3Ix (e3Var 1) (e3C (.int 3))) (a3Cons (e3Var 6) a3Nil)))) a3Nil)))))
    (s3Seq (s3For (i3Seq (e3Tup (a3Cons (e3Tup (a3Cons (e3Var 2) (a3Cons (e3Var 2) a3Nil))) (a3Cons (e3Tup (a3Cons (e3Var 3) a3Nil)) (a3Cons (e3Tup (a3Cons (e3Sl (e3Var 2) (o3Some (e3C (.int 1))) o3None) a3Nil)) (a3Cons (e3Lst (a3Cons (e3Var 2) a3Nil)) (a3Cons (e3Tup (a3Cons (e3CB c3List (a3Cons (e3Var 2) a3Nil)) a3Nil)) (a3Cons (e3Tup (a3Cons (e3Op r3Add (e3Tup (a3Cons (e3C (.bl false)) a3Nil)) (e3Sl (e3Var 2) (o3Some (e3C (.int 1))) o3None)) a3Nil)) (a3Cons (e3Tup (a3Cons (e3Op r3Add (e3Tup (a3Cons (e3Neg (e3C (.int 1))) a3Nil)) (e3Sl (e3Var 2) (o3Some (e3C (.int 1))) o3None)) a3Nil)) (a3Cons (e3C .non) a3Nil)))))))))) (g3Name 7) (s3Seq (s3Expr (e3Bm m3App (e3Var 4) (a3Cons (e3Op r3Add (e3Sl (e3Var 1) o3None (o3Some (e3C (.int 3)))) (e3Tup (a3Cons (e3Op r3Add (e3Tup (a3Cons (e3Var 7) a3Nil)) (e3Sl (e3Op r3Ix (e3Var 1) (e3C (.int 3))) (o3Some (e3C (.int 1))) o3None)) (a3Cons (e3Op r3Ix (e3Var 1) (e3C (.int 4))) a3Nil)))) a3Nil)))
    (s3Expr (e3Bm m3App (e3Var 4) (a3Cons (e3Op r3Add (e3Sl (e3Var 1) o3None (o3Some (e3C (.int 4)))) (e3Tup (a3Cons (e3Op r3Add (e3Sl (e3Op r3Ix (e3Var 1) (e3C (.int 4))) o3None (o3Some (e3Neg (e3C (.int 1))))) (e3Tup (a3Cons (e3Var 7) a3Nil))) a3Nil))) a3Nil)))))
    (s3Seq (s3Asg (e3Op r3Add (e3Var 4) (e3Lst (a3Cons (e3C .non) (a3Cons (e3C (.int 7)) (a3Cons (e3C (.str "task")) (a3Cons (e3Tup a3Nil) (a3Cons (e3C (.bl true)) a3Nil))))))) 4)
    (s3Ret (e3Op r3Ix (e3Var 4) (e3Call spTakeD (a3Cons (e3Var 0) (a3Cons (e3CB c3Len (a3Cons (e3Var 4) a3Nil)) a3Nil))))))))))))
theorem rdWrong : Rd3 ["hand", "task", "row", "high", "wrong", "labels", "side", "rows"] tWrong spWrong := by
  rintro ds M Q E ⟨h, d, n, T, rfl, z, ok, q⟩
  have c2 := ok.c2
  have c4 := ok.c4
  have n0 := z.n0
  have w1 := ok.w1
  have w4 := ok.w4
  have b1 := ok.b1
  have b4 := ok.b4
  obtain ⟨l0, lr, hls⟩ : ∃ l0 lr, T.ls = l0 :: lr := by
    match hq : T.ls, c2 with
    | l0 :: lr, _ => exact ⟨l0, lr, rfl⟩
  have lrl : lr.length ≤ 3 := by
    have := c4
    rw [hls] at this
    simpa using this
  have L0 : T.ls.map D.int = .int l0 :: lr.map D.int := by rw [hls]; rfl
  conv => whnf
  refine ⟨szLe (by show 1 ≤ 1000000; decide), ?_⟩
  conv => whnf
  refine ⟨_, rfl, ?_⟩
  conv => whnf
  refine ⟨by simp, by omega, by rw [List.length_map]; omega, by show 1 ≤ 1000; decide, ?_⟩
  rw [List.length_map, Int.toNat_natCast, mul_one_list]
  have hrep : List.replicate T.ls.length (D.int 0) = .int 0 :: List.replicate lr.length (D.int 0) := by
    rw [hls, List.length_cons, List.replicate_succ]
  rw [hrep]
  have vR : ∀ {M' : MH}, ∀ x ∈ List.replicate lr.length (D.int 0), Vk M' x := fun {M'} x hx => by rw [(List.mem_replicate.mp hx).2]; exact vk_i
  have lR : (List.replicate lr.length (D.int 0)).length = lr.length := List.length_replicate
  have hfitR : rowFits T.ls (.tup (.int 0 :: List.replicate lr.length (D.int 0))) = true ∨ True := .inr trivial
  generalize List.replicate lr.length (D.int 0) = R at vR lR hrep hfitR
  have cutR : cutD (.int 0 :: R) (some 1) none = R := by rw [cut_from1]; rfl
  have cutL : cutD (T.ls.map D.int) (some 1) none = lr.map D.int := by rw [cut_from1, L0]; rfl
  conv => whnf
  have at0 : atI (T.ls.map D.int) ((0 : Nat) : Int) = some (.int l0) := atI_nat (by rw [L0]; rfl)
  refine ⟨_, rfl, .int l0, at0, szLe (by show 1 ≤ 1000000; decide), ?_⟩
  conv => whnf
  refine ⟨szLe (by rw [cutR]; show 1 + R.length ≤ 1000000; omega), ?_⟩
  rw [cutR]
  conv => whnf
  have vI : ∀ {M' : MH} {l : List Int}, ∀ x ∈ l.map D.int, Vk M' x := fun {M' l} x hx => by
    obtain ⟨i, _, rfl⟩ := List.mem_map.mp hx
    exact vk_i
  have vS : ∀ {M' : MH} {S : List (List (List Int))}, ∀ x ∈ S.map rsD, Vk M' x := fun {M' S} x hx => by
    obtain ⟨rs, _, rfl⟩ := List.mem_map.mp hx
    refine vk_tup fun y hy => ?_
    obtain ⟨r, _, rfl⟩ := List.mem_map.mp hy
    exact vk_row
  have vT : ∀ {M' : MH}, ∀ x ∈ [D.str "task", .int ((T.ls.map D.int).length : Int), .tup (T.ls.map D.int), .tup (T.ws.map rsD), .tup (T.bs.map rsD)], Vk M' x := fun {M'} x hx => (ok.parts (M := M') x hx).vk
  refine fun p1 np1 => ?_
  conv => whnf
  refine ⟨szLe (by show 1 ≤ 1000000; decide), szLe (by show 6 ≤ 1000000; decide), szLe (by show 1 ≤ 1000000; decide), szLe (by show 5 ≤ 1000000; decide), szLe (by show 2 ≤ 1000000; decide), szLe (by show 5 ≤ 1000000; decide), szLe (by show 2 ≤ 1000000; decide), szLe (by show 5 ≤ 1000000; decide), szLe (by show 6 ≤ 1000000; decide), fun p np => ?_⟩
  have npM : M p = none := ((Sub.refl M).new np1).free np
  have p1p : p1 ≠ p := fun e => by subst e; rw [updM_same] at np; cases np
  have w0 : WtS M p 6 (updM (updM M p1 (.lst [D.str "task", .int ((T.ls.map D.int).length : Int), .tup (T.ls.map D.int), .tup (T.ws.map rsD), .tup (T.bs.map rsD)])) p (.lst [.ref p1, .tup (cutD [D.str "task", .int ((T.ls.map D.int).length : Int), .tup (T.ls.map D.int), .tup (T.ws.map rsD), .tup (T.bs.map rsD)] none (some 4)),
      .tup ([D.str "task", .int ((T.ls.map D.int).length : Int), .tup (T.ls.map D.int), .tup (T.ws.map rsD), .tup (T.bs.map rsD)] ++ [.int 0]), .tup ([.str "Task"] ++ cutD [D.str "task", .int ((T.ls.map D.int).length : Int), .tup (T.ls.map D.int), .tup (T.ws.map rsD), .tup (T.bs.map rsD)] (some 1) none),
      .tup ([.str "task", .int 5] ++ cutD [D.str "task", .int ((T.ls.map D.int).length : Int), .tup (T.ls.map D.int), .tup (T.ws.map rsD), .tup (T.bs.map rsD)] (some 2) none), .tup ([.str "task", .bl true] ++ cutD [D.str "task", .int ((T.ls.map D.int).length : Int), .tup (T.ls.map D.int), .tup (T.ws.map rsD), .tup (T.bs.map rsD)] (some 2) none)])) := by
    refine ⟨((Sub.refl M).new np1).new npM, _, updM_same, Nat.le_refl _, Nat.le_refl _, fun x hx => ?_⟩
    simp only [List.mem_cons, List.not_mem_nil, or_false] at hx
    rcases hx with rfl | rfl | rfl | rfl | rfl | rfl
    · exact ⟨vk_lst (.inl ((updM_ne p1p).trans updM_same)), (fun _ _ e => nomatch e), rfl⟩
    · exact ⟨vk_tup (vk_cut vT), wt_len (by show 4 ≠ 5; decide), rfl⟩
    · exact ⟨vk_app vT (vk_one vk_i), wt_len (by show 6 ≠ 5; decide), rfl⟩
    · refine ⟨vk_app (vk_one vk_s) (vk_cut vT), wt_str, ?_⟩
      exact tok_w (w := "Task") (by decide)
    · refine ⟨vk_app (fun x hx => ?_) (vk_cut vT), wt_str, ?_⟩
      · simp only [List.mem_cons, List.not_mem_nil, or_false] at hx
        rcases hx with rfl | rfl
        · exact vk_s
        · exact vk_i
      · exact tok_c (w := "task") (c := .int 5) rfl
    · refine ⟨vk_app (fun x hx => ?_) (vk_cut vT), wt_str, ?_⟩
      · simp only [List.mem_cons, List.not_mem_nil, or_false] at hx
        rcases hx with rfl | rfl
        · exact vk_s
        · exact vk_b
      · exact tok_c (w := "task") (c := .bl true) rfl
  generalize updM (updM M p1 (.lst [D.str "task", .int ((T.ls.map D.int).length : Int), .tup (T.ls.map D.int), .tup (T.ws.map rsD), .tup (T.bs.map rsD)])) p (.lst _) = MA at w0
  clear np np1
  conv => whnf
  refine ⟨_, rfl, szLe (by show 1 ≤ 1000000; decide), szLe (by rw [List.length_map]; show _ + 1 ≤ 1000000; omega), ?_⟩
  conv => whnf
  refine ⟨_, rfl, fun p2 np2 => ?_⟩
  have w := w0.new (o := .lst (T.ls.map D.int)) np2
  have f2 := updM_same (M := MA) (a := p2) (o := .lst (T.ls.map D.int))
  have p2p := w0.ne np2
  generalize updM MA p2 (.lst (T.ls.map D.int)) = MB at w f2
  clear w0
  have hc3 : (cutD (T.ls.map D.int) (some 1) none).length ≤ 3 := by rw [cutL, List.length_map]; exact lrl
  conv => whnf
  refine ⟨szLe (by show 1 ≤ 1000000; decide), ?_⟩
  conv => whnf
  refine ⟨_, rfl, ?_⟩
  conv => whnf
  refine ⟨szLe (by show 1 + _ ≤ 1000000; omega), szLe (by show 1 ≤ 1000000; decide), ?_⟩
  conv => whnf
  refine ⟨_, rfl, ?_⟩
  conv => whnf
  refine ⟨szLe (by show 1 + _ ≤ 1000000; omega), szLe (by show 1 ≤ 1000000; decide), ?_⟩
  conv => whnf
  refine ⟨_, rfl, ?_⟩
  conv => whnf
  refine ⟨szLe (by show 1 + _ ≤ 1000000; omega), szLe (by show 5 ≤ 1000000; decide), ?_⟩
  rw [cutL]
  have vcl : ∀ {M' : MH} {a : D}, Vk M' a → Vk M' (.tup ([a] ++ lr.map D.int)) := fun {M' a} v => vk_app (vk_one v) vI
  conv => whnf
  refine ⟨fun k env' M' => ∃ s5, env' = [some (.ref h), some (tkD T), some (.tup (.int 0 :: R)), some (.tup ([.int l0] ++ R)), some (.ref p), s5, none, none] ∧ WtS M p (6 + k) M' ∧ M' p2 = some (.lst (T.ls.map D.int)), ⟨none, rfl, w, f2⟩, ?_, ?_⟩
  · rintro k x env' M' hd ⟨s5, rfl, w, f2⟩
    have hx : BadT M' (.tup [.str "task", .int ((T.ls.map D.int).length : Int), x, .tup (T.ws.map rsD), .tup (T.bs.map rsD)]) := by
      have hm := List.mem_of_getElem? hd
      simp only [List.mem_cons, List.not_mem_nil, or_false] at hm
      rcases hm with rfl | rfl | rfl | rfl | rfl
      · refine bt5 vk_i (vk_app vI (vk_one vk_i)) (vk_tup vS) (vk_tup vS) (tok_l (w := "task") fun xs e => .inl ?_)
        injection e with e
        rw [← e, List.length_append, List.length_singleton]
        omega
      · exact bt5 vk_i (vk_lst (.inl f2)) (vk_tup vS) (vk_tup vS) (tok_l (w := "task") fun xs e => nomatch e)
      · exact bt5 vk_i (vcl vk_i) (vk_tup vS) (vk_tup vS) (tok_l (w := "task") fun xs e => .inr (lab_head rfl))
      · exact bt5 vk_i (vcl vk_i) (vk_tup vS) (vk_tup vS) (tok_l (w := "task") fun xs e => .inr (lab_head rfl))
      · exact bt5 vk_i (vcl vk_b) (vk_tup vS) (vk_tup vS) (tok_l (w := "task") fun xs e => .inr (lab_head rfl))
    have hk : k < 5 := (List.getElem?_eq_some_iff.mp hd).1
    refine ⟨trivial, ?_⟩
    conv => whnf
    exact ⟨w.lst, _, rfl, _, rfl, _, rfl, szLe (by show 5 ≤ 1000000; decide), w.app (env := []) npM hx (by omega) fun M'' w'' hne => ⟨_, rfl, w'', (hne p2 p2p).trans f2⟩⟩
  clear f2 w
  rintro env' M' ⟨s5, rfl, w, _⟩
  have w : WtS M p 11 M' := w
  refine ⟨trivial, ?_⟩
  conv => whnf
  refine ⟨szLe (by show 0 ≤ 1000000; decide), ?_⟩
  conv => whnf
  refine ⟨_, rfl, ?_⟩
  conv => whnf
  refine ⟨fun e => by have := congrArg List.length e; rw [List.length_map] at this; simp at this; rw [this] at w1; simp at w1, by decide, by decide, by rw [List.length_map]; omega, ?_⟩
  conv => whnf
  refine ⟨_, rfl, fun p3 np3 => ?_⟩
  have p3p := w.ne np3
  have w := w.new (o := .lst (T.ws.map rsD)) np3
  have f3 := updM_same (M := M') (a := p3) (o := .lst (T.ws.map rsD))
  generalize updM M' p3 (.lst (T.ws.map rsD)) = MC at w f3
  clear np3
  conv => whnf
  have five : (List.replicate (5 : Int).toNat (T.ws.map rsD)).flatten.length = 5 * T.ws.length := by
    rw [PyProof.Rows.lm_len_rep_flat, List.length_map]
    rfl
  refine ⟨szLe (by show 3 ≤ 1000000; decide), fun k env' M' => ∃ s6, env' = [some (.ref h), some (tkD T), some (.tup (.int 0 :: R)), some (.tup ([.int l0] ++ R)), some (.ref p), s5, s6, none] ∧ WtS M p (11 + 2 * k) M' ∧ M' p3 = some (.lst (T.ws.map rsD)), ⟨none, rfl, w, f3⟩, ?_, ?_⟩
  · rintro k x env' M' hd ⟨s6, rfl, w, f3⟩
    obtain ⟨bad, vx⟩ : sideOk (intsOf (.tup (T.ls.map D.int))) x = false ∧ ∀ M'', M'' p3 = some (.lst (T.ws.map rsD)) → Vk M'' x := by
      have hm := List.mem_of_getElem? hd
      simp only [List.mem_cons, List.not_mem_nil, or_false] at hm
      rcases hm with rfl | rfl | rfl
      · exact ⟨rfl, fun M'' _ => vk_tup fun x hx => by simp at hx⟩
      · refine ⟨?_, fun M'' _ => vk_tup fun y hy => ?_⟩
        · show (_ && decide (((List.replicate (5 : Int).toNat (T.ws.map rsD)).flatten).length ≤ 4) && _) = false
          rw [five, decide_eq_false (p := 5 * T.ws.length ≤ 4) (by omega), Bool.and_false, Bool.false_and]
        · obtain ⟨l, hl, hy⟩ := List.mem_flatten.mp hy
          rw [(List.mem_replicate.mp hl).2] at hy
          exact vS y hy
      · exact ⟨rfl, fun M'' h => vk_lst (.inl h)⟩
    have hk : k < 3 := (List.getElem?_eq_some_iff.mp hd).1
    refine ⟨trivial, ?_⟩
    conv => whnf
    refine ⟨w.lst, ?_⟩
    conv => whnf
    refine ⟨_, rfl, szLe (by show 2 ≤ 1000000; decide), szLe (by show 5 ≤ 1000000; decide), w.app (env := []) npM (bt5 vk_i (vk_tup vI) (vx _ f3) (vk_tup vS) (tok_a (w := "task") bad)) (by omega) fun M2 w2 hne => ?_⟩
    have f32 := (hne p3 p3p).trans f3
    conv => whnf
    refine ⟨w2.lst, ?_⟩
    conv => whnf
    exact ⟨_, rfl, szLe (by show 2 ≤ 1000000; decide), szLe (by show 5 ≤ 1000000; decide), w2.app (env := []) npM (bt5 vk_i (vk_tup vI) (vk_tup vS) (vx _ f32) (tok_b (w := "task") bad)) (by omega) fun M3 w3 hne3 => ⟨_, rfl, w3, (hne3 p3 p3p).trans f32⟩⟩
  clear f3 w
  rintro env' M' ⟨s6, rfl, w, _⟩
  have w : WtS M p 17 M' := w
  refine ⟨trivial, ?_⟩
  conv => whnf
  refine ⟨szLe (by show 2 ≤ 1000000; decide), ?_⟩
  conv => whnf
  refine ⟨szLe (by show 1 ≤ 1000000; decide), ?_⟩
  conv => whnf
  refine ⟨szLe (by show 1 ≤ 1000000; decide), ?_⟩
  conv => whnf
  refine ⟨szLe (by show 1 ≤ 1000000; decide), fun p4 np4 => ?_⟩
  have p4p := w.ne np4
  have w := w.new (o := .lst [.tup (.int 0 :: R)]) np4
  have f4 := updM_same (M := M') (a := p4) (o := .lst [.tup (.int 0 :: R)])
  generalize updM M' p4 (.lst [.tup (.int 0 :: R)]) = MD at w f4
  conv => whnf
  refine fun p5 np5 => ?_
  have p5p := w.ne np5
  have w := w.new (o := .lst (.int 0 :: R)) np5
  have f5 := updM_same (M := MD) (a := p5) (o := .lst (.int 0 :: R))
  have f4 := (updM_ne (o := .lst (.int 0 :: R)) (neM f4 np5)).trans f4
  generalize updM MD p5 (.lst (.int 0 :: R)) = ME at w f4 f5
  clear np4 np5
  have hcR : (cutD (D.int 0 :: R) (some 1) none).length ≤ 3 := by rw [cutR]; omega
  conv => whnf
  refine ⟨szLe (by show 1 ≤ 1000000; decide), szLe (by show 1 ≤ 1000000; decide), szLe (by show 1 + (cutD (D.int 0 :: R) (some 1) none).length ≤ 1000000; omega), szLe (by show 1 ≤ 1000000; decide), ?_⟩
  conv => whnf
  refine ⟨szLe (by show 1 ≤ 1000000; decide), szLe (by show 1 + (cutD (D.int 0 :: R) (some 1) none).length ≤ 1000000; omega), szLe (by show 1 ≤ 1000000; decide), ?_⟩
  rw [cutR]
  conv => whnf
  have cW : ∀ {lo hi : Option Int}, (cutD (T.ws.map rsD) lo hi).length ≤ 4 := fun {lo hi} => Nat.le_trans cut_le (by rw [List.length_map]; exact w4)
  have cB : ∀ {lo hi : Option Int}, (cutD (T.bs.map rsD) lo hi).length ≤ 4 := fun {lo hi} => Nat.le_trans cut_le (by rw [List.length_map]; exact b4)
  have hI : intsOf (.tup (T.ls.map D.int)) = l0 :: lr := by rw [intsOf_map, hls]
  have vRow : ∀ {M' : MH}, Vk M' (.tup (.int 0 :: R)) := fun {M'} => vk_tup fun x hx => by
    rcases List.mem_cons.mp hx with rfl | hx
    · exact vk_i
    · exact vR x hx
  refine ⟨szLe (by show 8 ≤ 1000000; decide), fun k env' M' => ∃ s7, env' = [some (.ref h), some (tkD T), some (.tup (.int 0 :: R)), some (.tup ([.int l0] ++ R)), some (.ref p), s5, s6, s7] ∧ WtS M p (17 + 2 * k) M' ∧ M' p4 = some (.lst [.tup (.int 0 :: R)]) ∧ M' p5 = some (.lst (.int 0 :: R)), ⟨none, rfl, w, f4, f5⟩, ?_, ?_⟩
  · rintro k x env' M' hd ⟨s7, rfl, w, f4, f5⟩
    obtain ⟨bad, vx⟩ : rowsAsc (intsOf (.tup (T.ls.map D.int))) x = false ∧ ∀ M'', M'' p4 = some (.lst [.tup (.int 0 :: R)]) → M'' p5 = some (.lst (.int 0 :: R)) → Vk M'' x := by
      rw [hI]
      have hm := List.mem_of_getElem? hd
      simp only [List.mem_cons, List.not_mem_nil, or_false] at hm
      rcases hm with rfl | rfl | rfl | rfl | rfl | rfl | rfl | rfl
      · exact ⟨rows_twice, fun M'' _ _ => vk_tup fun y hy => by
          simp only [List.mem_cons, List.not_mem_nil, or_false, or_self] at hy
          rw [hy]
          exact vRow⟩
      · refine ⟨rows_head (fits_head ?_), fun M'' _ _ => vk_tup (vk_one (vk_app (vk_one vk_i) vR))⟩
        show (decide (0 ≤ l0) && decide (l0 ≤ l0 - 1)) = false
        rw [decide_eq_false (p := l0 ≤ l0 - 1) (by omega), Bool.and_false]
      · exact ⟨rows_head (fits_len (by rw [lR, List.length_cons]; omega)), fun M'' _ _ => vk_tup (vk_one (vk_tup vR))⟩
      · exact ⟨rfl, fun M'' h _ => vk_lst (.inl h)⟩
      · exact ⟨rows_head rfl, fun M'' _ h => vk_tup (vk_one (vk_lst (.inl h)))⟩
      · exact ⟨rows_head (fits_head rfl), fun M'' _ _ => vk_tup (vk_one (vk_app (vk_one vk_b) vR))⟩
      · exact ⟨rows_head (fits_head rfl), fun M'' _ _ => vk_tup (vk_one (vk_app (vk_one vk_i) vR))⟩
      · exact ⟨rfl, fun M'' _ _ => vk_n⟩
    have hk : k < 8 := (List.getElem?_eq_some_iff.mp hd).1
    have bad1 : sideOk (intsOf (.tup (T.ls.map D.int))) (.tup ([x] ++ cutD (T.ws.map rsD) (some 1) none)) = false := side_bad List.mem_cons_self bad
    have bad2 : sideOk (intsOf (.tup (T.ls.map D.int))) (.tup (cutD (T.bs.map rsD) none (some (-1)) ++ [x])) = false := side_bad (List.mem_append_right _ List.mem_cons_self) bad
    refine ⟨trivial, ?_⟩
    conv => whnf
    refine ⟨w.lst, ?_⟩
    conv => whnf
    refine ⟨szLe (by show 1 ≤ 1000000; decide), ?_⟩
    conv => whnf
    refine ⟨_, rfl, ?_⟩
    conv => whnf
    refine ⟨szLe (by have := cW (lo := some 1) (hi := none); show 1 + (cutD (T.ws.map rsD) (some 1) none).length ≤ 1000000; omega), _, rfl, szLe (by show 2 ≤ 1000000; decide), szLe (by show 5 ≤ 1000000; decide), w.app (env := []) npM (bt5 vk_i (vk_tup vI) (vk_app (vk_one (vx _ f4 f5)) (vk_cut vS)) (vk_tup vS) (tok_a (w := "task") bad1)) (by omega) fun M2 w2 hne => ?_⟩
    have f42 := (hne p4 p4p).trans f4
    have f52 := (hne p5 p5p).trans f5
    conv => whnf
    refine ⟨w2.lst, ?_⟩
    conv => whnf
    refine ⟨_, rfl, ?_⟩
    conv => whnf
    exact ⟨szLe (by show 1 ≤ 1000000; decide), szLe (by have := cB (lo := none) (hi := some (-1)); show (cutD (T.bs.map rsD) none (some (-1))).length + 1 ≤ 1000000; omega), szLe (by show 1 ≤ 1000000; decide), szLe (by show 5 ≤ 1000000; decide), w2.app (env := []) npM (bt5 vk_i (vk_tup vI) (vk_tup vS) (vk_app (vk_cut vS) (vk_one (vx _ f42 f52))) (tok_b (w := "task") bad2)) (by omega) fun M3 w3 hne3 => ⟨_, rfl, w3, (hne3 p4 p4p).trans f42, (hne3 p5 p5p).trans f52⟩⟩
  clear f4 f5 w
  rintro env' M' ⟨s7, rfl, w, _, _⟩
  have w : WtS M p 33 M' := w
  refine ⟨trivial, ?_⟩
  conv => whnf
  obtain ⟨sub, xs, hp, l6, lhi, hb⟩ := w
  refine ⟨szLe (by show 0 ≤ 1000000; decide), szLe (by show 5 ≤ 1000000; decide), fun p6 np6 => ?_⟩
  have p6p : p6 ≠ p := fun e => by rw [e, hp] at np6; cases np6
  refine ⟨xs, _, (updM_ne p6p.symm).trans hp, updM_same, szLe (by show xs.length + 5 ≤ 1000000; omega), fun p7 np7 => ?_⟩
  have npM6 : M' p7 = none := ((Sub.refl M').new np6).free np7
  have s67 : Sub M' (updM (updM M' p6 (.lst [.non, .int 7, .str "task", .tup [], .bl true])) p7 (.lst (xs ++ [.non, .int 7, .str "task", .tup [], .bl true]))) := ((Sub.refl M').new np6).new npM6
  have h7 := updM_same (M := updM M' p6 (.lst [.non, .int 7, .str "task", .tup [], .bl true])) (a := p7) (o := .lst (xs ++ [.non, .int 7, .str "task", .tup [], .bl true]))
  generalize updM (updM M' p6 (.lst [.non, .int 7, .str "task", .tup [], .bl true])) p7 (.lst (xs ++ [.non, .int 7, .str "task", .tup [], .bl true])) = MF at s67 h7
  have subF := sub.trans s67
  have zF := z.sub subF
  have all : ∀ x ∈ xs ++ [.non, .int 7, .str "task", .tup [], .bl true], BadT MF x := fun x hx => by
    rcases List.mem_append.mp hx with hx | hx
    · exact bt_mono s67 (hb x hx)
    · simp only [List.mem_cons, List.not_mem_nil, or_false] at hx
      rcases hx with rfl | rfl | rfl | rfl | rfl
      · exact ⟨vk_n, (fun _ _ e => nomatch e), rfl⟩
      · exact ⟨vk_i, (fun _ _ e => nomatch e), rfl⟩
      · exact ⟨vk_s, (fun _ _ e => nomatch e), rfl⟩
      · exact ⟨vk_tup fun x hx => by simp at hx, wt_len (by show 0 ≠ 5; decide), rfl⟩
      · exact ⟨vk_b, (fun _ _ e => nomatch e), rfl⟩
  have hlen : 11 ≤ (xs ++ [D.non, .int 7, .str "task", .tup [], .bl true]).length := by rw [List.length_append]; show 11 ≤ xs.length + 5; omega
  generalize xs ++ [D.non, .int 7, .str "task", .tup [], .bl true] = ys at h7 all hlen
  have p7h : p7 ≠ h := by
    rintro rfl
    rw [sub _ _ z.own] at npM6
    cases npM6
  conv => whnf
  refine ⟨_, .inl h7, h, d, n, ys.length, rfl, zF, by omega, fun v v0 v1 => ?_⟩
  obtain ⟨x, hx, hxm⟩ := at_mem (ds := ys) (v := v) (by omega) (by omega)
  obtain ⟨b1', b2', b3'⟩ := all x hxm
  exact ⟨ys, x, .inl ((setH_ne p7h).trans h7), hx, _, Sub.refl _, q x _ (n + 1) (subH (n := n) (by rw [z.self]; exact subF)) (by omega) (vk_upd (zF.own) x b1') b2' b3'⟩
end L3

namespace My
open PySem PySem.Spec PyProof.Rows L2 L3

def topS (i : Nat) : Stmt := PySem.Challenge.pw_looksfar_k26_tidied.main.body.getD i (.Pass ⟨0, 0, 0, 0⟩)
abbrev s_is_number : Stmt := topS 7
abbrev N_is_number : List Str := ["value", "least", "most"]
theorem sc_is_number : FnScope N_is_number ["value", "least", "most"] (defScope s_is_number) := ⟨rfl, rfl, rfl, by decide +kernel, rfl, by decide +kernel, by decide +kernel⟩
abbrev s_fits_bounds : Stmt := topS 8
abbrev N_fits_bounds : List Str := ["labels", "product", "many"]
theorem sc_fits_bounds : FnScope N_fits_bounds ["labels"] (defScope s_fits_bounds) := ⟨rfl, rfl, rfl, by decide +kernel, rfl, by decide +kernel, by decide +kernel⟩
abbrev s_fits_labels : Stmt := topS 9
abbrev N_fits_labels : List Str := ["row", "labels", "label", "many"]
theorem sc_fits_labels : FnScope N_fits_labels ["row", "labels"] (defScope s_fits_labels) := ⟨rfl, rfl, rfl, by decide +kernel, rfl, by decide +kernel, by decide +kernel⟩
abbrev s_are_rows : Stmt := topS 10
abbrev N_are_rows : List Str := ["rows", "labels", "ahead", "row"]
theorem sc_are_rows : FnScope N_are_rows ["rows", "labels"] (defScope s_are_rows) := ⟨rfl, rfl, rfl, by decide +kernel, rfl, by decide +kernel, by decide +kernel⟩
abbrev s_check_task : Stmt := topS 11
abbrev N_check_task : List Str := ["task", "labels", "inputs", "rows"]
theorem sc_check_task : FnScope N_check_task ["task"] (defScope s_check_task) := ⟨rfl, rfl, rfl, by decide +kernel, rfl, by decide +kernel, by decide +kernel⟩
abbrev s_labels_at : Stmt := topS 13
abbrev N_labels_at : List Str := ["rows", "at", "one", "row"]
theorem sc_labels_at : FnScope N_labels_at ["rows", "at"] (defScope s_labels_at) := ⟨rfl, rfl, rfl, by decide +kernel, rfl, by decide +kernel, by decide +kernel⟩
abbrev s_struck : Stmt := topS 14
abbrev N_struck : List Str := ["task", "sides", "changed", "side", "known", "left", "rows", "at", "row", "one", "labels"]
theorem sc_struck : FnScope N_struck ["task"] (defScope s_struck) := ⟨rfl, rfl, rfl, by decide +kernel, rfl, by decide +kernel, by decide +kernel⟩
abbrev s_tidied : Stmt := topS 15
abbrev N_tidied : List Str := ["task", "kept", "at", "sides", "side", "white", "black", "labels", "rows", "one", "row", "known"]
theorem sc_tidied : FnScope N_tidied ["task"] (defScope s_tidied) := ⟨rfl, rfl, rfl, by decide +kernel, rfl, by decide +kernel, by decide +kernel⟩
abbrev s_law_draws : Stmt := topS 17
abbrev N_law_draws : List Str := ["script", "many", "rests", "draws", "k", "cell", "mixed", "at"]
theorem sc_law_draws : FnScope N_law_draws ["script", "many"] (defScope s_law_draws) := ⟨rfl, rfl, rfl, by decide +kernel, rfl, by decide +kernel, by decide +kernel⟩
abbrev s_law_take : Stmt := topS 18
abbrev N_law_take : List Str := ["hand", "many", "at", "draws"]
theorem sc_law_take : FnScope N_law_take ["hand", "many"] (defScope s_law_take) := ⟨rfl, rfl, rfl, by decide +kernel, rfl, by decide +kernel, by decide +kernel⟩
abbrev s_law_choices : Stmt := topS 19
abbrev N_law_choices : List Str := ["lists", "found", "items", "longer", "row", "item"]
theorem sc_law_choices : FnScope N_law_choices ["lists"] (defScope s_law_choices) := ⟨rfl, rfl, rfl, by decide +kernel, rfl, by decide +kernel, by decide +kernel⟩
abbrev s_law_rows : Stmt := topS 20
abbrev N_law_rows : List Str := ["hand", "labels", "share", "rows", "many", "row"]
theorem sc_law_rows : FnScope N_law_rows ["hand", "labels", "share"] (defScope s_law_rows) := ⟨rfl, rfl, rfl, by decide +kernel, rfl, by decide +kernel, by decide +kernel⟩
abbrev s_law_is_choice : Stmt := topS 21
abbrev N_law_is_choice : List Str := ["row", "sets", "at"]
theorem sc_law_is_choice : FnScope N_law_is_choice ["row", "sets"] (defScope s_law_is_choice) := ⟨rfl, rfl, rfl, by decide +kernel, rfl, by decide +kernel, by decide +kernel⟩
abbrev s_law_whole : Stmt := topS 22
abbrev N_law_whole : List Str := ["found"]
theorem sc_law_whole : FnScope N_law_whole ["found"] (defScope s_law_whole) := ⟨rfl, rfl, rfl, by decide +kernel, rfl, by decide +kernel, by decide +kernel⟩
abbrev s_law_like : Stmt := topS 23
abbrev N_law_like : List Str := ["found", "due", "k"]
theorem sc_law_like : FnScope N_law_like ["found", "due"] (defScope s_law_like) := ⟨rfl, rfl, rfl, by decide +kernel, rfl, by decide +kernel, by decide +kernel⟩
abbrev s_law_shape : Stmt := topS 24
abbrev N_law_shape : List Str := ["hand", "colours", "menu", "labels", "p", "q", "c"]
theorem sc_law_shape : FnScope N_law_shape ["hand"] (defScope s_law_shape) := ⟨rfl, rfl, rfl, by decide +kernel, rfl, by decide +kernel, by decide +kernel⟩
abbrev s_law_drawn : Stmt := topS 25
abbrev N_law_drawn : List Str := ["hand", "colours", "p", "q", "labels", "share", "white", "x", "y"]
theorem sc_law_drawn : FnScope N_law_drawn ["hand", "colours", "p", "q", "labels"] (defScope s_law_drawn) := ⟨rfl, rfl, rfl, by decide +kernel, rfl, by decide +kernel, by decide +kernel⟩
abbrev s_law_wrong_task : Stmt := topS 26
abbrev N_law_wrong_task : List Str := ["hand", "task", "row", "high", "wrong", "labels", "side", "rows"]
theorem sc_law_wrong_task : FnScope N_law_wrong_task ["hand", "task"] (defScope s_law_wrong_task) := ⟨rfl, rfl, rfl, by decide +kernel, rfl, by decide +kernel, by decide +kernel⟩
abbrev s_law_tidied : Stmt := topS 27
abbrev N_law_tidied : List Str := ["task", "white", "black", "turn", "kept", "labels", "sides", "side", "was", "up", "down", "rows", "row", "label"]
theorem sc_law_tidied : FnScope N_law_tidied ["task"] (defScope s_law_tidied) := ⟨rfl, rfl, rfl, by decide +kernel, rfl, by decide +kernel, by decide +kernel⟩
abbrev s_law_standing : Stmt := topS 28
abbrev N_law_standing : List Str := ["side", "colours", "found", "rows", "row", "c"]
theorem sc_law_standing : FnScope N_law_standing ["side", "colours"] (defScope s_law_standing) := ⟨rfl, rfl, rfl, by decide +kernel, rfl, by decide +kernel, by decide +kernel⟩
abbrev s_law_renumbered : Stmt := topS 29
abbrev N_law_renumbered : List Str := ["row", "kept", "c"]
theorem sc_law_renumbered : FnScope N_law_renumbered ["row", "kept"] (defScope s_law_renumbered) := ⟨rfl, rfl, rfl, by decide +kernel, rfl, by decide +kernel, by decide +kernel⟩
abbrev s_law_refuses : Stmt := topS 30
abbrev N_law_refuses : List Str := ["task"]
theorem sc_law_refuses : FnScope N_law_refuses ["task"] (defScope s_law_refuses) := ⟨rfl, rfl, rfl, by decide +kernel, rfl, by decide +kernel, by decide +kernel⟩
abbrev s_law_road : Stmt := topS 31
abbrev N_law_road : List Str := ["hand", "many", "white", "black", "every", "a", "row"]
theorem sc_law_road : FnScope N_law_road ["hand"] (defScope s_law_road) := ⟨rfl, rfl, rfl, by decide +kernel, rfl, by decide +kernel, by decide +kernel⟩
abbrev s_law_asked : Stmt := topS 32
abbrev N_law_asked : List Str := ["script", "hand", "task", "road", "due", "every", "colours", "p", "q", "labels", "many"]
theorem sc_law_asked : FnScope N_law_asked ["script"] (defScope s_law_asked) := ⟨rfl, rfl, rfl, by decide +kernel, rfl, by decide +kernel, by decide +kernel⟩
abbrev s_law : Stmt := topS 33
abbrev N_law : List Str := ["script"]
theorem sc_law : FnScope N_law ["script"] (defScope s_law) := ⟨rfl, rfl, rfl, by decide +kernel, rfl, by decide +kernel, by decide +kernel⟩
structure Gm where
  K : Fg
  LookError : Addr
  BadTask : Addr
structure Txt (G : Gm) (mg : Str → Option Value) : Prop where
  nol : noList G.K = true
  n_abs : mg "abs" = none
  n_all : mg "all" = none
  n_bool : mg "bool" = none
  n_int : mg "int" = none
  n_isinstance : mg "isinstance" = none
  n_len : mg "len" = none
  n_list : mg "list" = none
  n_range : mg "range" = none
  n_sorted : mg "sorted" = none
  n_str : mg "str" = none
  n_sum : mg "sum" = none
  n_tuple : mg "tuple" = none
  n_zip : mg "zip" = none
  c_MOST_INPUTS : Cst mg "MOST_INPUTS" (.int 4)
  c_MOST_LABELS : Cst mg "MOST_LABELS" (.int 60)
  c_MOST_PRODUCT : Cst mg "MOST_PRODUCT" (.int 4000)
  x_LookError : ExcT G.K mg "LookError" G.LookError
  x_BadTask : ExcT G.K mg "BadTask" G.BadTask
  e_BadTask_BadTask : PySem.W.exmOne G.K (.ref G.BadTask) (.ref G.BadTask) = some true
  e_BadTask_LookError : PySem.W.exmOne G.K (.ref G.BadTask) (.ref G.LookError) = some true
  e_LookError_BadTask : PySem.W.exmOne G.K (.ref G.LookError) (.ref G.BadTask) = some false
  e_LookError_LookError : PySem.W.exmOne G.K (.ref G.LookError) (.ref G.LookError) = some true
end My

namespace My
open PySem PySem.Spec PyProof.Rows L2 L3
def sp_is_number (G : Gm) : Sp3 := spIsNumber
def sp_fits_bounds (G : Gm) : Sp3 := spBounds
def sp_fits_labels (G : Gm) : Sp3 := spFits
def sp_are_rows (G : Gm) : Sp3 := spRows
def sp_check_task (G : Gm) : Sp3 := spTask G.BadTask
def sp_labels_at (G : Gm) : Sp3 := spLabels
def sp_struck (G : Gm) : Sp3 := spStruck
def sp_tidied (G : Gm) : Sp3 := spTidied G.BadTask
def sp_law_draws (G : Gm) : Sp3 := spDraws
def sp_law_take (G : Gm) : Sp3 := spTakeD
def sp_law_choices (G : Gm) : Sp3 := spProd
def sp_law_rows (G : Gm) : Sp3 := spRows4
def sp_law_is_choice (G : Gm) : Sp3 := spChoice
def sp_law_whole (G : Gm) : Sp3 := spWhole
def spLkS6 : Sp3 := spLkS 6
def sp_law_like (G : Gm) : Sp3 := spLkS 5
def sp_law_shape (G : Gm) : Sp3 := spShape
def sp_law_drawn (G : Gm) : Sp3 := spDrawn
def sp_law_wrong_task (G : Gm) : Sp3 := spWrong
def sp_law_tidied (G : Gm) : Sp3 := spLawTid
def sp_law_standing (G : Gm) : Sp3 := spStand
def sp_law_renumbered (G : Gm) : Sp3 := spRenum
def sp_law_refuses (G : Gm) : Sp3 := fun ds M Q _ => ∃ t, ds = [t] ∧ Vk M t ∧ WT t ∧ taskOk t = false ∧ Q (.bl true) M
def sp_law_road (G : Gm) : Sp3 := fun ds M Q _ => ∃ (h d : Addr) (n : Int), ds = [.ref h] ∧ HandD M h d n ∧ ∀ (T : Tk) (n' : Int), TkOk 4000 T → T.ls.length = 2 → 0 ≤ n' → Q (tkD T) (setH M h d n')
def sp_law_asked (G : Gm) : Sp3 := spLaw3 63
def sp_law (G : Gm) : Sp3 := spLaw3 63
end My

namespace My
open PySem PySem.Spec PyProof.Rows L2 L3

variable {P : Program} {w : World} {G : Gm} {mg : Str → Option Value} {base : Heap}
def t_is_number (G : Gm) : S3 :=
    (s3Ret (e3And (e3CB c3Isi (a3Cons (e3Var 0) (a3Cons (e3C (.ty "int")) a3Nil))) (e3And (e3Not (e3CB c3Isi (a3Cons (e3Var 0) (a3Cons (e3C (.ty "bool")) a3Nil)))) (e3Chain r3Le r3Le (e3Var 1) (e3Var 0) (e3Var 2)))))
theorem der_is_number (T : Txt G mg) (f : Addr) (cdv : Value) (A : Around) (outer : List Env) (s : Shared) (H : Hp) (E : XK) (hr : RoomG 0 (A.deeper (envOfC "is_number" (defScope s_is_number) s.heap.objs.size f cdv))) :
    DSs (cxOf (L2.CX P w) P w G.K mg base N_is_number "is_number" (defScope s_is_number) f cdv A outer s H E) (defBody s_is_number) (t_is_number G) :=
    (dss_one (ds_ret (d_and (d_isi T.n_isinstance (da_cons (dv 0) (da_cons (d_ty (n := "int") rfl T.n_int (by decide +kernel)) da_nil))) (d_and (d_not (d_isi T.n_isinstance (da_cons (dv 0) (da_cons (d_ty (n := "bool") rfl T.n_bool (by decide +kernel)) da_nil)))) (d_one (d_chain op_le opl_Le op_le opl_Le (dv 1) (dv 0) (dv 2)))))))
def t_labels_at (G : Gm) : S3 :=
    (s3Ret (e3DcK2 (i3Seq (e3Var 0)) 2 t3Yes (i3Seq (e3Var 2)) 3 t3Yes (e3Op r3Ix (e3Var 3) (e3Var 1)) (e3C (.bl true)) [2, 3] [3]))
theorem der_labels_at (T : Txt G mg) (f : Addr) (cdv : Value) (A : Around) (outer : List Env) (s : Shared) (H : Hp) (E : XK) (hr : RoomG 0 (A.deeper (envOfC "labels_at" (defScope s_labels_at) s.heap.objs.size f cdv))) :
    DSs (cxOf (L2.CX P w) P w G.K mg base N_labels_at "labels_at" (defScope s_labels_at) f cdv A outer s H E) (defBody s_labels_at) (t_labels_at G) :=
    (dss_one (ds_ret (d_dcK2 [("one", 2), ("row", 3)] rfl sc_labels_at.nd (di_seq (dv 0)) (blkOk_by (own := [("one", 2), ("row", 3)]) (N := N_labels_at) (sc := defScope s_labels_at) (by decide +kernel)) (by decide) (by decide) (fun _ _ _ _ _ => pg_name (i := 2) sc_labels_at.nd rfl (by first | exact Or.inl rfl | exact Or.inr rfl) (by first | exact .inl rfl | exact .inr rfl)) (fun _ _ _ _ _ => dts_nil) (fun _ _ _ _ _ => (di_seq (dv 2))) (fun _ _ _ _ _ => pg_name (i := 3) sc_labels_at.nd rfl (by first | exact Or.inl rfl | exact Or.inr rfl) (by first | exact .inl rfl | exact .inr rfl)) (fun _ _ _ _ _ => dts_nil) (fun _ _ _ _ _ => (d_ix (dv 3) (dv 1))) (fun _ _ _ _ _ => d_bl))))
def t_law_draws (G : Gm) : S3 :=
    (s3Seq (s3Asg (e3Lc (i3Seq (e3Var 0)) 5 t3Yes (e3CB c3Abs (a3Cons (e3CB c3Int (a3Cons (e3Var 5) a3Nil)) a3Nil)) [5]) 2)
    (s3Seq (s3Asg (e3Lst a3Nil) 3)
    (s3Seq (s3For (i3Rng1 (a3Cons (e3Var 1) a3Nil)) (g3Name 4) (s3Seq (s3Asg (e3Var 4) 5)
    (s3Seq (s3If (t3Test (e3Op r3Gt (e3CB c3Len (a3Cons (e3Var 0) a3Nil)) (e3C (.int 0)))) (s3Seq (s3Asg (e3Op r3Mod (e3Var 4) (e3CB c3Len (a3Cons (e3Var 0) a3Nil))) 7)
    (s3Seq (s3Asg (e3CB c3Int (a3Cons (e3Op r3Ix (e3Var 0) (e3Var 7)) a3Nil)) 5)
    (s3If (t3And (t3Test (e3Op r3Ge (e3Var 5) (e3Op r3Pow (e3C (.int 10)) (e3C (.int 18))))) (t3Test (e3Op r3Gt (e3Op r3Ix (e3Var 2) (e3Var 7)) (e3C (.int 0))))) (s3Seq (s3Expr (e3Bm m3App (e3Var 3) (a3Cons (e3Op r3Mod (e3CB c3Int (a3Cons (e3Op r3Ix (e3Var 2) (e3Var 7)) a3Nil)) (e3C (.int 1000003))) a3Nil)))
    (s3Seq (s3AsgG (e3Op r3Div (e3CB c3Int (a3Cons (e3Op r3Ix (e3Var 2) (e3Var 7)) a3Nil)) (e3C (.int 1000003))) (g3SubL (e3Var 2) (e3Var 7)))
    s3Cont)) s3Nil))) s3Nil)
    (s3Seq (s3Asg (e3Op r3Mod (e3CB c3Int (a3Cons (e3Op r3Add (e3Op r3Add (e3Op r3Mul (e3Var 5) (e3C (.int 48271))) (e3Op r3Mul (e3Var 4) (e3C (.int 69621)))) (e3C (.int 11))) a3Nil)) (e3C (.int 2147483647))) 6)
    (s3Seq (s3Asg (e3Op r3Mod (e3CB c3Int (a3Cons (e3Op r3Add (e3Op r3Div (e3Op r3Mul (e3Var 6) (e3Var 6)) (e3C (.int 4096))) (e3Var 6)) a3Nil)) (e3C (.int 2147483629))) 6)
    (s3Expr (e3Bm m3App (e3Var 3) (a3Cons (e3Op r3Mod (e3CB c3Int (a3Cons (e3Op r3Add (e3Op r3Div (e3Op r3Mul (e3Var 6) (e3Var 6)) (e3C (.int 4096))) (e3Op r3Mul (e3Var 4) (e3C (.int 7919)))) a3Nil)) (e3C (.int 2147483629))) a3Nil))))))))
    (s3Ret (e3Var 3)))))
theorem der_law_draws (T : Txt G mg) (f : Addr) (cdv : Value) (A : Around) (outer : List Env) (s : Shared) (H : Hp) (E : XK) (hr : RoomG 0 (A.deeper (envOfC "_law_draws" (defScope s_law_draws) s.heap.objs.size f cdv))) :
    DSs (cxOf (L2.CX P w) P w G.K mg base N_law_draws "_law_draws" (defScope s_law_draws) f cdv A outer s H E) (defBody s_law_draws) (t_law_draws G) :=
    (dss_cons (by first | exact ds_setLc (j := 2) [("cell", 5)] rfl sc_law_draws.nd (di_seq (dv 0)) (blkOk_by (own := [("cell", 5)]) (N := N_law_draws) (sc := defScope s_law_draws) (by decide +kernel)) (by decide) (fun _ _ _ _ _ => pg_name (i := 5) sc_law_draws.nd rfl (by first | exact Or.inl rfl | exact Or.inr rfl) (by first | exact .inl rfl | exact .inr rfl)) (fun _ _ _ _ _ => dts_nil) (fun _ _ _ _ _ => (d_abs T.n_abs (da_cons (d_intc T.n_int (da_cons (dv 5) da_nil)) da_nil))) | exact ds_set (i := 2) sc_law_draws.nd (d_lc [("cell", 5)] rfl sc_law_draws.nd (di_seq (dv 0)) (blkOk_by (own := [("cell", 5)]) (N := N_law_draws) (sc := defScope s_law_draws) (by decide +kernel)) (by decide) (fun _ _ _ _ _ => pg_name (i := 5) sc_law_draws.nd rfl (by first | exact Or.inl rfl | exact Or.inr rfl) (by first | exact .inl rfl | exact .inr rfl)) (fun _ _ _ _ _ => dts_nil) (fun _ _ _ _ _ => (d_abs T.n_abs (da_cons (d_intc T.n_int (da_cons (dv 5) da_nil)) da_nil)))))
    (dss_cons (ds_set (i := 3) sc_law_draws.nd (d_lst da_nil))
    (dss_cons (ds_for rfl (di_rng1 T.n_range (da_cons (dv 1) da_nil)) (dg_name (i := 4) sc_law_draws.nd) (dss_cons (ds_set (i := 5) sc_law_draws.nd (dv 4))
    (dss_cons (ds_if (t_cmp op_gt opl_Gt (d_len T.n_len (da_cons (dv 0) da_nil)) d_int) (dss_cons (ds_set (i := 7) sc_law_draws.nd (d_mod (dv 4) (d_len T.n_len (da_cons (dv 0) da_nil))))
    (dss_cons (ds_set (i := 5) sc_law_draws.nd (d_intc T.n_int (da_cons (d_ix (dv 0) (dv 7)) da_nil)))
    (dss_one (ds_if (t_w (w_and (t_cmp op_ge opl_Ge (dv 5) (d_pow d_int d_int)) (w_one (t_cmp op_gt opl_Gt (d_ix (dv 2) (dv 7)) d_int)))) (dss_cons (ds_expr (d_append (dv 3) (da_cons (d_mod (d_intc T.n_int (da_cons (d_ix (dv 2) (dv 7)) da_nil)) d_int) da_nil)))
    (dss_cons (ds_asg (d_fdiv (d_intc T.n_int (da_cons (d_ix (dv 2) (dv 7)) da_nil)) d_int) (dg_subL (dv 2) (dv 7)))
    (dss_one ds_continue))) dss_nil)))) dss_nil)
    (dss_cons (ds_set (i := 6) sc_law_draws.nd (d_mod (d_intc T.n_int (da_cons (d_add (d_add (d_mul (dv 5) d_int) (d_mul (dv 4) d_int)) d_int) da_nil)) d_int))
    (dss_cons (ds_set (i := 6) sc_law_draws.nd (d_mod (d_intc T.n_int (da_cons (d_add (d_fdiv (d_mul (dv 6) (dv 6)) d_int) (dv 6)) da_nil)) d_int))
    (dss_one (ds_expr (d_append (dv 3) (da_cons (d_mod (d_intc T.n_int (da_cons (d_add (d_fdiv (d_mul (dv 6) (dv 6)) d_int) (d_mul (dv 4) d_int)) da_nil)) d_int) da_nil)))))))))
    (dss_one (ds_ret (dv 3))))))
def t_law_take (G : Gm) : S3 :=
    (s3Seq (s3Asg (e3Op r3Ix (e3Var 0) (e3C (.int 1))) 2)
    (s3Seq (s3AsgG (e3Op r3Add (e3Var 2) (e3C (.int 1))) (g3SubL (e3Var 0) (e3C (.int 1))))
    (s3Seq (s3Asg (e3Op r3Ix (e3Var 0) (e3C (.int 0))) 3)
    (s3Seq (s3If (t3Test (e3Op r3Ge (e3Var 2) (e3CB c3Len (a3Cons (e3Var 3) a3Nil)))) (s3Ret (e3C (.int 0))) s3Nil)
    (s3Ret (e3Op r3Mod (e3Op r3Div (e3CB c3Int (a3Cons (e3Op r3Ix (e3Var 3) (e3Var 2)) a3Nil)) (e3C (.int 7))) (e3Var 1)))))))
theorem der_law_take (T : Txt G mg) (f : Addr) (cdv : Value) (A : Around) (outer : List Env) (s : Shared) (H : Hp) (E : XK) (hr : RoomG 0 (A.deeper (envOfC "_law_take" (defScope s_law_take) s.heap.objs.size f cdv))) :
    DSs (cxOf (L2.CX P w) P w G.K mg base N_law_take "_law_take" (defScope s_law_take) f cdv A outer s H E) (defBody s_law_take) (t_law_take G) :=
    (dss_cons (ds_set (i := 2) sc_law_take.nd (d_ix (dv 0) d_int))
    (dss_cons (ds_asg (d_add (dv 2) d_int) (dg_subL (dv 0) d_int))
    (dss_cons (ds_set (i := 3) sc_law_take.nd (d_ix (dv 0) d_int))
    (dss_cons (ds_if (t_cmp op_ge opl_Ge (dv 2) (d_len T.n_len (da_cons (dv 3) da_nil))) (dss_one (ds_ret d_int)) dss_nil)
    (dss_one (ds_ret (d_mod (d_fdiv (d_intc T.n_int (da_cons (d_ix (dv 3) (dv 2)) da_nil)) d_int) (dv 1))))))))
def t_law_choices (G : Gm) : S3 :=
    (s3Seq (s3Asg (e3Lst (a3Cons (e3Tup a3Nil) a3Nil)) 1)
    (s3Seq (s3For (i3Seq (e3Var 0)) (g3Name 2) (s3Seq (s3Asg (e3Lst a3Nil) 3)
    (s3Seq (s3For (i3Seq (e3Var 1)) (g3Name 4) (s3For (i3Seq (e3Var 2)) (g3Name 5) (s3Expr (e3Bm m3App (e3Var 3) (a3Cons (e3Op r3Add (e3Var 4) (e3Tup (a3Cons (e3Var 5) a3Nil))) a3Nil)))))
    (s3Asg (e3Var 3) 1))))
    (s3Ret (e3Var 1))))
theorem der_law_choices (T : Txt G mg) (f : Addr) (cdv : Value) (A : Around) (outer : List Env) (s : Shared) (H : Hp) (E : XK) (hr : RoomG 0 (A.deeper (envOfC "_law_choices" (defScope s_law_choices) s.heap.objs.size f cdv))) :
    DSs (cxOf (L2.CX P w) P w G.K mg base N_law_choices "_law_choices" (defScope s_law_choices) f cdv A outer s H E) (defBody s_law_choices) (t_law_choices G) :=
    (dss_cons (ds_set (i := 1) sc_law_choices.nd (d_lst (da_cons (d_tup da_nil) da_nil)))
    (dss_cons (ds_for rfl (di_seq (dv 0)) (dg_name (i := 2) sc_law_choices.nd) (dss_cons (ds_set (i := 3) sc_law_choices.nd (d_lst da_nil))
    (dss_cons (ds_for rfl (di_seq (dv 1)) (dg_name (i := 4) sc_law_choices.nd) (dss_one (ds_for rfl (di_seq (dv 2)) (dg_name (i := 5) sc_law_choices.nd) (dss_one (ds_expr (d_append (dv 3) (da_cons (d_add (dv 4) (d_tup (da_cons (dv 5) da_nil))) da_nil)))))))
    (dss_one (ds_set (i := 1) sc_law_choices.nd (dv 3))))))
    (dss_one (ds_ret (dv 1)))))
def t_law_is_choice (G : Gm) : S3 :=
    (s3Seq (s3For (i3Rng1 (a3Cons (e3CB c3Len (a3Cons (e3Var 0) a3Nil)) a3Nil)) (g3Name 2) (s3If (t3Test (e3Op (r3In true) (e3Op r3Ix (e3Var 0) (e3Var 2)) (e3Op r3Ix (e3Var 1) (e3Var 2)))) (s3Ret (e3C (.bl false))) s3Nil))
    (s3Ret (e3C (.bl true))))
theorem der_law_is_choice (T : Txt G mg) (f : Addr) (cdv : Value) (A : Around) (outer : List Env) (s : Shared) (H : Hp) (E : XK) (hr : RoomG 0 (A.deeper (envOfC "_law_is_choice" (defScope s_law_is_choice) s.heap.objs.size f cdv))) :
    DSs (cxOf (L2.CX P w) P w G.K mg base N_law_is_choice "_law_is_choice" (defScope s_law_is_choice) f cdv A outer s H E) (defBody s_law_is_choice) (t_law_is_choice G) :=
    (dss_cons (ds_for rfl (di_rng1 T.n_range (da_cons (d_len T.n_len (da_cons (dv 0) da_nil)) da_nil)) (dg_name (i := 2) sc_law_is_choice.nd) (dss_one (ds_if (t_cmp (ho_notin hr.r) opl_notin (d_ix (dv 0) (dv 2)) (d_ix (dv 1) (dv 2))) (dss_one (ds_ret d_bl)) dss_nil)))
    (dss_one (ds_ret d_bl)))
def t_law_whole (G : Gm) : S3 :=
    (s3Ret (e3And (e3CB c3Isi (a3Cons (e3Var 0) (a3Cons (e3C (.ty "int")) a3Nil))) (e3Not (e3CB c3Isi (a3Cons (e3Var 0) (a3Cons (e3C (.ty "bool")) a3Nil))))))
theorem der_law_whole (T : Txt G mg) (f : Addr) (cdv : Value) (A : Around) (outer : List Env) (s : Shared) (H : Hp) (E : XK) (hr : RoomG 0 (A.deeper (envOfC "_law_whole" (defScope s_law_whole) s.heap.objs.size f cdv))) :
    DSs (cxOf (L2.CX P w) P w G.K mg base N_law_whole "_law_whole" (defScope s_law_whole) f cdv A outer s H E) (defBody s_law_whole) (t_law_whole G) :=
    (dss_one (ds_ret (d_and (d_isi T.n_isinstance (da_cons (dv 0) (da_cons (d_ty (n := "int") rfl T.n_int (by decide +kernel)) da_nil))) (d_one (d_not (d_isi T.n_isinstance (da_cons (dv 0) (da_cons (d_ty (n := "bool") rfl T.n_bool (by decide +kernel)) da_nil))))))))
def t_law_standing (G : Gm) : S3 :=
    (s3Seq (s3Asg (e3Lc (i3Rng1 (a3Cons (e3Var 1) a3Nil)) 5 t3Yes (e3Lst a3Nil) [5]) 2)
    (s3Seq (s3For (i3Seq (e3Var 0)) (g3Name 3) (s3For (i3Seq (e3Var 3)) (g3Name 4) (s3For (i3Rng1 (a3Cons (e3Var 1) a3Nil)) (g3Name 5) (s3If (t3Test (e3Op (r3In true) (e3Op r3Ix (e3Var 4) (e3Var 5)) (e3Op r3Ix (e3Var 2) (e3Var 5)))) (s3Expr (e3Bm m3App (e3Op r3Ix (e3Var 2) (e3Var 5)) (a3Cons (e3Op r3Ix (e3Var 4) (e3Var 5)) a3Nil))) s3Nil))))
    (s3Ret (e3Var 2))))
theorem der_law_standing (T : Txt G mg) (f : Addr) (cdv : Value) (A : Around) (outer : List Env) (s : Shared) (H : Hp) (E : XK) (hr : RoomG 0 (A.deeper (envOfC "_law_standing" (defScope s_law_standing) s.heap.objs.size f cdv))) :
    DSs (cxOf (L2.CX P w) P w G.K mg base N_law_standing "_law_standing" (defScope s_law_standing) f cdv A outer s H E) (defBody s_law_standing) (t_law_standing G) :=
    (dss_cons (by first | exact ds_setLc (j := 2) [("c", 5)] rfl sc_law_standing.nd (di_rng1 T.n_range (da_cons (dv 1) da_nil)) (blkOk_by (own := [("c", 5)]) (N := N_law_standing) (sc := defScope s_law_standing) (by decide +kernel)) (by decide) (fun _ _ _ _ _ => pg_name (i := 5) sc_law_standing.nd rfl (by first | exact Or.inl rfl | exact Or.inr rfl) (by first | exact .inl rfl | exact .inr rfl)) (fun _ _ _ _ _ => dts_nil) (fun _ _ _ _ _ => (d_lst da_nil)) | exact ds_set (i := 2) sc_law_standing.nd (d_lc [("c", 5)] rfl sc_law_standing.nd (di_rng1 T.n_range (da_cons (dv 1) da_nil)) (blkOk_by (own := [("c", 5)]) (N := N_law_standing) (sc := defScope s_law_standing) (by decide +kernel)) (by decide) (fun _ _ _ _ _ => pg_name (i := 5) sc_law_standing.nd rfl (by first | exact Or.inl rfl | exact Or.inr rfl) (by first | exact .inl rfl | exact .inr rfl)) (fun _ _ _ _ _ => dts_nil) (fun _ _ _ _ _ => (d_lst da_nil))))
    (dss_cons (ds_for rfl (di_seq (dv 0)) (dg_name (i := 3) sc_law_standing.nd) (dss_one (ds_for rfl (di_seq (dv 3)) (dg_name (i := 4) sc_law_standing.nd) (dss_one (ds_for rfl (di_rng1 T.n_range (da_cons (dv 1) da_nil)) (dg_name (i := 5) sc_law_standing.nd) (dss_one (ds_if (t_cmp (ho_notin hr.r) opl_notin (d_ix (dv 4) (dv 5)) (d_ix (dv 2) (dv 5))) (dss_one (ds_expr (d_append (d_ix (dv 2) (dv 5)) (da_cons (d_ix (dv 4) (dv 5)) da_nil)))) dss_nil)))))))
    (dss_one (ds_ret (dv 2)))))
def t_law_renumbered (G : Gm) : S3 :=
    (s3Ret (e3TupOf (e3Lc (i3Rng1 (a3Cons (e3CB c3Len (a3Cons (e3Var 0) a3Nil)) a3Nil)) 2 t3Yes (e3Tm m3Tix (e3Op r3Ix (e3Var 1) (e3Var 2)) (a3Cons (e3Op r3Ix (e3Var 0) (e3Var 2)) a3Nil)) [2])))
theorem der_law_renumbered (T : Txt G mg) (f : Addr) (cdv : Value) (A : Around) (outer : List Env) (s : Shared) (H : Hp) (E : XK) (hr : RoomG 0 (A.deeper (envOfC "_law_renumbered" (defScope s_law_renumbered) s.heap.objs.size f cdv))) :
    DSs (cxOf (L2.CX P w) P w G.K mg base N_law_renumbered "_law_renumbered" (defScope s_law_renumbered) f cdv A outer s H E) (defBody s_law_renumbered) (t_law_renumbered G) :=
    (dss_one (ds_ret (d_tuple T.n_tuple (d_lc [("c", 2)] rfl sc_law_renumbered.nd (di_rng1 T.n_range (da_cons (d_len T.n_len (da_cons (dv 0) da_nil)) da_nil)) (blkOk_by (own := [("c", 2)]) (N := N_law_renumbered) (sc := defScope s_law_renumbered) (by decide +kernel)) (by decide) (fun _ _ _ _ _ => pg_name (i := 2) sc_law_renumbered.nd rfl (by first | exact Or.inl rfl | exact Or.inr rfl) (by first | exact .inl rfl | exact .inr rfl)) (fun _ _ _ _ _ => dts_nil) (fun _ _ _ _ _ => (d_tix (d_ix (dv 1) (dv 2)) (da_cons (d_ix (dv 0) (dv 2)) da_nil)))))))
def t_fits_bounds (G : Gm) : S3 :=
    (s3Seq (s3If (t3Not (t3Test (e3CB c3IsiT (a3Cons (e3Var 0) (a3Cons (e3Tup (a3Cons (e3C (.ty "tuple")) (a3Cons (e3C (.ty "list")) a3Nil))) a3Nil))))) (s3Ret (e3C (.bl false))) s3Nil)
    (s3Seq (s3Asg (e3C (.int 1)) 1)
    (s3Seq (s3For (i3Seq (e3Var 0)) (g3Name 2) (s3Seq (s3If (t3Not (t3Test (e3Call (sp_is_number G) (a3Cons (e3Var 2) (a3Cons (e3C (.int 1)) (a3Cons (e3C (.int 60)) a3Nil)))))) (s3Ret (e3C (.bl false))) s3Nil)
    (s3Asg (e3Op r3Mul (e3Var 1) (e3Var 2)) 1)))
    (s3Ret (e3Op r3Le (e3Var 1) (e3C (.int 4000)))))))
theorem der_fits_bounds (T : Txt G mg) {f_is_number : Addr} {fd_is_number : FuncData} (C_is_number : Cal P w G.K mg base 1 f_is_number fd_is_number "is_number" ["value", "least", "most"] (sp_is_number G)) (f : Addr) (cdv : Value) (A : Around) (outer : List Env) (s : Shared) (H : Hp) (E : XK) (hr : RoomG 1 (A.deeper (envOfC "fits_bounds" (defScope s_fits_bounds) s.heap.objs.size f cdv))) :
    DSs (cxOf (L2.CX P w) P w G.K mg base N_fits_bounds "fits_bounds" (defScope s_fits_bounds) f cdv A outer s H E) (defBody s_fits_bounds) (t_fits_bounds G) :=
    (dss_cons (ds_if (t_not (t_val (d_isiT T.n_isinstance (da_cons (dv 0) (da_cons (d_tup (da_cons (d_ty (n := "tuple") rfl T.n_tuple (by decide +kernel)) (da_cons (d_ty (n := "list") rfl T.n_list (by decide +kernel)) da_nil))) da_nil))))) (dss_one (ds_ret d_bl)) dss_nil)
    (dss_cons (ds_set (i := 1) sc_fits_bounds.nd d_int)
    (dss_cons (ds_for rfl (di_seq (dv 0)) (dg_name (i := 2) sc_fits_bounds.nd) (dss_cons (ds_if (t_not (t_val (d_callC C_is_number hr (da_cons (dv 2) (da_cons d_int (da_cons (d_cst T.c_MOST_LABELS) da_nil)))))) (dss_one (ds_ret d_bl)) dss_nil)
    (dss_one (ds_set (i := 1) sc_fits_bounds.nd (d_mul (dv 1) (dv 2))))))
    (dss_one (ds_ret (d_cmp op_le opl_Le (dv 1) (d_cst T.c_MOST_PRODUCT)))))))
def t_fits_labels (G : Gm) : S3 :=
    (s3Seq (s3If (t3Or (t3Not (t3Test (e3CB c3Isi (a3Cons (e3Var 0) (a3Cons (e3C (.ty "tuple")) a3Nil))))) (t3Test (e3Op r3Ne (e3CB c3Len (a3Cons (e3Var 0) a3Nil)) (e3CB c3Len (a3Cons (e3Var 1) a3Nil))))) (s3Ret (e3C (.bl false))) s3Nil)
    (s3Seq (s3For (i3Zip (a3Cons (e3Var 0) (a3Cons (e3Var 1) a3Nil))) (g3Tup 2 (g3sCons (g3Name 2) (g3sCons (g3Name 3) g3sNil))) (s3If (t3Not (t3Test (e3Call (sp_is_number G) (a3Cons (e3Var 2) (a3Cons (e3C (.int 0)) (a3Cons (e3Op r3Sub (e3Var 3) (e3C (.int 1))) a3Nil)))))) (s3Ret (e3C (.bl false))) s3Nil))
    (s3Ret (e3C (.bl true)))))
theorem der_fits_labels (T : Txt G mg) {f_is_number : Addr} {fd_is_number : FuncData} (C_is_number : Cal P w G.K mg base 1 f_is_number fd_is_number "is_number" ["value", "least", "most"] (sp_is_number G)) (f : Addr) (cdv : Value) (A : Around) (outer : List Env) (s : Shared) (H : Hp) (E : XK) (hr : RoomG 1 (A.deeper (envOfC "fits_labels" (defScope s_fits_labels) s.heap.objs.size f cdv))) :
    DSs (cxOf (L2.CX P w) P w G.K mg base N_fits_labels "fits_labels" (defScope s_fits_labels) f cdv A outer s H E) (defBody s_fits_labels) (t_fits_labels G) :=
    (dss_cons (ds_if (t_w (w_or (t_not (t_val (d_isi T.n_isinstance (da_cons (dv 0) (da_cons (d_ty (n := "tuple") rfl T.n_tuple (by decide +kernel)) da_nil))))) (w_one (t_cmp (ho_ne hr.r) opl_ne (d_len T.n_len (da_cons (dv 0) da_nil)) (d_len T.n_len (da_cons (dv 1) da_nil)))))) (dss_one (ds_ret d_bl)) dss_nil)
    (dss_cons (ds_for rfl (di_zip T.n_zip (da_cons (dv 0) (da_cons (dv 1) da_nil))) (dg_tup rfl (dgs_cons (dg_name (i := 2) sc_fits_labels.nd) (dgs_cons (dg_name (i := 3) sc_fits_labels.nd) dgs_nil))) (dss_one (ds_if (t_not (t_val (d_callC C_is_number hr (da_cons (dv 2) (da_cons d_int (da_cons (d_sub (dv 3) d_int) da_nil)))))) (dss_one (ds_ret d_bl)) dss_nil)))
    (dss_one (ds_ret d_bl))))
def t_struck (G : Gm) : S3 :=
    (s3Seq (s3Asg (e3Lst (a3Cons (e3Op r3Ix (e3Var 0) (e3C (.int 3))) (a3Cons (e3Op r3Ix (e3Var 0) (e3C (.int 4))) a3Nil))) 1)
    (s3Seq (s3Asg (e3C (.bl true)) 2)
    (s3Seq (s3While (t3Test (e3Var 2)) (s3Seq (s3Asg (e3C (.bl false)) 2)
    (s3For (i3Seq (e3Tup (a3Cons (e3C (.int 0)) (a3Cons (e3C (.int 1)) a3Nil)))) (g3Name 3) (s3Seq (s3Asg (e3Lc (i3Rng1 (a3Cons (e3Op r3Ix (e3Var 0) (e3C (.int 1))) a3Nil)) 7 t3Yes (e3Call (sp_labels_at G) (a3Cons (e3Op r3Ix (e3Var 1) (e3Op r3Sub (e3C (.int 1)) (e3Var 3))) (a3Cons (e3Var 7) a3Nil))) [7]) 4)
    (s3Seq (s3Asg (e3Lst a3Nil) 5)
    (s3Seq (s3For (i3Seq (e3Op r3Ix (e3Var 1) (e3Var 3))) (g3Name 6) (s3Expr (e3Bm m3App (e3Var 5) (a3Cons (e3TupOf (e3Lc (i3Seq (e3Var 6)) 8 (t3Test (e3CB c3All (a3Cons (e3LcP (i3ZipX (a3Cons (e3Var 8) (a3Cons (e3Var 4) a3Nil))) 9 10 t3Yes (e3Op (r3InD false) (e3Var 9) (e3Var 10)) [9, 10]) a3Nil))) (e3Var 8) [8])) a3Nil))))
    (s3If (t3Test (e3Op r3Ne (e3TupOf (e3Var 5)) (e3Op r3Ix (e3Var 1) (e3Var 3)))) (s3Seq (s3AsgG (e3TupOf (e3Var 5)) (g3SubL (e3Var 1) (e3Var 3)))
    (s3Asg (e3C (.bl true)) 2)) s3Nil)))))))
    (s3Ret (e3Var 1)))))
theorem der_struck (T : Txt G mg) {f_labels_at : Addr} {fd_labels_at : FuncData} (C_labels_at : Cal P w G.K mg base 1 f_labels_at fd_labels_at "labels_at" ["rows", "at"] (sp_labels_at G)) (f : Addr) (cdv : Value) (A : Around) (outer : List Env) (s : Shared) (H : Hp) (E : XK) (hr : RoomG 1 (A.deeper (envOfC "struck" (defScope s_struck) s.heap.objs.size f cdv))) :
    DSs (cxOf (L2.CX P w) P w G.K mg base N_struck "struck" (defScope s_struck) f cdv A outer s H E) (defBody s_struck) (t_struck G) :=
    (dss_cons (ds_set (i := 1) sc_struck.nd (d_lst (da_cons (d_ix (dv 0) d_int) (da_cons (d_ix (dv 0) d_int) da_nil))))
    (dss_cons (ds_set (i := 2) sc_struck.nd d_bl)
    (dss_cons (ds_while (t_val (dv 2)) (dss_cons (ds_set (i := 2) sc_struck.nd d_bl)
    (dss_one (ds_for rfl (di_seq (d_tup (da_cons d_int (da_cons d_int da_nil)))) (dg_name (i := 3) sc_struck.nd) (dss_cons (by first | exact ds_setLc (j := 4) [("at", 7)] rfl sc_struck.nd (di_rng1 T.n_range (da_cons (d_ix (dv 0) d_int) da_nil)) (blkOk_by (own := [("at", 7)]) (N := N_struck) (sc := defScope s_struck) (by decide +kernel)) (by decide) (fun _ _ _ _ _ => pg_name (i := 7) sc_struck.nd rfl (by first | exact Or.inl rfl | exact Or.inr rfl) (by first | exact .inl rfl | exact .inr rfl)) (fun _ _ _ _ _ => dts_nil) (fun _ _ _ _ _ => (d_callC C_labels_at hr (da_cons (d_ix (dv 1) (d_sub d_int (dv 3))) (da_cons (dv 7) da_nil)))) | exact ds_set (i := 4) sc_struck.nd (d_lc [("at", 7)] rfl sc_struck.nd (di_rng1 T.n_range (da_cons (d_ix (dv 0) d_int) da_nil)) (blkOk_by (own := [("at", 7)]) (N := N_struck) (sc := defScope s_struck) (by decide +kernel)) (by decide) (fun _ _ _ _ _ => pg_name (i := 7) sc_struck.nd rfl (by first | exact Or.inl rfl | exact Or.inr rfl) (by first | exact .inl rfl | exact .inr rfl)) (fun _ _ _ _ _ => dts_nil) (fun _ _ _ _ _ => (d_callC C_labels_at hr (da_cons (d_ix (dv 1) (d_sub d_int (dv 3))) (da_cons (dv 7) da_nil))))))
    (dss_cons (ds_set (i := 5) sc_struck.nd (d_lst da_nil))
    (dss_cons (ds_for rfl (di_seq (d_ix (dv 1) (dv 3))) (dg_name (i := 6) sc_struck.nd) (dss_one (ds_expr (d_append (dv 5) (da_cons (d_tuple T.n_tuple (d_lc [("row", 8)] rfl sc_struck.nd (di_seq (dv 6)) (blkOk_by (own := [("row", 8)]) (N := N_struck) (sc := defScope s_struck) (by decide +kernel)) (by decide) (fun _ _ _ _ _ => pg_name (i := 8) sc_struck.nd rfl (by first | exact Or.inl rfl | exact Or.inr rfl) (by first | exact .inl rfl | exact .inr rfl)) (fun _ _ _ _ _ => (dts_one (t_val (d_all rfl T.n_all (da_cons (d_lcP [("one", 9), ("labels", 10)] rfl sc_struck.nd (di_zipX T.n_zip (da_cons (dv 8) (da_cons (dv 4) da_nil))) (blkOk_by (own := [("one", 9), ("labels", 10)]) (N := N_struck) (by rfl)) (by decide) (by decide) (fun _ _ _ _ _ => pg_tup rfl (pgs_cons (pg_name (i := 9) sc_struck.nd rfl (by first | exact Or.inl rfl | exact Or.inr rfl) (by first | exact .inl rfl | exact .inr rfl)) (pgs_cons (pg_name (i := 10) sc_struck.nd rfl (by first | exact Or.inl rfl | exact Or.inr rfl) (by first | exact .inl rfl | exact .inr rfl)) pgs_nil))) (fun _ _ _ _ _ => dts_nil) (fun _ _ _ _ _ => (d_cmp (ho_inD hr.r) opl_inD (dv 9) (dv 10)))) da_nil))))) (fun _ _ _ _ _ => (dv 8)))) da_nil)))))
    (dss_one (ds_if (t_cmp (ho_ne hr.r) opl_ne (d_tuple T.n_tuple (dv 5)) (d_ix (dv 1) (dv 3))) (dss_cons (ds_asg (d_tuple T.n_tuple (dv 5)) (dg_subL (dv 1) (dv 3)))
    (dss_one (ds_set (i := 2) sc_struck.nd d_bl))) dss_nil)))))))))
    (dss_one (ds_ret (dv 1))))))
def t_law_rows (G : Gm) : S3 :=
    (s3Seq (s3Asg (e3Call (sp_law_choices G) (a3Cons (e3Lc (i3Seq (e3Var 1)) 4 t3Yes (e3LstRg1 (e3Var 4)) [4]) a3Nil)) 3)
    (s3Ret (e3TupOf (e3Lc (i3Seq (e3Var 3)) 5 (t3Test (e3Op r3Lt (e3Call (sp_law_take G) (a3Cons (e3Var 0) (a3Cons (e3C (.int 4)) a3Nil))) (e3Var 2))) (e3Var 5) [5]))))
theorem der_law_rows (T : Txt G mg) {f_law_choices : Addr} {fd_law_choices : FuncData} (C_law_choices : Cal P w G.K mg base 1 f_law_choices fd_law_choices "_law_choices" ["lists"] (sp_law_choices G)) {f_law_take : Addr} {fd_law_take : FuncData} (C_law_take : Cal P w G.K mg base 1 f_law_take fd_law_take "_law_take" ["hand", "many"] (sp_law_take G)) (f : Addr) (cdv : Value) (A : Around) (outer : List Env) (s : Shared) (H : Hp) (E : XK) (hr : RoomG 1 (A.deeper (envOfC "_law_rows" (defScope s_law_rows) s.heap.objs.size f cdv))) :
    DSs (cxOf (L2.CX P w) P w G.K mg base N_law_rows "_law_rows" (defScope s_law_rows) f cdv A outer s H E) (defBody s_law_rows) (t_law_rows G) :=
    (dss_cons (ds_set (i := 3) sc_law_rows.nd (d_callC C_law_choices hr (da_cons (d_lc [("many", 4)] rfl sc_law_rows.nd (di_seq (dv 1)) (blkOk_by (own := [("many", 4)]) (N := N_law_rows) (sc := defScope s_law_rows) (by decide +kernel)) (by decide) (fun _ _ _ _ _ => pg_name (i := 4) sc_law_rows.nd rfl (by first | exact Or.inl rfl | exact Or.inr rfl) (by first | exact .inl rfl | exact .inr rfl)) (fun _ _ _ _ _ => dts_nil) (fun _ _ _ _ _ => (d_listRg1 rfl T.n_list T.n_range (dv 4)))) da_nil)))
    (dss_one (ds_ret (d_tuple T.n_tuple (d_lc [("row", 5)] rfl sc_law_rows.nd (di_seq (dv 3)) (blkOk_by (own := [("row", 5)]) (N := N_law_rows) (sc := defScope s_law_rows) (by decide +kernel)) (by decide) (fun _ _ _ _ _ => pg_name (i := 5) sc_law_rows.nd rfl (by first | exact Or.inl rfl | exact Or.inr rfl) (by first | exact .inl rfl | exact .inr rfl)) (fun _ _ _ _ _ => (dts_one (t_cmp op_lt opl_Lt (d_callC C_law_take hr (da_cons (dv 0) (da_cons d_int da_nil))) (dv 2)))) (fun _ _ _ _ _ => (dv 5)))))))
def t_law_shape (G : Gm) : S3 :=
    (s3Seq (s3Asg (e3Op r3Add (e3C (.int 2)) (e3CB c3Int (a3Cons (e3Op r3Eq (e3Call (sp_law_take G) (a3Cons (e3Var 0) (a3Cons (e3C (.int 4)) a3Nil))) (e3C (.int 0))) a3Nil))) 1)
    (s3Seq (s3Asg (e3Tup (a3Cons (e3C (.int 1)) (a3Cons (e3C (.int 2)) (a3Cons (e3C (.int 2)) (a3Cons (e3C (.int 3)) (a3Cons (e3C (.int 3)) a3Nil)))))) 2)
    (s3Seq (s3If (t3Test (e3Op r3Eq (e3Var 1) (e3C (.int 3)))) (s3Asg (e3Tup (a3Cons (e3C (.int 1)) (a3Cons (e3C (.int 2)) (a3Cons (e3C (.int 2)) (a3Cons (e3C (.int 2)) (a3Cons (e3C (.int 2)) a3Nil)))))) 2) s3Nil)
    (s3Seq (s3Asg (e3TupOf (e3Lc (i3Rng1 (a3Cons (e3Var 1) a3Nil)) 6 t3Yes (e3Op r3Ix (e3Var 2) (e3Call (sp_law_take G) (a3Cons (e3Var 0) (a3Cons (e3C (.int 5)) a3Nil)))) [6])) 3)
    (s3Seq (s3Asg (e3Op r3Add (e3C (.int 1)) (e3Call (sp_law_take G) (a3Cons (e3Var 0) (a3Cons (e3C (.int 2)) a3Nil)))) 4)
    (s3Seq (s3Asg (e3Op r3Add (e3C (.int 1)) (e3Call (sp_law_take G) (a3Cons (e3Var 0) (a3Cons (e3C (.int 2)) a3Nil)))) 5)
    (s3Seq (s3If (t3And (t3Test (e3Op r3Eq (e3Var 1) (e3C (.int 3)))) (t3Test (e3Op r3Eq (e3Op r3Add (e3Var 4) (e3Var 5)) (e3C (.int 4))))) (s3Asg (e3C (.int 1)) 5) s3Nil)
    (s3Ret (e3Tup (a3Cons (e3Var 1) (a3Cons (e3Var 4) (a3Cons (e3Var 5) (a3Cons (e3Var 3) a3Nil)))))))))))))
theorem der_law_shape (T : Txt G mg) {f_law_take : Addr} {fd_law_take : FuncData} (C_law_take : Cal P w G.K mg base 1 f_law_take fd_law_take "_law_take" ["hand", "many"] (sp_law_take G)) (f : Addr) (cdv : Value) (A : Around) (outer : List Env) (s : Shared) (H : Hp) (E : XK) (hr : RoomG 1 (A.deeper (envOfC "_law_shape" (defScope s_law_shape) s.heap.objs.size f cdv))) :
    DSs (cxOf (L2.CX P w) P w G.K mg base N_law_shape "_law_shape" (defScope s_law_shape) f cdv A outer s H E) (defBody s_law_shape) (t_law_shape G) :=
    (dss_cons (ds_set (i := 1) sc_law_shape.nd (d_add d_int (d_intc T.n_int (da_cons (d_cmp (ho_eq hr.r) opl_eq (d_callC C_law_take hr (da_cons (dv 0) (da_cons d_int da_nil))) d_int) da_nil))))
    (dss_cons (ds_set (i := 2) sc_law_shape.nd (d_tup (da_cons d_int (da_cons d_int (da_cons d_int (da_cons d_int (da_cons d_int da_nil)))))))
    (dss_cons (ds_if (t_cmp (ho_eq hr.r) opl_eq (dv 1) d_int) (dss_one (ds_set (i := 2) sc_law_shape.nd (d_tup (da_cons d_int (da_cons d_int (da_cons d_int (da_cons d_int (da_cons d_int da_nil)))))))) dss_nil)
    (dss_cons (ds_set (i := 3) sc_law_shape.nd (d_tuple T.n_tuple (d_lc [("c", 6)] rfl sc_law_shape.nd (di_rng1 T.n_range (da_cons (dv 1) da_nil)) (blkOk_by (own := [("c", 6)]) (N := N_law_shape) (sc := defScope s_law_shape) (by decide +kernel)) (by decide) (fun _ _ _ _ _ => pg_name (i := 6) sc_law_shape.nd rfl (by first | exact Or.inl rfl | exact Or.inr rfl) (by first | exact .inl rfl | exact .inr rfl)) (fun _ _ _ _ _ => dts_nil) (fun _ _ _ _ _ => (d_ix (dv 2) (d_callC C_law_take hr (da_cons (dv 0) (da_cons d_int da_nil))))))))
    (dss_cons (ds_set (i := 4) sc_law_shape.nd (d_add d_int (d_callC C_law_take hr (da_cons (dv 0) (da_cons d_int da_nil)))))
    (dss_cons (ds_set (i := 5) sc_law_shape.nd (d_add d_int (d_callC C_law_take hr (da_cons (dv 0) (da_cons d_int da_nil)))))
    (dss_cons (ds_if (t_w (w_and (t_cmp (ho_eq hr.r) opl_eq (dv 1) d_int) (w_one (t_cmp (ho_eq hr.r) opl_eq (d_add (dv 4) (dv 5)) d_int)))) (dss_one (ds_set (i := 5) sc_law_shape.nd d_int)) dss_nil)
    (dss_one (ds_ret (d_tup (da_cons (dv 1) (da_cons (dv 4) (da_cons (dv 5) (da_cons (dv 3) da_nil))))))))))))))
def t_law_wrong_task (G : Gm) : S3 :=
    (s3Seq (s3Asg (e3Op r3MulT (e3Tup (a3Cons (e3C (.int 0)) a3Nil)) (e3Op r3Ix (e3Var 1) (e3C (.int 1)))) 2)
    (s3Seq (s3Asg (e3Op r3Add (e3Tup (a3Cons (e3Op r3Ix (e3Op r3Ix (e3Var 1) (e3C (.int 2))) (e3C (.int 0))) a3Nil)) (e3Sl (e3Var 2) (o3Some (e3C (.int 1))) o3None)) 3)
    (s3Seq (s3Asg (e3Lst (a3Cons (e3CB c3List (a3Cons (e3Var 1) a3Nil)) (a3Cons (e3Sl (e3Var 1) o3None (o3Some (e3C (.int 4)))) (a3Cons (e3Op r3Add (e3Var 1) (e3Tup (a3Cons (e3C (.int 0)) a3Nil))) (a3Cons (e3Op r3Add (e3Tup (a3Cons (e3C (.str "Task")) a3Nil)) (e3Sl (e3Var 1) (o3Some (e3C (.int 1))) o3None)) (a3Cons (e3Op r3Add (e3Tup (a3Cons (e3C (.str "task")) (a3Cons (e3C (.int 5)) a3Nil))) (e3Sl (e3Var 1) (o3Some (e3C (.int 2))) o3None)) (a3Cons (e3Op r3Add (e3Tup (a3Cons (e3C (.str "task")) (a3Cons (e3C (.bl true)) a3Nil))) (e3Sl (e3Var 1) (o3Some (e3C (.int 2))) o3None)) a3Nil))))))) 4)
    (s3Seq (s3For (i3Seq (e3Tup (a3Cons (e3Op r3Add (e3Op r3Ix (e3Var 1) (e3C (.int 2))) (e3Tup (a3Cons (e3C (.int 2)) a3Nil))) (a3Cons (e3CB c3List (a3Cons (e3Op r3Ix (e3Var 1) (e3C (.int 2))) a3Nil)) (a3Cons (e3Op r3Add (e3Tup (a3Cons (e3C (.int 0)) a3Nil)) (e3Sl (e3Op r3Ix (e3Var 1) (e3C (.int 2))) (o3Some (e3C (.int 1))) o3None)) (a3Cons (e3Op r3Add (e3Tup (a3Cons (e3C (.int 61)) a3Nil)) (e3Sl (e3Op r3Ix (e3Var 1) (e3C (.int 2))) (o3Some (e3C (.int 1))) o3None)) (a3Cons (e3Op r3Add (e3Tup (a3Cons (e3C (.bl true)) a3Nil)) (e3Sl (e3Op r3Ix (e3Var 1) (e3C (.int 2))) (o3Some (e3C (.int 1))) o3None)) a3Nil))))))) (g3Name 5) (s3Expr (e3Bm m3App (e3Var 4) (a3Cons (e3Tup (a3Cons (e3C (.str "task")) (a3Cons (e3Op r3Ix (e3Var 1) (e3C (.int 1))) (a3Cons (e3Var 5) (a3Cons (e3Op r3Ix (e3Var 1) (e3C (.int 3))) (a3Cons (e3Op r3Ix (e3Var 1) (e3C (.int 4))) a3Nil)))))) a3Nil))))
    (s3Seq (s3For (i3Seq (e3Tup (a3Cons (e3Tup a3Nil) (a3Cons (e3Op r3MulT (e3Op r3Ix (e3Var 1) (e3C (.int 3))) (e3C (.int 5))) (a3Cons (e3CB c3List (a3Cons (e3Op r3Ix (e3Var 1) (e3C (.int 3))) a3Nil)) a3Nil))))) (g3Name 6) (s3Seq (s3Expr (e3Bm m3App (e3Var 4) (a3Cons (e3Op r3Add (e3Sl (e3Var 1) o3None (o3Some (e3C (.int 3)))) (e3Tup (a3Cons (e3Var 6) (a3Cons (e3Op r3Ix (e3Var 1) (e3C (.int 4))) a3Nil)))) a3Nil)))
    (s3Expr (e3Bm m3App (e3Var 4) (a3Cons (e3Op r3Add (e3Sl (e3Var 1) o3None (o3Some (e3C (.int 3)))) (e3Tup (a3Cons (e3Op r3Ix (e3Var 1) (e3C (.int 3))) (a3Cons (e3Var 6) a3Nil)))) a3Nil)))))
    (s3Seq (s3For (i3Seq (e3Tup (a3Cons (e3Tup (a3Cons (e3Var 2) (a3Cons (e3Var 2) a3Nil))) (a3Cons (e3Tup (a3Cons (e3Var 3) a3Nil)) (a3Cons (e3Tup (a3Cons (e3Sl (e3Var 2) (o3Some (e3C (.int 1))) o3None) a3Nil)) (a3Cons (e3Lst (a3Cons (e3Var 2) a3Nil)) (a3Cons (e3Tup (a3Cons (e3CB c3List (a3Cons (e3Var 2) a3Nil)) a3Nil)) (a3Cons (e3Tup (a3Cons (e3Op r3Add (e3Tup (a3Cons (e3C (.bl false)) a3Nil)) (e3Sl (e3Var 2) (o3Some (e3C (.int 1))) o3None)) a3Nil)) (a3Cons (e3Tup (a3Cons (e3Op r3Add (e3Tup (a3Cons (e3Neg (e3C (.int 1))) a3Nil)) (e3Sl (e3Var 2) (o3Some (e3C (.int 1))) o3None)) a3Nil)) (a3Cons (e3C .non) a3Nil)))))))))) (g3Name 7) (s3Seq (s3Expr (e3Bm m3App (e3Var 4) (a3Cons (e3Op r3Add (e3Sl (e3Var 1) o3None (o3Some (e3C (.int 3)))) (e3Tup (a3Cons (e3Op r3Add (e3Tup (a3Cons (e3Var 7) a3Nil)) (e3Sl (e3Op r3Ix (e3Var 1) (e3C (.int 3))) (o3Some (e3C (.int 1))) o3None)) (a3Cons (e3Op r3Ix (e3Var 1) (e3C (.int 4))) a3Nil)))) a3Nil)))
    (s3Expr (e3Bm m3App (e3Var 4) (a3Cons (e3Op r3Add (e3Sl (e3Var 1) o3None (o3Some (e3C (.int 4)))) (e3Tup (a3Cons (e3Op r3Add (e3Sl (e3Op r3Ix (e3Var 1) (e3C (.int 4))) o3None (o3Some (e3Neg (e3C (.int 1))))) (e3Tup (a3Cons (e3Var 7) a3Nil))) a3Nil))) a3Nil)))))
    (s3Seq (s3Asg (e3Op r3Add (e3Var 4) (e3Lst (a3Cons (e3C .non) (a3Cons (e3C (.int 7)) (a3Cons (e3C (.str "task")) (a3Cons (e3Tup a3Nil) (a3Cons (e3C (.bl true)) a3Nil))))))) 4)
    (s3Ret (e3Op r3Ix (e3Var 4) (e3Call (sp_law_take G) (a3Cons (e3Var 0) (a3Cons (e3CB c3Len (a3Cons (e3Var 4) a3Nil)) a3Nil))))))))))))
theorem der_law_wrong_task (T : Txt G mg) {f_law_take : Addr} {fd_law_take : FuncData} (C_law_take : Cal P w G.K mg base 1 f_law_take fd_law_take "_law_take" ["hand", "many"] (sp_law_take G)) (f : Addr) (cdv : Value) (A : Around) (outer : List Env) (s : Shared) (H : Hp) (E : XK) (hr : RoomG 1 (A.deeper (envOfC "_law_wrong_task" (defScope s_law_wrong_task) s.heap.objs.size f cdv))) :
    DSs (cxOf (L2.CX P w) P w G.K mg base N_law_wrong_task "_law_wrong_task" (defScope s_law_wrong_task) f cdv A outer s H E) (defBody s_law_wrong_task) (t_law_wrong_task G) :=
    (dss_cons (ds_set (i := 2) sc_law_wrong_task.nd (d_mulT (d_tup (da_cons d_int da_nil)) (d_ix (dv 1) d_int)))
    (dss_cons (ds_set (i := 3) sc_law_wrong_task.nd (d_add (d_tup (da_cons (d_ix (d_ix (dv 1) d_int) d_int) da_nil)) (d_sl (dv 2) (do_some d_int) do_none)))
    (dss_cons (ds_set (i := 4) sc_law_wrong_task.nd (d_lst (da_cons (d_list T.n_list (da_cons (dv 1) da_nil)) (da_cons (d_sl (dv 1) do_none (do_some d_int)) (da_cons (d_add (dv 1) (d_tup (da_cons d_int da_nil))) (da_cons (d_add (d_tup (da_cons d_str da_nil)) (d_sl (dv 1) (do_some d_int) do_none)) (da_cons (d_add (d_tup (da_cons d_str (da_cons d_int da_nil))) (d_sl (dv 1) (do_some d_int) do_none)) (da_cons (d_add (d_tup (da_cons d_str (da_cons d_bl da_nil))) (d_sl (dv 1) (do_some d_int) do_none)) da_nil))))))))
    (dss_cons (ds_for rfl (di_seq (d_tup (da_cons (d_add (d_ix (dv 1) d_int) (d_tup (da_cons d_int da_nil))) (da_cons (d_list T.n_list (da_cons (d_ix (dv 1) d_int) da_nil)) (da_cons (d_add (d_tup (da_cons d_int da_nil)) (d_sl (d_ix (dv 1) d_int) (do_some d_int) do_none)) (da_cons (d_add (d_tup (da_cons d_int da_nil)) (d_sl (d_ix (dv 1) d_int) (do_some d_int) do_none)) (da_cons (d_add (d_tup (da_cons d_bl da_nil)) (d_sl (d_ix (dv 1) d_int) (do_some d_int) do_none)) da_nil))))))) (dg_name (i := 5) sc_law_wrong_task.nd) (dss_one (ds_expr (d_append (dv 4) (da_cons (d_tup (da_cons d_str (da_cons (d_ix (dv 1) d_int) (da_cons (dv 5) (da_cons (d_ix (dv 1) d_int) (da_cons (d_ix (dv 1) d_int) da_nil)))))) da_nil)))))
    (dss_cons (ds_for rfl (di_seq (d_tup (da_cons (d_tup da_nil) (da_cons (d_mulT (d_ix (dv 1) d_int) d_int) (da_cons (d_list T.n_list (da_cons (d_ix (dv 1) d_int) da_nil)) da_nil))))) (dg_name (i := 6) sc_law_wrong_task.nd) (dss_cons (ds_expr (d_append (dv 4) (da_cons (d_add (d_sl (dv 1) do_none (do_some d_int)) (d_tup (da_cons (dv 6) (da_cons (d_ix (dv 1) d_int) da_nil)))) da_nil)))
    (dss_one (ds_expr (d_append (dv 4) (da_cons (d_add (d_sl (dv 1) do_none (do_some d_int)) (d_tup (da_cons (d_ix (dv 1) d_int) (da_cons (dv 6) da_nil)))) da_nil))))))
    (dss_cons (ds_for rfl (di_seq (d_tup (da_cons (d_tup (da_cons (dv 2) (da_cons (dv 2) da_nil))) (da_cons (d_tup (da_cons (dv 3) da_nil)) (da_cons (d_tup (da_cons (d_sl (dv 2) (do_some d_int) do_none) da_nil)) (da_cons (d_lst (da_cons (dv 2) da_nil)) (da_cons (d_tup (da_cons (d_list T.n_list (da_cons (dv 2) da_nil)) da_nil)) (da_cons (d_tup (da_cons (d_add (d_tup (da_cons d_bl da_nil)) (d_sl (dv 2) (do_some d_int) do_none)) da_nil)) (da_cons (d_tup (da_cons (d_add (d_tup (da_cons (d_neg d_int) da_nil)) (d_sl (dv 2) (do_some d_int) do_none)) da_nil)) (da_cons d_non da_nil)))))))))) (dg_name (i := 7) sc_law_wrong_task.nd) (dss_cons (ds_expr (d_append (dv 4) (da_cons (d_add (d_sl (dv 1) do_none (do_some d_int)) (d_tup (da_cons (d_add (d_tup (da_cons (dv 7) da_nil)) (d_sl (d_ix (dv 1) d_int) (do_some d_int) do_none)) (da_cons (d_ix (dv 1) d_int) da_nil)))) da_nil)))
    (dss_one (ds_expr (d_append (dv 4) (da_cons (d_add (d_sl (dv 1) do_none (do_some d_int)) (d_tup (da_cons (d_add (d_sl (d_ix (dv 1) d_int) do_none (do_some (d_neg d_int))) (d_tup (da_cons (dv 7) da_nil))) da_nil))) da_nil))))))
    (dss_cons (ds_set (i := 4) sc_law_wrong_task.nd (d_add (dv 4) (d_lst (da_cons d_non (da_cons d_int (da_cons d_str (da_cons (d_tup da_nil) (da_cons d_bl da_nil))))))))
    (dss_one (ds_ret (d_ix (dv 4) (d_callC C_law_take hr (da_cons (dv 0) (da_cons (d_len T.n_len (da_cons (dv 4) da_nil)) da_nil)))))))))))))
def t_law_tidied (G : Gm) : S3 :=
    (s3Seq (s3Asg (e3Lc (i3Seq (e3Op r3Ix (e3Var 0) (e3C (.int 3)))) 11 t3Yes (e3CB c3List (a3Cons (e3Var 11) a3Nil)) [11]) 1)
    (s3Seq (s3Asg (e3Lc (i3Seq (e3Op r3Ix (e3Var 0) (e3C (.int 4)))) 11 t3Yes (e3CB c3List (a3Cons (e3Var 11) a3Nil)) [11]) 2)
    (s3Seq (s3For (i3Rng1 (a3Cons (e3Op r3Add (e3C (.int 1)) (e3CB c3Sum (a3Cons (e3Lc (i3Seq (e3Op r3Add (e3Var 1) (e3Var 2))) 11 t3Yes (e3CB c3Len (a3Cons (e3Var 11) a3Nil)) [11]) a3Nil))) a3Nil)) (g3Name 3) (s3Seq (s3Asg (e3Tup (a3Cons (e3Var 1) (a3Cons (e3Var 2) a3Nil))) 8)
    (s3Seq (s3Asg (e3Call (sp_law_standing G) (a3Cons (e3Var 1) (a3Cons (e3Op r3Ix (e3Var 0) (e3C (.int 1))) a3Nil))) 9)
    (s3Seq (s3Asg (e3Call (sp_law_standing G) (a3Cons (e3Var 2) (a3Cons (e3Op r3Ix (e3Var 0) (e3C (.int 1))) a3Nil))) 10)
    (s3Seq (s3Asg (e3Lc (i3Seq (e3Var 1)) 11 t3Yes (e3Lc (i3Seq (e3Var 11)) 12 (t3Test (e3Call (sp_law_is_choice G) (a3Cons (e3Var 12) (a3Cons (e3Var 10) a3Nil)))) (e3Var 12) [12]) [11]) 1)
    (s3Seq (s3Asg (e3Lc (i3Seq (e3Var 2)) 11 t3Yes (e3Lc (i3Seq (e3Var 11)) 12 (t3Test (e3Call (sp_law_is_choice G) (a3Cons (e3Var 12) (a3Cons (e3Var 9) a3Nil)))) (e3Var 12) [12]) [11]) 2)
    (s3If (t3Test (e3Op r3Eq (e3Var 8) (e3Tup (a3Cons (e3Var 1) (a3Cons (e3Var 2) a3Nil))))) s3Brk s3Nil)))))))
    (s3Seq (s3Asg (e3Lst a3Nil) 4)
    (s3Seq (s3For (i3Seq (e3Call (sp_law_standing G) (a3Cons (e3Var 1) (a3Cons (e3Op r3Ix (e3Var 0) (e3C (.int 1))) a3Nil)))) (g3Name 5) (s3Expr (e3Bm m3App (e3Var 4) (a3Cons (e3TupOf (e3CB c3Sorted (a3Cons (e3Op r3Add (e3Lc (i3Seq (e3Var 5)) 13 t3Yes (e3CB c3Int (a3Cons (e3Var 13) a3Nil)) [13]) (e3Op r3Mul (e3Lst (a3Cons (e3C (.int 0)) a3Nil)) (e3CB c3Int (a3Cons (e3Op r3Eq (e3CB c3Len (a3Cons (e3Var 5) a3Nil)) (e3C (.int 0))) a3Nil)))) a3Nil))) a3Nil))))
    (s3Seq (s3Asg (e3Lst a3Nil) 6)
    (s3Seq (s3For (i3Seq (e3Tup (a3Cons (e3Var 1) (a3Cons (e3Var 2) a3Nil)))) (g3Name 7) (s3Expr (e3Bm m3App (e3Var 6) (a3Cons (e3TupOf (e3Lc (i3Seq (e3Var 7)) 11 t3Yes (e3TupOf (e3Lc (i3Seq (e3Var 11)) 12 t3Yes (e3Call (sp_law_renumbered G) (a3Cons (e3Var 12) (a3Cons (e3Var 4) a3Nil))) [12])) [11])) a3Nil))))
    (s3Ret (e3Tup (a3Cons (e3Tup (a3Cons (e3C (.str "task")) (a3Cons (e3Op r3Ix (e3Var 0) (e3C (.int 1))) (a3Cons (e3TupOf (e3Lc (i3Seq (e3Var 4)) 5 t3Yes (e3CB c3Len (a3Cons (e3Var 5) a3Nil)) [5])) (a3Cons (e3Op r3Ix (e3Var 6) (e3C (.int 0))) (a3Cons (e3Op r3Ix (e3Var 6) (e3C (.int 1))) a3Nil)))))) (a3Cons (e3TupOf (e3Var 4)) a3Nil)))))))))))
theorem der_law_tidied (T : Txt G mg) {f_law_standing : Addr} {fd_law_standing : FuncData} (C_law_standing : Cal P w G.K mg base 1 f_law_standing fd_law_standing "_law_standing" ["side", "colours"] (sp_law_standing G)) {f_law_is_choice : Addr} {fd_law_is_choice : FuncData} (C_law_is_choice : Cal P w G.K mg base 1 f_law_is_choice fd_law_is_choice "_law_is_choice" ["row", "sets"] (sp_law_is_choice G)) {f_law_renumbered : Addr} {fd_law_renumbered : FuncData} (C_law_renumbered : Cal P w G.K mg base 1 f_law_renumbered fd_law_renumbered "_law_renumbered" ["row", "kept"] (sp_law_renumbered G)) (f : Addr) (cdv : Value) (A : Around) (outer : List Env) (s : Shared) (H : Hp) (E : XK) (hr : RoomG 1 (A.deeper (envOfC "_law_tidied" (defScope s_law_tidied) s.heap.objs.size f cdv))) :
    DSs (cxOf (L2.CX P w) P w G.K mg base N_law_tidied "_law_tidied" (defScope s_law_tidied) f cdv A outer s H E) (defBody s_law_tidied) (t_law_tidied G) :=
    (dss_cons (by first | exact ds_setLc (j := 1) [("rows", 11)] rfl sc_law_tidied.nd (di_seq (d_ix (dv 0) d_int)) (blkOk_by (own := [("rows", 11)]) (N := N_law_tidied) (sc := defScope s_law_tidied) (by decide +kernel)) (by decide) (fun _ _ _ _ _ => pg_name (i := 11) sc_law_tidied.nd rfl (by first | exact Or.inl rfl | exact Or.inr rfl) (by first | exact .inl rfl | exact .inr rfl)) (fun _ _ _ _ _ => dts_nil) (fun _ _ _ _ _ => (d_list T.n_list (da_cons (dv 11) da_nil))) | exact ds_set (i := 1) sc_law_tidied.nd (d_lc [("rows", 11)] rfl sc_law_tidied.nd (di_seq (d_ix (dv 0) d_int)) (blkOk_by (own := [("rows", 11)]) (N := N_law_tidied) (sc := defScope s_law_tidied) (by decide +kernel)) (by decide) (fun _ _ _ _ _ => pg_name (i := 11) sc_law_tidied.nd rfl (by first | exact Or.inl rfl | exact Or.inr rfl) (by first | exact .inl rfl | exact .inr rfl)) (fun _ _ _ _ _ => dts_nil) (fun _ _ _ _ _ => (d_list T.n_list (da_cons (dv 11) da_nil)))))
    (dss_cons (by first | exact ds_setLc (j := 2) [("rows", 11)] rfl sc_law_tidied.nd (di_seq (d_ix (dv 0) d_int)) (blkOk_by (own := [("rows", 11)]) (N := N_law_tidied) (sc := defScope s_law_tidied) (by decide +kernel)) (by decide) (fun _ _ _ _ _ => pg_name (i := 11) sc_law_tidied.nd rfl (by first | exact Or.inl rfl | exact Or.inr rfl) (by first | exact .inl rfl | exact .inr rfl)) (fun _ _ _ _ _ => dts_nil) (fun _ _ _ _ _ => (d_list T.n_list (da_cons (dv 11) da_nil))) | exact ds_set (i := 2) sc_law_tidied.nd (d_lc [("rows", 11)] rfl sc_law_tidied.nd (di_seq (d_ix (dv 0) d_int)) (blkOk_by (own := [("rows", 11)]) (N := N_law_tidied) (sc := defScope s_law_tidied) (by decide +kernel)) (by decide) (fun _ _ _ _ _ => pg_name (i := 11) sc_law_tidied.nd rfl (by first | exact Or.inl rfl | exact Or.inr rfl) (by first | exact .inl rfl | exact .inr rfl)) (fun _ _ _ _ _ => dts_nil) (fun _ _ _ _ _ => (d_list T.n_list (da_cons (dv 11) da_nil)))))
    (dss_cons (ds_for rfl (di_rng1 T.n_range (da_cons (d_add d_int (d_sum rfl T.n_sum (da_cons (d_lc [("rows", 11)] rfl sc_law_tidied.nd (di_seq (d_add (dv 1) (dv 2))) (blkOk_by (own := [("rows", 11)]) (N := N_law_tidied) (sc := defScope s_law_tidied) (by decide +kernel)) (by decide) (fun _ _ _ _ _ => pg_name (i := 11) sc_law_tidied.nd rfl (by first | exact Or.inl rfl | exact Or.inr rfl) (by first | exact .inl rfl | exact .inr rfl)) (fun _ _ _ _ _ => dts_nil) (fun _ _ _ _ _ => (d_len T.n_len (da_cons (dv 11) da_nil)))) da_nil))) da_nil)) (dg_name (i := 3) sc_law_tidied.nd) (dss_cons (ds_set (i := 8) sc_law_tidied.nd (d_tup (da_cons (dv 1) (da_cons (dv 2) da_nil))))
    (dss_cons (ds_set (i := 9) sc_law_tidied.nd (d_callC C_law_standing hr (da_cons (dv 1) (da_cons (d_ix (dv 0) d_int) da_nil))))
    (dss_cons (ds_set (i := 10) sc_law_tidied.nd (d_callC C_law_standing hr (da_cons (dv 2) (da_cons (d_ix (dv 0) d_int) da_nil))))
    (dss_cons (by first | exact ds_setLc (j := 1) [("rows", 11)] rfl sc_law_tidied.nd (di_seq (dv 1)) (blkOk_by (own := [("rows", 11)]) (N := N_law_tidied) (sc := defScope s_law_tidied) (by decide +kernel)) (by decide) (fun _ _ _ _ _ => pg_name (i := 11) sc_law_tidied.nd rfl (by first | exact Or.inl rfl | exact Or.inr rfl) (by first | exact .inl rfl | exact .inr rfl)) (fun _ _ _ _ _ => dts_nil) (fun _ _ _ _ _ => (d_lc [("row", 12)] rfl sc_law_tidied.nd (di_seq (dv 11)) (blkOk_by (own := [("row", 12)]) (N := N_law_tidied) (by rfl)) (by decide) (fun _ _ _ _ _ => pg_name (i := 12) sc_law_tidied.nd rfl (by first | exact Or.inl rfl | exact Or.inr rfl) (by first | exact .inl rfl | exact .inr rfl)) (fun _ _ _ _ _ => (dts_one (t_val (d_callC C_law_is_choice hr (da_cons (dv 12) (da_cons (dv 10) da_nil)))))) (fun _ _ _ _ _ => (dv 12)))) | exact ds_set (i := 1) sc_law_tidied.nd (d_lc [("rows", 11)] rfl sc_law_tidied.nd (di_seq (dv 1)) (blkOk_by (own := [("rows", 11)]) (N := N_law_tidied) (sc := defScope s_law_tidied) (by decide +kernel)) (by decide) (fun _ _ _ _ _ => pg_name (i := 11) sc_law_tidied.nd rfl (by first | exact Or.inl rfl | exact Or.inr rfl) (by first | exact .inl rfl | exact .inr rfl)) (fun _ _ _ _ _ => dts_nil) (fun _ _ _ _ _ => (d_lc [("row", 12)] rfl sc_law_tidied.nd (di_seq (dv 11)) (blkOk_by (own := [("row", 12)]) (N := N_law_tidied) (by rfl)) (by decide) (fun _ _ _ _ _ => pg_name (i := 12) sc_law_tidied.nd rfl (by first | exact Or.inl rfl | exact Or.inr rfl) (by first | exact .inl rfl | exact .inr rfl)) (fun _ _ _ _ _ => (dts_one (t_val (d_callC C_law_is_choice hr (da_cons (dv 12) (da_cons (dv 10) da_nil)))))) (fun _ _ _ _ _ => (dv 12))))))
    (dss_cons (by first | exact ds_setLc (j := 2) [("rows", 11)] rfl sc_law_tidied.nd (di_seq (dv 2)) (blkOk_by (own := [("rows", 11)]) (N := N_law_tidied) (sc := defScope s_law_tidied) (by decide +kernel)) (by decide) (fun _ _ _ _ _ => pg_name (i := 11) sc_law_tidied.nd rfl (by first | exact Or.inl rfl | exact Or.inr rfl) (by first | exact .inl rfl | exact .inr rfl)) (fun _ _ _ _ _ => dts_nil) (fun _ _ _ _ _ => (d_lc [("row", 12)] rfl sc_law_tidied.nd (di_seq (dv 11)) (blkOk_by (own := [("row", 12)]) (N := N_law_tidied) (by rfl)) (by decide) (fun _ _ _ _ _ => pg_name (i := 12) sc_law_tidied.nd rfl (by first | exact Or.inl rfl | exact Or.inr rfl) (by first | exact .inl rfl | exact .inr rfl)) (fun _ _ _ _ _ => (dts_one (t_val (d_callC C_law_is_choice hr (da_cons (dv 12) (da_cons (dv 9) da_nil)))))) (fun _ _ _ _ _ => (dv 12)))) | exact ds_set (i := 2) sc_law_tidied.nd (d_lc [("rows", 11)] rfl sc_law_tidied.nd (di_seq (dv 2)) (blkOk_by (own := [("rows", 11)]) (N := N_law_tidied) (sc := defScope s_law_tidied) (by decide +kernel)) (by decide) (fun _ _ _ _ _ => pg_name (i := 11) sc_law_tidied.nd rfl (by first | exact Or.inl rfl | exact Or.inr rfl) (by first | exact .inl rfl | exact .inr rfl)) (fun _ _ _ _ _ => dts_nil) (fun _ _ _ _ _ => (d_lc [("row", 12)] rfl sc_law_tidied.nd (di_seq (dv 11)) (blkOk_by (own := [("row", 12)]) (N := N_law_tidied) (by rfl)) (by decide) (fun _ _ _ _ _ => pg_name (i := 12) sc_law_tidied.nd rfl (by first | exact Or.inl rfl | exact Or.inr rfl) (by first | exact .inl rfl | exact .inr rfl)) (fun _ _ _ _ _ => (dts_one (t_val (d_callC C_law_is_choice hr (da_cons (dv 12) (da_cons (dv 9) da_nil)))))) (fun _ _ _ _ _ => (dv 12))))))
    (dss_one (ds_if (t_cmp (ho_eq hr.r) opl_eq (dv 8) (d_tup (da_cons (dv 1) (da_cons (dv 2) da_nil)))) (dss_one ds_break) dss_nil))))))))
    (dss_cons (ds_set (i := 4) sc_law_tidied.nd (d_lst da_nil))
    (dss_cons (ds_for rfl (di_seq (d_callC C_law_standing hr (da_cons (dv 1) (da_cons (d_ix (dv 0) d_int) da_nil)))) (dg_name (i := 5) sc_law_tidied.nd) (dss_one (ds_expr (d_append (dv 4) (da_cons (d_tuple T.n_tuple (d_sorted T.n_sorted (da_cons (d_add (d_lc [("label", 13)] rfl sc_law_tidied.nd (di_seq (dv 5)) (blkOk_by (own := [("label", 13)]) (N := N_law_tidied) (sc := defScope s_law_tidied) (by decide +kernel)) (by decide) (fun _ _ _ _ _ => pg_name (i := 13) sc_law_tidied.nd rfl (by first | exact Or.inl rfl | exact Or.inr rfl) (by first | exact .inl rfl | exact .inr rfl)) (fun _ _ _ _ _ => dts_nil) (fun _ _ _ _ _ => (d_intc T.n_int (da_cons (dv 13) da_nil)))) (d_mul (d_lst (da_cons d_int da_nil)) (d_intc T.n_int (da_cons (d_cmp (ho_eq hr.r) opl_eq (d_len T.n_len (da_cons (dv 5) da_nil)) d_int) da_nil)))) da_nil))) da_nil)))))
    (dss_cons (ds_set (i := 6) sc_law_tidied.nd (d_lst da_nil))
    (dss_cons (ds_for rfl (di_seq (d_tup (da_cons (dv 1) (da_cons (dv 2) da_nil)))) (dg_name (i := 7) sc_law_tidied.nd) (dss_one (ds_expr (d_append (dv 6) (da_cons (d_tuple T.n_tuple (d_lc [("rows", 11)] rfl sc_law_tidied.nd (di_seq (dv 7)) (blkOk_by (own := [("rows", 11)]) (N := N_law_tidied) (sc := defScope s_law_tidied) (by decide +kernel)) (by decide) (fun _ _ _ _ _ => pg_name (i := 11) sc_law_tidied.nd rfl (by first | exact Or.inl rfl | exact Or.inr rfl) (by first | exact .inl rfl | exact .inr rfl)) (fun _ _ _ _ _ => dts_nil) (fun _ _ _ _ _ => (d_tuple T.n_tuple (d_lc [("row", 12)] rfl sc_law_tidied.nd (di_seq (dv 11)) (blkOk_by (own := [("row", 12)]) (N := N_law_tidied) (by rfl)) (by decide) (fun _ _ _ _ _ => pg_name (i := 12) sc_law_tidied.nd rfl (by first | exact Or.inl rfl | exact Or.inr rfl) (by first | exact .inl rfl | exact .inr rfl)) (fun _ _ _ _ _ => dts_nil) (fun _ _ _ _ _ => (d_callC C_law_renumbered hr (da_cons (dv 12) (da_cons (dv 4) da_nil))))))))) da_nil)))))
    (dss_one (ds_ret (d_tup (da_cons (d_tup (da_cons d_str (da_cons (d_ix (dv 0) d_int) (da_cons (d_tuple T.n_tuple (d_lc [("labels", 5)] rfl sc_law_tidied.nd (di_seq (dv 4)) (blkOk_by (own := [("labels", 5)]) (N := N_law_tidied) (sc := defScope s_law_tidied) (by decide +kernel)) (by decide) (fun _ _ _ _ _ => pg_name (i := 5) sc_law_tidied.nd rfl (by first | exact Or.inl rfl | exact Or.inr rfl) (by first | exact .inl rfl | exact .inr rfl)) (fun _ _ _ _ _ => dts_nil) (fun _ _ _ _ _ => (d_len T.n_len (da_cons (dv 5) da_nil))))) (da_cons (d_ix (dv 6) d_int) (da_cons (d_ix (dv 6) d_int) da_nil)))))) (da_cons (d_tuple T.n_tuple (dv 4)) da_nil))))))))))))
def t_law_road (G : Gm) : S3 :=
    (s3Seq (s3Asg (e3Op r3Add (e3C (.int 2)) (e3Call (sp_law_take G) (a3Cons (e3Var 0) (a3Cons (e3C (.int 5)) a3Nil)))) 1)
    (s3Seq (s3Asg (e3Lc (i3Rng1 (a3Cons (e3Var 1) a3Nil)) 5 t3Yes (e3Tup (a3Cons (e3Var 5) (a3Cons (e3Var 5) a3Nil))) [5]) 2)
    (s3Seq (s3Asg (e3Lc (i3Rng1 (a3Cons (e3Op r3Sub (e3Var 1) (e3C (.int 1))) a3Nil)) 5 t3Yes (e3Tup (a3Cons (e3Op r3Add (e3Var 5) (e3C (.int 1))) (a3Cons (e3Var 5) a3Nil))) [5]) 3)
    (s3Seq (s3If (t3Test (e3Op r3Eq (e3Call (sp_law_take G) (a3Cons (e3Var 0) (a3Cons (e3C (.int 2)) a3Nil))) (e3C (.int 1)))) (s3Expr (e3Bm m3App (e3Var 3) (a3Cons (e3Tup (a3Cons (e3Call (sp_law_take G) (a3Cons (e3Var 0) (a3Cons (e3Var 1) a3Nil))) (a3Cons (e3Call (sp_law_take G) (a3Cons (e3Var 0) (a3Cons (e3Var 1) a3Nil))) a3Nil))) a3Nil))) s3Nil)
    (s3Seq (s3Asg (e3Call (sp_law_choices G) (a3Cons (e3Lst (a3Cons (e3LstRg1 (e3Var 1)) (a3Cons (e3LstRg1 (e3Var 1)) a3Nil))) a3Nil)) 4)
    (s3Seq (s3Asg (e3TupOf (e3Lc (i3Seq (e3Var 4)) 6 (t3Test (e3Op (r3In false) (e3Var 6) (e3Var 3))) (e3Var 6) [6])) 3)
    (s3Ret (e3Tup (a3Cons (e3C (.str "task")) (a3Cons (e3C (.int 2)) (a3Cons (e3Tup (a3Cons (e3Var 1) (a3Cons (e3Var 1) a3Nil))) (a3Cons (e3Tup (a3Cons (e3TupOf (e3Var 2)) a3Nil)) (a3Cons (e3Tup (a3Cons (e3Var 3) (a3Cons (e3Sl (e3Var 3) o3None (o3Some (e3Call (sp_law_take G) (a3Cons (e3Var 0) (a3Cons (e3C (.int 2)) a3Nil))))) a3Nil))) a3Nil)))))))))))))
theorem der_law_road (T : Txt G mg) {f_law_take : Addr} {fd_law_take : FuncData} (C_law_take : Cal P w G.K mg base 1 f_law_take fd_law_take "_law_take" ["hand", "many"] (sp_law_take G)) {f_law_choices : Addr} {fd_law_choices : FuncData} (C_law_choices : Cal P w G.K mg base 1 f_law_choices fd_law_choices "_law_choices" ["lists"] (sp_law_choices G)) (f : Addr) (cdv : Value) (A : Around) (outer : List Env) (s : Shared) (H : Hp) (E : XK) (hr : RoomG 1 (A.deeper (envOfC "_law_road" (defScope s_law_road) s.heap.objs.size f cdv))) :
    DSs (cxOf (L2.CX P w) P w G.K mg base N_law_road "_law_road" (defScope s_law_road) f cdv A outer s H E) (defBody s_law_road) (t_law_road G) :=
    (dss_cons (ds_set (i := 1) sc_law_road.nd (d_add d_int (d_callC C_law_take hr (da_cons (dv 0) (da_cons d_int da_nil)))))
    (dss_cons (by first | exact ds_setLc (j := 2) [("a", 5)] rfl sc_law_road.nd (di_rng1 T.n_range (da_cons (dv 1) da_nil)) (blkOk_by (own := [("a", 5)]) (N := N_law_road) (sc := defScope s_law_road) (by decide +kernel)) (by decide) (fun _ _ _ _ _ => pg_name (i := 5) sc_law_road.nd rfl (by first | exact Or.inl rfl | exact Or.inr rfl) (by first | exact .inl rfl | exact .inr rfl)) (fun _ _ _ _ _ => dts_nil) (fun _ _ _ _ _ => (d_tup (da_cons (dv 5) (da_cons (dv 5) da_nil)))) | exact ds_set (i := 2) sc_law_road.nd (d_lc [("a", 5)] rfl sc_law_road.nd (di_rng1 T.n_range (da_cons (dv 1) da_nil)) (blkOk_by (own := [("a", 5)]) (N := N_law_road) (sc := defScope s_law_road) (by decide +kernel)) (by decide) (fun _ _ _ _ _ => pg_name (i := 5) sc_law_road.nd rfl (by first | exact Or.inl rfl | exact Or.inr rfl) (by first | exact .inl rfl | exact .inr rfl)) (fun _ _ _ _ _ => dts_nil) (fun _ _ _ _ _ => (d_tup (da_cons (dv 5) (da_cons (dv 5) da_nil))))))
    (dss_cons (by first | exact ds_setLc (j := 3) [("a", 5)] rfl sc_law_road.nd (di_rng1 T.n_range (da_cons (d_sub (dv 1) d_int) da_nil)) (blkOk_by (own := [("a", 5)]) (N := N_law_road) (sc := defScope s_law_road) (by decide +kernel)) (by decide) (fun _ _ _ _ _ => pg_name (i := 5) sc_law_road.nd rfl (by first | exact Or.inl rfl | exact Or.inr rfl) (by first | exact .inl rfl | exact .inr rfl)) (fun _ _ _ _ _ => dts_nil) (fun _ _ _ _ _ => (d_tup (da_cons (d_add (dv 5) d_int) (da_cons (dv 5) da_nil)))) | exact ds_set (i := 3) sc_law_road.nd (d_lc [("a", 5)] rfl sc_law_road.nd (di_rng1 T.n_range (da_cons (d_sub (dv 1) d_int) da_nil)) (blkOk_by (own := [("a", 5)]) (N := N_law_road) (sc := defScope s_law_road) (by decide +kernel)) (by decide) (fun _ _ _ _ _ => pg_name (i := 5) sc_law_road.nd rfl (by first | exact Or.inl rfl | exact Or.inr rfl) (by first | exact .inl rfl | exact .inr rfl)) (fun _ _ _ _ _ => dts_nil) (fun _ _ _ _ _ => (d_tup (da_cons (d_add (dv 5) d_int) (da_cons (dv 5) da_nil))))))
    (dss_cons (ds_if (t_cmp (ho_eq hr.r) opl_eq (d_callC C_law_take hr (da_cons (dv 0) (da_cons d_int da_nil))) d_int) (dss_one (ds_expr (d_append (dv 3) (da_cons (d_tup (da_cons (d_callC C_law_take hr (da_cons (dv 0) (da_cons (dv 1) da_nil))) (da_cons (d_callC C_law_take hr (da_cons (dv 0) (da_cons (dv 1) da_nil))) da_nil))) da_nil)))) dss_nil)
    (dss_cons (ds_set (i := 4) sc_law_road.nd (d_callC C_law_choices hr (da_cons (d_lst (da_cons (d_listRg1 rfl T.n_list T.n_range (dv 1)) (da_cons (d_listRg1 rfl T.n_list T.n_range (dv 1)) da_nil))) da_nil)))
    (dss_cons (ds_set (i := 3) sc_law_road.nd (d_tuple T.n_tuple (d_lc [("row", 6)] rfl sc_law_road.nd (di_seq (dv 4)) (blkOk_by (own := [("row", 6)]) (N := N_law_road) (sc := defScope s_law_road) (by decide +kernel)) (by decide) (fun _ _ _ _ _ => pg_name (i := 6) sc_law_road.nd rfl (by first | exact Or.inl rfl | exact Or.inr rfl) (by first | exact .inl rfl | exact .inr rfl)) (fun _ _ _ _ _ => (dts_one (t_cmp (ho_in hr.r) opl_in (dv 6) (dv 3)))) (fun _ _ _ _ _ => (dv 6)))))
    (dss_one (ds_ret (d_tup (da_cons d_str (da_cons d_int (da_cons (d_tup (da_cons (dv 1) (da_cons (dv 1) da_nil))) (da_cons (d_tup (da_cons (d_tuple T.n_tuple (dv 2)) da_nil)) (da_cons (d_tup (da_cons (dv 3) (da_cons (d_sl (dv 3) do_none (do_some (d_callC C_law_take hr (da_cons (dv 0) (da_cons d_int da_nil))))) da_nil))) da_nil))))))))))))))
def t_are_rows (G : Gm) : S3 :=
    (s3Seq (s3If (t3Not (t3Test (e3CB c3Isi (a3Cons (e3Var 0) (a3Cons (e3C (.ty "tuple")) a3Nil))))) (s3Ret (e3C (.bl false))) s3Nil)
    (s3Seq (s3Asg (e3C .non) 2)
    (s3Seq (s3For (i3Seq (e3Var 0)) (g3Name 3) (s3Seq (s3If (t3Or (t3Not (t3Test (e3Call (sp_fits_labels G) (a3Cons (e3Var 3) (a3Cons (e3Var 1) a3Nil))))) (t3And (t3Test (e3Op r3IsNot (e3Var 2) (e3C .non))) (t3Test (e3Op r3LeT (e3Var 3) (e3Var 2))))) (s3Ret (e3C (.bl false))) s3Nil)
    (s3Asg (e3Var 3) 2)))
    (s3Ret (e3C (.bl true))))))
theorem der_are_rows (T : Txt G mg) {f_fits_labels : Addr} {fd_fits_labels : FuncData} (C_fits_labels : Cal P w G.K mg base 2 f_fits_labels fd_fits_labels "fits_labels" ["row", "labels"] (sp_fits_labels G)) (f : Addr) (cdv : Value) (A : Around) (outer : List Env) (s : Shared) (H : Hp) (E : XK) (hr : RoomG 2 (A.deeper (envOfC "are_rows" (defScope s_are_rows) s.heap.objs.size f cdv))) :
    DSs (cxOf (L2.CX P w) P w G.K mg base N_are_rows "are_rows" (defScope s_are_rows) f cdv A outer s H E) (defBody s_are_rows) (t_are_rows G) :=
    (dss_cons (ds_if (t_not (t_val (d_isi T.n_isinstance (da_cons (dv 0) (da_cons (d_ty (n := "tuple") rfl T.n_tuple (by decide +kernel)) da_nil))))) (dss_one (ds_ret d_bl)) dss_nil)
    (dss_cons (ds_set (i := 2) sc_are_rows.nd d_non)
    (dss_cons (ds_for rfl (di_seq (dv 0)) (dg_name (i := 3) sc_are_rows.nd) (dss_cons (ds_if (t_w (w_or (t_not (t_val (d_callC C_fits_labels hr (da_cons (dv 3) (da_cons (dv 1) da_nil))))) (w_one (t_w (w_and (t_cmp op_notN opl_isnot (dv 2) d_non) (w_one (t_cmp (ho_leT hr.r) opl_leT (dv 3) (dv 2)))))))) (dss_one (ds_ret d_bl)) dss_nil)
    (dss_one (ds_set (i := 2) sc_are_rows.nd (dv 3)))))
    (dss_one (ds_ret d_bl)))))
def t_law_drawn (G : Gm) : S3 :=
    (s3Seq (s3Asg (e3Op r3Add (e3C (.int 1)) (e3Call (sp_law_take G) (a3Cons (e3Var 0) (a3Cons (e3C (.int 3)) a3Nil)))) 5)
    (s3Seq (s3Asg (e3TupOf (e3Lc (i3Rng1 (a3Cons (e3Var 2) a3Nil)) 7 t3Yes (e3Call (sp_law_rows G) (a3Cons (e3Var 0) (a3Cons (e3Var 4) (a3Cons (e3Var 5) a3Nil)))) [7])) 6)
    (s3Ret (e3Tup (a3Cons (e3C (.str "task")) (a3Cons (e3Var 1) (a3Cons (e3Var 4) (a3Cons (e3Var 6) (a3Cons (e3TupOf (e3Lc (i3Rng1 (a3Cons (e3Var 3) a3Nil)) 8 t3Yes (e3Call (sp_law_rows G) (a3Cons (e3Var 0) (a3Cons (e3Var 4) (a3Cons (e3Var 5) a3Nil)))) [8])) a3Nil)))))))))
theorem der_law_drawn (T : Txt G mg) {f_law_take : Addr} {fd_law_take : FuncData} (C_law_take : Cal P w G.K mg base 1 f_law_take fd_law_take "_law_take" ["hand", "many"] (sp_law_take G)) {f_law_rows : Addr} {fd_law_rows : FuncData} (C_law_rows : Cal P w G.K mg base 2 f_law_rows fd_law_rows "_law_rows" ["hand", "labels", "share"] (sp_law_rows G)) (f : Addr) (cdv : Value) (A : Around) (outer : List Env) (s : Shared) (H : Hp) (E : XK) (hr : RoomG 2 (A.deeper (envOfC "_law_drawn" (defScope s_law_drawn) s.heap.objs.size f cdv))) :
    DSs (cxOf (L2.CX P w) P w G.K mg base N_law_drawn "_law_drawn" (defScope s_law_drawn) f cdv A outer s H E) (defBody s_law_drawn) (t_law_drawn G) :=
    (dss_cons (ds_set (i := 5) sc_law_drawn.nd (d_add d_int (d_callC C_law_take hr (da_cons (dv 0) (da_cons d_int da_nil)))))
    (dss_cons (ds_set (i := 6) sc_law_drawn.nd (d_tuple T.n_tuple (d_lc [("x", 7)] rfl sc_law_drawn.nd (di_rng1 T.n_range (da_cons (dv 2) da_nil)) (blkOk_by (own := [("x", 7)]) (N := N_law_drawn) (sc := defScope s_law_drawn) (by decide +kernel)) (by decide) (fun _ _ _ _ _ => pg_name (i := 7) sc_law_drawn.nd rfl (by first | exact Or.inl rfl | exact Or.inr rfl) (by first | exact .inl rfl | exact .inr rfl)) (fun _ _ _ _ _ => dts_nil) (fun _ _ _ _ _ => (d_callC C_law_rows hr (da_cons (dv 0) (da_cons (dv 4) (da_cons (dv 5) da_nil))))))))
    (dss_one (ds_ret (d_tup (da_cons d_str (da_cons (dv 1) (da_cons (dv 4) (da_cons (dv 6) (da_cons (d_tuple T.n_tuple (d_lc [("y", 8)] rfl sc_law_drawn.nd (di_rng1 T.n_range (da_cons (dv 3) da_nil)) (blkOk_by (own := [("y", 8)]) (N := N_law_drawn) (sc := defScope s_law_drawn) (by decide +kernel)) (by decide) (fun _ _ _ _ _ => pg_name (i := 8) sc_law_drawn.nd rfl (by first | exact Or.inl rfl | exact Or.inr rfl) (by first | exact .inl rfl | exact .inr rfl)) (fun _ _ _ _ _ => dts_nil) (fun _ _ _ _ _ => (d_callC C_law_rows hr (da_cons (dv 0) (da_cons (dv 4) (da_cons (dv 5) da_nil))))))) da_nil))))))))))
def t_check_task (G : Gm) : S3 :=
    (s3Seq (s3If (t3Or (t3Not (t3Test (e3CB c3Isi (a3Cons (e3Var 0) (a3Cons (e3C (.ty "tuple")) a3Nil))))) (t3Or (t3Test (e3Op r3Ne (e3CB c3Len (a3Cons (e3Var 0) a3Nil)) (e3C (.int 5)))) (t3Or (t3Test (e3Op r3Ne (e3Op r3Ix (e3Var 0) (e3C (.int 0))) (e3C (.str "task")))) (t3Not (t3Test (e3Call (sp_is_number G) (a3Cons (e3Op r3Ix (e3Var 0) (e3C (.int 1))) (a3Cons (e3C (.int 2)) (a3Cons (e3C (.int 4)) a3Nil))))))))) (s3Raise G.BadTask) s3Nil)
    (s3Seq (s3Asg (e3Op r3Ix (e3Var 0) (e3C (.int 2))) 1)
    (s3Seq (s3If (t3Or (t3Not (t3Test (e3CB c3Isi (a3Cons (e3Var 1) (a3Cons (e3C (.ty "tuple")) a3Nil))))) (t3Or (t3Test (e3Op r3Ne (e3CB c3Len (a3Cons (e3Var 1) a3Nil)) (e3Op r3Ix (e3Var 0) (e3C (.int 1))))) (t3Not (t3Test (e3Call (sp_fits_bounds G) (a3Cons (e3Var 1) a3Nil)))))) (s3Raise G.BadTask) s3Nil)
    (s3For (i3Seq (e3Sl (e3Var 0) (o3Some (e3C (.int 3))) o3None)) (g3Name 2) (s3Seq (s3If (t3Or (t3Not (t3Test (e3CB c3Isi (a3Cons (e3Var 2) (a3Cons (e3C (.ty "tuple")) a3Nil))))) (t3Not (t3Test (e3Chain r3Le r3Le (e3C (.int 1)) (e3CB c3Len (a3Cons (e3Var 2) a3Nil)) (e3C (.int 4)))))) (s3Raise G.BadTask) s3Nil)
    (s3For (i3Seq (e3Var 2)) (g3Name 3) (s3If (t3Not (t3Test (e3Call (sp_are_rows G) (a3Cons (e3Var 3) (a3Cons (e3Var 1) a3Nil))))) (s3Raise G.BadTask) s3Nil)))))))
theorem der_check_task (T : Txt G mg) {f_is_number : Addr} {fd_is_number : FuncData} (C_is_number : Cal P w G.K mg base 1 f_is_number fd_is_number "is_number" ["value", "least", "most"] (sp_is_number G)) {f_fits_bounds : Addr} {fd_fits_bounds : FuncData} (C_fits_bounds : Cal P w G.K mg base 2 f_fits_bounds fd_fits_bounds "fits_bounds" ["labels"] (sp_fits_bounds G)) {f_are_rows : Addr} {fd_are_rows : FuncData} (C_are_rows : Cal P w G.K mg base 3 f_are_rows fd_are_rows "are_rows" ["rows", "labels"] (sp_are_rows G)) (f : Addr) (cdv : Value) (A : Around) (outer : List Env) (s : Shared) (H : Hp) (E : XK) (hr : RoomG 3 (A.deeper (envOfC "check_task" (defScope s_check_task) s.heap.objs.size f cdv))) :
    DSs (cxOf (L2.CX P w) P w G.K mg base N_check_task "check_task" (defScope s_check_task) f cdv A outer s H E) (defBody s_check_task) (t_check_task G) :=
    (dss_cons (ds_if (t_w (w_or (t_not (t_val (d_isi T.n_isinstance (da_cons (dv 0) (da_cons (d_ty (n := "tuple") rfl T.n_tuple (by decide +kernel)) da_nil))))) (w_or (t_cmp (ho_ne hr.r) opl_ne (d_len T.n_len (da_cons (dv 0) da_nil)) d_int) (w_or (t_cmp (ho_ne hr.r) opl_ne (d_ix (dv 0) d_int) d_str) (w_one (t_not (t_val (d_callC C_is_number hr (da_cons (d_ix (dv 0) d_int) (da_cons d_int (da_cons d_int da_nil))))))))))) (dss_one (ds_raiseT T.x_BadTask)) dss_nil)
    (dss_cons (ds_set (i := 1) sc_check_task.nd (d_ix (dv 0) d_int))
    (dss_cons (ds_if (t_w (w_or (t_not (t_val (d_isi T.n_isinstance (da_cons (dv 1) (da_cons (d_ty (n := "tuple") rfl T.n_tuple (by decide +kernel)) da_nil))))) (w_or (t_cmp (ho_ne hr.r) opl_ne (d_len T.n_len (da_cons (dv 1) da_nil)) (d_ix (dv 0) d_int)) (w_one (t_not (t_val (d_callC C_fits_bounds hr (da_cons (dv 1) da_nil)))))))) (dss_one (ds_raiseT T.x_BadTask)) dss_nil)
    (dss_one (ds_for rfl (di_seq (d_sl (dv 0) (do_some d_int) do_none)) (dg_name (i := 2) sc_check_task.nd) (dss_cons (ds_if (t_w (w_or (t_not (t_val (d_isi T.n_isinstance (da_cons (dv 2) (da_cons (d_ty (n := "tuple") rfl T.n_tuple (by decide +kernel)) da_nil))))) (w_one (t_not (t_chain op_le opl_Le op_le opl_Le d_int (d_len T.n_len (da_cons (dv 2) da_nil)) (d_cst T.c_MOST_INPUTS)))))) (dss_one (ds_raiseT T.x_BadTask)) dss_nil)
    (dss_one (ds_for rfl (di_seq (dv 2)) (dg_name (i := 3) sc_check_task.nd) (dss_one (ds_if (t_not (t_val (d_callC C_are_rows hr (da_cons (dv 3) (da_cons (dv 1) da_nil))))) (dss_one (ds_raiseT T.x_BadTask)) dss_nil))))))))))
def t_tidied (G : Gm) : S3 :=
    (s3Seq (s3Expr (e3Call (sp_check_task G) (a3Cons (e3Var 0) a3Nil)))
    (s3Seq (s3AsgG (e3Call (sp_struck G) (a3Cons (e3Var 0) a3Nil)) (g3Unl 2 (g3sCons (g3Name 5) (g3sCons (g3Name 6) g3sNil))))
    (s3Seq (s3Asg (e3Lst a3Nil) 1)
    (s3Seq (s3For (i3Rng1 (a3Cons (e3Op r3Ix (e3Var 0) (e3C (.int 1))) a3Nil)) (g3Name 2) (s3Seq (s3Asg (e3CB c3SortedD (a3Cons (e3Call (sp_labels_at G) (a3Cons (e3Op r3Add (e3Var 5) (e3Var 6)) (a3Cons (e3Var 2) a3Nil))) a3Nil)) 7)
    (s3Expr (e3Bm m3App (e3Var 1) (a3Cons (e3If (t3Test (e3Op r3Gt (e3CB c3Len (a3Cons (e3Var 7) a3Nil)) (e3C (.int 0)))) (e3TupOf (e3Var 7)) (e3Tup (a3Cons (e3C (.int 0)) a3Nil))) a3Nil)))))
    (s3Seq (s3Asg (e3Lst a3Nil) 3)
    (s3Seq (s3For (i3Seq (e3Tup (a3Cons (e3Var 5) (a3Cons (e3Var 6) a3Nil)))) (g3Name 4) (s3Seq (s3Asg (e3Lc (i3Seq (e3Var 4)) 9 t3Yes (e3TupOf (e3Lc (i3Seq (e3Var 9)) 10 t3Yes (e3TupOf (e3LcP (i3ZipX (a3Cons (e3Var 1) (a3Cons (e3Var 10) a3Nil))) 11 9 t3Yes (e3Tm m3Tix (e3Var 11) (a3Cons (e3Var 9) a3Nil)) [11, 9])) [10])) [9]) 8)
    (s3Expr (e3Bm m3App (e3Var 3) (a3Cons (e3TupOf (e3Var 8)) a3Nil)))))
    (s3Ret (e3Tup (a3Cons (e3Tup (a3Cons (e3C (.str "task")) (a3Cons (e3Op r3Ix (e3Var 0) (e3C (.int 1))) (a3Cons (e3TupOf (e3Lc (i3Seq (e3Var 1)) 11 t3Yes (e3CB c3Len (a3Cons (e3Var 11) a3Nil)) [11])) (a3Cons (e3Op r3Ix (e3Var 3) (e3C (.int 0))) (a3Cons (e3Op r3Ix (e3Var 3) (e3C (.int 1))) a3Nil)))))) (a3Cons (e3TupOf (e3Var 1)) a3Nil))))))))))
theorem der_tidied (T : Txt G mg) {f_check_task : Addr} {fd_check_task : FuncData} (C_check_task : Cal P w G.K mg base 4 f_check_task fd_check_task "check_task" ["task"] (sp_check_task G)) {f_struck : Addr} {fd_struck : FuncData} (C_struck : Cal P w G.K mg base 2 f_struck fd_struck "struck" ["task"] (sp_struck G)) {f_labels_at : Addr} {fd_labels_at : FuncData} (C_labels_at : Cal P w G.K mg base 1 f_labels_at fd_labels_at "labels_at" ["rows", "at"] (sp_labels_at G)) (f : Addr) (cdv : Value) (A : Around) (outer : List Env) (s : Shared) (H : Hp) (E : XK) (hr : RoomG 4 (A.deeper (envOfC "tidied" (defScope s_tidied) s.heap.objs.size f cdv))) :
    DSs (cxOf (L2.CX P w) P w G.K mg base N_tidied "tidied" (defScope s_tidied) f cdv A outer s H E) (defBody s_tidied) (t_tidied G) :=
    (dss_cons (ds_expr (d_callC C_check_task hr (da_cons (dv 0) da_nil)))
    (dss_cons (ds_asg (d_callC C_struck hr (da_cons (dv 0) da_nil)) (dg_unl rfl (dgs_cons (dg_name (i := 5) sc_tidied.nd) (dgs_cons (dg_name (i := 6) sc_tidied.nd) dgs_nil))))
    (dss_cons (ds_set (i := 1) sc_tidied.nd (d_lst da_nil))
    (dss_cons (ds_for rfl (di_rng1 T.n_range (da_cons (d_ix (dv 0) d_int) da_nil)) (dg_name (i := 2) sc_tidied.nd) (dss_cons (ds_set (i := 7) sc_tidied.nd (d_sortedD rfl T.n_sorted (da_cons (d_callC C_labels_at hr (da_cons (d_add (dv 5) (dv 6)) (da_cons (dv 2) da_nil))) da_nil)))
    (dss_one (ds_expr (d_append (dv 1) (da_cons (d_ifExp (t_cmp op_gt opl_Gt (d_len T.n_len (da_cons (dv 7) da_nil)) d_int) (d_tuple T.n_tuple (dv 7)) (d_tup (da_cons d_int da_nil))) da_nil))))))
    (dss_cons (ds_set (i := 3) sc_tidied.nd (d_lst da_nil))
    (dss_cons (ds_for rfl (di_seq (d_tup (da_cons (dv 5) (da_cons (dv 6) da_nil)))) (dg_name (i := 4) sc_tidied.nd) (dss_cons (by first | exact ds_setLc (j := 8) [("one", 9)] rfl sc_tidied.nd (di_seq (dv 4)) (blkOk_by (own := [("one", 9)]) (N := N_tidied) (sc := defScope s_tidied) (by decide +kernel)) (by decide) (fun _ _ _ _ _ => pg_name (i := 9) sc_tidied.nd rfl (by first | exact Or.inl rfl | exact Or.inr rfl) (by first | exact .inl rfl | exact .inr rfl)) (fun _ _ _ _ _ => dts_nil) (fun _ _ _ _ _ => (d_tuple T.n_tuple (d_lc [("row", 10)] rfl sc_tidied.nd (di_seq (dv 9)) (blkOk_by (own := [("row", 10)]) (N := N_tidied) (by rfl)) (by decide) (fun _ _ _ _ _ => pg_name (i := 10) sc_tidied.nd rfl (by first | exact Or.inl rfl | exact Or.inr rfl) (by first | exact .inl rfl | exact .inr rfl)) (fun _ _ _ _ _ => dts_nil) (fun _ _ _ _ _ => (d_tuple T.n_tuple (d_lcP [("known", 11), ("one", 9)] rfl sc_tidied.nd (di_zipX T.n_zip (da_cons (dv 1) (da_cons (dv 10) da_nil))) (blkOk_by (own := [("known", 11), ("one", 9)]) (N := N_tidied) (by rfl)) (by decide) (by decide) (fun _ _ _ _ _ => pg_tup rfl (pgs_cons (pg_name (i := 11) sc_tidied.nd rfl (by first | exact Or.inl rfl | exact Or.inr rfl) (by first | exact .inl rfl | exact .inr rfl)) (pgs_cons (pg_name (i := 9) sc_tidied.nd rfl (by first | exact Or.inl rfl | exact Or.inr rfl) (by first | exact .inl rfl | exact .inr rfl)) pgs_nil))) (fun _ _ _ _ _ => dts_nil) (fun _ _ _ _ _ => (d_tix (dv 11) (da_cons (dv 9) da_nil))))))))) | exact ds_set (i := 8) sc_tidied.nd (d_lc [("one", 9)] rfl sc_tidied.nd (di_seq (dv 4)) (blkOk_by (own := [("one", 9)]) (N := N_tidied) (sc := defScope s_tidied) (by decide +kernel)) (by decide) (fun _ _ _ _ _ => pg_name (i := 9) sc_tidied.nd rfl (by first | exact Or.inl rfl | exact Or.inr rfl) (by first | exact .inl rfl | exact .inr rfl)) (fun _ _ _ _ _ => dts_nil) (fun _ _ _ _ _ => (d_tuple T.n_tuple (d_lc [("row", 10)] rfl sc_tidied.nd (di_seq (dv 9)) (blkOk_by (own := [("row", 10)]) (N := N_tidied) (by rfl)) (by decide) (fun _ _ _ _ _ => pg_name (i := 10) sc_tidied.nd rfl (by first | exact Or.inl rfl | exact Or.inr rfl) (by first | exact .inl rfl | exact .inr rfl)) (fun _ _ _ _ _ => dts_nil) (fun _ _ _ _ _ => (d_tuple T.n_tuple (d_lcP [("known", 11), ("one", 9)] rfl sc_tidied.nd (di_zipX T.n_zip (da_cons (dv 1) (da_cons (dv 10) da_nil))) (blkOk_by (own := [("known", 11), ("one", 9)]) (N := N_tidied) (by rfl)) (by decide) (by decide) (fun _ _ _ _ _ => pg_tup rfl (pgs_cons (pg_name (i := 11) sc_tidied.nd rfl (by first | exact Or.inl rfl | exact Or.inr rfl) (by first | exact .inl rfl | exact .inr rfl)) (pgs_cons (pg_name (i := 9) sc_tidied.nd rfl (by first | exact Or.inl rfl | exact Or.inr rfl) (by first | exact .inl rfl | exact .inr rfl)) pgs_nil))) (fun _ _ _ _ _ => dts_nil) (fun _ _ _ _ _ => (d_tix (dv 11) (da_cons (dv 9) da_nil)))))))))))
    (dss_one (ds_expr (d_append (dv 3) (da_cons (d_tuple T.n_tuple (dv 8)) da_nil))))))
    (dss_one (ds_ret (d_tup (da_cons (d_tup (da_cons d_str (da_cons (d_ix (dv 0) d_int) (da_cons (d_tuple T.n_tuple (d_lc [("known", 11)] rfl sc_tidied.nd (di_seq (dv 1)) (blkOk_by (own := [("known", 11)]) (N := N_tidied) (sc := defScope s_tidied) (by decide +kernel)) (by decide) (fun _ _ _ _ _ => pg_name (i := 11) sc_tidied.nd rfl (by first | exact Or.inl rfl | exact Or.inr rfl) (by first | exact .inl rfl | exact .inr rfl)) (fun _ _ _ _ _ => dts_nil) (fun _ _ _ _ _ => (d_len T.n_len (da_cons (dv 11) da_nil))))) (da_cons (d_ix (dv 3) d_int) (da_cons (d_ix (dv 3) d_int) da_nil)))))) (da_cons (d_tuple T.n_tuple (dv 1)) da_nil)))))))))))
def t_law_refuses (G : Gm) : S3 :=
    (s3Seq (s3Try G.K (.ref G.BadTask) (s3Expr (e3Call (sp_tidied G) (a3Cons (e3Var 0) a3Nil))) (s3Ret (e3C (.bl true))))
    (s3Ret (e3C (.bl false))))
theorem der_law_refuses (T : Txt G mg) {f_tidied : Addr} {fd_tidied : FuncData} (C_tidied : Cal P w G.K mg base 5 f_tidied fd_tidied "tidied" ["task"] (sp_tidied G)) (f : Addr) (cdv : Value) (A : Around) (outer : List Env) (s : Shared) (H : Hp) (E : XK) (hr : RoomG 5 (A.deeper (envOfC "_law_refuses" (defScope s_law_refuses) s.heap.objs.size f cdv))) :
    DSs (cxOf (L2.CX P w) P w G.K mg base N_law_refuses "_law_refuses" (defScope s_law_refuses) f cdv A outer s H E) (defBody s_law_refuses) (t_law_refuses G) :=
    (dss_cons (ds_try rfl rfl ⟨rfl, by decide, .inl T.x_BadTask.g⟩ (fun _ _ => (dss_one (ds_expr (d_callC C_tidied hr (da_cons (dv 0) da_nil))))) (fun _ _ _ => (dss_one (ds_ret d_bl))))
    (dss_one (ds_ret d_bl)))
def t_law_like (G : Gm) (sf : Sp3) : S3 :=
    (s3Seq (s3If (t3Test (e3CB c3Isi (a3Cons (e3Var 1) (a3Cons (e3C (.ty "tuple")) a3Nil)))) (s3Seq (s3If (t3Or (t3Not (t3Test (e3CB c3Isi (a3Cons (e3Var 0) (a3Cons (e3C (.ty "tuple")) a3Nil))))) (t3Test (e3Op r3Ne (e3CB c3Len (a3Cons (e3Var 0) a3Nil)) (e3CB c3Len (a3Cons (e3Var 1) a3Nil))))) (s3Ret (e3C (.bl false))) s3Nil)
    (s3Ret (e3CB c3All (a3Cons (e3Lc (i3Rng1 (a3Cons (e3CB c3Len (a3Cons (e3Var 1) a3Nil)) a3Nil)) 2 t3Yes (e3Call sf (a3Cons (e3Op r3Ix (e3Var 0) (e3Var 2)) (a3Cons (e3Op r3Ix (e3Var 1) (e3Var 2)) a3Nil))) [2]) a3Nil)))) s3Nil)
    (s3Seq (s3If (t3Test (e3Op r3Is (e3Var 1) (e3C .non))) (s3Ret (e3Op r3Is (e3Var 0) (e3C .non))) s3Nil)
    (s3Seq (s3If (t3Test (e3CB c3Isi (a3Cons (e3Var 1) (a3Cons (e3C (.ty "int")) a3Nil)))) (s3Ret (e3And (e3Call (sp_law_whole G) (a3Cons (e3Var 0) a3Nil)) (e3Op r3Eq (e3Var 0) (e3Var 1)))) s3Nil)
    (s3Ret (e3And (e3CB c3Isi (a3Cons (e3Var 0) (a3Cons (e3C (.ty "str")) a3Nil))) (e3Op r3Eq (e3Var 0) (e3Var 1)))))))
theorem der_law_like (T : Txt G mg) {f_law_whole : Addr} {fd_law_whole : FuncData} (C_law_whole : Cal P w G.K mg base 1 f_law_whole fd_law_whole "_law_whole" ["found"] (sp_law_whole G)) {kk : Nat} {sf : Sp3} {f_law_like : Addr} {fd_law_like : FuncData} (C_law_like : Cal P w G.K mg base kk f_law_like fd_law_like "_law_like" ["found", "due"] sf) (hkk : 1 ≤ kk) (f : Addr) (cdv : Value) (A : Around) (outer : List Env) (s : Shared) (H : Hp) (E : XK) (hr : RoomG kk (A.deeper (envOfC "_law_like" (defScope s_law_like) s.heap.objs.size f cdv))) :
    DSs (cxOf (L2.CX P w) P w G.K mg base N_law_like "_law_like" (defScope s_law_like) f cdv A outer s H E) (defBody s_law_like) (t_law_like G sf) :=
    (dss_cons (ds_if (t_val (d_isi T.n_isinstance (da_cons (dv 1) (da_cons (d_ty (n := "tuple") rfl T.n_tuple (by decide +kernel)) da_nil)))) (dss_cons (ds_if (t_w (w_or (t_not (t_val (d_isi T.n_isinstance (da_cons (dv 0) (da_cons (d_ty (n := "tuple") rfl T.n_tuple (by decide +kernel)) da_nil))))) (w_one (t_cmp (ho_ne hr.r) opl_ne (d_len T.n_len (da_cons (dv 0) da_nil)) (d_len T.n_len (da_cons (dv 1) da_nil)))))) (dss_one (ds_ret d_bl)) dss_nil)
    (dss_one (ds_ret (d_all rfl T.n_all (da_cons (d_lc [("k", 2)] rfl sc_law_like.nd (di_rng1 T.n_range (da_cons (d_len T.n_len (da_cons (dv 1) da_nil)) da_nil)) (blkOk_by (own := [("k", 2)]) (N := N_law_like) (sc := defScope s_law_like) (by decide +kernel)) (by decide) (fun _ _ _ _ _ => pg_name (i := 2) sc_law_like.nd rfl (by first | exact Or.inl rfl | exact Or.inr rfl) (by first | exact .inl rfl | exact .inr rfl)) (fun _ _ _ _ _ => dts_nil) (fun _ _ _ _ _ => (d_callC (hj := Nat.le_refl _) C_law_like hr (da_cons (d_ix (dv 0) (dv 2)) (da_cons (d_ix (dv 1) (dv 2)) da_nil))))) da_nil))))) dss_nil)
    (dss_cons (ds_if (t_cmp op_isN opl_is (dv 1) d_non) (dss_one (ds_ret (d_cmp op_isN opl_is (dv 0) d_non))) dss_nil)
    (dss_cons (ds_if (t_val (d_isi T.n_isinstance (da_cons (dv 1) (da_cons (d_ty (n := "int") rfl T.n_int (by decide +kernel)) da_nil)))) (dss_one (ds_ret (d_and (d_callC (hj := Nat.le_trans (by decide) hkk) C_law_whole hr (da_cons (dv 0) da_nil)) (d_one (d_cmp (ho_eq hr.r) opl_eq (dv 0) (dv 1)))))) dss_nil)
    (dss_one (ds_ret (d_and (d_isi T.n_isinstance (da_cons (dv 0) (da_cons (d_ty (n := "str") rfl T.n_str (by decide +kernel)) da_nil))) (d_one (d_cmp (ho_eq hr.r) opl_eq (dv 0) (dv 1)))))))))
def t_law_asked (G : Gm) : S3 :=
    (s3Seq (s3Asg (e3Lst (a3Cons (e3Call (sp_law_draws G) (a3Cons (e3Var 0) (a3Cons (e3C (.int 400)) a3Nil))) (a3Cons (e3C (.int 0)) a3Nil))) 1)
    (s3Seq (s3AsgG (e3Call (sp_law_shape G) (a3Cons (e3Var 1) a3Nil)) (g3Tup 4 (g3sCons (g3Name 6) (g3sCons (g3Name 7) (g3sCons (g3Name 8) (g3sCons (g3Name 9) g3sNil))))))
    (s3Seq (s3Asg (e3Call (sp_law_drawn G) (a3Cons (e3Var 1) (a3Cons (e3Var 6) (a3Cons (e3Var 7) (a3Cons (e3Var 8) (a3Cons (e3Var 9) a3Nil)))))) 2)
    (s3Seq (s3Asg (e3Call (sp_law_road G) (a3Cons (e3Var 1) a3Nil)) 3)
    (s3Seq (s3If (t3Test (e3Op r3Eq (e3Call (sp_law_take G) (a3Cons (e3Var 1) (a3Cons (e3C (.int 2)) a3Nil))) (e3C (.int 1)))) (s3Asg (e3Tup (a3Cons (e3C (.str "task")) (a3Cons (e3C (.int 2)) (a3Cons (e3Op r3Ix (e3Var 3) (e3C (.int 2))) (a3Cons (e3Op r3Ix (e3Var 3) (e3C (.int 4))) (a3Cons (e3Op r3Ix (e3Var 3) (e3C (.int 3))) a3Nil)))))) 3) s3Nil)
    (s3Seq (s3Asg (e3Call (sp_law_tidied G) (a3Cons (e3Var 2) a3Nil)) 4)
    (s3Seq (s3If (t3Or (t3Not (t3Test (e3Call (sp_law_like G) (a3Cons (e3Call (sp_tidied G) (a3Cons (e3Var 2) a3Nil)) (a3Cons (e3Var 4) a3Nil))))) (t3Not (t3Test (e3Call (sp_law_like G) (a3Cons (e3Call (sp_tidied G) (a3Cons (e3Var 3) a3Nil)) (a3Cons (e3Call (sp_law_tidied G) (a3Cons (e3Var 3) a3Nil)) a3Nil)))))) (s3Ret (e3C (.bl false))) s3Nil)
    (s3Seq (s3Asg (e3TupOf (e3Lc (i3Seq (e3Op r3Ix (e3Op r3Ix (e3Var 4) (e3C (.int 0))) (e3C (.int 2)))) 10 t3Yes (e3TupRg1 (e3Var 10)) [10])) 5)
    (s3Seq (s3If (t3Or (t3Not (t3Test (e3Call (sp_law_like G) (a3Cons (e3Call (sp_tidied G) (a3Cons (e3Op r3Ix (e3Var 4) (e3C (.int 0))) a3Nil)) (a3Cons (e3Tup (a3Cons (e3Op r3Ix (e3Var 4) (e3C (.int 0))) (a3Cons (e3Var 5) a3Nil))) a3Nil))))) (t3Not (t3Test (e3Call (sp_law_refuses G) (a3Cons (e3Call (sp_law_wrong_task G) (a3Cons (e3Var 1) (a3Cons (e3Var 2) a3Nil))) a3Nil))))) (s3Ret (e3C (.bl false))) s3Nil)
    (s3Ret (e3Call (sp_law_like G) (a3Cons (e3Call (sp_tidied G) (a3Cons (e3Var 2) a3Nil)) (a3Cons (e3Var 4) a3Nil)))))))))))))
theorem der_law_asked (T : Txt G mg) {f_law_draws : Addr} {fd_law_draws : FuncData} (C_law_draws : Cal P w G.K mg base 1 f_law_draws fd_law_draws "_law_draws" ["script", "many"] (sp_law_draws G)) {f_law_shape : Addr} {fd_law_shape : FuncData} (C_law_shape : Cal P w G.K mg base 2 f_law_shape fd_law_shape "_law_shape" ["hand"] (sp_law_shape G)) {f_law_drawn : Addr} {fd_law_drawn : FuncData} (C_law_drawn : Cal P w G.K mg base 3 f_law_drawn fd_law_drawn "_law_drawn" ["hand", "colours", "p", "q", "labels"] (sp_law_drawn G)) {f_law_road : Addr} {fd_law_road : FuncData} (C_law_road : Cal P w G.K mg base 2 f_law_road fd_law_road "_law_road" ["hand"] (sp_law_road G)) {f_law_take : Addr} {fd_law_take : FuncData} (C_law_take : Cal P w G.K mg base 1 f_law_take fd_law_take "_law_take" ["hand", "many"] (sp_law_take G)) {f_law_tidied : Addr} {fd_law_tidied : FuncData} (C_law_tidied : Cal P w G.K mg base 2 f_law_tidied fd_law_tidied "_law_tidied" ["task"] (sp_law_tidied G)) {f_law_like : Addr} {fd_law_like : FuncData} (C_law_like : Cal P w G.K mg base 8 f_law_like fd_law_like "_law_like" ["found", "due"] (sp_law_like G)) {f_tidied : Addr} {fd_tidied : FuncData} (C_tidied : Cal P w G.K mg base 5 f_tidied fd_tidied "tidied" ["task"] (sp_tidied G)) (K_tidied : BindsK G.K fd_tidied ["task"]) {f_law_refuses : Addr} {fd_law_refuses : FuncData} (C_law_refuses : Cal P w G.K mg base 6 f_law_refuses fd_law_refuses "_law_refuses" ["task"] (sp_law_refuses G)) {f_law_wrong_task : Addr} {fd_law_wrong_task : FuncData} (C_law_wrong_task : Cal P w G.K mg base 2 f_law_wrong_task fd_law_wrong_task "_law_wrong_task" ["hand", "task"] (sp_law_wrong_task G)) (f : Addr) (cdv : Value) (A : Around) (outer : List Env) (s : Shared) (H : Hp) (E : XK) (hr : RoomG 8 (A.deeper (envOfC "_law_asked" (defScope s_law_asked) s.heap.objs.size f cdv))) :
    DSs (cxOf (L2.CX P w) P w G.K mg base N_law_asked "_law_asked" (defScope s_law_asked) f cdv A outer s H E) (defBody s_law_asked) (t_law_asked G) :=
    (dss_cons (ds_set (i := 1) sc_law_asked.nd (d_lst (da_cons (d_callC C_law_draws hr (da_cons (dv 0) (da_cons d_int da_nil))) (da_cons d_int da_nil))))
    (dss_cons (ds_asg (d_callC C_law_shape hr (da_cons (dv 1) da_nil)) (dg_tup rfl (dgs_cons (dg_name (i := 6) sc_law_asked.nd) (dgs_cons (dg_name (i := 7) sc_law_asked.nd) (dgs_cons (dg_name (i := 8) sc_law_asked.nd) (dgs_cons (dg_name (i := 9) sc_law_asked.nd) dgs_nil))))))
    (dss_cons (ds_set (i := 2) sc_law_asked.nd (d_callC C_law_drawn hr (da_cons (dv 1) (da_cons (dv 6) (da_cons (dv 7) (da_cons (dv 8) (da_cons (dv 9) da_nil)))))))
    (dss_cons (ds_set (i := 3) sc_law_asked.nd (d_callC C_law_road hr (da_cons (dv 1) da_nil)))
    (dss_cons (ds_if (t_cmp (ho_eq hr.r) opl_eq (d_callC C_law_take hr (da_cons (dv 1) (da_cons d_int da_nil))) d_int) (dss_one (ds_set (i := 3) sc_law_asked.nd (d_tup (da_cons d_str (da_cons d_int (da_cons (d_ix (dv 3) d_int) (da_cons (d_ix (dv 3) d_int) (da_cons (d_ix (dv 3) d_int) da_nil)))))))) dss_nil)
    (dss_cons (ds_set (i := 4) sc_law_asked.nd (d_callC C_law_tidied hr (da_cons (dv 2) da_nil)))
    (dss_cons (ds_if (t_w (w_or (t_not (t_val (d_callC C_law_like hr (da_cons (d_callC C_tidied hr (da_cons (dv 2) da_nil)) (da_cons (dv 4) da_nil))))) (w_one (t_not (t_val (d_callC C_law_like hr (da_cons (d_callC C_tidied hr (da_cons (dv 3) da_nil)) (da_cons (d_callC C_law_tidied hr (da_cons (dv 3) da_nil)) da_nil)))))))) (dss_one (ds_ret d_bl)) dss_nil)
    (dss_cons (ds_set (i := 5) sc_law_asked.nd (d_tuple T.n_tuple (d_lc [("many", 10)] rfl sc_law_asked.nd (di_seq (d_ix (d_ix (dv 4) d_int) d_int)) (blkOk_by (own := [("many", 10)]) (N := N_law_asked) (sc := defScope s_law_asked) (by decide +kernel)) (by decide) (fun _ _ _ _ _ => pg_name (i := 10) sc_law_asked.nd rfl (by first | exact Or.inl rfl | exact Or.inr rfl) (by first | exact .inl rfl | exact .inr rfl)) (fun _ _ _ _ _ => dts_nil) (fun _ _ _ _ _ => (d_tupleRg1 rfl T.n_tuple T.n_range (dv 10))))))
    (dss_cons (ds_if (t_w (w_or (t_not (t_val (d_callC C_law_like hr (da_cons (d_callC C_tidied hr (da_cons (d_ix (dv 4) d_int) da_nil)) (da_cons (d_tup (da_cons (d_ix (dv 4) d_int) (da_cons (dv 5) da_nil))) da_nil))))) (w_one (t_not (t_val (d_callC C_law_refuses hr (da_cons (d_callC C_law_wrong_task hr (da_cons (dv 1) (da_cons (dv 2) da_nil))) da_nil))))))) (dss_one (ds_ret d_bl)) dss_nil)
    (dss_one (ds_ret (d_callC C_law_like hr (da_cons (d_callKw C_tidied K_tidied hr (dk_cons (dv 2) dk_nil)) (da_cons (dv 4) da_nil))))))))))))))
def t_law (G : Gm) : S3 :=
    (s3Try G.K (.ref G.LookError) (s3Ret (e3Call (sp_law_asked G) (a3Cons (e3Var 0) a3Nil))) (s3Ret (e3C (.bl false))))
theorem der_law (T : Txt G mg) {f_law_asked : Addr} {fd_law_asked : FuncData} (C_law_asked : Cal P w G.K mg base 9 f_law_asked fd_law_asked "_law_asked" ["script"] (sp_law_asked G)) (f : Addr) (cdv : Value) (A : Around) (outer : List Env) (s : Shared) (H : Hp) (E : XK) (hr : RoomG 9 (A.deeper (envOfC "law" (defScope s_law) s.heap.objs.size f cdv))) :
    DSs (cxOf (L2.CX P w) P w G.K mg base N_law "law" (defScope s_law) f cdv A outer s H E) (defBody s_law) (t_law G) :=
    (dss_one (ds_try rfl rfl ⟨rfl, by decide, .inl T.x_LookError.g⟩ (fun _ _ => (dss_one (ds_ret (d_callC C_law_asked hr (da_cons (dv 0) da_nil))))) (fun _ _ _ => (dss_one (ds_ret d_bl)))))
end My

namespace My
open PySem PySem.Spec PyProof.Rows L2 L3
variable {P : Program} {w : World} {G : Gm} {mg : Str → Option Value}
theorem rd_is_number (T : Txt G mg) : Rd3 N_is_number (t_is_number G) (sp_is_number G) := rdIsNumber
theorem rd_law_draws (T : Txt G mg) : Rd3 N_law_draws (t_law_draws G) (sp_law_draws G) := rdDraws
theorem rd_law_take (T : Txt G mg) : Rd3 N_law_take (t_law_take G) (sp_law_take G) := rdTakeD
theorem rd_law (T : Txt G mg) : Rd3 N_law (t_law G) (sp_law G) := by
  rintro ds M Q E ⟨a, ns, rfl, hl, ha, hM, q⟩
  exact ⟨a, ns, rfl, hl, ha, hM, fun M' => ⟨M', Sub.refl _, q M'⟩⟩
theorem rd_fits_bounds (T : Txt G mg) : Rd3 N_fits_bounds (t_fits_bounds G) (sp_fits_bounds G) := by
  rintro ds M Q E ⟨xs, rfl, hl, hv, q⟩
  have hvs : Vks M xs := by simpa only [Vk] using hv
  have no : labsOk (.tup xs) = false → ∃ M'', Sub M'' M ∧ Q (.bl false) M'' := fun h => ⟨M, Sub.refl _, by rw [h] at q; exact q⟩
  conv => whnf
  refine ⟨szLe (by decide), ?_⟩
  conv => whnf
  refine isi_tups (d := .tup xs) (ns := ["tuple", "list"]) (m := "tuple") (b := true) rfl (by first | rfl | decide) ?_
  refine Br.ff ?_
  conv => whnf
  refine ⟨fun k env' M' => ∃ s2, env' = [some (.tup xs), some (.int (prodD (xs.take k))), s2] ∧ M' = M ∧ ∀ (j : Nat) (x : D), j < k → xs[j]? = some x → isNum x 1 60 = true, ⟨none, rfl, rfl, fun j x h => absurd h (Nat.not_lt_zero j)⟩, ?_, ?_⟩
  · rintro k x env' M' hd ⟨s2, rfl, rfl, hj⟩
    refine ⟨trivial, x, 1, 60, rfl, vk_ty (vks_get hvs hd), ?_⟩
    cases hb : isNum x 1 60 with
    | true =>
      obtain ⟨i, rfl, h1, h2⟩ := num_int hb
      refine Br.ff ?_
      conv => whnf
      have e : xs.take (k + 1) = xs.take k ++ [D.int i] := by rw [List.take_add_one, hd]; rfl
      refine ⟨.inr ⟨by omega, by omega⟩, some (.int i), ?_, rfl, fun j y hlt hy => ?_⟩
      · rw [e, prodD_snoc]; rfl
      by_cases e : j = k
      · subst e
        rw [hd] at hy
        cases hy
        exact hb
      · exact hj j y (by omega) hy
    | false =>
      refine Br.tt (no ?_)
      show ((xs.all fun x => isNum x 1 60) && _) = false
      rw [Bool.and_eq_false_iff]
      refine .inl ?_
      rw [List.all_eq_false]
      exact ⟨x, List.mem_of_getElem? hd, by rw [hb]; decide⟩
  · rintro env' M' ⟨s2, rfl, rfl, hj⟩
    conv => whnf
    refine ⟨trivial, M', Sub.refl _, ?_⟩
    have e : labsOk (.tup xs) = decide (prodD (xs.take xs.length) ≤ 4000) := by
      rw [List.take_length]
      show ((xs.all fun x => isNum x 1 60) && decide (prodD xs ≤ 4000)) = _
      have : (xs.all fun x => isNum x 1 60) = true := by
        rw [List.all_eq_true]
        intro x hx
        obtain ⟨j, hj'⟩ := List.getElem?_of_mem hx
        exact hj j x (List.getElem?_eq_some_iff.mp hj').1 hj'
      rw [this, Bool.true_and]
    rw [e] at q
    exact q
theorem rd_fits_labels (T : Txt G mg) : Rd3 N_fits_labels (t_fits_labels G) (sp_fits_labels G) := by
  rintro ds M Q E ⟨d, ls, rfl, hv, q⟩
  have no : rowFits ls d = false → ∃ M'', Sub M'' M ∧ Q (.bl false) M'' := fun h => ⟨M, Sub.refl _, by rw [h] at q; exact q⟩
  conv => whnf
  refine isi_tuple (vk_ty hv) (fun zs e => ?_) fun nt => ?_
  · subst e
    refine Br.ff ?_
    conv => whnf
    rw [List.length_map]
    have hvs : Vks M zs := by simpa only [Vk] using hv
    refine ne_int ⟨fun e => no ?_, fun e => ?_⟩
    · show (decide (zs.length = ls.length) && _) = false
      rw [decide_eq_false (by
        have : ¬ ((zs.length : Int) = (ls.length : Int)) := by simpa using e
        omega), Bool.false_and]
    have hl : zs.length = ls.length := by
      have : (zs.length : Int) = (ls.length : Int) := by simpa using e
      omega
    refine ⟨fun k env' M' => ∃ s2 s3, env' = [some (.tup zs), some (rowD ls), s2, s3] ∧ M' = M ∧ ∀ (j : Nat) (x : D) (m : Int), j < k → zs[j]? = some x → ls[j]? = some m → isNum x 0 (m - 1) = true, ⟨none, none, rfl, rfl, fun j x m h => absurd h (Nat.not_lt_zero j)⟩, ?_, ?_⟩
    · rintro k x env' M' hd ⟨s2, s3, rfl, rfl, hj⟩
      obtain ⟨x1, x2, h1, h2, rfl⟩ := zipD_get hd
      obtain ⟨m, h3, rfl⟩ := get_ints h2
      refine ⟨trivial, rfl, rfl, ?_⟩
      conv => whnf
      refine ⟨x1, 0, m - 1, rfl, vk_ty (vks_get hvs h1), ?_⟩
      cases hb : isNum x1 0 (m - 1) with
      | true =>
        refine Br.ff ⟨_, _, rfl, rfl, fun j y n hlt hy hn => ?_⟩
        by_cases e : j = k
        · subst e
          rw [h1] at hy
          rw [h3] at hn
          cases hy
          cases hn
          exact hb
        · exact hj j y n (by omega) hy hn
      | false =>
        refine Br.tt (no ?_)
        show (decide (zs.length = ls.length) && (zs.zip ls).all fun p => isNum p.1 0 (p.2 - 1)) = false
        rw [Bool.and_eq_false_iff]
        refine .inr ?_
        rw [List.all_eq_false]
        refine ⟨(x1, m), List.mem_of_getElem? (i := k) (by rw [List.getElem?_zip_eq_some]; exact ⟨h1, h3⟩), by rw [hb]; decide⟩
    · rintro env' M' ⟨s2, s3, rfl, rfl, hj⟩
      refine ⟨trivial, M', Sub.refl _, ?_⟩
      have : rowFits ls (.tup zs) = true := by
        show (decide (zs.length = ls.length) && (zs.zip ls).all fun p => isNum p.1 0 (p.2 - 1)) = true
        rw [decide_eq_true hl, Bool.true_and, List.all_eq_true]
        rintro ⟨x, m⟩ hx
        obtain ⟨j, hj'⟩ := List.getElem?_of_mem hx
        obtain ⟨h1, h2⟩ := List.getElem?_zip_eq_some.mp hj'
        exact hj j x m (by rw [zipD_length, List.length_map]; have := (List.getElem?_eq_some_iff.mp h1).1; omega) h1 h2
      rw [this] at q
      exact q
  · refine Br.tt (Br.tt (no ?_))
    cases d <;> first | rfl | exact absurd rfl (nt _)
def aheadD : Option (List Int) → D
  | none => .non
  | some r => rowD r
theorem rd_are_rows (T : Txt G mg) : Rd3 N_are_rows (t_are_rows G) (sp_are_rows G) := by
  rintro ds M Q E ⟨d, ls, rfl, hv, q⟩
  have no : rowsAsc ls d = false → ∃ M'', Sub M'' M ∧ Q (.bl false) M'' := fun h => ⟨M, Sub.refl _, by rw [h] at q; exact q⟩
  conv => whnf
  refine isi_tuple (vk_ty hv) (fun zs e => ?_) fun nt => ?_
  · subst e
    refine Br.ff ?_
    conv => whnf
    have hvs : Vks M zs := by simpa only [Vk] using hv
    have e0 : rowsAsc ls (.tup zs) = ascR ls none (zs.drop 0) := rfl
    refine ⟨fun k env' M' => ∃ (a : Option (List Int)) (s3 : Option D), env' = [some (.tup zs), some (rowD ls), some (aheadD a), s3] ∧ M' = M ∧ rowsAsc ls (.tup zs) = ascR ls a (zs.drop k), ⟨none, none, rfl, rfl, e0⟩, ?_, ?_⟩
    · rintro k x env' M' hd ⟨a, s3, rfl, rfl, hj⟩
      obtain ⟨hk, hx⟩ := List.getElem?_eq_some_iff.mp hd
      have ed : zs.drop k = x :: zs.drop (k + 1) := by rw [List.drop_eq_getElem_cons hk, hx]
      rw [ed] at hj
      have hj : rowsAsc ls (.tup zs) = (rowFits ls x && (afterR a (intsOf x) && ascR ls (some (intsOf x)) (zs.drop (k + 1)))) := hj
      refine ⟨trivial, x, ls, rfl, vks_get hvs hd, ?_⟩
      cases hb : rowFits ls x with
      | false =>
        rw [hb, Bool.false_and] at hj
        refine Br.tt (Br.tt (no ?_))
        exact hj
      | true =>
        rw [hb, Bool.true_and] at hj
        obtain ⟨ex, _⟩ := fits_row hb
        refine Br.ff ?_
        conv => whnf
        cases a with
        | none =>
          refine Br.ff (Br.ff ?_)
          conv => whnf
          refine ⟨some (intsOf x), some x, ?_, rfl, ?_⟩
          · show [_, _, some x, some x] = [_, _, some (rowD (intsOf x)), some x]
            rw [← ex]
          · rw [hj]; rfl
        | some r =>
          refine Br.tt ?_
          refine ⟨intsOf x, r, ex, rfl, ?_⟩
          have hj : rowsAsc ls (.tup zs) = ((!lexLeI (intsOf x) r) && ascR ls (some (intsOf x)) (zs.drop (k + 1))) := hj
          cases hl : lexLeI (intsOf x) r with
          | true =>
            rw [hl] at hj
            exact Br.tt (no hj)
          | false =>
            rw [hl] at hj
            refine Br.ff ?_
            conv => whnf
            refine ⟨some (intsOf x), some x, ?_, rfl, ?_⟩
            · show [_, _, some x, some x] = [_, _, some (rowD (intsOf x)), some x]
              rw [← ex]
            · rw [hj]; rfl
    · rintro env' M' ⟨a, s3, rfl, rfl, hj⟩
      refine ⟨trivial, M', Sub.refl _, ?_⟩
      rw [List.drop_length] at hj
      rw [hj] at q
      cases a <;> exact q
  · refine Br.tt (no ?_)
    cases d <;> first | rfl | exact absurd rfl (nt _)
end My
namespace My
open PySem PySem.Spec PyProof.Rows L2 L3
variable {P : Program} {w : World} {G : Gm} {mg : Str → Option Value}
theorem task5 {s : Str} {c l a b : D} : taskOk (.tup [.str s, c, l, a, b]) = (decide (s = "task") && (isNum c 2 4 && (match c, l with | .int n, .tup xs => decide ((xs.length : Int) = n) && (labsOk l && (sideOk (intsOf l) a && sideOk (intsOf l) b)) | _, _ => false))) := rfl
theorem labs_row {xs : List D} (h : labsOk (.tup xs) = true) : D.tup xs = rowD (intsOf (.tup xs)) := by
  have h' : ((xs.all fun x => isNum x 1 60) && decide (prodD xs ≤ 4000)) = true := h
  rw [Bool.and_eq_true, List.all_eq_true] at h'
  show D.tup xs = .tup ((intsOf (.tup xs)).map D.int)
  rw [ints_of fun x hx => let ⟨i, e, _⟩ := num_int (h'.1 x hx); ⟨i, e⟩]
theorem rd_check_task (T : Txt G mg) : Rd3 N_check_task (t_check_task G) (sp_check_task G) := by
  rintro ds M Q E ⟨d, rfl, hv, w5, q, qe⟩
  have err : ∀ {env : En} M', Sub M M' → taskOk d = false → rtX E (.ref G.BadTask) none env M' := fun M' s h => ⟨M, s, qe h⟩
  conv => whnf
  refine isi_tuple (vk_ty hv) (fun zs e => ?_) fun nt => ?_
  · subst e
    refine Br.ff ?_
    conv => whnf
    refine ne_int ⟨fun e => Br.tt (err M (Sub.refl _) ?_), fun e => ?_⟩
    · match zs, e with
      | [], _ => rfl
      | [x1], _ => cases x1 <;> rfl
      | [x1, x2], _ => cases x1 <;> rfl
      | [x1, x2, x3], _ => cases x1 <;> rfl
      | [x1, x2, x3, x4], _ => cases x1 <;> rfl
      | [x1, x2, x3, x4, x5], e => simp at e
      | x1 :: x2 :: x3 :: x4 :: x5 :: x6 :: zs, _ => cases x1 <;> rfl
    obtain ⟨x, c, l, a, b, rfl⟩ : ∃ x m l a b, zs = [x, m, l, a, b] := by
      match zs, e with
      | [], e => simp at e
      | [x1], e => simp at e
      | [x1, x2], e => simp at e
      | [x1, x2, x3], e => simp at e
      | [x1, x2, x3, x4], e => simp at e
      | [x1, x2, x3, x4, x5], e => exact ⟨_, _, _, _, _, rfl⟩
      | x1 :: x2 :: x3 :: x4 :: x5 :: x6 :: zs, e => simp at e; omega
    obtain ⟨s, rfl⟩ := w5 x [c, l, a, b] rfl rfl
    have hvs : Vks M [.str s, c, l, a, b] := by simpa only [Vk] using hv
    have vc : Vk M c := vks_get (i := 1) hvs rfl
    have vl : Vk M l := vks_get (i := 2) hvs rfl
    have va : Vk M a := vks_get (i := 3) hvs rfl
    have vb : Vk M b := vks_get (i := 4) hvs rfl
    rw [task5] at q qe
    refine ⟨_, rfl, ne_str ⟨fun e => Br.tt ⟨M, Sub.refl _, qe ?_⟩, fun e => ?_⟩⟩
    · rw [decide_eq_false (by simpa using e), Bool.false_and]
    have es : decide (s = "task") = true := decide_eq_true (by simpa using e)
    rw [es, Bool.true_and] at q qe
    refine ⟨_, rfl, ?_⟩
    conv => whnf
    refine ⟨c, 2, 4, rfl, vk_ty vc, ?_⟩
    cases hc : isNum c 2 4 with
    | false => exact Br.tt ⟨M, Sub.refl _, qe (by rw [hc, Bool.false_and])⟩
    | true =>
      refine Br.ff ?_
      rw [hc, Bool.true_and] at q qe
      obtain ⟨n, rfl, n1, n2⟩ := num_int hc
      conv => whnf
      refine ⟨_, rfl, ?_⟩
      conv => whnf
      refine isi_tuple (vk_ty vl) (fun ls e => ?_) fun nt => ?_
      · subst e
        refine Br.ff ?_
        conv => whnf
        refine ⟨_, rfl, ?_⟩
        conv => whnf
        have q : (decide ((ls.length : Int) = n) && (labsOk (.tup ls) && (sideOk (intsOf (.tup ls)) a && sideOk (intsOf (.tup ls)) b))) = true → Q .non M := q
        have qe : (decide ((ls.length : Int) = n) && (labsOk (.tup ls) && (sideOk (intsOf (.tup ls)) a && sideOk (intsOf (.tup ls)) b))) = false → E (.ref G.BadTask) none M := qe
        refine ne_int ⟨fun e => Br.tt ⟨M, Sub.refl _, qe ?_⟩, fun e => ?_⟩
        · rw [decide_eq_false (by simpa using e), Bool.false_and]
        have el : (ls.length : Int) = n := by simpa using e
        rw [decide_eq_true el, Bool.true_and] at q qe
        refine ⟨ls, rfl, by omega, vl, ?_⟩
        cases hb : labsOk (.tup ls) with
        | false => exact Br.tt ⟨M, Sub.refl _, qe (by rw [hb, Bool.false_and])⟩
        | true =>
          refine Br.ff ?_
          rw [hb, Bool.true_and] at q qe
          have er := labs_row hb
          obtain ⟨L, hL⟩ : ∃ L, L = intsOf (.tup ls) := ⟨_, rfl⟩
          rw [← hL] at q qe er
          conv => whnf
          refine ⟨fun k env' M' => ∃ (s2 s3 : Option D), env' = [some (.tup [.str s, .int n, .tup ls, a, b]), some (.tup ls), s2, s3] ∧ M' = M ∧ ∀ (j : Nat) (x : D), j < k → [a, b][j]? = some x → sideOk L x = true, ⟨none, none, rfl, rfl, fun j x h => absurd h (Nat.not_lt_zero j)⟩, ?_, ?_⟩
          · rintro k x env' M' hd ⟨s2, s3, rfl, rfl, hj⟩
            have hd : [a, b][k]? = some x := hd
            have vx : Vk M' x := by
              match k, hd with
              | 0, hd => cases hd; exact va
              | 1, hd => cases hd; exact vb
              | k + 2, hd => cases hd
            have bad : sideOk L x = false → (sideOk L a && sideOk L b) = false := fun h => by
              match k, hd with
              | 0, hd => cases hd; rw [h, Bool.false_and]
              | 1, hd => cases hd; rw [h, Bool.and_false]
              | k + 2, hd => cases hd
            refine ⟨trivial, ?_⟩
            conv => whnf
            refine isi_tuple (vk_ty vx) (fun zs e => ?_) fun nt => ?_
            · subst e
              have hzs : Vks M' zs := by simpa only [Vk] using vx
              refine Br.ff ?_
              conv => whnf
              have sd : sideOk L (.tup zs) = (decide (1 ≤ zs.length) && decide (zs.length ≤ 4) && zs.all (rowsAsc L)) := rfl
              refine ⟨fun e1 => ⟨fun e2 => ⟨M', Sub.refl _, qe (bad ?_)⟩, fun e2 => ?_⟩, fun e1 => Br.tt ⟨M', Sub.refl _, qe (bad ?_)⟩⟩
              · have : ¬ ((zs.length : Int) ≤ 4) := by simpa using e2
                rw [sd, show decide (zs.length ≤ 4) = false from decide_eq_false (by omega), Bool.and_false, Bool.false_and]
              · have h2 : (zs.length : Int) ≤ 4 := by simpa using e2
                have h1 : (1 : Int) ≤ (zs.length : Int) := by simpa using e1
                rw [show decide (1 ≤ zs.length) = true from decide_eq_true (by omega), show decide (zs.length ≤ 4) = true from decide_eq_true (by omega), Bool.true_and, Bool.true_and] at sd
                conv => whnf
                refine ⟨fun i env' M2 => ∃ (s3 : Option D), env' = [some (.tup [.str s, .int n, .tup ls, a, b]), some (.tup ls), some (.tup zs), s3] ∧ M2 = M' ∧ ∀ (j : Nat) (y : D), j < i → zs[j]? = some y → rowsAsc L y = true, ⟨s3, rfl, rfl, fun j x h => absurd h (Nat.not_lt_zero j)⟩, ?_, ?_⟩
                · rintro i y env' M2 hy ⟨s3, rfl, rfl, hi⟩
                  refine ⟨trivial, y, L, by rw [← er], vks_get hzs hy, ?_⟩
                  cases hr : rowsAsc L y with
                  | false =>
                    refine Br.tt ⟨M2, Sub.refl _, qe (bad ?_)⟩
                    rw [sd, List.all_eq_false]
                    exact ⟨y, List.mem_of_getElem? hy, by rw [hr]; decide⟩
                  | true =>
                    refine Br.ff ⟨_, rfl, rfl, fun j z hlt hz => ?_⟩
                    by_cases e : j = i
                    · subst e
                      rw [hy] at hz
                      cases hz
                      exact hr
                    · exact hi j z (by omega) hz
                · rintro env' M2 ⟨s3, rfl, rfl, hi⟩
                  refine ⟨trivial, some (.tup zs), s3, rfl, rfl, fun j z hlt hz => ?_⟩
                  by_cases e : j = k
                  · subst e
                    rw [hd] at hz
                    cases hz
                    rw [sd, List.all_eq_true]
                    intro y hy
                    obtain ⟨i, hi'⟩ := List.getElem?_of_mem hy
                    exact hi i y (List.getElem?_eq_some_iff.mp hi').1 hi'
                  · exact hj j z (by omega) hz
              · have : ¬ ((1 : Int) ≤ (zs.length : Int)) := by simpa using e1
                rw [sd, show decide (1 ≤ zs.length) = false from decide_eq_false (by omega), Bool.false_and, Bool.false_and]
            · refine Br.tt (Br.tt ⟨M', Sub.refl _, qe (bad ?_)⟩)
              cases x <;> first | rfl | exact absurd rfl (nt _)
          · rintro env' M' ⟨s2, s3, rfl, rfl, hj⟩
            refine ⟨trivial, ?_⟩
            have h1 := hj 0 a (show 0 < 2 by decide) rfl
            have h2 := hj 1 b (show 1 < 2 by decide) rfl
            exact ⟨M', Sub.refl _, q (by rw [h1, h2]; rfl)⟩
      · refine Br.tt (Br.tt ⟨M, Sub.refl _, qe ?_⟩)
        cases l <;> first | rfl | exact absurd rfl (nt _)
  · refine Br.tt (Br.tt (err M (Sub.refl _) ?_))
    cases d <;> first | rfl | exact absurd rfl (nt _)
end My
namespace My
open PySem PySem.Spec PyProof.Rows L2 L3
variable {P : Program} {w : World} {G : Gm} {mg : Str → Option Value}
theorem rd_labels_at (T : Txt G mg) : Rd3 N_labels_at (t_labels_at G) (sp_labels_at G) := rdLabels
theorem rd_struck (T : Txt G mg) : Rd3 N_struck (t_struck G) (sp_struck G) := rdStruck
theorem rd_tidied (T : Txt G mg) : Rd3 N_tidied (t_tidied G) (sp_tidied G) := rdTidied
theorem rd_law_choices (T : Txt G mg) : Rd3 N_law_choices (t_law_choices G) (sp_law_choices G) := rdChoices
theorem rd_law_rows (T : Txt G mg) : Rd3 N_law_rows (t_law_rows G) (sp_law_rows G) := rdRows4
theorem rd_law_is_choice (T : Txt G mg) : Rd3 N_law_is_choice (t_law_is_choice G) (sp_law_is_choice G) := rdChoice
theorem rd_law_whole (T : Txt G mg) : Rd3 N_law_whole (t_law_whole G) (sp_law_whole G) := rdWhole
theorem rd_law_like (T : Txt G mg) {n : Nat} {sf : Sp3} (hf : n = 0 ∨ ∃ j, n = j + 1 ∧ sf = spLkS j) : Rd3 N_law_like (t_law_like G sf) (spLkS n) := rdLikeS hf
theorem rd_law_shape (T : Txt G mg) : Rd3 N_law_shape (t_law_shape G) (sp_law_shape G) := rdShape
theorem rd_law_drawn (T : Txt G mg) : Rd3 N_law_drawn (t_law_drawn G) (sp_law_drawn G) := rdDrawn
theorem rd_law_wrong_task (T : Txt G mg) : Rd3 N_law_wrong_task (t_law_wrong_task G) (sp_law_wrong_task G) := rdWrong
theorem rd_law_tidied (T : Txt G mg) : Rd3 N_law_tidied (t_law_tidied G) (sp_law_tidied G) := rdLawTid
theorem rd_law_standing (T : Txt G mg) : Rd3 N_law_standing (t_law_standing G) (sp_law_standing G) := rdStand
theorem rd_law_renumbered (T : Txt G mg) : Rd3 N_law_renumbered (t_law_renumbered G) (sp_law_renumbered G) := rdRenum
theorem rd_law_refuses (TT : Txt G mg) : Rd3 N_law_refuses (t_law_refuses G) (sp_law_refuses G) := by
  rintro ds M Q E ⟨t, rfl, hv, wt, bad, q⟩
  exact ⟨t, rfl, .inl ⟨hv, wt, bad, true, TT.e_BadTask_BadTask, fun _ => ⟨M, Sub.refl _, q⟩, (fun e => nomatch e)⟩⟩
theorem tid_pl {T : Tk} {W B : Side} (ok : TkOk 4000 T) (hE : Ended T.ws T.bs W B) : PlS 5 (tidD T.ls.length W B) := by
  have ok' := hE.tidOk ok
  have c4 := ok.c4
  have lb := ok'.lb
  refine .tup (fun x hx => ?_) (by show 2 ≤ 100000; decide)
  simp only [List.mem_cons, List.not_mem_nil, or_false] at hx
  rcases hx with rfl | rfl
  · exact ok'.pl (m := 0) (by decide)
  · refine .tup (n := 3) (fun y hy => ?_) (by rw [List.length_map, keptS_len]; omega)
    obtain ⟨k, hk, rfl⟩ := List.mem_map.mp hy
    have := lb (k.length : Int) (List.mem_map.mpr ⟨k, hk, rfl⟩)
    exact .row (by omega)
theorem tid_once {T : Tk} {W B W' B' : Side} (h : Ended T.ws T.bs W B) (k : Ended T.ws T.bs W' B') : tidD T.ls.length W' B' = tidD T.ls.length W B := by
  obtain ⟨e1, e2⟩ := h.one k
  rw [e1, e2]
theorem tid_twice {T : Tk} {W B W' B' : Side} (ok : TkOk 4000 T) (h : Ended T.ws T.bs W B) (k : Ended (tidT T.ls.length W B).ws (tidT T.ls.length W B).bs W' B') :
    tidD (tidT T.ls.length W B).ls.length W' B' = .tup [tkD (tidT T.ls.length W B), .tup ((tidT T.ls.length W B).ls.map fun l => rowD (rngI l.toNat))] := by
  have ok' := h.tidOk ok
  have neat := h.neat ok
  have hC : (tidT T.ls.length W B).ls.length = T.ls.length := by
    show ((keptS W T.ls.length).map _).length = _
    rw [List.length_map, keptS_len]
  have nn : Neat (tidT T.ls.length W B).ls (tidT T.ls.length W B).ws (tidT T.ls.length W B).bs :=
    tid_neat neat (fun rs hrs r hr => (ok'.wr rs hrs).ok r hr) (fun rs hrs r hr => (ok'.br rs hrs).ok r hr)
  obtain ⟨e1, e2⟩ := (Ended.mk (Way.start (tidT T.ls.length W B).ws (tidT T.ls.length W B).bs) nn.w nn.b).one k
  obtain ⟨t1, t2⟩ := tid_again neat nn
  rw [← e1, ← e2, hC]
  unfold tidD
  rw [t1, t2]
  unfold tupS
  rw [List.map_map]
  rfl
def t_rest (G : Gm) : S3 :=
    (s3Seq (s3Asg (e3Call (sp_law_tidied G) (a3Cons (e3Var 2) a3Nil)) 4)
    (s3Seq (s3If (t3Or (t3Not (t3Test (e3Call (sp_law_like G) (a3Cons (e3Call (sp_tidied G) (a3Cons (e3Var 2) a3Nil)) (a3Cons (e3Var 4) a3Nil))))) (t3Not (t3Test (e3Call (sp_law_like G) (a3Cons (e3Call (sp_tidied G) (a3Cons (e3Var 3) a3Nil)) (a3Cons (e3Call (sp_law_tidied G) (a3Cons (e3Var 3) a3Nil)) a3Nil)))))) (s3Ret (e3C (.bl false))) s3Nil)
    (s3Seq (s3Asg (e3TupOf (e3Lc (i3Seq (e3Op r3Ix (e3Op r3Ix (e3Var 4) (e3C (.int 0))) (e3C (.int 2)))) 10 t3Yes (e3TupRg1 (e3Var 10)) [10])) 5)
    (s3Seq (s3If (t3Or (t3Not (t3Test (e3Call (sp_law_like G) (a3Cons (e3Call (sp_tidied G) (a3Cons (e3Op r3Ix (e3Var 4) (e3C (.int 0))) a3Nil)) (a3Cons (e3Tup (a3Cons (e3Op r3Ix (e3Var 4) (e3C (.int 0))) (a3Cons (e3Var 5) a3Nil))) a3Nil))))) (t3Not (t3Test (e3Call (sp_law_refuses G) (a3Cons (e3Call (sp_law_wrong_task G) (a3Cons (e3Var 1) (a3Cons (e3Var 2) a3Nil))) a3Nil))))) (s3Ret (e3C (.bl false))) s3Nil)
    (s3Ret (e3Call (sp_law_like G) (a3Cons (e3Call (sp_tidied G) (a3Cons (e3Var 2) a3Nil)) (a3Cons (e3Var 4) a3Nil))))))))
theorem rest_ok {Q : Q3} {E : Value → Option Addr → MH → Prop} {M : MH} {a h p : Addr} {n : Int} {T R : Tk} {o6 o7 o8 o9 : Option D} (z : HandD M h p n) (ok : TkOk 4000 T) (okR : TkOk 4000 R) (q : ∀ M', Q (.bl true) M') :
    t_rest G (rtX E) (rtD Q) [some (.ref a), some (.ref h), some (tkD T), some (tkD R), none, none, o6, o7, o8, o9, none] M := by
  refine ⟨T, rfl, ok, fun W B hE => ?_⟩
  have pl := tid_pl ok hE
  have ok' := hE.tidOk ok
  conv => whnf
  refine ⟨tkD T, rfl, .inr ⟨T, rfl, ok, fun W' B' hE' => ?_⟩⟩
  rw [tid_once hE hE']
  refine ⟨_, rfl, pl, Br.ff ?_⟩
  refine ⟨tkD R, rfl, .inr ⟨R, rfl, okR, fun W1 B1 hE1 => ?_⟩⟩
  refine ⟨R, rfl, okR, fun W2 B2 hE2 => ?_⟩
  rw [tid_once hE1 hE2]
  refine ⟨_, rfl, tid_pl okR hE1, Br.ff ?_⟩
  conv => whnf
  refine ⟨_, rfl, _, rfl, fun y ny => ?_⟩
  refine lcMap (fun x => match x with | .int l => rowD (rngI l.toNat) | _ => .non) ny (fun _ _ => trivial) (fun k x M' R hx s k2 => ?_) (szLt (by rw [List.length_map]; have := ok'.c4; omega)) fun M1 s1 h1 => ?_
  · rw [List.getElem?_map, Option.map_eq_some_iff] at hx
    obtain ⟨l, hl, rfl⟩ := hx
    have := ok'.lb l (List.mem_of_getElem? hl)
    refine ⟨RgOk.of_le (by decide) (by omega) (by decide) (by omega), ?_⟩
    rw [rngI_D]
    exact k2 M' (Sub.refl _)
  rw [List.map_map] at h1
  have z1 := z.sub s1
  refine ⟨_, .inl h1, ?_⟩
  conv => whnf
  refine ⟨_, rfl, tkD (tidT T.ls.length W B), rfl, .inr ⟨tidT T.ls.length W B, rfl, ok', fun W3 B3 hE3 => ?_⟩⟩
  rw [tid_twice ok hE hE3]
  refine ⟨_, rfl, szLe (by show 2 ≤ 1000000; decide), ?_⟩
  refine ⟨_, rfl, ?_, Br.ff ?_⟩
  · have := tid_pl ok' hE3
    rw [tid_twice ok hE hE3] at this
    exact this
  refine ⟨h, p, n, T, rfl, z1, ok, fun x M2 n2 s2 n20 vx wx bad => ?_⟩
  refine ⟨x, rfl, vx, wx, bad, Br.ff ?_⟩
  conv => whnf
  refine ⟨tkD T, rfl, .inr ⟨T, rfl, ok, fun W4 B4 hE4 => ?_⟩⟩
  rw [tid_once hE hE4]
  exact ⟨_, rfl, pl, M2, Sub.refl _, q M2⟩
theorem rd_law_asked (TT : Txt G mg) : Rd3 N_law_asked (t_law_asked G) (sp_law_asked G) := by
  rintro ds M Q E ⟨a, ns, rfl, hl, ha, hM, q⟩
  refine ⟨a, 400, ns, rfl, by decide, by decide, by omega, ha, fun p xs np lx px => ⟨szLe (by show 2 ≤ 1000000; decide), fun h nh => ?_⟩⟩
  have hH := hand_new np (fun x hx => (px x hx).1) nh
  generalize updM (updM M p (.lst (xs.map D.int))) h (.lst [.ref p, .int 0]) = M2 at hH
  refine ⟨h, p, 0, rfl, hH, fun ls pp qq n1 lok l3 lb p1 p2 q1 q2 more n10 => ?_⟩
  have z1 := hH.set n10
  generalize setH M2 h p n1 = M3 at z1
  conv => whnf
  obtain ⟨pn, rfl⟩ : ∃ pn : Nat, pp = (pn : Int) := ⟨pp.toNat, by omega⟩
  obtain ⟨qn, rfl⟩ : ∃ qn : Nat, qq = (qn : Int) := ⟨qq.toNat, by omega⟩
  refine ⟨rfl, ?_⟩
  conv => whnf
  refine ⟨rfl, ?_⟩
  conv => whnf
  refine ⟨h, p, n1, ls, pn, qn, rfl, z1, lok, by omega, by omega, by omega, by omega, fun T n2 ok hls hws hbs n20 => ?_⟩
  have z2 := z1.set n20
  generalize setH M3 h p n2 = M4 at z2
  conv => whnf
  refine ⟨h, p, n2, rfl, z2, fun R n3 okR hR2 n30 => ?_⟩
  have z3 := z2.set n30
  generalize setH M4 h p n3 = M5 at z3
  conv => whnf
  refine ⟨h, p, n3, 2, rfl, z3, by decide, fun v v0 v1 => ?_⟩
  have z4 := z3.set (m := n3 + 1) (by omega)
  generalize setH M5 h p (n3 + 1) = M6 at z4
  refine eq_int ⟨fun e => ?_, fun e => ?_⟩
  · conv => whnf
    refine ⟨_, rfl, _, rfl, _, rfl, szLe (by show 5 ≤ 1000000; decide), ?_⟩
    have e : D.tup [D.str "task", D.int 2, D.tup (R.ls.map D.int), D.tup (R.bs.map rsD), D.tup (R.ws.map rsD)] = tkD R.flip := by
      unfold tkD taskD
      show _ = D.tup [D.str "task", D.int ((R.ls.map D.int).length : Int), D.tup (R.ls.map D.int), D.tup (R.bs.map rsD), D.tup (R.ws.map rsD)]
      rw [List.length_map, hR2]
      rfl
    rw [e]
    exact rest_ok (G := G) (R := R.flip) z4 ok okR.flip q
  · exact rest_ok (G := G) z4 ok okR q
def t_roadR (G : Gm) : S3 :=
    (s3Seq (s3Asg (e3Call (sp_law_choices G) (a3Cons (e3Lst (a3Cons (e3LstRg1 (e3Var 1)) (a3Cons (e3LstRg1 (e3Var 1)) a3Nil))) a3Nil)) 4)
    (s3Seq (s3Asg (e3TupOf (e3Lc (i3Seq (e3Var 4)) 6 (t3Test (e3Op (r3In false) (e3Var 6) (e3Var 3))) (e3Var 6) [6])) 3)
    (s3Ret (e3Tup (a3Cons (e3C (.str "task")) (a3Cons (e3C (.int 2)) (a3Cons (e3Tup (a3Cons (e3Var 1) (a3Cons (e3Var 1) a3Nil))) (a3Cons (e3Tup (a3Cons (e3TupOf (e3Var 2)) a3Nil)) (a3Cons (e3Tup (a3Cons (e3Var 3) (a3Cons (e3Sl (e3Var 3) o3None (o3Some (e3Call (sp_law_take G) (a3Cons (e3Var 0) (a3Cons (e3C (.int 2)) a3Nil))))) a3Nil))) a3Nil))))))))) 
def diagI (m : Nat) : List (List Int) := (List.range m).map fun a : Nat => [(a : Int), (a : Int)]
theorem diag_ok {m : Nat} (hm : m ≤ 6) : RsOk 4000 [(m : Int), (m : Int)] (diagI m) := by
  refine ⟨by unfold diagI; simp; omega, fun r hr => ?_, ?_⟩
  · unfold diagI at hr
    obtain ⟨a, ha, rfl⟩ := List.mem_map.mp hr
    have ha := List.mem_range.mp ha
    refine ⟨rfl, fun j x l e1 e2 => ?_⟩
    match j, e1, e2 with
    | 0, e1, e2 => cases e1; cases e2; omega
    | 1, e1, e2 => cases e1; cases e2; omega
    | j + 2, e1, e2 => simp at e1
  · unfold diagI
    refine List.pairwise_map.mpr (List.Pairwise.imp (fun {a b} h => ?_) List.pairwise_lt_range)
    unfold ltL lexLeI
    rw [if_neg (by omega)]
    exact decide_eq_false (by omega)
theorem full_okR {m : Nat} : OkS [(m : Int), (m : Int)] [rngI m, rngI m] := ⟨rfl, fun j s l e1 e2 => by
  match j, e1, e2 with
  | 0, e1, e2 => cases e1; cases e2; exact ⟨rngI_nodup _, fun x hx => mem_rngI.mp hx⟩
  | 1, e1, e2 => cases e1; cases e2; exact ⟨rngI_nodup _, fun x hx => mem_rngI.mp hx⟩
  | j + 2, e1, e2 => simp at e1⟩
theorem pr_mm {m : Nat} (hm : m ≤ 6) : prodD ([(m : Int), (m : Int)].map D.int) ≤ 4000 := by
  show (m : Int) * ((m : Int) * 1) ≤ 4000
  have : m = 0 ∨ m = 1 ∨ m = 2 ∨ m = 3 ∨ m = 4 ∨ m = 5 ∨ m = 6 := by omega
  rcases this with rfl | rfl | rfl | rfl | rfl | rfl | rfl <;> decide
theorem roadR_ok {Q : Q3} {E : Value → Option Addr → MH → Prop} {M0 M : MH} {h d wa ba : Addr} {n k0 : Int} {m : Nat} {br : List (List Int)} (z0 : HandD M0 h d k0) (n0 : 0 ≤ n) (s0 : Sub (setH M0 h d n) M) (m2 : 2 ≤ m) (m6 : m ≤ 6) (hw : M wa = some (.lst ((diagI m).map rowD))) (hb : M ba = some (.lst (br.map rowD)))
    (q : ∀ (T : Tk) (n' : Int), TkOk 4000 T → T.ls.length = 2 → 0 ≤ n' → Q (tkD T) (setH M0 h d n')) :
    t_roadR G (rtX E) (rtD Q) [some (.ref h), some (.int (m : Int)), some (.ref wa), some (.ref ba), none, none, none] M := by
  have z : HandD M h d n := z0.at_ s0 n0
  refine ⟨RgOk.of_le (by decide) (by omega) (by decide) (by omega), fun p1 np1 => ⟨RgOk.of_le (by decide) (by omega) (by decide) (by omega), fun p2 np2 => ⟨szLe (by show 2 ≤ 1000000; decide), fun p3 np3 => ?_⟩⟩⟩
  have t1 := (Sub.refl M).new (o := .lst (rngD 0 (m : Int).toNat)) np1
  have e1 := updM_same (M := M) (a := p1) (o := .lst (rngD 0 (m : Int).toNat))
  generalize updM M p1 (.lst (rngD 0 (m : Int).toNat)) = M1 at t1 e1 np2 np3 ⊢
  have t2 := (Sub.refl M1).new (o := .lst (rngD 0 (m : Int).toNat)) np2
  have e2 := updM_same (M := M1) (a := p2) (o := .lst (rngD 0 (m : Int).toNat))
  generalize updM M1 p2 (.lst (rngD 0 (m : Int).toNat)) = M2 at t2 e2 np3 ⊢
  have t3 := (Sub.refl M2).new (o := .lst [D.ref p1, .ref p2]) np3
  have e3 := updM_same (M := M2) (a := p3) (o := .lst [D.ref p1, .ref p2])
  generalize updM M2 p3 (.lst [D.ref p1, .ref p2]) = M3 at t3 e3 ⊢
  have t13 := (t1.trans t2).trans t3
  rw [Int.toNat_natCast, rngI_D] at e1 e2
  have fok := full_okR (m := m)
  have few := fok.few (by show 2 ≤ 4; decide) (fun x hx => by simp at hx; omega) (pr_mm m6)
  have hl : LL M3 p3 [rngI m, rngI m] := ⟨[p1, p2], .inl e3, rfl, fun k b s h1 h2 => by
    match k, h1, h2 with
    | 0, h1, h2 => cases h1; cases h2; exact .inl ((t2.trans t3) _ _ e1)
    | 1, h1, h2 => cases h1; cases h2; exact .inl (t3 _ _ e2)
    | k + 2, h1, h2 => simp at h1⟩
  obtain ⟨refs, h1, h2, h3, h4⟩ := hl.prod few
  refine ⟨p3, refs, _, rfl, h1, h2, h3, h4, few.prods, fun y ny => ?_⟩
  rw [prod_rows]
  have t4 := (Sub.refl M3).new (o := .lst ((prodI [rngI m, rngI m]).map rowD)) ny
  have hy := updM_same (M := M3) (a := y) (o := .lst ((prodI [rngI m, rngI m]).map rowD))
  generalize updM M3 y (.lst ((prodI [rngI m, rngI m]).map rowD)) = M4 at t4 hy
  have t14 := t13.trans t4
  conv => whnf
  refine ⟨_, .inl hy, fun u nu => ?_⟩
  refine lcFilter (fun x => decide (intsOf x ∈ br)) id nu (fun M' s => .inl (s _ _ hy)) (fun k x M' R hx s k2 => ?_) (fun k x M' R hx _ s k2 => k2 M' (Sub.refl _)) (szLt (by rw [List.length_map]; have := few.prod; omega)) fun M5 t5 h5 => ?_
  · rw [List.getElem?_map, Option.map_eq_some_iff] at hx
    obtain ⟨r, hr, rfl⟩ := hx
    refine in_rows (r := r) (rs := br) (.inl ((t14.trans s) _ _ hb)) ?_
    rw [Bool.false_xor]
    have := k2 M' (Sub.refl _)
    rw [intsOf_row] at this
    exact this
  have ef : (((prodI [rngI m, rngI m]).map rowD).filter (fun x => decide (intsOf x ∈ br))).map id = ((prodI [rngI m, rngI m]).filter fun r => decide (r ∈ br)).map rowD := by
    rw [List.map_id, List.filter_map]
    congr 1
    refine List.filter_congr fun r _ => ?_
    show decide (intsOf (rowD r) ∈ br) = _
    rw [intsOf_row]
  rw [ef] at h5
  have bok : RsOk 4000 [(m : Int), (m : Int)] ((prodI [rngI m, rngI m]).filter fun r => decide (r ∈ br)) := by
    refine ⟨Nat.le_trans (List.length_filter_le _ _) few.prod, fun r hr => pick_rw fok (mem_prodI.mp (List.mem_filter.mp hr).1), (prodI_asc fun s hs => ?_).sublist List.filter_sublist⟩
    simp at hs
    subst hs
    exact rng_ascI m
  generalize (prodI [rngI m, rngI m]).filter (fun r => decide (r ∈ br)) = bl at h5 bok
  have t15 := t14.trans t5
  have z5 := z.sub t15
  refine ⟨_, .inl h5, ?_⟩
  conv => whnf
  refine ⟨szLe (by show 2 ≤ 1000000; decide), _, .inl (t15 _ _ hw), szLe (by show 1 ≤ 1000000; decide), h, d, n, 2, rfl, z5, by decide, fun v v0 v1 => ?_⟩
  obtain ⟨k, rfl⟩ : ∃ k : Nat, v = (k : Int) := ⟨v.toNat, by omega⟩
  conv => whnf
  refine ⟨szLe (by show 2 ≤ 1000000; decide), szLe (by show 5 ≤ 1000000; decide), setH M0 h d (n + 1), (subH (m := n + 1) s0).trans (subH (n := n) (by rw [z.self]; exact t15)), ?_⟩
  have := q ⟨[(m : Int), (m : Int)], [diagI m], [bl, bl.take k]⟩ (n + 1) ⟨by show 2 ≤ 2; decide, by show 2 ≤ 4; decide, fun x hx => by simp at hx; omega, pr_mm m6, by show 1 ≤ 1; decide, by show 1 ≤ 4; decide, by show 1 ≤ 2; decide, by show 2 ≤ 4; decide, fun rs hrs => ?_, fun rs hrs => ?_⟩ rfl (by omega)
  · have ec : L3.cutD (bl.map rowD) none (some (k : Int)) = (bl.take k).map rowD := by
      unfold L3.cutD
      rw [show HT.sIx (bl.map rowD).length 0 none = 0 from rfl, show HT.sIx (bl.map rowD).length (bl.map rowD).length (some (k : Int)) = min k (bl.map rowD).length from HT.sIx_nat _ _ k, Nat.sub_zero, List.drop_zero, ← List.map_take]
      congr 1
      rw [List.length_map]
      by_cases hk : k ≤ bl.length
      · rw [Nat.min_eq_left hk]
      · rw [Nat.min_eq_right (by omega), List.take_length, List.take_of_length_le (by omega)]
    rw [ec]
    exact this
  · have hrs : rs ∈ [diagI m] := hrs
    rw [List.mem_singleton] at hrs
    subst hrs
    exact diag_ok m6
  · have hrs : rs ∈ [bl, bl.take k] := hrs
    simp only [List.mem_cons, List.not_mem_nil, or_false] at hrs
    rcases hrs with rfl | rfl
    · exact bok
    · exact ⟨Nat.le_trans (by rw [List.length_take]; exact Nat.min_le_right _ _) bok.len, fun r hr => bok.ok r (List.mem_of_mem_take hr), bok.asc.sublist (List.take_sublist _ _)⟩
theorem rd_law_road (TT : Txt G mg) : Rd3 N_law_road (t_law_road G) (sp_law_road G) := by
  rintro ds M Q E ⟨h, d, n, rfl, z, q⟩
  have n0 := z.n0
  refine ⟨h, d, n, 5, rfl, z, by decide, fun v v0 v1 => ?_⟩
  obtain ⟨m, hm⟩ : ∃ m : Nat, 2 + v = (m : Int) := ⟨(2 + v).toNat, by omega⟩
  conv => whnf
  rw [hm]
  have z1 := z.set (m := n + 1) (by omega)
  refine ⟨by omega, by omega, fun wp nw => ?_⟩
  refine lcMap (fun x => .tup [x, x]) nw (fun _ _ => trivial) (fun k x M' R hx s k2 => ⟨szLe (by show 2 ≤ 1000000; decide), k2 M' (Sub.refl _)⟩) (szLt (by rw [rngD_length]; omega)) fun M1 s1 h1 => ?_
  have ew : (rngD 0 (m : Int).toNat).map (fun x => D.tup [x, x]) = (diagI m).map rowD := by
    unfold rngD diagI
    rw [Int.toNat_natCast, List.map_map, List.map_map]
    refine List.map_congr_left fun a _ => ?_
    show D.tup [D.int (0 + (a : Int)), D.int (0 + (a : Int))] = rowD [(a : Int), (a : Int)]
    rw [Int.zero_add]
    rfl
  rw [ew] at h1
  conv => whnf
  refine ⟨by omega, by omega, fun bp nb => ?_⟩
  refine lcMap (fun x => match x with | .int a => .tup [.int (a + 1), .int a] | _ => .non) nb (fun _ _ => trivial) (fun k x M' R hx s k2 => ?_) (szLt (by rw [rngD_length]; omega)) fun M2 s2 h2 => ?_
  · obtain ⟨_, rfl⟩ := rngD_get hx
    exact ⟨szLe (by show 2 ≤ 1000000; decide), k2 M' (Sub.refl _)⟩
  have eb : (rngD 0 ((m : Int) - 1).toNat).map (fun x => match x with | .int a => .tup [.int (a + 1), .int a] | _ => .non) = ((List.range ((m : Int) - 1).toNat).map fun a => [((0 + (a : Nat) : Int) + 1), (0 + (a : Nat) : Int)]).map rowD := by
    unfold rngD
    rw [List.map_map, List.map_map]
    rfl
  rw [eb] at h2
  have hbl : ((List.range ((m : Int) - 1).toNat).map fun a => [((0 + (a : Nat) : Int) + 1), (0 + (a : Nat) : Int)]).length ≤ 6 := by rw [List.length_map, List.length_range]; omega
  generalize ((List.range ((m : Int) - 1).toNat).map fun a => [((0 + (a : Nat) : Int) + 1), (0 + (a : Nat) : Int)]) = br at h2 hbl
  have t12 := s1.trans s2
  have z2 := z1.sub t12
  conv => whnf
  have s02 : ∀ {k : Int}, Sub (setH M h d k) (setH M2 h d k) := fun {k} => by
    have h1 : Sub (setH (setH M h d (n + 1)) h d k) (setH M2 h d k) := subH (n := n + 1) (by rw [setH_setH]; exact t12)
    rwa [setH_setH] at h1
  have bph : bp ≠ h := by
    rintro rfl
    rw [s1 _ _ setH_at] at nb
    cases nb
  have wph : wp ≠ h := by
    rintro rfl
    rw [setH_at] at nw
    cases nw
  have wpb : wp ≠ bp := neM h1 nb
  have mbp : ∀ {k : Int}, setH M h d k bp = none := fun {k} => by
    have := s1.free nb
    rw [setH_ne bph] at this ⊢
    exact this
  have hw2 := s2 _ _ h1
  refine ⟨h, d, n + 1, 2, rfl, z2, by decide, fun b b0 b1 => eq_int ⟨fun e => ?_, fun e => ?_⟩⟩
  · have z3 := z2.set (m := n + 1 + 1) (by omega)
    conv => whnf
    refine ⟨⟨_, .inl ((setH_ne bph).trans h2)⟩, h, d, n + 1 + 1, m, rfl, z3, by omega, fun a a0 a1 => ?_⟩
    rw [setH_setH]
    conv => whnf
    refine ⟨h, d, n + 1 + 1 + 1, m, rfl, z2.set (by omega), by omega, fun c c0 c1 => ?_⟩
    rw [setH_setH]
    conv => whnf
    refine ⟨szLe (by show 2 ≤ 1000000; decide), _, (setH_ne bph).trans h2, szLt (by rw [List.length_map]; omega), ?_⟩
    refine roadR_ok (G := G) (M0 := M) (m := m) (br := br ++ [[a, c]]) (n := n + 1 + 1 + 1 + 1) z (by omega) (s02.new mbp) (by omega) (by omega) ((updM_ne wpb).trans ((setH_ne wph).trans hw2)) ?_ q
    rw [updM_same, List.map_append]
    rfl
  · exact roadR_ok (G := G) (M0 := M) (m := m) (br := br) (n := n + 1 + 1) z (by omega) s02 (by omega) (by omega) ((setH_ne wph).trans hw2) ((setH_ne bph).trans h2) q
end My

namespace My
open PySem PySem.Spec PyProof.Rows L2 L3

variable {P : Program} {w : World} {G : Gm} {mg : Str → Option Value} {base : Heap}
theorem len_is_number : ∀ ds M Q E, sp_is_number G ds M Q E → ds.length = 3 := by (intro ds M Q E h; repeat (first | (obtain ⟨e, _⟩ := h; subst e; rfl) | (obtain ⟨_, h⟩ := h)))
theorem fn_is_number (T : Txt G mg) {f : Addr} {fd : FuncData} (F : Fun G.K "is_number" "is_number" s_is_number f fd) : Fn3 P w G.K mg base 1 f fd ["value", "least", "most"] (sp_is_number G) :=
  fn3_ok F sc_is_number len_is_number (fun cdv A outer s H E hr => der_is_number T  f cdv A outer s H E hr) (rd_is_number T)
theorem len_labels_at : ∀ ds M Q E, sp_labels_at G ds M Q E → ds.length = 2 := by (intro ds M Q E h; repeat (first | (obtain ⟨e, _⟩ := h; subst e; rfl) | (obtain ⟨_, h⟩ := h)))
theorem fn_labels_at (T : Txt G mg) {f : Addr} {fd : FuncData} (F : Fun G.K "labels_at" "labels_at" s_labels_at f fd) : Fn3 P w G.K mg base 1 f fd ["rows", "at"] (sp_labels_at G) :=
  fn3_ok F sc_labels_at len_labels_at (fun cdv A outer s H E hr => der_labels_at T  f cdv A outer s H E hr) (rd_labels_at T)
theorem len_law_draws : ∀ ds M Q E, sp_law_draws G ds M Q E → ds.length = 2 := by (intro ds M Q E h; repeat (first | (obtain ⟨e, _⟩ := h; subst e; rfl) | (obtain ⟨_, h⟩ := h)))
theorem fn_law_draws (T : Txt G mg) {f : Addr} {fd : FuncData} (F : Fun G.K "_law_draws" "_law_draws" s_law_draws f fd) : Fn3 P w G.K mg base 1 f fd ["script", "many"] (sp_law_draws G) :=
  fn3_ok F sc_law_draws len_law_draws (fun cdv A outer s H E hr => der_law_draws T  f cdv A outer s H E hr) (rd_law_draws T)
theorem len_law_take : ∀ ds M Q E, sp_law_take G ds M Q E → ds.length = 2 := by (intro ds M Q E h; repeat (first | (obtain ⟨e, _⟩ := h; subst e; rfl) | (obtain ⟨_, h⟩ := h)))
theorem fn_law_take (T : Txt G mg) {f : Addr} {fd : FuncData} (F : Fun G.K "_law_take" "_law_take" s_law_take f fd) : Fn3 P w G.K mg base 1 f fd ["hand", "many"] (sp_law_take G) :=
  fn3_ok F sc_law_take len_law_take (fun cdv A outer s H E hr => der_law_take T  f cdv A outer s H E hr) (rd_law_take T)
theorem len_law_choices : ∀ ds M Q E, sp_law_choices G ds M Q E → ds.length = 1 := by (intro ds M Q E h; repeat (first | (obtain ⟨e, _⟩ := h; subst e; rfl) | (obtain ⟨_, h⟩ := h)))
theorem fn_law_choices (T : Txt G mg) {f : Addr} {fd : FuncData} (F : Fun G.K "_law_choices" "_law_choices" s_law_choices f fd) : Fn3 P w G.K mg base 1 f fd ["lists"] (sp_law_choices G) :=
  fn3_ok F sc_law_choices len_law_choices (fun cdv A outer s H E hr => der_law_choices T  f cdv A outer s H E hr) (rd_law_choices T)
theorem len_law_is_choice : ∀ ds M Q E, sp_law_is_choice G ds M Q E → ds.length = 2 := by (intro ds M Q E h; repeat (first | (obtain ⟨e, _⟩ := h; subst e; rfl) | (obtain ⟨_, h⟩ := h)))
theorem fn_law_is_choice (T : Txt G mg) {f : Addr} {fd : FuncData} (F : Fun G.K "_law_is_choice" "_law_is_choice" s_law_is_choice f fd) : Fn3 P w G.K mg base 1 f fd ["row", "sets"] (sp_law_is_choice G) :=
  fn3_ok F sc_law_is_choice len_law_is_choice (fun cdv A outer s H E hr => der_law_is_choice T  f cdv A outer s H E hr) (rd_law_is_choice T)
theorem len_law_whole : ∀ ds M Q E, sp_law_whole G ds M Q E → ds.length = 1 := by (intro ds M Q E h; repeat (first | (obtain ⟨e, _⟩ := h; subst e; rfl) | (obtain ⟨_, h⟩ := h)))
theorem fn_law_whole (T : Txt G mg) {f : Addr} {fd : FuncData} (F : Fun G.K "_law_whole" "_law_whole" s_law_whole f fd) : Fn3 P w G.K mg base 1 f fd ["found"] (sp_law_whole G) :=
  fn3_ok F sc_law_whole len_law_whole (fun cdv A outer s H E hr => der_law_whole T  f cdv A outer s H E hr) (rd_law_whole T)
theorem len_law_standing : ∀ ds M Q E, sp_law_standing G ds M Q E → ds.length = 2 := by (intro ds M Q E h; repeat (first | (obtain ⟨e, _⟩ := h; subst e; rfl) | (obtain ⟨_, h⟩ := h)))
theorem fn_law_standing (T : Txt G mg) {f : Addr} {fd : FuncData} (F : Fun G.K "_law_standing" "_law_standing" s_law_standing f fd) : Fn3 P w G.K mg base 1 f fd ["side", "colours"] (sp_law_standing G) :=
  fn3_ok F sc_law_standing len_law_standing (fun cdv A outer s H E hr => der_law_standing T  f cdv A outer s H E hr) (rd_law_standing T)
theorem len_law_renumbered : ∀ ds M Q E, sp_law_renumbered G ds M Q E → ds.length = 2 := by (intro ds M Q E h; repeat (first | (obtain ⟨e, _⟩ := h; subst e; rfl) | (obtain ⟨_, h⟩ := h)))
theorem fn_law_renumbered (T : Txt G mg) {f : Addr} {fd : FuncData} (F : Fun G.K "_law_renumbered" "_law_renumbered" s_law_renumbered f fd) : Fn3 P w G.K mg base 1 f fd ["row", "kept"] (sp_law_renumbered G) :=
  fn3_ok F sc_law_renumbered len_law_renumbered (fun cdv A outer s H E hr => der_law_renumbered T  f cdv A outer s H E hr) (rd_law_renumbered T)
theorem len_fits_bounds : ∀ ds M Q E, sp_fits_bounds G ds M Q E → ds.length = 1 := by (intro ds M Q E h; repeat (first | (obtain ⟨e, _⟩ := h; subst e; rfl) | (obtain ⟨_, h⟩ := h)))
theorem fn_fits_bounds (T : Txt G mg) {f_is_number : Addr} {fd_is_number : FuncData} (C_is_number : Cal P w G.K mg base 1 f_is_number fd_is_number "is_number" ["value", "least", "most"] (sp_is_number G)) {f : Addr} {fd : FuncData} (F : Fun G.K "fits_bounds" "fits_bounds" s_fits_bounds f fd) : Fn3 P w G.K mg base 2 f fd ["labels"] (sp_fits_bounds G) :=
  fn3_ok F sc_fits_bounds len_fits_bounds (fun cdv A outer s H E hr => der_fits_bounds T C_is_number f cdv A outer s H E hr) (rd_fits_bounds T)
theorem len_fits_labels : ∀ ds M Q E, sp_fits_labels G ds M Q E → ds.length = 2 := by (intro ds M Q E h; repeat (first | (obtain ⟨e, _⟩ := h; subst e; rfl) | (obtain ⟨_, h⟩ := h)))
theorem fn_fits_labels (T : Txt G mg) {f_is_number : Addr} {fd_is_number : FuncData} (C_is_number : Cal P w G.K mg base 1 f_is_number fd_is_number "is_number" ["value", "least", "most"] (sp_is_number G)) {f : Addr} {fd : FuncData} (F : Fun G.K "fits_labels" "fits_labels" s_fits_labels f fd) : Fn3 P w G.K mg base 2 f fd ["row", "labels"] (sp_fits_labels G) :=
  fn3_ok F sc_fits_labels len_fits_labels (fun cdv A outer s H E hr => der_fits_labels T C_is_number f cdv A outer s H E hr) (rd_fits_labels T)
theorem len_struck : ∀ ds M Q E, sp_struck G ds M Q E → ds.length = 1 := by (intro ds M Q E h; repeat (first | (obtain ⟨e, _⟩ := h; subst e; rfl) | (obtain ⟨_, h⟩ := h)))
theorem fn_struck (T : Txt G mg) {f_labels_at : Addr} {fd_labels_at : FuncData} (C_labels_at : Cal P w G.K mg base 1 f_labels_at fd_labels_at "labels_at" ["rows", "at"] (sp_labels_at G)) {f : Addr} {fd : FuncData} (F : Fun G.K "struck" "struck" s_struck f fd) : Fn3 P w G.K mg base 2 f fd ["task"] (sp_struck G) :=
  fn3_ok F sc_struck len_struck (fun cdv A outer s H E hr => der_struck T C_labels_at f cdv A outer s H E hr) (rd_struck T)
theorem len_law_rows : ∀ ds M Q E, sp_law_rows G ds M Q E → ds.length = 3 := by (intro ds M Q E h; repeat (first | (obtain ⟨e, _⟩ := h; subst e; rfl) | (obtain ⟨_, h⟩ := h)))
theorem fn_law_rows (T : Txt G mg) {f_law_choices : Addr} {fd_law_choices : FuncData} (C_law_choices : Cal P w G.K mg base 1 f_law_choices fd_law_choices "_law_choices" ["lists"] (sp_law_choices G)) {f_law_take : Addr} {fd_law_take : FuncData} (C_law_take : Cal P w G.K mg base 1 f_law_take fd_law_take "_law_take" ["hand", "many"] (sp_law_take G)) {f : Addr} {fd : FuncData} (F : Fun G.K "_law_rows" "_law_rows" s_law_rows f fd) : Fn3 P w G.K mg base 2 f fd ["hand", "labels", "share"] (sp_law_rows G) :=
  fn3_ok F sc_law_rows len_law_rows (fun cdv A outer s H E hr => der_law_rows T C_law_choices C_law_take f cdv A outer s H E hr) (rd_law_rows T)
theorem len_law_shape : ∀ ds M Q E, sp_law_shape G ds M Q E → ds.length = 1 := by (intro ds M Q E h; repeat (first | (obtain ⟨e, _⟩ := h; subst e; rfl) | (obtain ⟨_, h⟩ := h)))
theorem fn_law_shape (T : Txt G mg) {f_law_take : Addr} {fd_law_take : FuncData} (C_law_take : Cal P w G.K mg base 1 f_law_take fd_law_take "_law_take" ["hand", "many"] (sp_law_take G)) {f : Addr} {fd : FuncData} (F : Fun G.K "_law_shape" "_law_shape" s_law_shape f fd) : Fn3 P w G.K mg base 2 f fd ["hand"] (sp_law_shape G) :=
  fn3_ok F sc_law_shape len_law_shape (fun cdv A outer s H E hr => der_law_shape T C_law_take f cdv A outer s H E hr) (rd_law_shape T)
theorem len_law_wrong_task : ∀ ds M Q E, sp_law_wrong_task G ds M Q E → ds.length = 2 := by (intro ds M Q E h; repeat (first | (obtain ⟨e, _⟩ := h; subst e; rfl) | (obtain ⟨_, h⟩ := h)))
theorem fn_law_wrong_task (T : Txt G mg) {f_law_take : Addr} {fd_law_take : FuncData} (C_law_take : Cal P w G.K mg base 1 f_law_take fd_law_take "_law_take" ["hand", "many"] (sp_law_take G)) {f : Addr} {fd : FuncData} (F : Fun G.K "_law_wrong_task" "_law_wrong_task" s_law_wrong_task f fd) : Fn3 P w G.K mg base 2 f fd ["hand", "task"] (sp_law_wrong_task G) :=
  fn3_ok F sc_law_wrong_task len_law_wrong_task (fun cdv A outer s H E hr => der_law_wrong_task T C_law_take f cdv A outer s H E hr) (rd_law_wrong_task T)
theorem len_law_tidied : ∀ ds M Q E, sp_law_tidied G ds M Q E → ds.length = 1 := by (intro ds M Q E h; repeat (first | (obtain ⟨e, _⟩ := h; subst e; rfl) | (obtain ⟨_, h⟩ := h)))
theorem fn_law_tidied (T : Txt G mg) {f_law_standing : Addr} {fd_law_standing : FuncData} (C_law_standing : Cal P w G.K mg base 1 f_law_standing fd_law_standing "_law_standing" ["side", "colours"] (sp_law_standing G)) {f_law_is_choice : Addr} {fd_law_is_choice : FuncData} (C_law_is_choice : Cal P w G.K mg base 1 f_law_is_choice fd_law_is_choice "_law_is_choice" ["row", "sets"] (sp_law_is_choice G)) {f_law_renumbered : Addr} {fd_law_renumbered : FuncData} (C_law_renumbered : Cal P w G.K mg base 1 f_law_renumbered fd_law_renumbered "_law_renumbered" ["row", "kept"] (sp_law_renumbered G)) {f : Addr} {fd : FuncData} (F : Fun G.K "_law_tidied" "_law_tidied" s_law_tidied f fd) : Fn3 P w G.K mg base 2 f fd ["task"] (sp_law_tidied G) :=
  fn3_ok F sc_law_tidied len_law_tidied (fun cdv A outer s H E hr => der_law_tidied T C_law_standing C_law_is_choice C_law_renumbered f cdv A outer s H E hr) (rd_law_tidied T)
theorem len_law_road : ∀ ds M Q E, sp_law_road G ds M Q E → ds.length = 1 := by (intro ds M Q E h; repeat (first | (obtain ⟨e, _⟩ := h; subst e; rfl) | (obtain ⟨_, h⟩ := h)))
theorem fn_law_road (T : Txt G mg) {f_law_take : Addr} {fd_law_take : FuncData} (C_law_take : Cal P w G.K mg base 1 f_law_take fd_law_take "_law_take" ["hand", "many"] (sp_law_take G)) {f_law_choices : Addr} {fd_law_choices : FuncData} (C_law_choices : Cal P w G.K mg base 1 f_law_choices fd_law_choices "_law_choices" ["lists"] (sp_law_choices G)) {f : Addr} {fd : FuncData} (F : Fun G.K "_law_road" "_law_road" s_law_road f fd) : Fn3 P w G.K mg base 2 f fd ["hand"] (sp_law_road G) :=
  fn3_ok F sc_law_road len_law_road (fun cdv A outer s H E hr => der_law_road T C_law_take C_law_choices f cdv A outer s H E hr) (rd_law_road T)
theorem len_are_rows : ∀ ds M Q E, sp_are_rows G ds M Q E → ds.length = 2 := by (intro ds M Q E h; repeat (first | (obtain ⟨e, _⟩ := h; subst e; rfl) | (obtain ⟨_, h⟩ := h)))
theorem fn_are_rows (T : Txt G mg) {f_fits_labels : Addr} {fd_fits_labels : FuncData} (C_fits_labels : Cal P w G.K mg base 2 f_fits_labels fd_fits_labels "fits_labels" ["row", "labels"] (sp_fits_labels G)) {f : Addr} {fd : FuncData} (F : Fun G.K "are_rows" "are_rows" s_are_rows f fd) : Fn3 P w G.K mg base 3 f fd ["rows", "labels"] (sp_are_rows G) :=
  fn3_ok F sc_are_rows len_are_rows (fun cdv A outer s H E hr => der_are_rows T C_fits_labels f cdv A outer s H E hr) (rd_are_rows T)
theorem len_law_drawn : ∀ ds M Q E, sp_law_drawn G ds M Q E → ds.length = 5 := by (intro ds M Q E h; repeat (first | (obtain ⟨e, _⟩ := h; subst e; rfl) | (obtain ⟨_, h⟩ := h)))
theorem fn_law_drawn (T : Txt G mg) {f_law_take : Addr} {fd_law_take : FuncData} (C_law_take : Cal P w G.K mg base 1 f_law_take fd_law_take "_law_take" ["hand", "many"] (sp_law_take G)) {f_law_rows : Addr} {fd_law_rows : FuncData} (C_law_rows : Cal P w G.K mg base 2 f_law_rows fd_law_rows "_law_rows" ["hand", "labels", "share"] (sp_law_rows G)) {f : Addr} {fd : FuncData} (F : Fun G.K "_law_drawn" "_law_drawn" s_law_drawn f fd) : Fn3 P w G.K mg base 3 f fd ["hand", "colours", "p", "q", "labels"] (sp_law_drawn G) :=
  fn3_ok F sc_law_drawn len_law_drawn (fun cdv A outer s H E hr => der_law_drawn T C_law_take C_law_rows f cdv A outer s H E hr) (rd_law_drawn T)
theorem len_check_task : ∀ ds M Q E, sp_check_task G ds M Q E → ds.length = 1 := by (intro ds M Q E h; repeat (first | (obtain ⟨e, _⟩ := h; subst e; rfl) | (obtain ⟨_, h⟩ := h)))
theorem fn_check_task (T : Txt G mg) {f_is_number : Addr} {fd_is_number : FuncData} (C_is_number : Cal P w G.K mg base 1 f_is_number fd_is_number "is_number" ["value", "least", "most"] (sp_is_number G)) {f_fits_bounds : Addr} {fd_fits_bounds : FuncData} (C_fits_bounds : Cal P w G.K mg base 2 f_fits_bounds fd_fits_bounds "fits_bounds" ["labels"] (sp_fits_bounds G)) {f_are_rows : Addr} {fd_are_rows : FuncData} (C_are_rows : Cal P w G.K mg base 3 f_are_rows fd_are_rows "are_rows" ["rows", "labels"] (sp_are_rows G)) {f : Addr} {fd : FuncData} (F : Fun G.K "check_task" "check_task" s_check_task f fd) : Fn3 P w G.K mg base 4 f fd ["task"] (sp_check_task G) :=
  fn3_ok F sc_check_task len_check_task (fun cdv A outer s H E hr => der_check_task T C_is_number C_fits_bounds C_are_rows f cdv A outer s H E hr) (rd_check_task T)
theorem len_tidied : ∀ ds M Q E, sp_tidied G ds M Q E → ds.length = 1 := by (intro ds M Q E h; repeat (first | (obtain ⟨e, _⟩ := h; subst e; rfl) | (obtain ⟨_, h⟩ := h)))
theorem fn_tidied (T : Txt G mg) {f_check_task : Addr} {fd_check_task : FuncData} (C_check_task : Cal P w G.K mg base 4 f_check_task fd_check_task "check_task" ["task"] (sp_check_task G)) {f_struck : Addr} {fd_struck : FuncData} (C_struck : Cal P w G.K mg base 2 f_struck fd_struck "struck" ["task"] (sp_struck G)) {f_labels_at : Addr} {fd_labels_at : FuncData} (C_labels_at : Cal P w G.K mg base 1 f_labels_at fd_labels_at "labels_at" ["rows", "at"] (sp_labels_at G)) {f : Addr} {fd : FuncData} (F : Fun G.K "tidied" "tidied" s_tidied f fd) : Fn3 P w G.K mg base 5 f fd ["task"] (sp_tidied G) :=
  fn3_ok F sc_tidied len_tidied (fun cdv A outer s H E hr => der_tidied T C_check_task C_struck C_labels_at f cdv A outer s H E hr) (rd_tidied T)
theorem len_law_refuses : ∀ ds M Q E, sp_law_refuses G ds M Q E → ds.length = 1 := by (intro ds M Q E h; repeat (first | (obtain ⟨e, _⟩ := h; subst e; rfl) | (obtain ⟨_, h⟩ := h)))
theorem fn_law_refuses (T : Txt G mg) {f_tidied : Addr} {fd_tidied : FuncData} (C_tidied : Cal P w G.K mg base 5 f_tidied fd_tidied "tidied" ["task"] (sp_tidied G)) {f : Addr} {fd : FuncData} (F : Fun G.K "_law_refuses" "_law_refuses" s_law_refuses f fd) : Fn3 P w G.K mg base 6 f fd ["task"] (sp_law_refuses G) :=
  fn3_ok F sc_law_refuses len_law_refuses (fun cdv A outer s H E hr => der_law_refuses T C_tidied f cdv A outer s H E hr) (rd_law_refuses T)
theorem len_law_like (n : Nat) : ∀ ds M Q E, spLkS n ds M Q E → ds.length = 2 := by
  cases n <;> (intro ds M Q E h; repeat (first | (obtain ⟨e, _⟩ := h; subst e; rfl) | (obtain ⟨_, h⟩ := h)))
theorem all_law_like (T : Txt G mg) {f_law_whole : Addr} {fd_law_whole : FuncData} (C_law_whole : Cal P w G.K mg base 1 f_law_whole fd_law_whole "_law_whole" ["found"] (sp_law_whole G)) {f : Addr} {fd : FuncData} (F : Fun G.K "_law_like" "_law_like" s_law_like f fd) (m : mg "_law_like" = some (.ref f)) (kp : PySem.W.keepIn G.K (.ref f) = true) (b : Binds G.K fd ["found", "due"] []) : ∀ n, Fn3 P w G.K mg base (2 + n) f fd ["found", "due"] (spLkS n)
  | 0 => fn3_ok F sc_law_like (len_law_like 0) (fun cdv A outer s H E hr => der_law_like T C_law_whole ⟨fn3_none, m, kp, b⟩ (Nat.le_refl _) f cdv A outer s H E hr) (rd_law_like T (.inl rfl))
  | n + 1 => by
    have ih := all_law_like T C_law_whole F m kp b n
    exact fn3_ok F sc_law_like (len_law_like (n + 1)) (fun cdv A outer s H E hr => der_law_like T C_law_whole ⟨ih, m, kp, b⟩ (by omega) f cdv A outer s H E hr) (rd_law_like T (.inr ⟨n, rfl, rfl⟩))
theorem fn_law_like (T : Txt G mg) {f_law_whole : Addr} {fd_law_whole : FuncData} (C_law_whole : Cal P w G.K mg base 1 f_law_whole fd_law_whole "_law_whole" ["found"] (sp_law_whole G)) {f : Addr} {fd : FuncData} (F : Fun G.K "_law_like" "_law_like" s_law_like f fd) (m : mg "_law_like" = some (.ref f)) (kp : PySem.W.keepIn G.K (.ref f) = true) (b : Binds G.K fd ["found", "due"] []) : Fn3 P w G.K mg base 8 f fd ["found", "due"] (sp_law_like G) := Fn3.mono (all_law_like T C_law_whole F m kp b 5) (by decide)
theorem len_law_asked : ∀ ds M Q E, sp_law_asked G ds M Q E → ds.length = 1 := by (intro ds M Q E h; repeat (first | (obtain ⟨e, _⟩ := h; subst e; rfl) | (obtain ⟨_, h⟩ := h)))
theorem fn_law_asked (T : Txt G mg) {f_law_draws : Addr} {fd_law_draws : FuncData} (C_law_draws : Cal P w G.K mg base 1 f_law_draws fd_law_draws "_law_draws" ["script", "many"] (sp_law_draws G)) {f_law_shape : Addr} {fd_law_shape : FuncData} (C_law_shape : Cal P w G.K mg base 2 f_law_shape fd_law_shape "_law_shape" ["hand"] (sp_law_shape G)) {f_law_drawn : Addr} {fd_law_drawn : FuncData} (C_law_drawn : Cal P w G.K mg base 3 f_law_drawn fd_law_drawn "_law_drawn" ["hand", "colours", "p", "q", "labels"] (sp_law_drawn G)) {f_law_road : Addr} {fd_law_road : FuncData} (C_law_road : Cal P w G.K mg base 2 f_law_road fd_law_road "_law_road" ["hand"] (sp_law_road G)) {f_law_take : Addr} {fd_law_take : FuncData} (C_law_take : Cal P w G.K mg base 1 f_law_take fd_law_take "_law_take" ["hand", "many"] (sp_law_take G)) {f_law_tidied : Addr} {fd_law_tidied : FuncData} (C_law_tidied : Cal P w G.K mg base 2 f_law_tidied fd_law_tidied "_law_tidied" ["task"] (sp_law_tidied G)) {f_law_like : Addr} {fd_law_like : FuncData} (C_law_like : Cal P w G.K mg base 8 f_law_like fd_law_like "_law_like" ["found", "due"] (sp_law_like G)) {f_tidied : Addr} {fd_tidied : FuncData} (C_tidied : Cal P w G.K mg base 5 f_tidied fd_tidied "tidied" ["task"] (sp_tidied G)) (K_tidied : BindsK G.K fd_tidied ["task"]) {f_law_refuses : Addr} {fd_law_refuses : FuncData} (C_law_refuses : Cal P w G.K mg base 6 f_law_refuses fd_law_refuses "_law_refuses" ["task"] (sp_law_refuses G)) {f_law_wrong_task : Addr} {fd_law_wrong_task : FuncData} (C_law_wrong_task : Cal P w G.K mg base 2 f_law_wrong_task fd_law_wrong_task "_law_wrong_task" ["hand", "task"] (sp_law_wrong_task G)) {f : Addr} {fd : FuncData} (F : Fun G.K "_law_asked" "_law_asked" s_law_asked f fd) : Fn3 P w G.K mg base 9 f fd ["script"] (sp_law_asked G) :=
  fn3_ok F sc_law_asked len_law_asked (fun cdv A outer s H E hr => der_law_asked T C_law_draws C_law_shape C_law_drawn C_law_road C_law_take C_law_tidied C_law_like C_tidied K_tidied C_law_refuses C_law_wrong_task f cdv A outer s H E hr) (rd_law_asked T)
theorem len_law : ∀ ds M Q E, sp_law G ds M Q E → ds.length = 1 := by (intro ds M Q E h; repeat (first | (obtain ⟨e, _⟩ := h; subst e; rfl) | (obtain ⟨_, h⟩ := h)))
theorem fn_law (T : Txt G mg) {f_law_asked : Addr} {fd_law_asked : FuncData} (C_law_asked : Cal P w G.K mg base 9 f_law_asked fd_law_asked "_law_asked" ["script"] (sp_law_asked G)) {f : Addr} {fd : FuncData} (F : Fun G.K "law" "law" s_law f fd) : Fn3 P w G.K mg base 10 f fd ["script"] (sp_law G) :=
  fn3_ok F sc_law len_law (fun cdv A outer s H E hr => der_law T C_law_asked f cdv A outer s H E hr) (rd_law T)
theorem all_mk {l : PySem.W.OpenLaw} {w : World} {K : PySem.W.Frag} {h : Heap} {mg : Str → Option Value} {fa : Addr} (X : K.In h) (GG : h.Ns mainGlobals mg) (hfa : mg "law" = some (.ref fa))
    {od0 an0 : Option Addr} {sl0 : Array (Option Value)} {oc0 kV0 dc0 pm0 cd0 ct0 : Value} {f0 : Addr} {od1 an1 : Option Addr} {sl1 : Array (Option Value)} {oc1 kV1 dc1 pm1 cd1 ct1 : Value} {f1 : Addr} {od2 an2 : Option Addr} {sl2 : Array (Option Value)} {oc2 kV2 dc2 pm2 cd2 ct2 : Value} {f2 : Addr} {od3 an3 : Option Addr} {sl3 : Array (Option Value)} {oc3 kV3 dc3 pm3 cd3 ct3 : Value} {f3 : Addr} {od4 an4 : Option Addr} {sl4 : Array (Option Value)} {oc4 kV4 dc4 pm4 cd4 ct4 : Value} {f4 : Addr} {od5 an5 : Option Addr} {sl5 : Array (Option Value)} {oc5 kV5 dc5 pm5 cd5 ct5 : Value} {f5 : Addr} {od6 an6 : Option Addr} {sl6 : Array (Option Value)} {oc6 kV6 dc6 pm6 cd6 ct6 : Value} {f6 : Addr} {od7 an7 : Option Addr} {sl7 : Array (Option Value)} {oc7 kV7 dc7 pm7 cd7 ct7 : Value} {f7 : Addr} {od8 an8 : Option Addr} {sl8 : Array (Option Value)} {oc8 kV8 dc8 pm8 cd8 ct8 : Value} {f8 : Addr} {od9 an9 : Option Addr} {sl9 : Array (Option Value)} {oc9 kV9 dc9 pm9 cd9 ct9 : Value} {f9 : Addr} {od10 an10 : Option Addr} {sl10 : Array (Option Value)} {oc10 kV10 dc10 pm10 cd10 ct10 : Value} {f10 : Addr} {od11 an11 : Option Addr} {sl11 : Array (Option Value)} {oc11 kV11 dc11 pm11 cd11 ct11 : Value} {f11 : Addr} {od12 an12 : Option Addr} {sl12 : Array (Option Value)} {oc12 kV12 dc12 pm12 cd12 ct12 : Value} {f12 : Addr} {od13 an13 : Option Addr} {sl13 : Array (Option Value)} {oc13 kV13 dc13 pm13 cd13 ct13 : Value} {f13 : Addr} {od14 an14 : Option Addr} {sl14 : Array (Option Value)} {oc14 kV14 dc14 pm14 cd14 ct14 : Value} {f14 : Addr} {od15 an15 : Option Addr} {sl15 : Array (Option Value)} {oc15 kV15 dc15 pm15 cd15 ct15 : Value} {f15 : Addr} {od16 an16 : Option Addr} {sl16 : Array (Option Value)} {oc16 kV16 dc16 pm16 cd16 ct16 : Value} {f16 : Addr} {od17 an17 : Option Addr} {sl17 : Array (Option Value)} {oc17 kV17 dc17 pm17 cd17 ct17 : Value} {f17 : Addr} {od18 an18 : Option Addr} {sl18 : Array (Option Value)} {oc18 kV18 dc18 pm18 cd18 ct18 : Value} {f18 : Addr} {od19 an19 : Option Addr} {sl19 : Array (Option Value)} {oc19 kV19 dc19 pm19 cd19 ct19 : Value} {f19 : Addr} {od20 an20 : Option Addr} {sl20 : Array (Option Value)} {oc20 kV20 dc20 pm20 cd20 ct20 : Value} {f20 : Addr} {od21 an21 : Option Addr} {sl21 : Array (Option Value)} {oc21 kV21 dc21 pm21 cd21 ct21 : Value} {f21 : Addr} {od22 an22 : Option Addr} {sl22 : Array (Option Value)} {oc22 kV22 dc22 pm22 cd22 ct22 : Value} {f22 : Addr} {od23 an23 : Option Addr} {sl23 : Array (Option Value)} {oc23 kV23 dc23 pm23 cd23 ct23 : Value} {f23 : Addr} {od24 an24 : Option Addr} {sl24 : Array (Option Value)} {oc24 kV24 dc24 pm24 cd24 ct24 : Value} {f24 : Addr}
    (a0 : PySem.W.nsIn K mainGlobals "is_number" = some (some (.ref f0))) (l0 : K.lookup f0 = some ⟨oc0, od0, .func (PySem.W.fnOf "is_number" "is_number" (defArgs s_is_number) (defBody s_is_number) (defScope s_is_number) .none kV0 dc0 pm0 an0 cd0 ct0), sl0⟩) (c0 : PySem.W.codeIn K cd0 "is_number" = true) (k0 : PySem.W.keepIn K (.ref f0) = true)
    (a1 : PySem.W.nsIn K mainGlobals "fits_bounds" = some (some (.ref f1))) (l1 : K.lookup f1 = some ⟨oc1, od1, .func (PySem.W.fnOf "fits_bounds" "fits_bounds" (defArgs s_fits_bounds) (defBody s_fits_bounds) (defScope s_fits_bounds) .none kV1 dc1 pm1 an1 cd1 ct1), sl1⟩) (c1 : PySem.W.codeIn K cd1 "fits_bounds" = true) (k1 : PySem.W.keepIn K (.ref f1) = true)
    (a2 : PySem.W.nsIn K mainGlobals "fits_labels" = some (some (.ref f2))) (l2 : K.lookup f2 = some ⟨oc2, od2, .func (PySem.W.fnOf "fits_labels" "fits_labels" (defArgs s_fits_labels) (defBody s_fits_labels) (defScope s_fits_labels) .none kV2 dc2 pm2 an2 cd2 ct2), sl2⟩) (c2 : PySem.W.codeIn K cd2 "fits_labels" = true) (k2 : PySem.W.keepIn K (.ref f2) = true)
    (a3 : PySem.W.nsIn K mainGlobals "are_rows" = some (some (.ref f3))) (l3 : K.lookup f3 = some ⟨oc3, od3, .func (PySem.W.fnOf "are_rows" "are_rows" (defArgs s_are_rows) (defBody s_are_rows) (defScope s_are_rows) .none kV3 dc3 pm3 an3 cd3 ct3), sl3⟩) (c3 : PySem.W.codeIn K cd3 "are_rows" = true) (k3 : PySem.W.keepIn K (.ref f3) = true)
    (a4 : PySem.W.nsIn K mainGlobals "check_task" = some (some (.ref f4))) (l4 : K.lookup f4 = some ⟨oc4, od4, .func (PySem.W.fnOf "check_task" "check_task" (defArgs s_check_task) (defBody s_check_task) (defScope s_check_task) .none kV4 dc4 pm4 an4 cd4 ct4), sl4⟩) (c4 : PySem.W.codeIn K cd4 "check_task" = true) (k4 : PySem.W.keepIn K (.ref f4) = true)
    (a5 : PySem.W.nsIn K mainGlobals "labels_at" = some (some (.ref f5))) (l5 : K.lookup f5 = some ⟨oc5, od5, .func (PySem.W.fnOf "labels_at" "labels_at" (defArgs s_labels_at) (defBody s_labels_at) (defScope s_labels_at) .none kV5 dc5 pm5 an5 cd5 ct5), sl5⟩) (c5 : PySem.W.codeIn K cd5 "labels_at" = true) (k5 : PySem.W.keepIn K (.ref f5) = true)
    (a6 : PySem.W.nsIn K mainGlobals "struck" = some (some (.ref f6))) (l6 : K.lookup f6 = some ⟨oc6, od6, .func (PySem.W.fnOf "struck" "struck" (defArgs s_struck) (defBody s_struck) (defScope s_struck) .none kV6 dc6 pm6 an6 cd6 ct6), sl6⟩) (c6 : PySem.W.codeIn K cd6 "struck" = true) (k6 : PySem.W.keepIn K (.ref f6) = true)
    (a7 : PySem.W.nsIn K mainGlobals "tidied" = some (some (.ref f7))) (l7 : K.lookup f7 = some ⟨oc7, od7, .func (PySem.W.fnOf "tidied" "tidied" (defArgs s_tidied) (defBody s_tidied) (defScope s_tidied) .none kV7 dc7 pm7 an7 cd7 ct7), sl7⟩) (c7 : PySem.W.codeIn K cd7 "tidied" = true) (k7 : PySem.W.keepIn K (.ref f7) = true)
    (a8 : PySem.W.nsIn K mainGlobals "_law_draws" = some (some (.ref f8))) (l8 : K.lookup f8 = some ⟨oc8, od8, .func (PySem.W.fnOf "_law_draws" "_law_draws" (defArgs s_law_draws) (defBody s_law_draws) (defScope s_law_draws) .none kV8 dc8 pm8 an8 cd8 ct8), sl8⟩) (c8 : PySem.W.codeIn K cd8 "_law_draws" = true) (k8 : PySem.W.keepIn K (.ref f8) = true)
    (a9 : PySem.W.nsIn K mainGlobals "_law_take" = some (some (.ref f9))) (l9 : K.lookup f9 = some ⟨oc9, od9, .func (PySem.W.fnOf "_law_take" "_law_take" (defArgs s_law_take) (defBody s_law_take) (defScope s_law_take) .none kV9 dc9 pm9 an9 cd9 ct9), sl9⟩) (c9 : PySem.W.codeIn K cd9 "_law_take" = true) (k9 : PySem.W.keepIn K (.ref f9) = true)
    (a10 : PySem.W.nsIn K mainGlobals "_law_choices" = some (some (.ref f10))) (l10 : K.lookup f10 = some ⟨oc10, od10, .func (PySem.W.fnOf "_law_choices" "_law_choices" (defArgs s_law_choices) (defBody s_law_choices) (defScope s_law_choices) .none kV10 dc10 pm10 an10 cd10 ct10), sl10⟩) (c10 : PySem.W.codeIn K cd10 "_law_choices" = true) (k10 : PySem.W.keepIn K (.ref f10) = true)
    (a11 : PySem.W.nsIn K mainGlobals "_law_rows" = some (some (.ref f11))) (l11 : K.lookup f11 = some ⟨oc11, od11, .func (PySem.W.fnOf "_law_rows" "_law_rows" (defArgs s_law_rows) (defBody s_law_rows) (defScope s_law_rows) .none kV11 dc11 pm11 an11 cd11 ct11), sl11⟩) (c11 : PySem.W.codeIn K cd11 "_law_rows" = true) (k11 : PySem.W.keepIn K (.ref f11) = true)
    (a12 : PySem.W.nsIn K mainGlobals "_law_is_choice" = some (some (.ref f12))) (l12 : K.lookup f12 = some ⟨oc12, od12, .func (PySem.W.fnOf "_law_is_choice" "_law_is_choice" (defArgs s_law_is_choice) (defBody s_law_is_choice) (defScope s_law_is_choice) .none kV12 dc12 pm12 an12 cd12 ct12), sl12⟩) (c12 : PySem.W.codeIn K cd12 "_law_is_choice" = true) (k12 : PySem.W.keepIn K (.ref f12) = true)
    (a13 : PySem.W.nsIn K mainGlobals "_law_whole" = some (some (.ref f13))) (l13 : K.lookup f13 = some ⟨oc13, od13, .func (PySem.W.fnOf "_law_whole" "_law_whole" (defArgs s_law_whole) (defBody s_law_whole) (defScope s_law_whole) .none kV13 dc13 pm13 an13 cd13 ct13), sl13⟩) (c13 : PySem.W.codeIn K cd13 "_law_whole" = true) (k13 : PySem.W.keepIn K (.ref f13) = true)
    (a14 : PySem.W.nsIn K mainGlobals "_law_like" = some (some (.ref f14))) (l14 : K.lookup f14 = some ⟨oc14, od14, .func (PySem.W.fnOf "_law_like" "_law_like" (defArgs s_law_like) (defBody s_law_like) (defScope s_law_like) .none kV14 dc14 pm14 an14 cd14 ct14), sl14⟩) (c14 : PySem.W.codeIn K cd14 "_law_like" = true) (k14 : PySem.W.keepIn K (.ref f14) = true)
    (a15 : PySem.W.nsIn K mainGlobals "_law_shape" = some (some (.ref f15))) (l15 : K.lookup f15 = some ⟨oc15, od15, .func (PySem.W.fnOf "_law_shape" "_law_shape" (defArgs s_law_shape) (defBody s_law_shape) (defScope s_law_shape) .none kV15 dc15 pm15 an15 cd15 ct15), sl15⟩) (c15 : PySem.W.codeIn K cd15 "_law_shape" = true) (k15 : PySem.W.keepIn K (.ref f15) = true)
    (a16 : PySem.W.nsIn K mainGlobals "_law_drawn" = some (some (.ref f16))) (l16 : K.lookup f16 = some ⟨oc16, od16, .func (PySem.W.fnOf "_law_drawn" "_law_drawn" (defArgs s_law_drawn) (defBody s_law_drawn) (defScope s_law_drawn) .none kV16 dc16 pm16 an16 cd16 ct16), sl16⟩) (c16 : PySem.W.codeIn K cd16 "_law_drawn" = true) (k16 : PySem.W.keepIn K (.ref f16) = true)
    (a17 : PySem.W.nsIn K mainGlobals "_law_wrong_task" = some (some (.ref f17))) (l17 : K.lookup f17 = some ⟨oc17, od17, .func (PySem.W.fnOf "_law_wrong_task" "_law_wrong_task" (defArgs s_law_wrong_task) (defBody s_law_wrong_task) (defScope s_law_wrong_task) .none kV17 dc17 pm17 an17 cd17 ct17), sl17⟩) (c17 : PySem.W.codeIn K cd17 "_law_wrong_task" = true) (k17 : PySem.W.keepIn K (.ref f17) = true)
    (a18 : PySem.W.nsIn K mainGlobals "_law_tidied" = some (some (.ref f18))) (l18 : K.lookup f18 = some ⟨oc18, od18, .func (PySem.W.fnOf "_law_tidied" "_law_tidied" (defArgs s_law_tidied) (defBody s_law_tidied) (defScope s_law_tidied) .none kV18 dc18 pm18 an18 cd18 ct18), sl18⟩) (c18 : PySem.W.codeIn K cd18 "_law_tidied" = true) (k18 : PySem.W.keepIn K (.ref f18) = true)
    (a19 : PySem.W.nsIn K mainGlobals "_law_standing" = some (some (.ref f19))) (l19 : K.lookup f19 = some ⟨oc19, od19, .func (PySem.W.fnOf "_law_standing" "_law_standing" (defArgs s_law_standing) (defBody s_law_standing) (defScope s_law_standing) .none kV19 dc19 pm19 an19 cd19 ct19), sl19⟩) (c19 : PySem.W.codeIn K cd19 "_law_standing" = true) (k19 : PySem.W.keepIn K (.ref f19) = true)
    (a20 : PySem.W.nsIn K mainGlobals "_law_renumbered" = some (some (.ref f20))) (l20 : K.lookup f20 = some ⟨oc20, od20, .func (PySem.W.fnOf "_law_renumbered" "_law_renumbered" (defArgs s_law_renumbered) (defBody s_law_renumbered) (defScope s_law_renumbered) .none kV20 dc20 pm20 an20 cd20 ct20), sl20⟩) (c20 : PySem.W.codeIn K cd20 "_law_renumbered" = true) (k20 : PySem.W.keepIn K (.ref f20) = true)
    (a21 : PySem.W.nsIn K mainGlobals "_law_refuses" = some (some (.ref f21))) (l21 : K.lookup f21 = some ⟨oc21, od21, .func (PySem.W.fnOf "_law_refuses" "_law_refuses" (defArgs s_law_refuses) (defBody s_law_refuses) (defScope s_law_refuses) .none kV21 dc21 pm21 an21 cd21 ct21), sl21⟩) (c21 : PySem.W.codeIn K cd21 "_law_refuses" = true) (k21 : PySem.W.keepIn K (.ref f21) = true)
    (a22 : PySem.W.nsIn K mainGlobals "_law_road" = some (some (.ref f22))) (l22 : K.lookup f22 = some ⟨oc22, od22, .func (PySem.W.fnOf "_law_road" "_law_road" (defArgs s_law_road) (defBody s_law_road) (defScope s_law_road) .none kV22 dc22 pm22 an22 cd22 ct22), sl22⟩) (c22 : PySem.W.codeIn K cd22 "_law_road" = true) (k22 : PySem.W.keepIn K (.ref f22) = true)
    (a23 : PySem.W.nsIn K mainGlobals "_law_asked" = some (some (.ref f23))) (l23 : K.lookup f23 = some ⟨oc23, od23, .func (PySem.W.fnOf "_law_asked" "_law_asked" (defArgs s_law_asked) (defBody s_law_asked) (defScope s_law_asked) .none kV23 dc23 pm23 an23 cd23 ct23), sl23⟩) (c23 : PySem.W.codeIn K cd23 "_law_asked" = true) (k23 : PySem.W.keepIn K (.ref f23) = true)
    (a24 : PySem.W.nsIn K mainGlobals "law" = some (some (.ref f24))) (l24 : K.lookup f24 = some ⟨oc24, od24, .func (PySem.W.fnOf "law" "law" (defArgs s_law) (defBody s_law) (defScope s_law) .none kV24 dc24 pm24 an24 cd24 ct24), sl24⟩) (c24 : PySem.W.codeIn K cd24 "law" = true) (k24 : PySem.W.keepIn K (.ref f24) = true)
    {CLookError : Addr} (gLookError : PySem.W.nsIn K mainGlobals "LookError" = some (some (.ref CLookError)))
    (xLookError : PySem.W.excIn K CLookError [.type "ValueError", .type "Exception", .type "BaseException", .type "object"] "ValueError.__new__" = true) (kkLookError : PySem.W.keepIn K (.ref CLookError) = true) (bLookError : PySem.W.subIn K (.ref CLookError) (.type "BaseException") = some true) (tLookError : PySem.W.typeIn K (.ref CLookError) = some (.type "type")) (iLookError : PySem.W.isClsIn K CLookError = true)
    {CBadTask : Addr} (gBadTask : PySem.W.nsIn K mainGlobals "BadTask" = some (some (.ref CBadTask)))
    (xBadTask : PySem.W.excIn K CBadTask [.type "ValueError", .type "Exception", .type "BaseException", .type "object"] "ValueError.__new__" = true) (kkBadTask : PySem.W.keepIn K (.ref CBadTask) = true) (bBadTask : PySem.W.subIn K (.ref CBadTask) (.type "BaseException") = some true) (tBadTask : PySem.W.typeIn K (.ref CBadTask) = some (.type "type")) (iBadTask : PySem.W.isClsIn K CBadTask = true)
    (sBadTask_BadTask : PySem.W.subIn K (.ref CBadTask) (.ref CBadTask) = some true)
    (sBadTask_LookError : PySem.W.subIn K (.ref CBadTask) (.ref CLookError) = some true)
    (sLookError_BadTask : PySem.W.subIn K (.ref CLookError) (.ref CBadTask) = some false)
    (sLookError_LookError : PySem.W.subIn K (.ref CLookError) (.ref CLookError) = some true)
    (z_abs : PySem.W.nsIn K mainGlobals "abs" = some none)
    (z_all : PySem.W.nsIn K mainGlobals "all" = some none)
    (z_bool : PySem.W.nsIn K mainGlobals "bool" = some none)
    (z_int : PySem.W.nsIn K mainGlobals "int" = some none)
    (z_isinstance : PySem.W.nsIn K mainGlobals "isinstance" = some none)
    (z_len : PySem.W.nsIn K mainGlobals "len" = some none)
    (z_list : PySem.W.nsIn K mainGlobals "list" = some none)
    (z_range : PySem.W.nsIn K mainGlobals "range" = some none)
    (z_sorted : PySem.W.nsIn K mainGlobals "sorted" = some none)
    (z_str : PySem.W.nsIn K mainGlobals "str" = some none)
    (z_sum : PySem.W.nsIn K mainGlobals "sum" = some none)
    (z_tuple : PySem.W.nsIn K mainGlobals "tuple" = some none)
    (z_zip : PySem.W.nsIn K mainGlobals "zip" = some none)
    {tk_MOST_INPUTS : Tok} (m_MOST_INPUTS : PySem.W.nsIn K mainGlobals "MOST_INPUTS" = some (some (.int 4 tk_MOST_INPUTS)))
    {tk_MOST_LABELS : Tok} (m_MOST_LABELS : PySem.W.nsIn K mainGlobals "MOST_LABELS" = some (some (.int 60 tk_MOST_LABELS)))
    {tk_MOST_PRODUCT : Tok} (m_MOST_PRODUCT : PySem.W.nsIn K mainGlobals "MOST_PRODUCT" = some (some (.int 4000 tk_MOST_PRODUCT)))
    (nol : noList K = true) :
    ∃ fd : FuncData, (∀ (s : Shared) (v : Value), BindsTo s fd ⟨[v], []⟩ [("script", v)]) ∧ ∀ base : Heap, K.In base → base.Ns mainGlobals mg → Fn3 l.prog w K mg base 10 fa fd ["script"] (spLaw3 63) := by
  have e := hfa.symm.trans (PySem.W.mg_of X GG a24)
  cases e
  let G : Gm := ⟨K, CLookError, CBadTask⟩
  have T : Txt G mg := {
    nol := nol
    n_abs := PySem.W.mg_none_of X GG z_abs
    n_all := PySem.W.mg_none_of X GG z_all
    n_bool := PySem.W.mg_none_of X GG z_bool
    n_int := PySem.W.mg_none_of X GG z_int
    n_isinstance := PySem.W.mg_none_of X GG z_isinstance
    n_len := PySem.W.mg_none_of X GG z_len
    n_list := PySem.W.mg_none_of X GG z_list
    n_range := PySem.W.mg_none_of X GG z_range
    n_sorted := PySem.W.mg_none_of X GG z_sorted
    n_str := PySem.W.mg_none_of X GG z_str
    n_sum := PySem.W.mg_none_of X GG z_sum
    n_tuple := PySem.W.mg_none_of X GG z_tuple
    n_zip := PySem.W.mg_none_of X GG z_zip
    c_MOST_INPUTS := ⟨_, PySem.W.mg_of X GG m_MOST_INPUTS, ⟨_, rfl⟩⟩
    c_MOST_LABELS := ⟨_, PySem.W.mg_of X GG m_MOST_LABELS, ⟨_, rfl⟩⟩
    c_MOST_PRODUCT := ⟨_, PySem.W.mg_of X GG m_MOST_PRODUCT, ⟨_, rfl⟩⟩
    x_LookError := ⟨PySem.W.mg_of X GG gLookError, xLookError, kkLookError, bLookError, tLookError⟩
    x_BadTask := ⟨PySem.W.mg_of X GG gBadTask, xBadTask, kkBadTask, bBadTask, tBadTask⟩
    e_BadTask_BadTask := exm_of bBadTask iBadTask tBadTask sBadTask_BadTask
    e_BadTask_LookError := exm_of bLookError iLookError tLookError sBadTask_LookError
    e_LookError_BadTask := exm_of bBadTask iBadTask tBadTask sLookError_BadTask
    e_LookError_LookError := exm_of bLookError iLookError tLookError sLookError_LookError
  }
  have F0 := fun_mk (st := s_is_number) l0 c0 k0
  have b0 := F0.binds (ps := ["value", "least", "most"]) fun _ _ _ _ _ _ us hl => match us, hl with | [_, _, _], _ => rfl
  have F1 := fun_mk (st := s_fits_bounds) l1 c1 k1
  have b1 := F1.binds (ps := ["labels"]) fun _ _ _ _ _ _ us hl => match us, hl with | [_], _ => rfl
  have F2 := fun_mk (st := s_fits_labels) l2 c2 k2
  have b2 := F2.binds (ps := ["row", "labels"]) fun _ _ _ _ _ _ us hl => match us, hl with | [_, _], _ => rfl
  have F3 := fun_mk (st := s_are_rows) l3 c3 k3
  have b3 := F3.binds (ps := ["rows", "labels"]) fun _ _ _ _ _ _ us hl => match us, hl with | [_, _], _ => rfl
  have F4 := fun_mk (st := s_check_task) l4 c4 k4
  have b4 := F4.binds (ps := ["task"]) fun _ _ _ _ _ _ us hl => match us, hl with | [_], _ => rfl
  have F5 := fun_mk (st := s_labels_at) l5 c5 k5
  have b5 := F5.binds (ps := ["rows", "at"]) fun _ _ _ _ _ _ us hl => match us, hl with | [_, _], _ => rfl
  have F6 := fun_mk (st := s_struck) l6 c6 k6
  have b6 := F6.binds (ps := ["task"]) fun _ _ _ _ _ _ us hl => match us, hl with | [_], _ => rfl
  have F7 := fun_mk (st := s_tidied) l7 c7 k7
  have b7 := F7.binds (ps := ["task"]) fun _ _ _ _ _ _ us hl => match us, hl with | [_], _ => rfl
  have K_tidied : BindsK G.K _ ["task"] := .all (fd := PySem.W.fnOf "tidied" "tidied" (defArgs s_tidied) (defBody s_tidied) (defScope s_tidied) .none kV7 dc7 pm7 an7 cd7 ct7) fun us hl => match us, hl with | [_], _ => by first | rfl | with_unfolding_all rfl
  have F8 := fun_mk (st := s_law_draws) l8 c8 k8
  have b8 := F8.binds (ps := ["script", "many"]) fun _ _ _ _ _ _ us hl => match us, hl with | [_, _], _ => rfl
  have F9 := fun_mk (st := s_law_take) l9 c9 k9
  have b9 := F9.binds (ps := ["hand", "many"]) fun _ _ _ _ _ _ us hl => match us, hl with | [_, _], _ => rfl
  have F10 := fun_mk (st := s_law_choices) l10 c10 k10
  have b10 := F10.binds (ps := ["lists"]) fun _ _ _ _ _ _ us hl => match us, hl with | [_], _ => rfl
  have F11 := fun_mk (st := s_law_rows) l11 c11 k11
  have b11 := F11.binds (ps := ["hand", "labels", "share"]) fun _ _ _ _ _ _ us hl => match us, hl with | [_, _, _], _ => rfl
  have F12 := fun_mk (st := s_law_is_choice) l12 c12 k12
  have b12 := F12.binds (ps := ["row", "sets"]) fun _ _ _ _ _ _ us hl => match us, hl with | [_, _], _ => rfl
  have F13 := fun_mk (st := s_law_whole) l13 c13 k13
  have b13 := F13.binds (ps := ["found"]) fun _ _ _ _ _ _ us hl => match us, hl with | [_], _ => rfl
  have F14 := fun_mk (st := s_law_like) l14 c14 k14
  have b14 := F14.binds (ps := ["found", "due"]) fun _ _ _ _ _ _ us hl => match us, hl with | [_, _], _ => rfl
  have F15 := fun_mk (st := s_law_shape) l15 c15 k15
  have b15 := F15.binds (ps := ["hand"]) fun _ _ _ _ _ _ us hl => match us, hl with | [_], _ => rfl
  have F16 := fun_mk (st := s_law_drawn) l16 c16 k16
  have b16 := F16.binds (ps := ["hand", "colours", "p", "q", "labels"]) fun _ _ _ _ _ _ us hl => match us, hl with | [_, _, _, _, _], _ => rfl
  have F17 := fun_mk (st := s_law_wrong_task) l17 c17 k17
  have b17 := F17.binds (ps := ["hand", "task"]) fun _ _ _ _ _ _ us hl => match us, hl with | [_, _], _ => rfl
  have F18 := fun_mk (st := s_law_tidied) l18 c18 k18
  have b18 := F18.binds (ps := ["task"]) fun _ _ _ _ _ _ us hl => match us, hl with | [_], _ => rfl
  have F19 := fun_mk (st := s_law_standing) l19 c19 k19
  have b19 := F19.binds (ps := ["side", "colours"]) fun _ _ _ _ _ _ us hl => match us, hl with | [_, _], _ => rfl
  have F20 := fun_mk (st := s_law_renumbered) l20 c20 k20
  have b20 := F20.binds (ps := ["row", "kept"]) fun _ _ _ _ _ _ us hl => match us, hl with | [_, _], _ => rfl
  have F21 := fun_mk (st := s_law_refuses) l21 c21 k21
  have b21 := F21.binds (ps := ["task"]) fun _ _ _ _ _ _ us hl => match us, hl with | [_], _ => rfl
  have F22 := fun_mk (st := s_law_road) l22 c22 k22
  have b22 := F22.binds (ps := ["hand"]) fun _ _ _ _ _ _ us hl => match us, hl with | [_], _ => rfl
  have F23 := fun_mk (st := s_law_asked) l23 c23 k23
  have b23 := F23.binds (ps := ["script"]) fun _ _ _ _ _ _ us hl => match us, hl with | [_], _ => rfl
  have F24 := fun_mk (st := s_law) l24 c24 k24
  have b24 := F24.binds (ps := ["script"]) fun _ _ _ _ _ _ us hl => match us, hl with | [_], _ => rfl
  refine ⟨PySem.W.fnOf "law" "law" (defArgs s_law) (defBody s_law) (defScope s_law) .none kV24 dc24 pm24 an24 cd24 ct24, fun s v => .of_eq rfl, fun base _ _ => ?_⟩
  have G_is_number : Fn3 l.prog w G.K mg base 1 _ _ ["value", "least", "most"] (sp_is_number G) := fn_is_number T  F0
  have C_is_number : Cal l.prog w G.K mg base 1 _ _ "is_number" ["value", "least", "most"] (sp_is_number G) := ⟨G_is_number, PySem.W.mg_of X GG a0, k0, b0⟩
  have G_labels_at : Fn3 l.prog w G.K mg base 1 _ _ ["rows", "at"] (sp_labels_at G) := fn_labels_at T  F5
  have C_labels_at : Cal l.prog w G.K mg base 1 _ _ "labels_at" ["rows", "at"] (sp_labels_at G) := ⟨G_labels_at, PySem.W.mg_of X GG a5, k5, b5⟩
  have G_law_draws : Fn3 l.prog w G.K mg base 1 _ _ ["script", "many"] (sp_law_draws G) := fn_law_draws T  F8
  have C_law_draws : Cal l.prog w G.K mg base 1 _ _ "_law_draws" ["script", "many"] (sp_law_draws G) := ⟨G_law_draws, PySem.W.mg_of X GG a8, k8, b8⟩
  have G_law_take : Fn3 l.prog w G.K mg base 1 _ _ ["hand", "many"] (sp_law_take G) := fn_law_take T  F9
  have C_law_take : Cal l.prog w G.K mg base 1 _ _ "_law_take" ["hand", "many"] (sp_law_take G) := ⟨G_law_take, PySem.W.mg_of X GG a9, k9, b9⟩
  have G_law_choices : Fn3 l.prog w G.K mg base 1 _ _ ["lists"] (sp_law_choices G) := fn_law_choices T  F10
  have C_law_choices : Cal l.prog w G.K mg base 1 _ _ "_law_choices" ["lists"] (sp_law_choices G) := ⟨G_law_choices, PySem.W.mg_of X GG a10, k10, b10⟩
  have G_law_is_choice : Fn3 l.prog w G.K mg base 1 _ _ ["row", "sets"] (sp_law_is_choice G) := fn_law_is_choice T  F12
  have C_law_is_choice : Cal l.prog w G.K mg base 1 _ _ "_law_is_choice" ["row", "sets"] (sp_law_is_choice G) := ⟨G_law_is_choice, PySem.W.mg_of X GG a12, k12, b12⟩
  have G_law_whole : Fn3 l.prog w G.K mg base 1 _ _ ["found"] (sp_law_whole G) := fn_law_whole T  F13
  have C_law_whole : Cal l.prog w G.K mg base 1 _ _ "_law_whole" ["found"] (sp_law_whole G) := ⟨G_law_whole, PySem.W.mg_of X GG a13, k13, b13⟩
  have G_law_standing : Fn3 l.prog w G.K mg base 1 _ _ ["side", "colours"] (sp_law_standing G) := fn_law_standing T  F19
  have C_law_standing : Cal l.prog w G.K mg base 1 _ _ "_law_standing" ["side", "colours"] (sp_law_standing G) := ⟨G_law_standing, PySem.W.mg_of X GG a19, k19, b19⟩
  have G_law_renumbered : Fn3 l.prog w G.K mg base 1 _ _ ["row", "kept"] (sp_law_renumbered G) := fn_law_renumbered T  F20
  have C_law_renumbered : Cal l.prog w G.K mg base 1 _ _ "_law_renumbered" ["row", "kept"] (sp_law_renumbered G) := ⟨G_law_renumbered, PySem.W.mg_of X GG a20, k20, b20⟩
  have G_fits_bounds : Fn3 l.prog w G.K mg base 2 _ _ ["labels"] (sp_fits_bounds G) := fn_fits_bounds T C_is_number F1
  have C_fits_bounds : Cal l.prog w G.K mg base 2 _ _ "fits_bounds" ["labels"] (sp_fits_bounds G) := ⟨G_fits_bounds, PySem.W.mg_of X GG a1, k1, b1⟩
  have G_fits_labels : Fn3 l.prog w G.K mg base 2 _ _ ["row", "labels"] (sp_fits_labels G) := fn_fits_labels T C_is_number F2
  have C_fits_labels : Cal l.prog w G.K mg base 2 _ _ "fits_labels" ["row", "labels"] (sp_fits_labels G) := ⟨G_fits_labels, PySem.W.mg_of X GG a2, k2, b2⟩
  have G_struck : Fn3 l.prog w G.K mg base 2 _ _ ["task"] (sp_struck G) := fn_struck T C_labels_at F6
  have C_struck : Cal l.prog w G.K mg base 2 _ _ "struck" ["task"] (sp_struck G) := ⟨G_struck, PySem.W.mg_of X GG a6, k6, b6⟩
  have G_law_rows : Fn3 l.prog w G.K mg base 2 _ _ ["hand", "labels", "share"] (sp_law_rows G) := fn_law_rows T C_law_choices C_law_take F11
  have C_law_rows : Cal l.prog w G.K mg base 2 _ _ "_law_rows" ["hand", "labels", "share"] (sp_law_rows G) := ⟨G_law_rows, PySem.W.mg_of X GG a11, k11, b11⟩
  have G_law_shape : Fn3 l.prog w G.K mg base 2 _ _ ["hand"] (sp_law_shape G) := fn_law_shape T C_law_take F15
  have C_law_shape : Cal l.prog w G.K mg base 2 _ _ "_law_shape" ["hand"] (sp_law_shape G) := ⟨G_law_shape, PySem.W.mg_of X GG a15, k15, b15⟩
  have G_law_wrong_task : Fn3 l.prog w G.K mg base 2 _ _ ["hand", "task"] (sp_law_wrong_task G) := fn_law_wrong_task T C_law_take F17
  have C_law_wrong_task : Cal l.prog w G.K mg base 2 _ _ "_law_wrong_task" ["hand", "task"] (sp_law_wrong_task G) := ⟨G_law_wrong_task, PySem.W.mg_of X GG a17, k17, b17⟩
  have G_law_tidied : Fn3 l.prog w G.K mg base 2 _ _ ["task"] (sp_law_tidied G) := fn_law_tidied T C_law_standing C_law_is_choice C_law_renumbered F18
  have C_law_tidied : Cal l.prog w G.K mg base 2 _ _ "_law_tidied" ["task"] (sp_law_tidied G) := ⟨G_law_tidied, PySem.W.mg_of X GG a18, k18, b18⟩
  have G_law_road : Fn3 l.prog w G.K mg base 2 _ _ ["hand"] (sp_law_road G) := fn_law_road T C_law_take C_law_choices F22
  have C_law_road : Cal l.prog w G.K mg base 2 _ _ "_law_road" ["hand"] (sp_law_road G) := ⟨G_law_road, PySem.W.mg_of X GG a22, k22, b22⟩
  have G_are_rows : Fn3 l.prog w G.K mg base 3 _ _ ["rows", "labels"] (sp_are_rows G) := fn_are_rows T C_fits_labels F3
  have C_are_rows : Cal l.prog w G.K mg base 3 _ _ "are_rows" ["rows", "labels"] (sp_are_rows G) := ⟨G_are_rows, PySem.W.mg_of X GG a3, k3, b3⟩
  have G_law_drawn : Fn3 l.prog w G.K mg base 3 _ _ ["hand", "colours", "p", "q", "labels"] (sp_law_drawn G) := fn_law_drawn T C_law_take C_law_rows F16
  have C_law_drawn : Cal l.prog w G.K mg base 3 _ _ "_law_drawn" ["hand", "colours", "p", "q", "labels"] (sp_law_drawn G) := ⟨G_law_drawn, PySem.W.mg_of X GG a16, k16, b16⟩
  have G_check_task : Fn3 l.prog w G.K mg base 4 _ _ ["task"] (sp_check_task G) := fn_check_task T C_is_number C_fits_bounds C_are_rows F4
  have C_check_task : Cal l.prog w G.K mg base 4 _ _ "check_task" ["task"] (sp_check_task G) := ⟨G_check_task, PySem.W.mg_of X GG a4, k4, b4⟩
  have G_tidied : Fn3 l.prog w G.K mg base 5 _ _ ["task"] (sp_tidied G) := fn_tidied T C_check_task C_struck C_labels_at F7
  have C_tidied : Cal l.prog w G.K mg base 5 _ _ "tidied" ["task"] (sp_tidied G) := ⟨G_tidied, PySem.W.mg_of X GG a7, k7, b7⟩
  have G_law_refuses : Fn3 l.prog w G.K mg base 6 _ _ ["task"] (sp_law_refuses G) := fn_law_refuses T C_tidied F21
  have C_law_refuses : Cal l.prog w G.K mg base 6 _ _ "_law_refuses" ["task"] (sp_law_refuses G) := ⟨G_law_refuses, PySem.W.mg_of X GG a21, k21, b21⟩
  have G_law_like : Fn3 l.prog w G.K mg base 8 _ _ ["found", "due"] (sp_law_like G) := fn_law_like T C_law_whole F14 (PySem.W.mg_of X GG a14) k14 b14
  have C_law_like : Cal l.prog w G.K mg base 8 _ _ "_law_like" ["found", "due"] (sp_law_like G) := ⟨G_law_like, PySem.W.mg_of X GG a14, k14, b14⟩
  have G_law_asked : Fn3 l.prog w G.K mg base 9 _ _ ["script"] (sp_law_asked G) := fn_law_asked T C_law_draws C_law_shape C_law_drawn C_law_road C_law_take C_law_tidied C_law_like C_tidied K_tidied C_law_refuses C_law_wrong_task F23
  have C_law_asked : Cal l.prog w G.K mg base 9 _ _ "_law_asked" ["script"] (sp_law_asked G) := ⟨G_law_asked, PySem.W.mg_of X GG a23, k23, b23⟩
  have G_law : Fn3 l.prog w G.K mg base 10 _ _ ["script"] (sp_law G) := fn_law T C_law_asked F24
  exact G_law
end My
open PySem PySem.W PyProof.Rows
set_option maxRecDepth 100000 in
set_option maxHeartbeats 0 in
theorem PySem.Challenge.cw_looksfar_k26_tidied_holds : PySem.Challenge.rw_looksfar_k26_tidied.Holds := by
  w_on; o_law; k_head; (case hw => w_witness2)
  k_fill
  refine L3.walk3 (l := PySem.Challenge.rw_looksfar_k26_tidied) (n := 63) (k := 10) rfl (by decide) rfl ⟨⟨rfl, by decide, by decide⟩, rfl⟩ (fun w h Y => PySem.W.kIn_of Y) ?hnoL ?hFF
  case hnoL => intro w; first | rfl | decide +kernel | k_is
  case hFF =>
    intro w mg fa h KX G hmg
    refine' My.all_mk KX G hmg ?a0 ?l0 ?c0 ?k0 ?a1 ?l1 ?c1 ?k1 ?a2 ?l2 ?c2 ?k2 ?a3 ?l3 ?c3 ?k3 ?a4 ?l4 ?c4 ?k4 ?a5 ?l5 ?c5 ?k5 ?a6 ?l6 ?c6 ?k6 ?a7 ?l7 ?c7 ?k7 ?a8 ?l8 ?c8 ?k8 ?a9 ?l9 ?c9 ?k9 ?a10 ?l10 ?c10 ?k10 ?a11 ?l11 ?c11 ?k11 ?a12 ?l12 ?c12 ?k12 ?a13 ?l13 ?c13 ?k13 ?a14 ?l14 ?c14 ?k14 ?a15 ?l15 ?c15 ?k15 ?a16 ?l16 ?c16 ?k16 ?a17 ?l17 ?c17 ?k17 ?a18 ?l18 ?c18 ?k18 ?a19 ?l19 ?c19 ?k19 ?a20 ?l20 ?c20 ?k20 ?a21 ?l21 ?c21 ?k21 ?a22 ?l22 ?c22 ?k22 ?a23 ?l23 ?c23 ?k23 ?a24 ?l24 ?c24 ?k24 ?gLookError ?xLookError ?kkLookError ?bLookError ?tLookError ?iLookError ?gBadTask ?xBadTask ?kkBadTask ?bBadTask ?tBadTask ?iBadTask ?sBadTask_BadTask ?sBadTask_LookError ?sLookError_BadTask ?sLookError_LookError ?z_abs ?z_all ?z_bool ?z_int ?z_isinstance ?z_len ?z_list ?z_range ?z_sorted ?z_str ?z_sum ?z_tuple ?z_zip ?m_MOST_INPUTS ?m_MOST_LABELS ?m_MOST_PRODUCT ?nol
    (case a0 => k_is)
    (case l0 => k_is)
    (case c0 => k_is)
    (case k0 => k_is)
    (case a1 => k_is)
    (case l1 => k_is)
    (case c1 => k_is)
    (case k1 => k_is)
    (case a2 => k_is)
    (case l2 => k_is)
    (case c2 => k_is)
    (case k2 => k_is)
    (case a3 => k_is)
    (case l3 => k_is)
    (case c3 => k_is)
    (case k3 => k_is)
    (case a4 => k_is)
    (case l4 => k_is)
    (case c4 => k_is)
    (case k4 => k_is)
    (case a5 => k_is)
    (case l5 => k_is)
    (case c5 => k_is)
    (case k5 => k_is)
    (case a6 => k_is)
    (case l6 => k_is)
    (case c6 => k_is)
    (case k6 => k_is)
    (case a7 => k_is)
    (case l7 => k_is)
    (case c7 => k_is)
    (case k7 => k_is)
    (case a8 => k_is)
    (case l8 => k_is)
    (case c8 => k_is)
    (case k8 => k_is)
    (case a9 => k_is)
    (case l9 => k_is)
    (case c9 => k_is)
    (case k9 => k_is)
    (case a10 => k_is)
    (case l10 => k_is)
    (case c10 => k_is)
    (case k10 => k_is)
    (case a11 => k_is)
    (case l11 => k_is)
    (case c11 => k_is)
    (case k11 => k_is)
    (case a12 => k_is)
    (case l12 => k_is)
    (case c12 => k_is)
    (case k12 => k_is)
    (case a13 => k_is)
    (case l13 => k_is)
    (case c13 => k_is)
    (case k13 => k_is)
    (case a14 => k_is)
    (case l14 => k_is)
    (case c14 => k_is)
    (case k14 => k_is)
    (case a15 => k_is)
    (case l15 => k_is)
    (case c15 => k_is)
    (case k15 => k_is)
    (case a16 => k_is)
    (case l16 => k_is)
    (case c16 => k_is)
    (case k16 => k_is)
    (case a17 => k_is)
    (case l17 => k_is)
    (case c17 => k_is)
    (case k17 => k_is)
    (case a18 => k_is)
    (case l18 => k_is)
    (case c18 => k_is)
    (case k18 => k_is)
    (case a19 => k_is)
    (case l19 => k_is)
    (case c19 => k_is)
    (case k19 => k_is)
    (case a20 => k_is)
    (case l20 => k_is)
    (case c20 => k_is)
    (case k20 => k_is)
    (case a21 => k_is)
    (case l21 => k_is)
    (case c21 => k_is)
    (case k21 => k_is)
    (case a22 => k_is)
    (case l22 => k_is)
    (case c22 => k_is)
    (case k22 => k_is)
    (case a23 => k_is)
    (case l23 => k_is)
    (case c23 => k_is)
    (case k23 => k_is)
    (case a24 => k_is)
    (case l24 => k_is)
    (case c24 => k_is)
    (case k24 => k_is)
    (case gLookError => k_is)
    (case xLookError => k_exc)
    (case kkLookError => k_is)
    (case bLookError => k_is)
    (case tLookError => k_is)
    (case iLookError => k_is)
    (case gBadTask => k_is)
    (case xBadTask => k_exc)
    (case kkBadTask => k_is)
    (case bBadTask => k_is)
    (case tBadTask => k_is)
    (case iBadTask => k_is)
    (case sBadTask_BadTask => k_is)
    (case sBadTask_LookError => k_is)
    (case sLookError_BadTask => k_is)
    (case sLookError_LookError => k_is)
    (case z_abs => k_is)
    (case z_all => k_is)
    (case z_bool => k_is)
    (case z_int => k_is)
    (case z_isinstance => k_is)
    (case z_len => k_is)
    (case z_list => k_is)
    (case z_range => k_is)
    (case z_sorted => k_is)
    (case z_str => k_is)
    (case z_sum => k_is)
    (case z_tuple => k_is)
    (case z_zip => k_is)
    (case m_MOST_INPUTS => k_is)
    (case m_MOST_LABELS => k_is)
    (case m_MOST_PRODUCT => k_is)
    (case nol => first | rfl | decide +kernel | k_is)
