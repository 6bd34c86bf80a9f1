import PyProof.Rows.All
import Wide.All
import OpenK.AllK
import Wide.FinOn
import HandS.ForSpec
import HandS.ForMost
import HandS.IsInst
import HandS.Deep
import HandS.Conv
import HandS.TupAny
import HandS.TupMul
import KE.KeyNested
import KE.KDictKeyed
import PyProof.P3In
import HandS.Flow
import HandS.Zip
import HandS.Strs
import PyProof.ReprLen
import KE.GoesMore
import HandS.Iter
import HandS.SortInts
import KE.KTurns
import HandS.Comp
import HandS.Wide
import HandS.TryMany
import HandS.Dict
import HandS.Small
import HandS.DictComp
import HandS.WordsDict
import KE.GoesZip
import PyProof.EnumMake
import PySem.Challenge.RW_looksfar_k35_kinds
set_option Elab.async false
set_option linter.all false
set_option maxRecDepth 100000
set_option maxHeartbeats 4000000
namespace L3
open PySem PySem.Spec PyProof.Rows L2
/-! ### values, with tuples by value -/
inductive D where
  | non | bl (b : Bool) | int (i : Int) | str (x : Str) | tup (ds : List D) | ref (a : Addr) | ty (n : String)
inductive MO where
  | lst (ds : List D) | ro (ds : List D) | dT (kvs : List (D × D)) | dK (kvs : List (Key × D))
abbrev MH := Addr → Option MO
abbrev En := List (Option D)
abbrev Fg := PySem.W.Frag
def updM (M : MH) (a : Addr) (o : MO) : MH := fun b => if b = a then some o else M b
theorem updM_same {M : MH} {a : Addr} {o : MO} : updM M a o a = some o := by unfold updM; rw [if_pos rfl]
theorem updM_ne {M : MH} {a b : Addr} {o : MO} (h : b ≠ a) : updM M a o b = M b := by unfold updM; rw [if_neg h]
theorem updM_updM {M : MH} {a : Addr} {o u : MO} : updM (updM M a o) a u = updM M a u := by
  funext b; unfold updM; split <;> rfl
theorem neM {M : MH} {a b : Addr} {o : MO} (h : M a = some o) (h' : M b = none) : a ≠ b := by
  intro e; subst e; rw [h] at h'; cases h'
/-- less is known -/
def Sub (M M' : MH) : Prop := ∀ b o, M b = some o → M' b = some o
theorem Sub.refl (M : MH) : Sub M M := fun _ _ h => h
theorem Sub.trans {M M1 M2 : MH} (a : Sub M M1) (b : Sub M1 M2) : Sub M M2 := fun c o h => b c o (a c o h)
theorem Sub.new {M M' : MH} {p : Addr} {o : MO} (s : Sub M M') (h : M p = none) : Sub M (updM M' p o) := fun b u e => by
  rw [updM_ne (neM e h)]
  exact s b u e
theorem Sub.free {M M' : MH} (s : Sub M M') {p : Addr} (h : M' p = none) : M p = none := by
  cases q : M p with
  | none => rfl
  | some o => rw [s p o q] at h; cases h
/-! ### tuples whose object is known: it has no dict of its own -/
def NewT (xs : List V) (H : Hp) (Q : VK) : Prop := ∀ (p : Addr) (o : Obj), H p = none → o.dict = none → Q (.ref p) (upd H p (.frz o (.tup xs)))
section
variable {X : Cx} {a : Expr} {es : List Expr} {pos p : Pos} {ta : TE} {t : TA}
theorem tup_pushed {pins : List (Addr × Obj)} {σ : L2.St} {H : Hp} {s : Shared} {Q : VK} {xs : List V} {its : List Value} (I : Inv X pins σ H s) (r : Vals xs its) (z : xs.length ≤ sizeLine) (q : NewT xs H Q) :
    EP X pins σ Q (.ref s.heap.objs.size) { s with heap := s.heap.push { cls := .type "tuple", data := .seq its.toArray } } :=
  ⟨.ref s.heap.objs.size, upd H s.heap.objs.size (.frz { cls := .type "tuple", data := .seq its.toArray } (.tup xs)), I.laid (t' := s.toks) (fun _ _ e => Heap.get?_push_of_some _ e) (Nat.le_refl _) ⟨Heap.get?_push_size _ rfl, z, its, r, ⟨_, Heap.get?_push_size _ rfl, rfl, _, rfl⟩⟩, rfl,
    q _ _ (I.hok.fresh (Nat.le_refl _)) rfl⟩
def tTupD (t : TA) : TE := fun σ H Q => t σ H fun xs H1 => xs.length ≤ sizeLine ∧ NewT xs H1 Q
theorem pe_tupD {x1} (h : PA X es t) : PE X (.Tuple es x1 pos) (tTupD t) :=
  ⟨fun pins s σ H Q I hq => wpAny_Tuple_spliced (thn (h.run pos pins s σ H _ I hq) fun us s1 ⟨xs, H1, I1, r, z, q⟩ => ⟨by rw [← r.length]; exact z, tup_pushed I1 r z q⟩)⟩
def rCatD (K : Fg) : R2 := fun x y H Q => ∃ a b xs ys, x = .ref a ∧ y = .ref b ∧ SqT K H a xs ∧ SqT K H b ys ∧ xs.length + ys.length ≤ sizeLine ∧ (xs = [] → Q (.ref b) H) ∧ (xs ≠ [] → ys = [] → Q (.ref a) H) ∧ (xs ≠ [] → ys ≠ [] → NewT (xs ++ ys) H Q)
theorem op_catD : OpR X (binaryOp .Add) (rCatD X.K) := by
  rintro pins s σ H x y v u Q I rx ry ⟨a, b, xs, ys, rfl, rfl, ha, hb, hz, q0, q1, q2⟩
  cases rx
  cases ry
  obtain ⟨its, r1, p1, _⟩ := I.tuple ha
  obtain ⟨its2, r2, p2, _⟩ := I.tuple hb
  by_cases hx : xs = []
  · subst hx
    cases r1
    exact cat_tup0 p1 p2 ⟨.ref b, H, I, rfl, q0 rfl⟩
  · exact HT.cat_tup p1 p2 (fun z => hx (r1.nil_iff.mp z)) (fun z => ⟨.ref a, H, I, rfl, q1 hx (r2.nil_iff.mp z)⟩) (fun z => tup_pushed I (r1.append r2) (by rw [List.length_append]; exact hz) (q2 hx fun w => z (r2.nil_iff.mpr w))) (by rw [← r1.length, ← r2.length]; exact hz)
def rSlD (K : Fg) : V → Option Int → Option Int → Hp → VK → Prop := fun x lo hi H Q => ∃ a xs, x = .ref a ∧ SqT K H a xs ∧ (HT.sIx xs.length 0 lo = 0 ∧ HT.sIx xs.length xs.length hi = xs.length → Q (.ref a) H) ∧
  (¬ (HT.sIx xs.length 0 lo = 0 ∧ HT.sIx xs.length xs.length hi = xs.length) → NewT (cutV xs lo hi) H Q)
theorem sl_tupD : SlR X (rSlD X.K) := by
  rintro pins s σ H x v vl vu lo hi sl Q I rx hs pl pu ⟨a, xs, rfl, hx, q1, q2⟩
  cases rx
  obtain ⟨its, r, ht, hz⟩ := I.tuple hx
  have hlen : its.toArray.size = xs.length := List.size_toArray.trans r.length.symm
  refine ⟨"tuple", _, PyProof.Rows.slot_tuple_getitem.lookup, ht.typeIs, ?_⟩
  by_cases hw : HT.sIx xs.length 0 lo = 0 ∧ HT.sIx xs.length xs.length hi = xs.length
  · exact getItem_tuple_whole ht hs pl pu (by rw [hlen]; exact hw) ⟨.ref a, H, I, rfl, q1 hw⟩
  · refine HT.getItem_tuple_cut ht hs pl pu (by rw [hlen]; exact hw) (hlen ▸ ?_) (by rw [hlen]; exact hz)
    exact tup_pushed I ((r.drop _).take _) (Nat.le_trans (cutV_length xs lo hi) hz) (q2 hw)
def kTupD (K : Fg) (x : V) (H : Hp) (Q : VK) : Prop := (∃ p xs, x = .ref p ∧ SqL K H p xs ∧ NewT xs H Q) ∨ (∃ p xs, x = .ref p ∧ SqT K H p xs ∧ Q (.ref p) H)
theorem rl_tupleD (pins : List (Addr × Obj)) (s : Shared) (σ : L2.St) (H : Hp) (x : V) (v : Value) (Q : VK) (I : Inv X pins σ H s) (r : RelV x v) (h : kTupD X.K x H Q) : wpAny (model X.prog X.w) X.A (call (.type "tuple") [v]) (EP X pins σ Q) X.xe s := by
  rcases h with ⟨p, xs, rfl, hs, q⟩ | ⟨p, xs, rfl, hs, q⟩
  · cases (show v = .ref p from r)
    obtain ⟨its, rv, pl, hz⟩ := I.list hs
    exact call_tuple_list pl.isList (fun h' hk => tup_pushed (I.kept (t' := s.toks) hk) rv hz q) (by rw [List.size_toArray, ← rv.length]; exact hz)
  · cases (show v = .ref p from r)
    exact call_tuple_tup (I.tuple hs).choose_spec.2.1 ⟨.ref p, H, I, rfl, q⟩
theorem pe_tupleD (hg : Gl X "tuple") (hm : X.mg "tuple" = none) (ha : PE X a ta) (na : starEach [a] X.env = (false, eval a X.env) :: starEach [] X.env := by rfl) : PE X (.Call (.Name "tuple" p) [a] [] pos) (tThen ta (kTupD X.K)) :=
  ⟨fun pins s σ H Q I h => Call_ (ld_blt I hg hm boot_tuple (PyProof.Rows.callWith_type1 (one_arg ha I h (fun v s2 x H2 I2 r q => rl_tupleD pins s2 σ H2 x v Q I2 r q) na) na))⟩
def rRepD (K : Fg) : R2 := fun x y H Q => ∃ l k xs, x = .ref l ∧ y = .int k ∧ SqT K H l xs ∧ xs ≠ [] ∧ 2 ≤ k ∧ k ≤ 1000 ∧ xs.length ≤ 1000 ∧ NewT (List.replicate k.toNat xs).flatten H Q
theorem op_repD : OpR X (binaryOp .Mult) (rRepD X.K) := by
  rintro pins s σ H x y v u Q I rx ry ⟨l, k, xs, rfl, rfl, hT, hne, h1, h2, hz, q⟩
  cases rx
  obtain ⟨t, rfl⟩ := ry
  obtain ⟨its, r, ⟨⟨cls, dd, data, sl⟩, ho, hc, n, hd⟩, hs⟩ := I.tuple hT
  simp only at hc hd
  subst hc hd
  have many : its.toArray.size = xs.length := List.size_toArray.trans r.length.symm
  have some_ : its.toArray.isEmpty = false := by
    cases its with
    | nil => exact absurd (List.eq_nil_of_length_eq_zero r.length) hne
    | cons _ _ => rfl
  have prod : ((its.toArray.size : Nat) : Int) * k ≤ 1000000 := by
    rw [many]
    have : ((xs.length : Nat) : Int) * k ≤ 1000 * k := Int.mul_le_mul_of_nonneg_right (by omega) (by omega)
    omega
  have flat : ∀ {α : Type} (ys : List α), ys.length = xs.length → (List.replicate k.toNat ys).flatten.length ≤ sizeLine := fun ys e => by
    rw [PyProof.Rows.lm_len_rep_flat, e, sizeLine_eq]
    have : k.toNat * xs.length ≤ 1000 * 1000 := Nat.mul_le_mul (by omega) hz
    omega
  have d0 : (decide (k < -(2 ^ 63)) || decide (k ≥ 2 ^ 63)) = false := by simp; omega
  have d1 : (its.toArray.isEmpty || k == 1) = false := by rw [some_, Bool.false_or]; exact beq_eq_false_iff_ne.mpr (by omega)
  have d2 : (decide (k ≤ 0) || its.toArray.isEmpty) = false := by rw [some_, Bool.or_false]; exact decide_eq_false (by omega)
  have d4 : Builtin.Tuple.tupleTooMany (((its.toArray.size : Nat) : Int) * k) = false := by unfold Builtin.Tuple.tupleTooMany; rw [sizeLine_eq]; exact decide_eq_false (by omega)
  have times : wpAny (model X.prog X.w) X.A (call (.builtin "tuple.__mul__") [.ref l, .int k t]) (EP X pins σ Q) X.xe s :=
    call_meets PySem.F.slot_tuple_mul ⟨_, ho, rfl⟩ PySem.F.entry_tuple_mul (PySem.F.args_tuple_mul_2 _ _) (tuple_mulW l its.toArray n dd sl k t d0 d1 d2 (by omega) d4 (by rw [size_rep, List.size_toArray]; exact flat its r.length.symm)) ⟨ho, by rw [size_rep]; exact tup_pushed I (r.rep k.toNat) (flat xs rfl) q⟩
  exact wpAny_binaryOp_repeat_ref (T := "tuple") (U := "int") (by decide) ⟨_, ho, rfl⟩ (fun s' => typeIs_int s' k t) noFill_tuple_mul PySem.F.fills_int_mul PySem.F.slot_int_rmul repeat_tuple PySem.F.slot_int_index.lookup
    (call_meets PySem.F.slot_int_rmul (typeIs_int s k t) PySem.F.entry_int_rmul (PySem.F.args_int_rmul_2 _ _) (int_rmul_tuple k t l its.toArray n dd sl) ⟨ho, rfl, ⟨_, ho, rfl⟩, times⟩)
/-- what is known of a tuple: its items, and that it has no dict -/
def Dl (K : Fg) (H : Hp) (a : Addr) : Prop := (∃ o u, H a = some (.frz o u) ∧ o.dict = none) ∨ ∃ o, K.lookup a = some o ∧ o.cls = .type "tuple" ∧ o.dict = none
def SqD (K : Fg) (H : Hp) (a : Addr) (vs : List V) : Prop := SqT K H a vs ∧ Dl K H a
theorem SqD.of {K : Fg} {H : Hp} {a : Addr} {o : Obj} {vs : List V} (h : o.dict = none) : SqD K (upd H a (.frz o (.tup vs))) a vs := ⟨.inl (.inr ⟨o, upd_same⟩), .inl ⟨o, _, upd_same, h⟩⟩
end
mutual
def Rv (K : Fg) (H : Hp) : D → V → Prop
  | .non, v => v = .non
  | .bl b, v => v = .bl b
  | .int i, v => v = .int i
  | .str x, v => v = .str x
  | .tup ds, v => ∃ a vs, v = .ref a ∧ SqD K H a vs ∧ Rvs K H ds vs
  | .ref a, v => v = .ref a
  | .ty n, v => v = .ty n
def Rvs (K : Fg) (H : Hp) : List D → List V → Prop
  | [], vs => vs = []
  | d :: ds, vs => ∃ v r, vs = v :: r ∧ Rv K H d v ∧ Rvs K H ds r
end
/-- tuples and locked things stay -/
structure Tps (H H' : Hp) : Prop where
  t : ∀ p xs, H p = some (.tup xs) → H' p = some (.tup xs)
  f : ∀ p o u, H p = some (.frz o u) → H' p = some (.frz o u)
theorem Tps.refl (H : Hp) : Tps H H := ⟨fun _ _ h => h, fun _ _ _ h => h⟩
theorem Tps.trans {H H1 H2 : Hp} (a : Tps H H1) (b : Tps H1 H2) : Tps H H2 := ⟨fun p xs h => b.t p xs (a.t p xs h), fun p o u h => b.f p o u (a.f p o u h)⟩
theorem Tps.new {H : Hp} {p : Addr} {o : HO} (h : H p = none) : Tps H (upd H p o) :=
  ⟨fun q xs e => by rw [upd_ne (ne_of_none e h)]; exact e, fun q u x e => by rw [upd_ne (ne_of_none e h)]; exact e⟩
theorem Tps.lst {H : Hp} {p : Addr} {o : HO} {vs : List V} (h : H p = some (.lst vs)) : Tps H (upd H p o) :=
  ⟨fun q xs e => by rw [upd_ne (ne_of e h (by intro z; cases z))]; exact e, fun q u x e => by rw [upd_ne (ne_of e h (by intro z; cases z))]; exact e⟩
theorem Tps.ext {H : Hp} {p : Addr} {o : HO} {φ : Heap → Prop} (h : H p = some (.ext φ)) : Tps H (upd H p o) :=
  ⟨fun q xs e => by rw [upd_ne (ne_of e h (by intro z; cases z))]; exact e, fun q u x e => by rw [upd_ne (ne_of e h (by intro z; cases z))]; exact e⟩
theorem Tps.seq {K : Fg} {H H' : Hp} {a : Addr} {vs : List V} (t : Tps H H') (h : SqT K H a vs) : SqT K H' a vs := by
  rcases h with (h | ⟨o, h⟩) | h
  · exact .inl (.inl (t.t _ _ h))
  · exact .inl (.inr ⟨o, t.f _ _ _ h⟩)
  · exact .inr h
theorem Tps.sqd {K : Fg} {H H' : Hp} {a : Addr} {vs : List V} (t : Tps H H') (h : SqD K H a vs) : SqD K H' a vs := ⟨t.seq h.1, h.2.imp (fun ⟨o, u, e, d⟩ => ⟨o, u, t.f _ _ _ e, d⟩) id⟩
section
variable {K : Fg} {H H' : Hp}
mutual
theorem Rv.mono (t : Tps H H') : ∀ (d : D) (v : V), Rv K H d v → Rv K H' d v
  | .non, _, h => h
  | .bl _, _, h => h
  | .int _, _, h => h
  | .str _, _, h => h
  | .tup ds, v, h => by
    unfold Rv at h ⊢
    obtain ⟨a, vs, e, s, r⟩ := h
    exact ⟨a, vs, e, t.sqd s, Rvs.mono t ds vs r⟩
  | .ref _, _, h => h
  | .ty _, _, h => h
theorem Rvs.mono (t : Tps H H') : ∀ (ds : List D) (vs : List V), Rvs K H ds vs → Rvs K H' ds vs
  | [], _, h => h
  | d :: ds, vs, h => by
    unfold Rvs at h ⊢
    obtain ⟨v, r, e, h1, h2⟩ := h
    exact ⟨v, r, e, Rv.mono t d v h1, Rvs.mono t ds r h2⟩
end
theorem Rvs.nil : Rvs K H [] [] := by unfold Rvs; rfl
theorem Rvs.cons {d : D} {v : V} {ds : List D} {vs : List V} (h : Rv K H d v) (r : Rvs K H ds vs) : Rvs K H (d :: ds) (v :: vs) := by
  unfold Rvs
  exact ⟨v, vs, rfl, h, r⟩
theorem Rvs.length : ∀ {ds : List D} {vs : List V}, Rvs K H ds vs → ds.length = vs.length
  | [], _, h => by unfold Rvs at h; subst h; rfl
  | d :: ds, _, h => by
    unfold Rvs at h
    obtain ⟨v, r, rfl, _, h2⟩ := h
    rw [List.length_cons, List.length_cons, Rvs.length h2]
theorem Rvs.get : ∀ {ds : List D} {vs : List V} {i : Nat} {d : D}, Rvs K H ds vs → ds[i]? = some d → ∃ v, vs[i]? = some v ∧ Rv K H d v
  | [], _, _, _, _, e => by simp at e
  | d :: ds, _, 0, _, h, e => by
    unfold Rvs at h
    obtain ⟨v, r, rfl, h1, _⟩ := h
    simp at e
    subst e
    exact ⟨v, rfl, h1⟩
  | d :: ds, _, i + 1, x, h, e => by
    unfold Rvs at h
    obtain ⟨v, r, rfl, _, h2⟩ := h
    obtain ⟨w, e1, e2⟩ := Rvs.get (i := i) (d := x) h2 (by simpa using e)
    exact ⟨w, by simpa using e1, e2⟩
theorem Rvs.app : ∀ {ds es : List D} {vs ws : List V}, Rvs K H ds vs → Rvs K H es ws → Rvs K H (ds ++ es) (vs ++ ws)
  | [], _, _, _, h, s => by unfold Rvs at h; subst h; exact s
  | d :: ds, es, _, ws, h, s => by
    unfold Rvs at h
    obtain ⟨v, r, rfl, h1, h2⟩ := h
    exact Rvs.cons h1 (Rvs.app h2 s)
theorem Rvs.take : ∀ {ds : List D} {vs : List V} (n : Nat), Rvs K H ds vs → Rvs K H (ds.take n) (vs.take n)
  | _, _, 0, _ => by simpa using Rvs.nil
  | [], _, n + 1, h => by unfold Rvs at h; subst h; simpa using Rvs.nil
  | d :: ds, _, n + 1, h => by
    unfold Rvs at h
    obtain ⟨v, r, rfl, h1, h2⟩ := h
    exact Rvs.cons h1 (Rvs.take n h2)
theorem Rvs.drop : ∀ {ds : List D} {vs : List V} (n : Nat), Rvs K H ds vs → Rvs K H (ds.drop n) (vs.drop n)
  | _, _, 0, h => h
  | [], _, n + 1, h => by unfold Rvs at h; subst h; simpa using Rvs.nil
  | d :: ds, _, n + 1, h => by
    unfold Rvs at h
    obtain ⟨v, r, rfl, _, h2⟩ := h
    exact Rvs.drop n h2
theorem Rvs.set {d : D} {v : V} (q : Rv K H d v) : ∀ {ds : List D} {vs : List V} (n : Nat), Rvs K H ds vs → Rvs K H (ds.set n d) (vs.set n v)
  | [], _, n, h => by unfold Rvs at h; subst h; simpa using Rvs.nil
  | x :: ds, _, 0, h => by
    unfold Rvs at h
    obtain ⟨w, r, rfl, _, h2⟩ := h
    exact Rvs.cons q h2
  | x :: ds, _, n + 1, h => by
    unfold Rvs at h
    obtain ⟨w, r, rfl, h1, h2⟩ := h
    exact Rvs.cons h1 (Rvs.set q n h2)
theorem Rvs.nil_inv {vs : List V} (h : Rvs K H [] vs) : vs = [] := by unfold Rvs at h; exact h
theorem Rvs.cons_inv {d : D} {ds : List D} {vs : List V} (h : Rvs K H (d :: ds) vs) : ∃ v r, vs = v :: r ∧ Rv K H d v ∧ Rvs K H ds r := by unfold Rvs at h; exact h
theorem Rv.tup_invD {ds : List D} {v : V} (h : Rv K H (.tup ds) v) : ∃ a vs, v = .ref a ∧ SqD K H a vs ∧ Rvs K H ds vs := by unfold Rv at h; exact h
theorem Rv.tup_inv {ds : List D} {v : V} (h : Rv K H (.tup ds) v) : ∃ a vs, v = .ref a ∧ SqT K H a vs ∧ Rvs K H ds vs := by unfold Rv at h; obtain ⟨a, vs, e, s, r⟩ := h; exact ⟨a, vs, e, s.1, r⟩
theorem Rv.int_inv {i : Int} {v : V} (h : Rv K H (.int i) v) : v = .int i := by unfold Rv at h; exact h
theorem Rv.bl_inv {b : Bool} {v : V} (h : Rv K H (.bl b) v) : v = .bl b := by unfold Rv at h; exact h
theorem Rv.str_inv {x : Str} {v : V} (h : Rv K H (.str x) v) : v = .str x := by unfold Rv at h; exact h
theorem Rv.non_inv {v : V} (h : Rv K H .non v) : v = .non := by unfold Rv at h; exact h
theorem Rv.ref_inv {a : Addr} {v : V} (h : Rv K H (.ref a) v) : v = .ref a := by unfold Rv at h; exact h
theorem Rv.ty_inv {n : String} {v : V} (h : Rv K H (.ty n) v) : v = .ty n := by unfold Rv at h; exact h
theorem Rv.int {i : Int} : Rv K H (.int i) (.int i) := by unfold Rv; rfl
theorem Rv.bl {b : Bool} : Rv K H (.bl b) (.bl b) := by unfold Rv; rfl
theorem Rv.str {x : Str} : Rv K H (.str x) (.str x) := by unfold Rv; rfl
theorem Rv.non : Rv K H .non .non := by unfold Rv; rfl
theorem Rv.ref {a : Addr} : Rv K H (.ref a) (.ref a) := by unfold Rv; rfl
theorem Rv.ty {n : String} : Rv K H (.ty n) (.ty n) := by unfold Rv; rfl
theorem Rv.tup {ds : List D} {a : Addr} {vs : List V} (s : SqD K H a vs) (r : Rvs K H ds vs) : Rv K H (.tup ds) (.ref a) := by unfold Rv; exact ⟨a, vs, rfl, s, r⟩
theorem Rvs.ints : ∀ {ns : List Int}, Rvs K H (ns.map D.int) (ns.map V.int)
  | [] => Rvs.nil
  | n :: ns => Rvs.cons Rv.int Rvs.ints
end
/-! ### keys that are tuples of ints and None (of any depth to 8) -/
mutual
def nk : D → NestedKey
  | .tup ds => .tup (nks ds)
  | .int i => .num i
  | .bl b => .num (if b = true then 1 else 0)
  | .non => .none
  | .str x => .text x
  | .ref _ => .none
  | .ty _ => .none
def nks : List D → List NestedKey
  | [] => []
  | d :: ds => nk d :: nks ds
end
mutual
def kOk : D → Bool
  | .tup ds => kOks ds
  | .int _ | .bl _ | .non => true
  | .str _ | .ref _ | .ty _ => false
def kOks : List D → Bool
  | [] => true
  | d :: ds => kOk d && kOks ds
end
mutual
/-- hash of a key without texts: of no world -/
def hashN : NestedKey → Int
  | .none => reduceHash 0xFCA86420
  | .num i => hashInt i
  | .text _ => 0
  | .tup ks => reduceHash (Builtin.Tuple.tupleHashOf (hashNs ks))
def hashNs : List NestedKey → List Int
  | [] => []
  | k :: ks => hashN k :: hashNs ks
end
def keyD : D → Bool
  | .tup ds => kOk (.tup ds) && decide ((nk (.tup ds)).depth ≤ 8)
  | _ => false
def entN (x : NestedKey × Addr × Value) : DictEntry := ⟨hashN x.1, .ref x.2.1, x.2.2⟩
/-- the dict's object, its entries -/
def RawN (a : Addr) (xs : List (NestedKey × Addr × Value)) (h : Heap) : Prop := (a == sysModules) = false ∧ ∃ o es ep, h.get? a = some o ∧ o.ExactDict ∧ o.data = .dict es ep ∧ es.toList = xs.map entN ∧ (xs.map (·.1)).Nodup
/-- an entry is as told -/
def EntR (K : Fg) (H : Hp) (p : D × D) (x : NestedKey × Addr × Value) : Prop := x.1 = nk p.1 ∧ keyD p.1 = true ∧ Rv K H p.1 (.ref x.2.1) ∧ ∃ v, Rv K H p.2 v ∧ RelV v x.2.2
/-- an object as it is known -/
def RO (K : Fg) (H : Hp) (a : Addr) : MO → Prop
  | .lst ds => ∃ vs, H a = some (.lst vs) ∧ Rvs K H ds vs
  | .ro ds => ∃ vs o, H a = some (.frz o (.lst vs)) ∧ Rvs K H ds vs
  | .dT kvs => ∃ xs, H a = some (.ext (RawN a xs)) ∧ xs.length ≤ sizeLine ∧ Paired (EntR K H) kvs xs
  | .dK kvs => ∃ ks vs, H a = some (.dK ks) ∧ ks.map (·.1) = kvs.map (·.1) ∧ vs = ks.map (·.2) ∧ Rvs K H (kvs.map (·.2)) vs
def Abs (K : Fg) (M : MH) (H : Hp) : Prop := ∀ a o, M a = some o → RO K H a o
section
variable {K : Fg} {H H' : Hp} {M M' : MH} {a p : Addr}
theorem RO.mono (t : Tps H H') (e : H' a = H a) : ∀ (o : MO), RO K H a o → RO K H' a o
  | .lst ds, h => by obtain ⟨vs, h1, h2⟩ := h; exact ⟨vs, e.trans h1, h2.mono t⟩
  | .ro ds, h => by obtain ⟨vs, o, h1, h2⟩ := h; exact ⟨vs, o, e.trans h1, h2.mono t⟩
  | .dT ds, h => by obtain ⟨xs, h1, hz, h2⟩ := h; exact ⟨xs, e.trans h1, hz, Paired.mapP h2 fun p x ⟨a1, a2, a3, v, a4, a5⟩ => ⟨a1, a2, a3.mono t, v, a4.mono t, a5⟩⟩
  | .dK ds, h => by obtain ⟨ks, vs, h1, h2, h3, h4⟩ := h; exact ⟨ks, vs, e.trans h1, h2, h3, h4.mono t⟩
theorem RO.some (o : MO) (h : RO K H a o) : H a ≠ none := by
  cases o with
  | lst ds => obtain ⟨vs, h1, _⟩ := h; rw [h1]; intro z; cases z
  | ro ds => obtain ⟨vs, o, h1, _⟩ := h; rw [h1]; intro z; cases z
  | dT ds => obtain ⟨xs, h1, _⟩ := h; rw [h1]; intro z; cases z
  | dK ds => obtain ⟨ks, vs, h1, _⟩ := h; rw [h1]; intro z; cases z
theorem Abs.sub (h : Abs K M' H) (s : Sub M M') : Abs K M H := fun a o e => h a o (s a o e)
theorem Abs.fresh (h : Abs K M H) (e : H p = none) : M p = none := by
  cases q : M p with
  | none => rfl
  | some o => exact absurd e ((h p o q).some)
/-- a new untracked thing (a tuple) -/
theorem Abs.tupN (h : Abs K M H) {o : HO} (e : H p = none) : Abs K M (upd H p o) := fun a u q => (h a u q).mono (Tps.new e) (upd_ne (neM q (h.fresh e)))
theorem Abs.upd (h : Abs K M H) {o : HO} {u : MO} (t : Tps H (L2.upd H p o)) (r : RO K (L2.upd H p o) p u) : Abs K (updM M p u) (L2.upd H p o) := fun a x q => by
  by_cases hb : a = p
  · subst hb
    rw [updM_same] at q
    cases q
    exact r
  · rw [updM_ne hb] at q
    exact (h a x q).mono t (upd_ne hb)
theorem Abs.lstN (h : Abs K M H) {ds : List D} {vs : List V} (e : H p = none) (r : Rvs K H ds vs) : Abs K (updM M p (.lst ds)) (L2.upd H p (.lst vs)) :=
  h.upd (Tps.new e) ⟨vs, upd_same, r.mono (Tps.new e)⟩
theorem Abs.lstU (h : Abs K M H) {ds : List D} {vs ws : List V} (e : H p = some (.lst ws)) (r : Rvs K H ds vs) : Abs K (updM M p (.lst ds)) (L2.upd H p (.lst vs)) :=
  h.upd (Tps.lst e) ⟨vs, upd_same, r.mono (Tps.lst e)⟩
theorem Abs.lst (h : Abs K M H) {ds : List D} (e : M p = some (.lst ds)) : ∃ vs, H p = some (.lst vs) ∧ Rvs K H ds vs := h p _ e
/-- a list that is read -/
def LstM (M : MH) (a : Addr) (ds : List D) : Prop := M a = some (.lst ds) ∨ M a = some (.ro ds)
theorem Abs.rd (h : Abs K M H) {ds : List D} (e : LstM M p ds) : ∃ vs, SqL K H p vs ∧ Rvs K H ds vs := by
  rcases e with e | e
  · obtain ⟨vs, h1, h2⟩ := h p _ e
    exact ⟨vs, .inl (.inl h1), h2⟩
  · obtain ⟨vs, o, h1, h2⟩ := h p _ e
    exact ⟨vs, .inl (.inr ⟨o, h1⟩), h2⟩
end
/-- the names -/
structure SE (K : Fg) (H : Hp) (σ : L2.St) (env : En) : Prop where
  len : σ.length = env.length
  get : ∀ (i : Nat) (d : D), env[i]? = some (some d) → ∃ v, σ[i]? = some (some v) ∧ Rv K H d v
section
variable {K : Fg} {H H' : Hp} {σ : L2.St} {env : En}
theorem SE.mono (s : SE K H σ env) (t : Tps H H') : SE K H' σ env := ⟨s.len, fun i d e => let ⟨v, e1, r⟩ := s.get i d e; ⟨v, e1, r.mono t⟩⟩
theorem SE.set (s : SE K H σ env) {d : D} {v : V} (i : Nat) (r : Rv K H d v) : SE K H (σ.set i (some v)) (env.set i (some d)) := by
  refine ⟨by simpa using s.len, fun j x e => ?_⟩
  rw [List.getElem?_set] at e
  by_cases hj : i = j
  · subst hj
    rw [if_pos rfl] at e
    by_cases hl : i < env.length
    · rw [if_pos hl] at e
      cases e
      exact ⟨v, by rw [List.getElem?_set_self (by rw [s.len]; exact hl)], r⟩
    · rw [if_neg hl] at e
      cases e
  · rw [if_neg hj] at e
    obtain ⟨w, e1, r1⟩ := s.get j x e
    exact ⟨w, by rw [List.getElem?_set_ne hj]; exact e1, r1⟩
theorem SE.unset (s : SE K H σ env) (i : Nat) : SE K H (σ.set i none) (env.set i none) := by
  refine ⟨by simpa using s.len, fun j x e => ?_⟩
  rw [List.getElem?_set] at e
  by_cases hj : i = j
  · subst hj
    rw [if_pos rfl] at e
    split at e <;> cases e
  · rw [if_neg hj] at e
    obtain ⟨w, e1, r1⟩ := s.get j x e
    exact ⟨w, by rw [List.getElem?_set_ne hj]; exact e1, r1⟩
/-- names forgotten -/
def wipeE (env : En) : List Nat → En
  | [] => env
  | i :: r => wipeE (env.set i none) r
theorem SE.start {ds : List D} {vs : List V} (N : List Str) (r : Rvs K H ds vs) : SE K H (L2.start N vs) (ds.map some ++ List.replicate (N.length - ds.length) none) := by
  have hl := r.length
  refine ⟨by unfold L2.start; simp [hl], fun i d e => ?_⟩
  unfold L2.start
  by_cases hi : i < ds.length
  · rw [List.getElem?_append_left (by simpa using hi), List.getElem?_map] at e
    cases q : ds[i]? with
    | none => rw [q] at e; cases e
    | some x =>
      rw [q] at e
      cases e
      obtain ⟨v, e1, r1⟩ := r.get q
      exact ⟨v, by rw [List.getElem?_append_left (by rw [List.length_map, ← hl]; exact hi), List.getElem?_map, e1]; rfl, r1⟩
  · rw [List.getElem?_append_right (by simpa using hi), List.getElem?_replicate] at e
    split at e <;> cases e
end
/-! ### wishes -/
abbrev W3 := Value → Option Addr → En → MH → Prop
def LW (K : Fg) (H : Hp) (W : W3) (W2 : WX) : Prop := ∀ cls dd σ' H' env' M', Tps H H' → SE K H' σ' env' → Abs K M' H' → W cls dd env' M' → W2 cls dd σ' H'
theorem LW.mono {K : Fg} {H H' : Hp} {W : W3} {W2 : WX} (l : LW K H W W2) (t : Tps H H') : LW K H' W W2 := fun cls dd σ' H2 env' M' t2 s a w => l cls dd σ' H2 env' M' (t.trans t2) s a w
abbrev Q3 := D → MH → Prop
abbrev E3 := W3 → En → MH → Q3 → Prop
abbrev T3 := W3 → En → MH → (Bool → MH → Prop) → Prop
abbrev A3 := W3 → En → MH → (List D → MH → Prop) → Prop
structure Ends3 where
  nx : En → MH → Prop
  rt : Q3
  bk : En → MH → Prop := fun _ _ => False
  ct : En → MH → Prop := fun _ _ => False
abbrev S3 := W3 → Ends3 → En → MH → Prop
abbrev G3 := W3 → D → En → MH → (En → MH → Prop) → Prop
abbrev I3 := W3 → En → MH → (List D → (MH → Prop) → MH → Prop) → Prop
/-- a value has come -/
def Got (K : Fg) (H : Hp) (Q : Q3) (Q2 : VK) : Prop := ∀ d v H' M', Tps H H' → Abs K M' H' → Rv K H' d v → Q d M' → Q2 v H'
def lowE (K : Fg) (W2 : WX) (t : E3) : TE := fun σ H Q2 => ∃ env M W Q, SE K H σ env ∧ Abs K M H ∧ LW K H W W2 ∧ t W env M Q ∧ Got K H Q Q2
def lowT (K : Fg) (W2 : WX) (t : T3) : TT := fun σ H Q2 => ∃ env M W Q, SE K H σ env ∧ Abs K M H ∧ LW K H W W2 ∧ t W env M Q ∧ ∀ b H' M', Tps H H' → Abs K M' H' → Q b M' → Q2 b H'
def lowA (K : Fg) (W2 : WX) (t : A3) : TA := fun σ H Q2 => ∃ env M W Q, SE K H σ env ∧ Abs K M H ∧ LW K H W W2 ∧ t W env M Q ∧ ∀ ds vs H' M', Tps H H' → Abs K M' H' → Rvs K H' ds vs → Q ds M' → Q2 vs H'
def Nxt (K : Fg) (H : Hp) (q : En → MH → Prop) (q2 : L2.St → Hp → Prop) : Prop := ∀ σ' H' env' M', Tps H H' → SE K H' σ' env' → Abs K M' H' → q env' M' → q2 σ' H'
structure LE (K : Fg) (H : Hp) (D3 : Ends3) (D2 : Ends) : Prop where
  nx : Nxt K H D3.nx D2.nx
  rt : Got K H D3.rt D2.rt
  bk : Nxt K H D3.bk D2.bk
  ct : Nxt K H D3.ct D2.ct
theorem Got.mono {K : Fg} {H H' : Hp} {Q : Q3} {Q2 : VK} (g : Got K H Q Q2) (t : Tps H H') : Got K H' Q Q2 := fun d v H2 M' t2 a r q => g d v H2 M' (t.trans t2) a r q
theorem Nxt.mono {K : Fg} {H H' : Hp} {q : En → MH → Prop} {q2 : L2.St → Hp → Prop} (g : Nxt K H q q2) (t : Tps H H') : Nxt K H' q q2 := fun σ H2 e M' t2 s a r => g σ H2 e M' (t.trans t2) s a r
theorem LE.mono {K : Fg} {H H' : Hp} {D3 : Ends3} {D2 : Ends} (l : LE K H D3 D2) (t : Tps H H') : LE K H' D3 D2 := ⟨l.nx.mono t, l.rt.mono t, l.bk.mono t, l.ct.mono t⟩
def lowS (K : Fg) (W2 : WX) (t : S3) : TS := fun D2 σ H => ∃ env M W D3, SE K H σ env ∧ Abs K M H ∧ LW K H W W2 ∧ t W D3 env M ∧ LE K H D3 D2
def lowG (K : Fg) (W2 : WX) (t : G3) : TG := fun v σ H Q2 => ∃ d env M W Q, Rv K H d v ∧ SE K H σ env ∧ Abs K M H ∧ LW K H W W2 ∧ t W d env M Q ∧ Nxt K H Q Q2
/-- what the iterator J gives: ds, while keep is true -/
structure ItOk (K : Fg) (H1 : Hp) (ds : List D) (keep : MH → Prop) (J : It) : Prop where
  step : ∀ i d H M, ds[i]? = some d → Tps H1 H → Abs K M H → keep M → J.go i H ∧ ∀ x H', J.yld i H x H' → Tps H H' ∧ Abs K M H' ∧ Rv K H' d x
  stop : ∀ H M, Tps H1 H → Abs K M H → keep M → J.stop ds.length H
def lowI (K : Fg) (W2 : WX) (t : I3) : TI := fun σ H R => ∃ env M W Q, SE K H σ env ∧ Abs K M H ∧ LW K H W W2 ∧ t W env M Q ∧ ∀ ds keep J H' M', Tps H H' → Abs K M' H' → Q ds keep M' → ItOk K H' ds keep J → R J H'
/-! ### the judgements -/
def DE (X : Cx) (e : Expr) (t : E3) : Prop := ∀ W2, Takes X W2 → PE X e (lowE X.K W2 t)
def DT (X : Cx) (e : Expr) (t : T3) : Prop := ∀ W2, Takes X W2 → PT X e (lowT X.K W2 t)
def DW (X : Cx) (e : Expr) (t : T3) : Prop := ∀ W2, Takes X W2 → PW X e (lowT X.K W2 t)
def DA (X : Cx) (es : List Expr) (t : A3) : Prop := ∀ W2, Takes X W2 → PA X es (lowA X.K W2 t)
def DG (X : Cx) (e : Expr) (t : G3) : Prop := ∀ W2, Takes X W2 → PG X e (lowG X.K W2 t)
def DI (X : Cx) (tg e : Expr) (t : I3) : Prop := ∀ W2, Takes X W2 → PI X tg e (lowI X.K W2 t)
def Pass (X : Cx) : Prop := PassesOwn (model X.prog X.w) X.A X.env X.xe
def DS (X : Cx) (st : Stmt) (t : S3) : Prop := ∀ W2, Takes X W2 → Pass X → PS X st (lowS X.K W2 t)
def DSs (X : Cx) (st : List Stmt) (t : S3) : Prop := ∀ W2, Takes X W2 → Pass X → PSs X st (lowS X.K W2 t)
theorem _root_.L2.PE.imp {X : Cx} {e : Expr} {t t' : TE} (h : PE X e t) (k : ∀ σ H Q, t' σ H Q → t σ H Q) : PE X e t' := ⟨fun pins s σ H Q I q => h.run pins s σ H Q I (k σ H Q q)⟩
theorem _root_.L2.PT.imp {X : Cx} {e : Expr} {t t' : TT} (h : PT X e t) (k : ∀ σ H Q, t' σ H Q → t σ H Q) : PT X e t' := ⟨fun pins s σ H Q I q => h.run pins s σ H Q I (k σ H Q q)⟩
theorem _root_.L2.PW.imp {X : Cx} {e : Expr} {t t' : TT} (h : PW X e t) (k : ∀ σ H Q, t' σ H Q → t σ H Q) : PW X e t' := ⟨fun wh pins s σ H Q I q => h.run wh pins s σ H Q I (k σ H Q q)⟩
theorem _root_.L2.PA.imp {X : Cx} {e : List Expr} {t t' : TA} (h : PA X e t) (k : ∀ σ H Q, t' σ H Q → t σ H Q) : PA X e t' := ⟨fun pos pins s σ H Q I q => h.run pos pins s σ H Q I (k σ H Q q)⟩
theorem _root_.L2.PG.imp {X : Cx} {e : Expr} {t t' : TG} (h : PG X e t) (k : ∀ v σ H Q, t' v σ H Q → t v σ H Q) : PG X e t' := ⟨fun pins s σ H v u Q I r q => h.run pins s σ H v u Q I r (k v σ H Q q)⟩
theorem _root_.L2.PI.imp {X : Cx} {tg e : Expr} {t t' : TI} (h : PI X tg e t) (k : ∀ σ H Q, t' σ H Q → t σ H Q) : PI X tg e t' := ⟨fun pins s σ H Q I q => h.run pins s σ H Q I (k σ H Q q)⟩
theorem _root_.L2.PS.imp {X : Cx} {e : Stmt} {t t' : TS} (h : PS X e t) (k : ∀ D σ H, t' D σ H → t D σ H) : PS X e t' := ⟨fun pins s σ H D I q => h.run pins s σ H D I (k D σ H q)⟩
theorem _root_.L2.PSs.imp {X : Cx} {e : List Stmt} {t t' : TS} (h : PSs X e t) (k : ∀ D σ H, t' D σ H → t D σ H) : PSs X e t' := ⟨fun pins s σ H D I q => h.run pins s σ H D I (k D σ H q)⟩
theorem _root_.L2.PE.or {X : Cx} {e : Expr} {t t' : TE} (h : PE X e t) (h' : PE X e t') : PE X e (fun σ H Q => t σ H Q ∨ t' σ H Q) := ⟨fun pins s σ H Q I q => q.elim (h.run pins s σ H Q I) (h'.run pins s σ H Q I)⟩
theorem _root_.L2.PI.or {X : Cx} {tg e : Expr} {t t' : TI} (h : PI X tg e t) (h' : PI X tg e t') : PI X tg e (fun σ H Q => t σ H Q ∨ t' σ H Q) := ⟨fun pins s σ H Q I q => q.elim (h.run pins s σ H Q I) (h'.run pins s σ H Q I)⟩
section
variable {K : Fg} {W2 : WX} {σ : L2.St} {H : Hp} {env : En} {M : MH} {W : W3} {t : E3} {Q : Q3} {Q2 : VK}
/-- handing on to a part -/
theorem toE (s : SE K H σ env) (a : Abs K M H) (l : LW K H W W2) (q : t W env M Q) (g : Got K H Q Q2) : lowE K W2 t σ H Q2 := ⟨env, M, W, Q, s, a, l, q, g⟩
end
end L3

namespace L3
open PySem PySem.Spec PyProof.Rows L2
/-- by cases on a bool -/
def Br (b : Bool) (A B : Prop) : Prop := (b = true → A) ∧ (b = false → B)
theorem Br.tt {A B : Prop} (h : A) : Br true A B := ⟨fun _ => h, (fun e => nomatch e)⟩
theorem Br.ff {A B : Prop} (h : B) : Br false A B := ⟨(fun e => nomatch e), fun _ => h⟩
theorem Br.yes {b : Bool} {A B : Prop} (e : b = true) (h : A) : Br b A B := by subst e; exact Br.tt h
theorem Br.no {b : Bool} {A B : Prop} (e : b = false) (h : B) : Br b A B := by subst e; exact Br.ff h
theorem Br.ite {b : Bool} {A B : Prop} (h : Br b A B) : if b = true then A else B := by
  cases b with
  | true => rw [if_pos rfl]; exact h.1 rfl
  | false => rw [if_neg Bool.false_ne_true]; exact h.2 rfl
section
variable {X : Cx} {e a b c : Expr} {es : List Expr} {pos p : Pos} {t ta tb tc : E3}
/-! ### names, constants -/
def e3Var (i : Nat) : E3 := fun _ env M Q => match env[i]? with | some (some d) => Q d M | _ => False
def e3C (d : D) : E3 := fun _ _ M Q => Q d M
theorem d_of_tC {v : V} {d : D} (h : PE X e (tC v)) (r : ∀ H, Rv X.K H d v) : DE X e (e3C d) := fun W2 _ => h.imp fun σ H Q2 ⟨env, M, W, Q, s, a, l, q, g⟩ => g d v H M (Tps.refl H) a (r H) q
theorem dv (i : Nat) {x : Str} (hN : X.N[i]? = some x := by rfl) (hv : Vis X.env.scope x := by first | exact Or.inl rfl | exact Or.inr (Or.inl rfl) | exact Or.inr (Or.inr rfl)) (hd : (x == ("__debug__" : Str)) = false := by decide)
    (hcd : (x == ("__classdict__" : Str)) = false := by decide) : DE X (.Name x pos) (e3Var i) := fun W2 _ => (pe_var (i := i) hN hv hd hcd).imp fun σ H Q2 ⟨env, M, W, Q, s, a, l, q, g⟩ => by
  unfold e3Var at q
  split at q
  · rename_i d e
    obtain ⟨v, e1, r⟩ := s.get i d e
    exact ⟨v, e1, g d v H M (Tps.refl H) a r q⟩
  · exact q.elim
theorem d_int {i : Int} {j} : DE X (.Constant (.int i) j pos) (e3C (.int i)) := d_of_tC pe_int fun _ => Rv.int
theorem d_bl {i : Bool} {j} : DE X (.Constant (.bool i) j pos) (e3C (.bl i)) := d_of_tC pe_bl fun _ => Rv.bl
theorem d_non {j} : DE X (.Constant .none j pos) (e3C .non) := d_of_tC pe_non fun _ => Rv.non
theorem d_str {x : Str} {j} : DE X (.Constant (.str x) j pos) (e3C (.str x)) := d_of_tC pe_str fun _ => Rv.str
theorem d_globI {x : Str} {i : Int} {u : Value} (hg : Gl X x) (hm : X.mg x = some u) (r : RelV (.int i) u) (hd : (x == ("__debug__" : Str)) = false := by decide) : DE X (.Name x pos) (e3C (.int i)) := d_of_tC (pe_glob hg hm r hd) fun _ => Rv.int
theorem d_globC {x : Str} {C : Addr} (hg : Gl X x) (hm : X.mg x = some (.ref C)) (hd : (x == ("__debug__" : Str)) = false := by decide) : DE X (.Name x pos) (e3C (.ref C)) := d_of_tC (pe_glob hg hm (v := .ref C) rfl hd) fun _ => Rv.ref
theorem d_ty {x : Str} {n : String} (hg : Gl X x) (hm : X.mg x = none) (hv : bootBuiltins x = some (.type n)) (hn : x ≠ "__name__" := by decide) (hd : (x == ("__debug__" : Str)) = false := by decide) : DE X (.Name x pos) (e3C (.ty n)) :=
  d_of_tC (pe_bltn hg hm hv (v := .ty n) rfl hn hd) fun _ => Rv.ty
/-! ### operators -/
def OpL (K : Fg) (r : R2) (r3 : D → D → MH → Q3 → Prop) : Prop := ∀ d e v u H M Q Q2, Rv K H d v → Rv K H e u → Abs K M H → r3 d e M Q → Got K H Q Q2 → r v u H Q2
def e3Op (r3 : D → D → MH → Q3 → Prop) (ta tb : E3) : E3 := fun W env M Q => ta W env M fun d M1 => tb W env M1 fun e M2 => r3 d e M2 Q
theorem op_low {r : R2} {r3 : D → D → MH → Q3 → Prop} {W2 : WX} (hl : OpL X.K r r3) {σ : L2.St} {H : Hp} {Q2 : VK} (h : lowE X.K W2 (e3Op r3 ta tb) σ H Q2) : tOp r (lowE X.K W2 ta) (lowE X.K W2 tb) σ H Q2 := by
  obtain ⟨env, M, W, Q, s, a, l, q, g⟩ := h
  refine ⟨env, M, W, _, s, a, l, q, fun d v H1 M1 t1 a1 r1 q1 => ?_⟩
  exact ⟨env, M1, W, _, s.mono t1, a1, l.mono t1, q1, fun e u H2 M2 t2 a2 r2 q2 => hl d e v u H2 M2 Q Q2 (r1.mono t2) r2 a2 q2 (g.mono (t1.trans t2))⟩
theorem d_op {op : Operator} {r : R2} {r3 : D → D → MH → Q3 → Prop} (ho : OpR X (binaryOp op) r) (hl : OpL X.K r r3) (ha : DE X a ta) (hb : DE X b tb) : DE X (.BinOp a op b pos) (e3Op r3 ta tb) :=
  fun W2 tk => (pe_op ho (ha W2 tk) (hb W2 tk)).imp fun σ H Q2 h => op_low hl h
theorem d_cmp {op : CmpOp} {r : R2} {r3 : D → D → MH → Q3 → Prop} (ho : OpR X (compareOp op) r) (hl : OpL X.K r r3) (ha : DE X a ta) (hb : DE X b tb) (hm : behindInMarks op b = false := by first | exact nomark _ | with_unfolding_all rfl | rfl) : DE X (.Compare a [op] [b] pos) (e3Op r3 ta tb) :=
  fun W2 tk => (pe_cmpR ho (ha W2 tk) (hb W2 tk) hm).imp fun σ H Q2 h => op_low hl h
def t3Test (t : E3) : T3 := fun W env M Q => t W env M fun d M1 => match d with | .bl b => Q b M1 | _ => False
theorem test_low {W2 : WX} {σ : L2.St} {H : Hp} {Q2 : Bool → Hp → Prop} (h : lowT X.K W2 (t3Test t) σ H Q2) : lowE X.K W2 t σ H (fun x H' => ∃ k, x = .bl k ∧ Q2 k H') := by
  obtain ⟨env, M, W, Q, s, a, l, q, g⟩ := h
  refine ⟨env, M, W, _, s, a, l, q, fun d v H1 M1 t1 a1 r1 q1 => ?_⟩
  cases d with
  | bl b => exact ⟨b, r1.bl_inv, g b H1 M1 t1 a1 q1⟩
  | _ => exact q1.elim
theorem t_cmp {op : CmpOp} {r : R2} {r3 : D → D → MH → Q3 → Prop} (ho : OpR X (compareOp op) r) (hl : OpL X.K r r3) (ha : DE X a ta) (hb : DE X b tb) (hm : behindInMarks op b = false := by first | exact nomark _ | with_unfolding_all rfl | rfl) : DT X (.Compare a [op] [b] pos) (t3Test (e3Op r3 ta tb)) :=
  fun W2 tk => (pt_cmpR ho (ha W2 tk) (hb W2 tk) hm).imp fun σ H Q2 h => op_low hl (test_low h)
theorem t_val (h : DE X e t) (he : ∀ whole, isTrue e X.env whole = (do let v ← whole; standAt e.pos; holding [v] (truthy v)) := by intro _; rfl) : DT X e (t3Test t) :=
  fun W2 tk => (pt_val (h W2 tk) he).imp fun σ H Q2 h => test_low h
def e3Chain (r r' : D → D → MH → Q3 → Prop) (ta tb tc : E3) : E3 := fun W env M Q => ta W env M fun d M1 => tb W env M1 fun e M2 => r d e M2 fun z M3 => match z with
  | .bl k => Br k (tc W env M3 fun f M4 => r' e f M4 Q) (Q (.bl false) M3)
  | _ => False
theorem chain_low {r r' : R2} {q q' : D → D → MH → Q3 → Prop} {W2 : WX} (hl : OpL X.K r q) (hl' : OpL X.K r' q') {σ : L2.St} {H : Hp} {Q2 : VK} (h : lowE X.K W2 (e3Chain q q' ta tb tc) σ H Q2) : tChain r r' (lowE X.K W2 ta) (lowE X.K W2 tb) (lowE X.K W2 tc) σ H Q2 := by
  obtain ⟨env, M, W, Q, s, a, l, q, g⟩ := h
  refine ⟨env, M, W, _, s, a, l, q, fun d v H1 M1 t1 a1 r1 q1 => ?_⟩
  refine ⟨env, M1, W, _, s.mono t1, a1, l.mono t1, q1, fun e u H2 M2 t2 a2 r2 q2 => ?_⟩
  refine hl d e v u H2 M2 _ _ (r1.mono t2) r2 a2 q2 fun z w H3 M3 t3 a3 r3 q3 => ?_
  have t123 := (t1.trans t2).trans t3
  cases z with
  | bl k =>
    refine ⟨k, r3.bl_inv, ?_⟩
    cases k with
    | true =>
      rw [if_pos rfl]
      refine ⟨env, M3, W, _, s.mono t123, a3, l.mono t123, q3.1 rfl, fun f w' H4 M4 t4 a4 r4 q4 => ?_⟩
      exact hl' e f u w' H4 M4 Q Q2 (r2.mono (t3.trans t4)) r4 a4 q4 (g.mono (t123.trans t4))
    | false =>
      rw [if_neg Bool.false_ne_true]
      exact g _ _ H3 M3 t123 a3 Rv.bl (q3.2 rfl)
  | _ => exact q3.elim
theorem d_chain {op op' : CmpOp} {r r' : R2} {q q' : D → D → MH → Q3 → Prop} (ho : OpR X (compareOp op) r) (hl : OpL X.K r q) (ho' : OpR X (compareOp op') r') (hl' : OpL X.K r' q') (ha : DE X a ta) (hb : DE X b tb) (hc : DE X c tc)
    (hm : lastMarks [op, op'] [b, c] = false := by with_unfolding_all rfl) : DE X (.Compare a [op, op'] [b, c] pos) (e3Chain q q' ta tb tc) :=
  fun W2 tk => (pe_chain ho ho' (ha W2 tk) (hb W2 tk) (hc W2 tk) hm).imp fun σ H Q2 h => chain_low hl hl' h
theorem t_chain {op op' : CmpOp} {r r' : R2} {q q' : D → D → MH → Q3 → Prop} (ho : OpR X (compareOp op) r) (hl : OpL X.K r q) (ho' : OpR X (compareOp op') r') (hl' : OpL X.K r' q') (ha : DE X a ta) (hb : DE X b tb) (hc : DE X c tc)
    (hm : lastMarks [op, op'] [b, c] = false := by with_unfolding_all rfl) : DT X (.Compare a [op, op'] [b, c] pos) (t3Test (e3Chain q q' ta tb tc)) :=
  fun W2 tk => (pt_chain ho ho' (ha W2 tk) (hb W2 tk) (hc W2 tk) hm).imp fun σ H Q2 h => chain_low hl hl' (test_low h)
/-! ### the operators' meanings -/
variable {K : Fg}
def r3Add : D → D → MH → Q3 → Prop
  | .int i, .int j, M, Q => Q (.int (i + j)) M
  | .tup xs, .tup ys, M, Q => xs.length + ys.length ≤ sizeLine ∧ Q (.tup (xs ++ ys)) M
  | .str x, .str y, M, Q => x.length + y.length ≤ sizeLine ∧ Q (.str (x ++ y)) M
  | .ref a, .ref b, M, Q => ∃ xs ys, M a = some (.lst xs) ∧ M b = some (.lst ys) ∧ xs.length + ys.length ≤ sizeLine ∧ ∀ p, M p = none → Q (.ref p) (updM M p (.lst (xs ++ ys)))
  | _, _, _, _ => False
theorem opl_add : OpL K (fun x y H Q => rI0 (fun i j => .int (i + j)) x y H Q ∨ (rCatD K x y H Q ∨ ((fun x y H Q => ∃ i j, x = .str i ∧ y = .str j ∧ i.length + j.length ≤ sizeLine ∧ Q (.str (i ++ j)) H) x y H Q ∨ rCat x y H Q))) r3Add := by
  intro d e v u H M Q Q2 rd re a q g
  unfold r3Add at q
  split at q
  · cases rd.int_inv; cases re.int_inv
    exact .inl ⟨_, _, rfl, rfl, g _ _ H M (Tps.refl H) a Rv.int q⟩
  · rename_i xs ys
    obtain ⟨p, vs, rfl, hs, hv⟩ := rd.tup_inv
    obtain ⟨p', vs', rfl, hs', hv'⟩ := re.tup_inv
    have hl := hv.length
    have hl' := hv'.length
    refine .inr (.inl ⟨p, p', vs, vs', rfl, rfl, hs, hs', by omega, fun e0 => ?_, fun n0 e0 => ?_, fun n0 n1 t ot nt dt => ?_⟩)
    · subst e0
      have : xs = [] := by cases xs with | nil => rfl | cons _ _ => simp at hl
      subst this
      exact g _ _ H M (Tps.refl H) a re q.2
    · subst e0
      have : ys = [] := by cases ys with | nil => rfl | cons _ _ => simp at hl'
      subst this
      refine g _ _ H M (Tps.refl H) a rd ?_
      have := q.2
      rw [List.append_nil] at this
      exact this
    · exact g _ _ _ M (Tps.new nt) (a.tupN nt) (Rv.tup (SqD.of dt) ((hv.app hv').mono (Tps.new nt))) q.2
  · cases rd.str_inv; cases re.str_inv
    exact .inr (.inr (.inl ⟨_, _, rfl, rfl, q.1, g _ _ H M (Tps.refl H) a Rv.str q.2⟩))
  · obtain ⟨xs, ys, h1, h2, hz, q⟩ := q
    cases rd.ref_inv; cases re.ref_inv
    obtain ⟨vs, e1, r1⟩ := a.lst h1
    obtain ⟨vs', e2, r2⟩ := a.lst h2
    have hl := r1.length
    have hl' := r2.length
    refine .inr (.inr (.inr ⟨_, _, vs, vs', rfl, rfl, e1, e2, by omega, fun p np => ?_⟩))
    exact g _ _ _ _ (Tps.new np) (a.lstN np (r1.app r2)) Rv.ref (q p (a.fresh np))
  · exact q.elim
theorem ho_add : OpR X (binaryOp .Add) (fun x y H Q => rI0 (fun i j => .int (i + j)) x y H Q ∨ (rCatD X.K x y H Q ∨ ((fun x y H Q => ∃ i j, x = .str i ∧ y = .str j ∧ i.length + j.length ≤ sizeLine ∧ Q (.str (i ++ j)) H) x y H Q ∨ rCat x y H Q))) :=
  op_add.or (op_catD.or (op_add_str.or op_cat))
theorem d_add (ha : DE X a ta) (hb : DE X b tb) : DE X (.BinOp a .Add b pos) (e3Op r3Add ta tb) := d_op ho_add opl_add ha hb
def r3Int (C : Int → Int → Prop) (f : Int → Int → Int) : D → D → MH → Q3 → Prop
  | .int i, .int j, M, Q => C i j ∧ Q (.int (f i j)) M
  | _, _, _, _ => False
theorem opl_int {C : Int → Int → Prop} {f : Int → Int → Int} : OpL K (rI C fun i j => .int (f i j)) (r3Int C f) := by
  intro d e v u H M Q Q2 rd re a q g
  unfold r3Int at q
  split at q
  · cases rd.int_inv; cases re.int_inv
    exact ⟨_, _, rfl, rfl, q.1, g _ _ H M (Tps.refl H) a Rv.int q.2⟩
  · exact q.elim
def r3Int0 (f : Int → Int → Int) : D → D → MH → Q3 → Prop
  | .int i, .int j, M, Q => Q (.int (f i j)) M
  | _, _, _, _ => False
theorem opl_int0 {f : Int → Int → Int} : OpL K (rI0 fun i j => .int (f i j)) (r3Int0 f) := by
  intro d e v u H M Q Q2 rd re a q g
  unfold r3Int0 at q
  split at q
  · cases rd.int_inv; cases re.int_inv
    exact ⟨_, _, rfl, rfl, g _ _ H M (Tps.refl H) a Rv.int q⟩
  · exact q.elim
def r3Mul : D → D → MH → Q3 → Prop
  | .int i, .int j, M, Q => CMul i j ∧ Q (.int (i * j)) M
  | .tup xs, .int k, M, Q => xs ≠ [] ∧ 2 ≤ k ∧ k ≤ 1000 ∧ xs.length ≤ 1000 ∧ Q (.tup (List.replicate k.toNat xs).flatten) M
  | .ref l, .int k, M, Q => ∃ xs, M l = some (.lst xs) ∧ 0 ≤ k ∧ k < 2 ^ 63 ∧ xs.length * k.toNat ≤ sizeLine ∧ ∀ p, M p = none → Q (.ref p) (updM M p (.lst (List.replicate k.toNat xs).flatten))
  | _, _, _, _ => False
theorem Rvs.rep {H : Hp} {ds : List D} {vs : List V} (r : Rvs K H ds vs) : ∀ n, Rvs K H (List.replicate n ds).flatten (List.replicate n vs).flatten
  | 0 => Rvs.nil
  | n + 1 => by
    rw [List.replicate_succ, List.replicate_succ, List.flatten_cons, List.flatten_cons]
    exact r.app (Rvs.rep r n)
theorem opl_mul : OpL K (fun x y H Q => rI CMul (fun i j => .int (i * j)) x y H Q ∨ (rRepD K x y H Q ∨ rRep x y H Q)) r3Mul := by
  intro d e v u H M Q Q2 rd re a q g
  unfold r3Mul at q
  split at q
  · cases rd.int_inv; cases re.int_inv
    exact .inl ⟨_, _, rfl, rfl, q.1, g _ _ H M (Tps.refl H) a Rv.int q.2⟩
  · cases re.int_inv
    obtain ⟨n0, k1, k2, hz, q⟩ := q
    obtain ⟨p, vs, rfl, hs, hv⟩ := rd.tup_inv
    have hl := hv.length
    refine .inr (.inl ⟨p, _, vs, rfl, rfl, hs, ?_, k1, k2, by omega, fun t ot nt dt => ?_⟩)
    · intro z
      subst z
      exact n0 (by cases hv.length.symm ▸ (rfl : ([] : List V).length = 0); exact List.eq_nil_of_length_eq_zero (by simpa using hl))
    · exact g _ _ _ M (Tps.new nt) (a.tupN nt) (Rv.tup (SqD.of dt) ((hv.rep _).mono (Tps.new nt))) q
  · cases rd.ref_inv; cases re.int_inv
    obtain ⟨xs, h1, k0, k1, hz, q⟩ := q
    obtain ⟨vs, e1, r1⟩ := a.lst h1
    have hl := r1.length
    refine .inr (.inr ⟨_, _, vs, rfl, rfl, e1, by omega, k1, by rw [← hl]; exact hz, fun p np => ?_⟩)
    exact g _ _ _ _ (Tps.new np) (a.lstN np (r1.rep _)) Rv.ref (q p (a.fresh np))
  · exact q.elim
theorem d_mul (ha : DE X a ta) (hb : DE X b tb) : DE X (.BinOp a .Mult b pos) (e3Op r3Mul ta tb) := d_op (op_mul.or (op_repD.or op_rep)) opl_mul ha hb
def r3Sub : D → D → MH → Q3 → Prop
  | .int i, .int j, M, Q => Q (.int (i - j)) M
  | _, _, _, _ => False
theorem opl_Sub : OpL K (rI0 fun i j => .int (i - j)) r3Sub := by
  intro d e v u H M Q Q2 rd re a q g
  unfold r3Sub at q
  split at q
  · cases rd.int_inv; cases re.int_inv
    exact ⟨_, _, rfl, rfl, g _ _ H M (Tps.refl H) a Rv.int q⟩
  · exact q.elim
theorem d_sub (ha : DE X a ta) (hb : DE X b tb) : DE X (.BinOp a .Sub b pos) (e3Op r3Sub ta tb) := d_op op_sub opl_Sub ha hb
def r3Mod : D → D → MH → Q3 → Prop
  | .int i, .int j, M, Q => 0 < j ∧ Q (.int (i % j)) M
  | _, _, _, _ => False
theorem opl_Mod : OpL K (rI (fun i j => 0 < j) fun i j => .int (i % j)) r3Mod := by
  intro d e v u H M Q Q2 rd re a q g
  unfold r3Mod at q
  split at q
  · cases rd.int_inv; cases re.int_inv
    exact ⟨_, _, rfl, rfl, q.1, g _ _ H M (Tps.refl H) a Rv.int q.2⟩
  · exact q.elim
theorem d_mod (ha : DE X a ta) (hb : DE X b tb) : DE X (.BinOp a .Mod b pos) (e3Op r3Mod ta tb) := d_op op_mod opl_Mod ha hb
def r3Div : D → D → MH → Q3 → Prop
  | .int i, .int j, M, Q => (0 < j ∧ j < 1073741824) ∧ Q (.int (i / j)) M
  | _, _, _, _ => False
theorem opl_Div : OpL K (rI (fun i j => (0 < j ∧ j < 1073741824)) fun i j => .int (i / j)) r3Div := by
  intro d e v u H M Q Q2 rd re a q g
  unfold r3Div at q
  split at q
  · cases rd.int_inv; cases re.int_inv
    exact ⟨_, _, rfl, rfl, q.1, g _ _ H M (Tps.refl H) a Rv.int q.2⟩
  · exact q.elim
theorem d_fdiv (ha : DE X a ta) (hb : DE X b tb) : DE X (.BinOp a .FloorDiv b pos) (e3Op r3Div ta tb) := d_op op_fdiv opl_Div ha hb
def r3Pow : D → D → MH → Q3 → Prop
  | .int i, .int j, M, Q => (0 ≤ j ∧ j ≤ 1000000 ∧ i.natAbs < 2 ^ 64) ∧ Q (.int (i ^ j.toNat)) M
  | _, _, _, _ => False
theorem opl_Pow : OpL K (rI (fun i j => (0 ≤ j ∧ j ≤ 1000000 ∧ i.natAbs < 2 ^ 64)) fun i j => .int (i ^ j.toNat)) r3Pow := by
  intro d e v u H M Q Q2 rd re a q g
  unfold r3Pow at q
  split at q
  · cases rd.int_inv; cases re.int_inv
    exact ⟨_, _, rfl, rfl, q.1, g _ _ H M (Tps.refl H) a Rv.int q.2⟩
  · exact q.elim
theorem d_pow (ha : DE X a ta) (hb : DE X b tb) : DE X (.BinOp a .Pow b pos) (e3Op r3Pow ta tb) := d_op op_pow opl_Pow ha hb
def r3Shl : D → D → MH → Q3 → Prop
  | .int i, .int j, M, Q => (0 ≤ j ∧ j ≤ 1000000 ∧ i.natAbs < 2 ^ 64) ∧ Q (.int (i * 2 ^ j.toNat)) M
  | _, _, _, _ => False
theorem opl_Shl : OpL K (rI (fun i j => (0 ≤ j ∧ j ≤ 1000000 ∧ i.natAbs < 2 ^ 64)) fun i j => .int (i * 2 ^ j.toNat)) r3Shl := by
  intro d e v u H M Q Q2 rd re a q g
  unfold r3Shl at q
  split at q
  · cases rd.int_inv; cases re.int_inv
    exact ⟨_, _, rfl, rfl, q.1, g _ _ H M (Tps.refl H) a Rv.int q.2⟩
  · exact q.elim
theorem d_shl (ha : DE X a ta) (hb : DE X b tb) : DE X (.BinOp a .LShift b pos) (e3Op r3Shl ta tb) := d_op op_shl opl_Shl ha hb
def r3Shr : D → D → MH → Q3 → Prop
  | .int i, .int j, M, Q => 0 ≤ j ∧ Q (.int (i / 2 ^ j.toNat)) M
  | _, _, _, _ => False
theorem opl_Shr : OpL K (rI (fun i j => 0 ≤ j) fun i j => .int (i / 2 ^ j.toNat)) r3Shr := by
  intro d e v u H M Q Q2 rd re a q g
  unfold r3Shr at q
  split at q
  · cases rd.int_inv; cases re.int_inv
    exact ⟨_, _, rfl, rfl, q.1, g _ _ H M (Tps.refl H) a Rv.int q.2⟩
  · exact q.elim
theorem d_shr (ha : DE X a ta) (hb : DE X b tb) : DE X (.BinOp a .RShift b pos) (e3Op r3Shr ta tb) := d_op op_shr opl_Shr ha hb
def r3Band : D → D → MH → Q3 → Prop
  | .int i, .int j, M, Q => Q (.int (Builtin.bitAnd i j)) M
  | _, _, _, _ => False
theorem opl_Band : OpL K (rI0 fun i j => .int (Builtin.bitAnd i j)) r3Band := by
  intro d e v u H M Q Q2 rd re a q g
  unfold r3Band at q
  split at q
  · cases rd.int_inv; cases re.int_inv
    exact ⟨_, _, rfl, rfl, g _ _ H M (Tps.refl H) a Rv.int q⟩
  · exact q.elim
theorem d_band (ha : DE X a ta) (hb : DE X b tb) : DE X (.BinOp a .BitAnd b pos) (e3Op r3Band ta tb) := d_op op_and opl_Band ha hb
def r3Bor : D → D → MH → Q3 → Prop
  | .int i, .int j, M, Q => Q (.int (Builtin.bitOr i j)) M
  | _, _, _, _ => False
theorem opl_Bor : OpL K (rI0 fun i j => .int (Builtin.bitOr i j)) r3Bor := by
  intro d e v u H M Q Q2 rd re a q g
  unfold r3Bor at q
  split at q
  · cases rd.int_inv; cases re.int_inv
    exact ⟨_, _, rfl, rfl, g _ _ H M (Tps.refl H) a Rv.int q⟩
  · exact q.elim
theorem d_bor (ha : DE X a ta) (hb : DE X b tb) : DE X (.BinOp a .BitOr b pos) (e3Op r3Bor ta tb) := d_op op_or opl_Bor ha hb
/-! ### data for == and in -/
mutual
inductive Py (M : MH) : D → PyData → Prop
  | non : Py M .non .none
  | bl (b : Bool) : Py M (.bl b) (.bool b)
  | int (i : Int) : Py M (.int i) (.int i)
  | str (x : Str) : Py M (.str x) (.str x)
  | tup {ds : List D} {ps : List PyData} : Pys M ds ps → Py M (.tup ds) (.tuple ps)
  | ref {a : Addr} {ds : List D} {ps : List PyData} : LstM M a ds → Pys M ds ps → Py M (.ref a) (.list ps)
inductive Pys (M : MH) : List D → List PyData → Prop
  | nil : Pys M [] []
  | cons {d : D} {ds : List D} {p : PyData} {ps : List PyData} : Py M d p → Pys M ds ps → Pys M (d :: ds) (p :: ps)
end
mutual
theorem Py.dp {H : Hp} {M : MH} (a : Abs K M H) : ∀ (p : PyData) (d : D) (v : V), Py M d p → Rv K H d v → Dp K H v p
  | .none, _, _, h, r => by cases h; cases r.non_inv; exact .non
  | .bool b, _, _, h, r => by cases h; cases r.bl_inv; exact .bl b
  | .int i, _, _, h, r => by cases h; cases r.int_inv; exact .int i
  | .str x, _, _, h, r => by cases h; cases r.str_inv; exact .str x
  | .tuple ps, _, _, h, r => by
    cases h with
    | tup h =>
      obtain ⟨p, vs, rfl, hs, hv⟩ := r.tup_inv
      exact .tup hs (Pys.dp a ps _ _ h hv)
  | .list ps, _, _, h, r => by
    cases h with
    | ref hl h =>
      cases r.ref_inv
      obtain ⟨vs, hs, hv⟩ := a.rd hl
      exact .lst hs (Pys.dp a ps _ _ h hv)
  | .dict _, _, _, h, _ => by cases h
theorem Pys.dp {H : Hp} {M : MH} (a : Abs K M H) : ∀ (ps : List PyData) (ds : List D) (vs : List V), Pys M ds ps → Rvs K H ds vs → DpAll K H vs ps
  | [], _, _, h, r => by cases h; cases r.nil_inv; exact .nil
  | p :: ps, _, _, h, r => by
    cases h with
    | cons h1 h2 =>
      obtain ⟨v, vs, rfl, r1, r2⟩ := r.cons_inv
      exact .cons (Py.dp a p _ _ h1 r1) (Pys.dp a ps _ _ h2 r2)
end
@[irreducible] def r3Eq : D → D → MH → Q3 → Prop
  | .int i, .int j, M, Q => Q (.bl (decide (i = j))) M
  | .bl i, .bl j, M, Q => Q (.bl (i == j)) M
  | .str i, .str j, M, Q => Q (.bl (decide (i = j))) M
  | d, e, M, Q => ∃ p q, Py M d p ∧ Py M e q ∧ SeqAt.shaped p = true ∧ SeqAt.shaped q = true ∧ Q (.bl (PyData.eqv p q)) M
@[irreducible] def r3Ne : D → D → MH → Q3 → Prop
  | .int i, .int j, M, Q => Q (.bl (!decide (i = j))) M
  | .bl i, .bl j, M, Q => Q (.bl (!(i == j))) M
  | .str i, .str j, M, Q => Q (.bl (!decide (i = j))) M
  | d, e, M, Q => ∃ p q, Py M d p ∧ Py M e q ∧ SeqAt.shaped p = true ∧ SeqAt.shaped q = true ∧ Q (.bl (!PyData.eqv p q)) M
theorem opl_eq : OpL K (fun x y H Q => rEq x y H Q ∨ rEqD K x y H Q) r3Eq := by
  intro d e v u H M Q Q2 rd re a q g
  unfold r3Eq at q
  split at q
  · cases rd.int_inv; cases re.int_inv
    refine .inl ⟨rfl, g _ _ H M (Tps.refl H) a Rv.bl ?_⟩
    rename_i i j
    have e1 : decide (V.int i = V.int j) = decide (i = j) := by
      by_cases h : i = j
      · subst h; simp
      · simp [h]
    rw [e1]; exact q
  · cases rd.bl_inv; cases re.bl_inv
    refine .inl ⟨rfl, g _ _ H M (Tps.refl H) a Rv.bl ?_⟩
    rename_i i j
    have e1 : decide (V.bl i = V.bl j) = (i == j) := by cases i <;> cases j <;> rfl
    rw [e1]; exact q
  · cases rd.str_inv; cases re.str_inv
    refine .inl ⟨rfl, g _ _ H M (Tps.refl H) a Rv.bl ?_⟩
    rename_i i j
    have e1 : decide (V.str i = V.str j) = decide (i = j) := by
      by_cases h : i = j
      · subst h; simp
      · simp [h]
    rw [e1]; exact q
  · obtain ⟨p, q', h1, h2, s1, s2, q⟩ := q
    exact .inr ⟨p, q', Py.dp a p _ _ h1 rd, Py.dp a q' _ _ h2 re, s1, s2, g _ _ H M (Tps.refl H) a Rv.bl q⟩
theorem opl_ne : OpL K (fun x y H Q => rNe x y H Q ∨ rNeD K x y H Q) r3Ne := by
  intro d e v u H M Q Q2 rd re a q g
  unfold r3Ne at q
  split at q
  · cases rd.int_inv; cases re.int_inv
    refine .inl ⟨rfl, g _ _ H M (Tps.refl H) a Rv.bl ?_⟩
    rename_i i j
    have e1 : decide (V.int i = V.int j) = decide (i = j) := by
      by_cases h : i = j
      · subst h; simp
      · simp [h]
    rw [e1]; exact q
  · cases rd.bl_inv; cases re.bl_inv
    refine .inl ⟨rfl, g _ _ H M (Tps.refl H) a Rv.bl ?_⟩
    rename_i i j
    have e1 : decide (V.bl i = V.bl j) = (i == j) := by cases i <;> cases j <;> rfl
    rw [e1]; exact q
  · cases rd.str_inv; cases re.str_inv
    refine .inl ⟨rfl, g _ _ H M (Tps.refl H) a Rv.bl ?_⟩
    rename_i i j
    have e1 : decide (V.str i = V.str j) = decide (i = j) := by
      by_cases h : i = j
      · subst h; simp
      · simp [h]
    rw [e1]; exact q
  · obtain ⟨p, q', h1, h2, s1, s2, q⟩ := q
    exact .inr ⟨p, q', Py.dp a p _ _ h1 rd, Py.dp a q' _ _ h2 re, s1, s2, g _ _ H M (Tps.refl H) a Rv.bl q⟩
theorem ho_eq {k : Nat} (hr : Room k X.A) : OpR X (compareOp .Eq) (fun x y H Q => rEq x y H Q ∨ rEqD X.K x y H Q) := op_eq.or (op_eqD hr.units)
theorem ho_ne {k : Nat} (hr : Room k X.A) : OpR X (compareOp .NotEq) (fun x y H Q => rNe x y H Q ∨ rNeD X.K x y H Q) := op_ne.or (op_neD hr.units)
def r3Cmp (f : Int → Int → Bool) : D → D → MH → Q3 → Prop
  | .int i, .int j, M, Q => Q (.bl (f i j)) M
  | _, _, _, _ => False
theorem opl_cmp {f : Int → Int → Bool} : OpL K (rI0 fun i j => .bl (f i j)) (r3Cmp f) := by
  intro d e v u H M Q Q2 rd re a q g
  unfold r3Cmp at q
  split at q
  · cases rd.int_inv; cases re.int_inv
    exact ⟨_, _, rfl, rfl, g _ _ H M (Tps.refl H) a Rv.bl q⟩
  · exact q.elim
def r3Lt : D → D → MH → Q3 → Prop
  | .int i, .int j, M, Q => Q (.bl (decide (i < j))) M
  | _, _, _, _ => False
theorem opl_Lt : OpL K (rI0 fun i j => .bl (decide (i < j))) r3Lt := by
  intro d e v u H M Q Q2 rd re a q g
  unfold r3Lt at q
  split at q
  · cases rd.int_inv; cases re.int_inv
    exact ⟨_, _, rfl, rfl, g _ _ H M (Tps.refl H) a Rv.bl q⟩
  · exact q.elim
def r3Le : D → D → MH → Q3 → Prop
  | .int i, .int j, M, Q => Q (.bl (decide (i ≤ j))) M
  | _, _, _, _ => False
theorem opl_Le : OpL K (rI0 fun i j => .bl (decide (i ≤ j))) r3Le := by
  intro d e v u H M Q Q2 rd re a q g
  unfold r3Le at q
  split at q
  · cases rd.int_inv; cases re.int_inv
    exact ⟨_, _, rfl, rfl, g _ _ H M (Tps.refl H) a Rv.bl q⟩
  · exact q.elim
def r3Gt : D → D → MH → Q3 → Prop
  | .int i, .int j, M, Q => Q (.bl (decide (j < i))) M
  | _, _, _, _ => False
theorem opl_Gt : OpL K (rI0 fun i j => .bl (decide (j < i))) r3Gt := by
  intro d e v u H M Q Q2 rd re a q g
  unfold r3Gt at q
  split at q
  · cases rd.int_inv; cases re.int_inv
    exact ⟨_, _, rfl, rfl, g _ _ H M (Tps.refl H) a Rv.bl q⟩
  · exact q.elim
def r3Ge : D → D → MH → Q3 → Prop
  | .int i, .int j, M, Q => Q (.bl (decide (j ≤ i))) M
  | _, _, _, _ => False
theorem opl_Ge : OpL K (rI0 fun i j => .bl (decide (j ≤ i))) r3Ge := by
  intro d e v u H M Q Q2 rd re a q g
  unfold r3Ge at q
  split at q
  · cases rd.int_inv; cases re.int_inv
    exact ⟨_, _, rfl, rfl, g _ _ H M (Tps.refl H) a Rv.bl q⟩
  · exact q.elim
def isNonD : D → Bool
  | .non => true
  | _ => false
def r3Is : D → D → MH → Q3 → Prop
  | d, .non, M, Q => Q (.bl (isNonD d)) M
  | _, _, _, _ => False
def r3IsNot : D → D → MH → Q3 → Prop
  | d, .non, M, Q => Q (.bl (!isNonD d)) M
  | _, _, _, _ => False
theorem isNonD_rel {H : Hp} {d : D} {v : V} (r : Rv K H d v) : decide (v = .non) = isNonD d := by
  cases d with
  | non => cases r.non_inv; rfl
  | bl b => cases r.bl_inv; rfl
  | int b => cases r.int_inv; rfl
  | str b => cases r.str_inv; rfl
  | tup b => obtain ⟨_, _, rfl, _⟩ := r.tup_inv; rfl
  | ref b => cases r.ref_inv; rfl
  | ty b => cases r.ty_inv; rfl
theorem opl_is : OpL K (fun x y H Q => y = .non ∧ Q (.bl (decide (x = .non))) H) r3Is := by
  intro d e v u H M Q Q2 rd re a q g
  unfold r3Is at q
  split at q
  · refine ⟨re.non_inv, ?_⟩
    rw [isNonD_rel rd]
    exact g _ _ H M (Tps.refl H) a Rv.bl q
  · exact q.elim
theorem opl_isnot : OpL K (fun x y H Q => y = .non ∧ Q (.bl (!decide (x = .non))) H) r3IsNot := by
  intro d e v u H M Q Q2 rd re a q g
  unfold r3IsNot at q
  split at q
  · refine ⟨re.non_inv, ?_⟩
    rw [isNonD_rel rd]
    exact g _ _ H M (Tps.refl H) a Rv.bl q
  · exact q.elim
/-! ### in: a list or a tuple of data -/
def rInT (K : Fg) : R2 := fun x y H Q => ∃ d ds, Dp K H x d ∧ Dp K H y (.tuple ds) ∧ SeqAt.shaped d = true ∧ SeqAt.shaped (.tuple ds) = true ∧ Q (.bl (ds.any fun z => PyData.eqv z d)) H
def rNotInT (K : Fg) : R2 := fun x y H Q => ∃ d ds, Dp K H x d ∧ Dp K H y (.tuple ds) ∧ SeqAt.shaped d = true ∧ SeqAt.shaped (.tuple ds) = true ∧ Q (.bl (!ds.any fun z => PyData.eqv z d)) H
theorem canLayT {ds : List PyData} (h : SeqAt.shaped (.tuple ds) = true) : PyData.canLayAll0 ds = true := by
  have := SeqAt.canLay_of_shaped h
  simpa [PyData.canLay0] using this
theorem op_inT (hu : X.A.units + 65 < cLine) : OpR X (compareOp .In) (rInT X.K) := by
  intro pins s σ H x y v u Q I rx ry h
  obtain ⟨d, ds, hd, he, sd, se, q⟩ := h
  obtain ⟨as, r1⟩ := Dp.reads I d x v hd rx
  obtain ⟨bs, r2⟩ := Dp.reads I (.tuple ds) y u he ry
  exact SeqAt.in_tuple_reads r2 r1 (canLayT se) (SeqAt.canLay_of_shaped sd) (room_in_shaped sd hu) ⟨.bl _, H, I, rfl, q⟩
theorem op_notInT (hu : X.A.units + 65 < cLine) : OpR X (compareOp .NotIn) (rNotInT X.K) := by
  intro pins s σ H x y v u Q I rx ry h
  obtain ⟨d, ds, hd, he, sd, se, q⟩ := h
  obtain ⟨as, r1⟩ := Dp.reads I d x v hd rx
  obtain ⟨bs, r2⟩ := Dp.reads I (.tuple ds) y u he ry
  exact SeqAt.notIn_tuple_reads r2 r1 (canLayT se) (SeqAt.canLay_of_shaped sd) (room_in_shaped sd hu) ⟨.bl _, H, I, rfl, q⟩
def Seq3 (M : MH) (ds : List D) : D → Prop
  | .tup es => es = ds
  | .ref a => LstM M a ds
  | _ => False
@[irreducible] def r3In (neg : Bool) : D → D → MH → Q3 → Prop := fun d e M Q => ∃ p ds ps, Py M d p ∧ Seq3 M ds e ∧ Pys M ds ps ∧ SeqAt.shaped p = true ∧ SeqAt.shaped (.list ps) = true ∧ SeqAt.shaped (.tuple ps) = true ∧ Q (.bl (neg ^^ ps.any fun z => PyData.eqv z p)) M
theorem opl_in : OpL K (fun x y H Q => rInD K x y H Q ∨ rInT K x y H Q) (r3In false) := by
  intro d e v u H M Q Q2 rd re a q g
  unfold r3In at q
  obtain ⟨p, ds, ps, h1, h2, h3, s1, s2, s3, q⟩ := q
  rw [Bool.false_xor] at q
  cases e with
  | tup es =>
    obtain rfl : es = ds := h2
    exact .inr ⟨p, ps, Py.dp a p _ _ h1 rd, Py.dp a (.tuple ps) _ _ (.tup h3) re, s1, s3, g _ _ H M (Tps.refl H) a Rv.bl q⟩
  | ref l => exact .inl ⟨p, ps, Py.dp a p _ _ h1 rd, Py.dp a (.list ps) _ _ (.ref h2 h3) re, s1, s2, g _ _ H M (Tps.refl H) a Rv.bl q⟩
  | _ => exact h2.elim
theorem opl_notin : OpL K (fun x y H Q => rNotInD K x y H Q ∨ rNotInT K x y H Q) (r3In true) := by
  intro d e v u H M Q Q2 rd re a q g
  unfold r3In at q
  obtain ⟨p, ds, ps, h1, h2, h3, s1, s2, s3, q⟩ := q
  rw [Bool.true_xor] at q
  cases e with
  | tup es =>
    obtain rfl : es = ds := h2
    exact .inr ⟨p, ps, Py.dp a p _ _ h1 rd, Py.dp a (.tuple ps) _ _ (.tup h3) re, s1, s3, g _ _ H M (Tps.refl H) a Rv.bl q⟩
  | ref l => exact .inl ⟨p, ps, Py.dp a p _ _ h1 rd, Py.dp a (.list ps) _ _ (.ref h2 h3) re, s1, s2, g _ _ H M (Tps.refl H) a Rv.bl q⟩
  | _ => exact h2.elim
theorem Room.u65 {k : Nat} {A : Around} (r : Room k A) : A.units + 65 < cLine := by have := r.un; omega
theorem ho_in {k : Nat} (hr : Room k X.A) : OpR X (compareOp .In) (fun x y H Q => rInD X.K x y H Q ∨ rInT X.K x y H Q) := (op_inD (Room.u65 hr)).or (op_inT (Room.u65 hr))
theorem ho_notin {k : Nat} (hr : Room k X.A) : OpR X (compareOp .NotIn) (fun x y H Q => rNotInD X.K x y H Q ∨ rNotInT X.K x y H Q) := (op_notInD (Room.u65 hr)).or (op_notInT (Room.u65 hr))
end
end L3

namespace L3
open PySem PySem.Spec PyProof.Rows L2
section
variable {X : Cx} {e a b c o i : Expr} {es : List Expr} {pos p : Pos} {t ta tb tc : E3} {u : A3} {K : Fg}
/-! ### argument lists, displays -/
def a3Nil : A3 := fun _ _ M Q => Q [] M
def a3Cons (t : E3) (u : A3) : A3 := fun W env M Q => t W env M fun d M1 => u W env M1 fun ds M2 => Q (d :: ds) M2
theorem da_nil : DA X [] a3Nil := fun W2 _ => pa_nil.imp fun σ H Q2 ⟨env, M, W, Q, s, a, l, q, g⟩ => g [] [] H M (Tps.refl H) a Rvs.nil q
theorem da_cons (ha : DE X e t) (hr : DA X es u) (hs : starEach (e :: es) X.env = (false, eval e X.env) :: starEach es X.env := by rfl) : DA X (e :: es) (a3Cons t u) := fun W2 tk =>
  (pa_cons (ha W2 tk) (hr W2 tk) hs).imp fun σ H Q2 ⟨env, M, W, Q, s, a, l, q, g⟩ => ⟨env, M, W, _, s, a, l, q, fun d v H1 M1 t1 a1 r1 q1 =>
    ⟨env, M1, W, _, s.mono t1, a1, l.mono t1, q1, fun ds vs H2 M2 t2 a2 r2 q2 => g _ _ H2 M2 (t1.trans t2) a2 (Rvs.cons (r1.mono t2) r2) q2⟩⟩
def e3Tup (u : A3) : E3 := fun W env M Q => u W env M fun ds M1 => ds.length ≤ sizeLine ∧ Q (.tup ds) M1
def e3Lst (u : A3) : E3 := fun W env M Q => u W env M fun ds M1 => ds.length ≤ sizeLine ∧ ∀ p, M1 p = none → Q (.ref p) (updM M1 p (.lst ds))
theorem d_tup {x1} (h : DA X es u) : DE X (.Tuple es x1 pos) (e3Tup u) := fun W2 tk => (pe_tupD (h W2 tk)).imp fun σ H Q2 ⟨env, M, W, Q, s, a, l, q, g⟩ =>
  ⟨env, M, W, _, s, a, l, q, fun ds vs H1 M1 t1 a1 r1 q1 => ⟨by rw [← r1.length]; exact q1.1, fun p op np dp => g _ _ _ M1 (t1.trans (Tps.new np)) (a1.tupN np) (Rv.tup (SqD.of dp) (r1.mono (Tps.new np))) q1.2⟩⟩
theorem d_lst (h : DA X es u) : DE X (.List es pos) (e3Lst u) := fun W2 tk => (pe_lst (h W2 tk)).imp fun σ H Q2 ⟨env, M, W, Q, s, a, l, q, g⟩ =>
  ⟨env, M, W, _, s, a, l, q, fun ds vs H1 M1 t1 a1 r1 q1 => ⟨by rw [← r1.length]; exact q1.1, fun p np => g _ _ _ _ (t1.trans (Tps.new np)) (a1.lstN np r1) Rv.ref (q1.2 p (a1.fresh np))⟩⟩
/-! ### subscripts -/
def r3Ix : D → D → MH → Q3 → Prop
  | .tup ds, .int i, M, Q => ∃ d, atI ds i = some d ∧ Q d M
  | .ref l, .int i, M, Q => ∃ ds d, LstM M l ds ∧ atI ds i = some d ∧ Q d M
  | _, _, _, _ => False
theorem Rvs.at {H : Hp} {ds : List D} {vs : List V} {i : Int} {d : D} (r : Rvs K H ds vs) (h : atI ds i = some d) : ∃ v, atI vs i = some v ∧ Rv K H d v := by
  unfold atI at h ⊢
  rw [← r.length]
  cases q : ixN ds.length i with
  | none => rw [q] at h; cases h
  | some j =>
    rw [q] at h
    obtain ⟨v, e, r'⟩ := r.get (i := j) (d := d) h
    exact ⟨v, e, r'⟩
theorem opl_ix : OpL K (fun x y H Q => rIxT K x y H Q ∨ rIxL K x y H Q) r3Ix := by
  intro d e v u H M Q Q2 rd re a q g
  unfold r3Ix at q
  split at q
  · obtain ⟨x, hx, q⟩ := q
    cases re.int_inv
    obtain ⟨p, vs, rfl, hs, hv⟩ := rd.tup_inv
    obtain ⟨y, hy, ry⟩ := hv.at hx
    exact .inl ⟨p, vs, _, y, rfl, rfl, hs, hy, g _ _ H M (Tps.refl H) a ry q⟩
  · obtain ⟨ds, x, hl, hx, q⟩ := q
    cases re.int_inv
    cases rd.ref_inv
    obtain ⟨vs, hs, hv⟩ := a.rd hl
    obtain ⟨y, hy, ry⟩ := hv.at hx
    exact .inr ⟨_, vs, _, y, rfl, rfl, hs, hy, g _ _ H M (Tps.refl H) a ry q⟩
  · exact q.elim
theorem d_ix (ha : DE X a ta) (hb : DE X b tb) (hs : PlainIx b := by exact fun _ _ => rfl) : DE X (.Subscript a b pos) (e3Op r3Ix ta tb) :=
  fun W2 tk => (pe_ix (ix_tup.or ix_list) (ha W2 tk) (hb W2 tk) hs).imp fun σ H Q2 h => op_low opl_ix h
/-! ### slices -/
abbrev O3 := W3 → En → MH → (Option Int → MH → Prop) → Prop
def lowO (K : Fg) (W2 : WX) (t : O3) : TO := fun σ H Q2 => ∃ env M W Q, SE K H σ env ∧ Abs K M H ∧ LW K H W W2 ∧ t W env M Q ∧ ∀ o H' M', Tps H H' → Abs K M' H' → Q o M' → Q2 o H'
def DO (X : Cx) (e : Option Expr) (t : O3) : Prop := ∀ W2, Takes X W2 → PO X e (lowO X.K W2 t)
theorem _root_.L2.PO.imp {X : Cx} {e : Option Expr} {t t' : TO} (h : PO X e t) (k : ∀ σ H Q, t' σ H Q → t σ H Q) : PO X e t' := ⟨fun pins s σ H Q I q => h.run pins s σ H Q I (k σ H Q q)⟩
def o3None : O3 := fun _ _ M Q => Q none M
def o3Some (t : E3) : O3 := fun W env M Q => t W env M fun d M1 => match d with | .int i => Q (some i) M1 | _ => False
theorem do_none : DO X none o3None := fun W2 _ => po_none.imp fun σ H Q2 ⟨env, M, W, Q, s, a, l, q, g⟩ => g _ H M (Tps.refl H) a q
theorem do_some (h : DE X e t) : DO X (some e) (o3Some t) := fun W2 tk => (po_some (h W2 tk)).imp fun σ H Q2 ⟨env, M, W, Q, s, a, l, q, g⟩ =>
  ⟨env, M, W, _, s, a, l, q, fun d v H1 M1 t1 a1 r1 q1 => by
    cases d with
    | int i => exact ⟨i, r1.int_inv, g _ H1 M1 t1 a1 q1⟩
    | _ => exact q1.elim⟩
def cutD (ds : List D) (lo hi : Option Int) : List D := (ds.drop (HT.sIx ds.length 0 lo)).take (HT.sIx ds.length ds.length hi - HT.sIx ds.length 0 lo)
def r3Sl : D → Option Int → Option Int → MH → Q3 → Prop
  | .tup ds, lo, hi, M, Q => Q (.tup (cutD ds lo hi)) M
  | .ref l, lo, hi, M, Q => ∃ ds, LstM M l ds ∧ ∀ p, M p = none → Q (.ref p) (updM M p (.lst (cutD ds lo hi)))
  | _, _, _, _, _ => False
def e3Sl (t : E3) (tl th : O3) : E3 := fun W env M Q => t W env M fun d M1 => tl W env M1 fun lo M2 => th W env M2 fun hi M3 => r3Sl d lo hi M3 Q
theorem Rvs.cut {H : Hp} {ds : List D} {vs : List V} (r : Rvs K H ds vs) (lo hi : Option Int) : Rvs K H (cutD ds lo hi) (cutV vs lo hi) := by
  unfold cutD cutV
  rw [r.length]
  exact (r.drop _).take _
theorem d_sl {lo hi : Option Expr} {tl th : O3} {p2} (ha : DE X a t) (hl : DO X lo tl) (hh : DO X hi th) : DE X (.Subscript a (.Slice lo hi none p2) pos) (e3Sl t tl th) := fun W2 tk =>
  (pe_slice (sl_tupD.or sl_list) (ha W2 tk) (hl W2 tk) (hh W2 tk)).imp fun σ H Q2 ⟨env, M, W, Q, s, a, l, q, g⟩ => by
    refine ⟨env, M, W, _, s, a, l, q, fun d v H1 M1 t1 a1 r1 q1 => ?_⟩
    refine ⟨env, M1, W, _, s.mono t1, a1, l.mono t1, q1, fun lo H2 M2 t2 a2 q2 => ?_⟩
    have t12 := t1.trans t2
    refine ⟨env, M2, W, _, s.mono t12, a2, l.mono t12, q2, fun hi H3 M3 t3 a3 q3 => ?_⟩
    have g3 := g.mono (t12.trans t3)
    have r3 := r1.mono (t2.trans t3)
    unfold r3Sl at q3
    split at q3
    · rename_i ds
      obtain ⟨p, vs, rfl, hs, hv⟩ := r3.tup_invD
      refine .inl ⟨p, vs, rfl, hs.1, fun w => ?_, fun w p op np dp => ?_⟩
      · refine g3 _ _ H3 M3 (Tps.refl H3) a3 (Rv.tup hs ?_) q3
        have e : cutV vs lo hi = vs := by
          unfold cutV
          rw [w.1, w.2, List.drop_zero, Nat.sub_zero, List.take_length]
        have := hv.cut lo hi
        rw [e] at this
        exact this
      · exact g3 _ _ _ M3 (Tps.new np) (a3.tupN np) (Rv.tup (SqD.of dp) ((hv.cut lo hi).mono (Tps.new np))) q3
    · obtain ⟨ds, hl, q3⟩ := q3
      cases r3.ref_inv
      obtain ⟨vs, hs, hv⟩ := a3.rd hl
      exact .inr ⟨_, vs, rfl, hs, fun p np => g3 _ _ _ _ (Tps.new np) (a3.lstN np (hv.cut lo hi)) Rv.ref (q3 p (a3.fresh np))⟩
    · exact q3.elim
/-! ### and, or, not, if .. else -/
def t3And (t u : T3) : T3 := fun W env M Q => t W env M fun b M1 => Br b (u W env M1 Q) (Q false M1)
def t3Or (t u : T3) : T3 := fun W env M Q => t W env M fun b M1 => Br b (Q true M1) (u W env M1 Q)
def t3Not (t : T3) : T3 := fun W env M Q => t W env M fun b M1 => Q (!b) M1
variable {tA tB : T3} {rest : List Expr}
theorem w_one (h : DT X a tA) {op : BoolOp} : DW X (.BoolOp op [a] pos) tA := fun W2 tk => by
  cases op with
  | And => exact pw_and1 (h W2 tk)
  | Or => exact pw_or1 (h W2 tk)
theorem w_and (ha : DT X a tA) (hb : DW X (.BoolOp .And (b :: rest) pos) tB) : DW X (.BoolOp .And (a :: b :: rest) pos) (t3And tA tB) := fun W2 tk => (pw_and (ha W2 tk) (hb W2 tk)).imp fun σ H Q2 ⟨env, M, W, Q, s, a, l, q, g⟩ =>
  ⟨env, M, W, _, s, a, l, q, fun b H1 M1 t1 a1 q1 => by
    cases b with
    | true => rw [if_pos rfl]; exact ⟨env, M1, W, Q, s.mono t1, a1, l.mono t1, q1.1 rfl, fun b H2 M2 t2 a2 q2 => g b H2 M2 (t1.trans t2) a2 q2⟩
    | false => rw [if_neg Bool.false_ne_true]; exact g _ H1 M1 t1 a1 (q1.2 rfl)⟩
theorem w_or (ha : DT X a tA) (hb : DW X (.BoolOp .Or (b :: rest) pos) tB) : DW X (.BoolOp .Or (a :: b :: rest) pos) (t3Or tA tB) := fun W2 tk => (pw_or (ha W2 tk) (hb W2 tk)).imp fun σ H Q2 ⟨env, M, W, Q, s, a, l, q, g⟩ =>
  ⟨env, M, W, _, s, a, l, q, fun b H1 M1 t1 a1 q1 => by
    cases b with
    | false => rw [if_neg Bool.false_ne_true]; exact ⟨env, M1, W, Q, s.mono t1, a1, l.mono t1, q1.2 rfl, fun b H2 M2 t2 a2 q2 => g b H2 M2 (t1.trans t2) a2 q2⟩
    | true => rw [if_pos rfl]; exact g _ H1 M1 t1 a1 (q1.1 rfl)⟩
theorem t_w (h : DW X e tA) : DT X e tA := fun W2 tk => (h W2 tk).pt
theorem t_not (h : DT X a tA) : DT X (.UnaryOp .Not a pos) (t3Not tA) := fun W2 tk => (pt_not (h W2 tk)).imp fun σ H Q2 ⟨env, M, W, Q, s, a, l, q, g⟩ =>
  ⟨env, M, W, _, s, a, l, q, fun b H1 M1 t1 a1 q1 => g _ H1 M1 t1 a1 q1⟩
def e3And (t u : E3) : E3 := fun W env M Q => t W env M fun d M1 => match d with | .bl b => Br b (u W env M1 Q) (Q (.bl false) M1) | _ => False
def e3Or (t u : E3) : E3 := fun W env M Q => t W env M fun d M1 => match d with | .bl b => Br b (Q (.bl true) M1) (u W env M1 Q) | _ => False
def e3Not (t : E3) : E3 := fun W env M Q => t W env M fun d M1 => match d with | .bl b => Q (.bl (!b)) M1 | _ => False
theorem d_one {op : BoolOp} (h : DE X a t) : DE X (.BoolOp op [a] pos) t := fun W2 tk => pe_one (h W2 tk)
theorem d_and (ha : DE X a ta) (hb : DE X (.BoolOp .And (b :: rest) pos) tb) : DE X (.BoolOp .And (a :: b :: rest) pos) (e3And ta tb) := fun W2 tk => (pe_and (ha W2 tk) (hb W2 tk)).imp fun σ H Q2 ⟨env, M, W, Q, s, a, l, q, g⟩ =>
  ⟨env, M, W, _, s, a, l, q, fun d v H1 M1 t1 a1 r1 q1 => by
    cases d with
    | bl b =>
      refine ⟨b, r1.bl_inv, ?_⟩
      cases b with
      | true => rw [if_pos rfl]; exact ⟨env, M1, W, Q, s.mono t1, a1, l.mono t1, q1.1 rfl, g.mono t1⟩
      | false => rw [if_neg Bool.false_ne_true]; exact g _ _ H1 M1 t1 a1 Rv.bl (q1.2 rfl)
    | _ => exact q1.elim⟩
theorem d_or (ha : DE X a ta) (hb : DE X (.BoolOp .Or (b :: rest) pos) tb) : DE X (.BoolOp .Or (a :: b :: rest) pos) (e3Or ta tb) := fun W2 tk => (pe_or (ha W2 tk) (hb W2 tk)).imp fun σ H Q2 ⟨env, M, W, Q, s, a, l, q, g⟩ =>
  ⟨env, M, W, _, s, a, l, q, fun d v H1 M1 t1 a1 r1 q1 => by
    cases d with
    | bl b =>
      refine ⟨b, r1.bl_inv, ?_⟩
      cases b with
      | false => rw [if_neg Bool.false_ne_true]; exact ⟨env, M1, W, Q, s.mono t1, a1, l.mono t1, q1.2 rfl, g.mono t1⟩
      | true => rw [if_pos rfl]; exact g _ _ H1 M1 t1 a1 Rv.bl (q1.1 rfl)
    | _ => exact q1.elim⟩
theorem d_not (ha : DE X a ta) : DE X (.UnaryOp .Not a pos) (e3Not ta) := fun W2 tk => (pe_not (ha W2 tk)).imp fun σ H Q2 ⟨env, M, W, Q, s, a, l, q, g⟩ =>
  ⟨env, M, W, _, s, a, l, q, fun d v H1 M1 t1 a1 r1 q1 => by
    cases d with
    | bl b => exact ⟨b, r1.bl_inv, g _ _ H1 M1 t1 a1 Rv.bl q1⟩
    | _ => exact q1.elim⟩
def e3If (c : T3) (t u : E3) : E3 := fun W env M Q => c W env M fun b M1 => Br b (t W env M1 Q) (u W env M1 Q)
theorem d_ifExp (hc : DT X c tA) (ha : DE X a ta) (hb : DE X b tb) : DE X (.IfExp c a b pos) (e3If tA ta tb) := fun W2 tk => (pe_ifExp (hc W2 tk) (ha W2 tk) (hb W2 tk)).imp fun σ H Q2 ⟨env, M, W, Q, s, a, l, q, g⟩ =>
  ⟨env, M, W, _, s, a, l, q, fun b H1 M1 t1 a1 q1 => by
    cases b with
    | true => rw [if_pos rfl]; exact ⟨env, M1, W, Q, s.mono t1, a1, l.mono t1, q1.1 rfl, g.mono t1⟩
    | false => rw [if_neg Bool.false_ne_true]; exact ⟨env, M1, W, Q, s.mono t1, a1, l.mono t1, q1.2 rfl, g.mono t1⟩⟩
def e3Neg (t : E3) : E3 := fun W env M Q => t W env M fun d M1 => match d with | .int i => Q (.int (-i)) M1 | _ => False
theorem d_neg (ha : DE X a ta) : DE X (.UnaryOp .USub a pos) (e3Neg ta) := fun W2 tk => (pe_un un_neg (ha W2 tk)).imp fun σ H Q2 ⟨env, M, W, Q, s, a, l, q, g⟩ =>
  ⟨env, M, W, _, s, a, l, q, fun d v H1 M1 t1 a1 r1 q1 => by
    cases d with
    | int b => exact ⟨b, r1.int_inv, g _ _ H1 M1 t1 a1 Rv.int q1⟩
    | _ => exact q1.elim⟩
/-! ### built-in calls by values -/
def CallL (K : Fg) (r : List V → Hp → VK → Prop) (r3 : List D → MH → Q3 → Prop) : Prop := ∀ ds vs H M Q Q2, Rvs K H ds vs → Abs K M H → r3 ds M Q → Got K H Q Q2 → r vs H Q2
def e3CB (r3 : List D → MH → Q3 → Prop) (u : A3) : E3 := fun W env M Q => u W env M fun ds M1 => r3 ds M1 Q
theorem cb_low {r : List V → Hp → VK → Prop} {r3 : List D → MH → Q3 → Prop} {W2 : WX} (hl : CallL X.K r r3) {σ : L2.St} {H : Hp} {Q2 : VK} (h : lowE X.K W2 (e3CB r3 u) σ H Q2) : tCB r (lowA X.K W2 u) σ H Q2 := by
  obtain ⟨env, M, W, Q, s, a, l, q, g⟩ := h
  exact ⟨env, M, W, _, s, a, l, q, fun ds vs H1 M1 t1 a1 r1 q1 => hl ds vs H1 M1 Q Q2 r1 a1 q1 (g.mono t1)⟩
theorem d_cb {id : String} {x : Str} {r : List V → Hp → VK → Prop} {r3 : List D → MH → Q3 → Prop} (hc : CallR X (.builtin id) r) (hl : CallL X.K r r3) (hg : Gl X x) (hm : X.mg x = none) (hv : bootBuiltins x = some (.builtin id)) (ha : DA X (e :: es) u)
    (hn : x ≠ "__name__" := by decide) (hdb : (x == ("__debug__" : Str)) = false := by decide) (he : starEach (e :: es) X.env = (false, eval e X.env) :: starEach es X.env := by rfl) (hpl : (backTo pos (starEach es X.env)).any (·.1) = false := by rfl) :
    DE X (.Call (.Name x p) (e :: es) [] pos) (e3CB r3 u) := fun W2 tk => (pe_callB hc hg hm hv (ha W2 tk) hn hdb he hpl).imp fun σ H Q2 h => cb_low hl h
theorem d_cty {T : String} {x : Str} {r : List V → Hp → VK → Prop} {r3 : List D → MH → Q3 → Prop} (hc : CallR X (.type T) r) (hl : CallL X.K r r3) (hg : Gl X x) (hm : X.mg x = none) (hv : bootBuiltins x = some (.type T)) (ha : DA X (e :: es) u)
    (hn : x ≠ "__name__" := by decide) (hdb : (x == ("__debug__" : Str)) = false := by decide) (he : starEach (e :: es) X.env = (false, eval e X.env) :: starEach es X.env := by rfl) (hpl : (backTo pos (starEach es X.env)).any (·.1) = false := by rfl) :
    DE X (.Call (.Name x p) (e :: es) [] pos) (e3CB r3 u) := fun W2 tk => (pe_callTy hc hg hm hv (ha W2 tk) hn hdb he hpl).imp fun σ H Q2 h => cb_low hl h
theorem one_inv {H : Hp} {d : D} {vs : List V} (r : Rvs K H [d] vs) : ∃ v, vs = [v] ∧ Rv K H d v := by
  obtain ⟨v, r', rfl, h, t⟩ := r.cons_inv
  cases t.nil_inv
  exact ⟨v, rfl, h⟩
theorem two_inv {H : Hp} {d e : D} {vs : List V} (r : Rvs K H [d, e] vs) : ∃ v w, vs = [v, w] ∧ Rv K H d v ∧ Rv K H e w := by
  obtain ⟨v, r', rfl, h, t⟩ := r.cons_inv
  obtain ⟨w, rfl, h'⟩ := one_inv t
  exact ⟨v, w, rfl, h, h'⟩
def c3Len : List D → MH → Q3 → Prop
  | [.tup ds], M, Q => Q (.int ds.length) M
  | [.ref l], M, Q => ∃ ds, LstM M l ds ∧ Q (.int ds.length) M
  | [.str x], M, Q => x.length ≤ sizeLine ∧ Q (.int x.length) M
  | _, _, _ => False
theorem cl_len : CallL K (fun xs H Q => (fun xs H Q => ∃ p ys, xs = [.ref p] ∧ (SqL K H p ys ∨ SqT K H p ys) ∧ Q (.int ys.length) H) xs H Q ∨ (fun xs H Q => ∃ z, xs = [.str z] ∧ z.length ≤ sizeLine ∧ Q (.int z.length) H) xs H Q) c3Len := by
  intro ds vs H M Q Q2 r a q g
  unfold c3Len at q
  split at q
  · obtain ⟨v, rfl, rr⟩ := one_inv r
    obtain ⟨p, vs, rfl, hs, hv⟩ := rr.tup_inv
    refine .inl ⟨p, vs, rfl, .inr hs, g _ _ H M (Tps.refl H) a ?_ q⟩
    rw [hv.length]; exact Rv.int
  · obtain ⟨v, rfl, rr⟩ := one_inv r
    obtain ⟨ds, hl, q⟩ := q
    cases rr.ref_inv
    obtain ⟨vs, hs, hv⟩ := a.rd hl
    refine .inl ⟨_, vs, rfl, .inl hs, g _ _ H M (Tps.refl H) a ?_ q⟩
    rw [hv.length]; exact Rv.int
  · obtain ⟨v, rfl, rr⟩ := one_inv r
    cases rr.str_inv
    exact .inr ⟨_, rfl, q.1, g _ _ H M (Tps.refl H) a Rv.int q.2⟩
  · exact q.elim
theorem d_len (hm : X.mg "len" = none) (ha : DA X [e] u) (hg : Gl X "len" := by rfl) (he : starEach (e :: []) X.env = (false, eval e X.env) :: starEach [] X.env := by rfl) (hpl : (backTo pos (starEach [] X.env)).any (·.1) = false := by rfl) : DE X (.Call (.Name "len" p) [e] [] pos) (e3CB c3Len u) :=
  d_cb (call_len_seq.or call_len_str) cl_len hg hm PySem.boot_len ha (by decide) (by decide) he hpl
def c3Int : List D → MH → Q3 → Prop
  | [.int i], M, Q => Q (.int i) M
  | [.bl b], M, Q => Q (.int (if b then 1 else 0)) M
  | _, _, _ => False
theorem cl_int : CallL K (fun xs H Q => (∃ i, xs = [.int i] ∧ Q (.int i) H) ∨ ∃ k, xs = [.bl k] ∧ Q (.int (if k then 1 else 0)) H) c3Int := by
  intro ds vs H M Q Q2 r a q g
  unfold c3Int at q
  split at q
  · obtain ⟨v, rfl, rr⟩ := one_inv r
    cases rr.int_inv
    exact .inl ⟨_, rfl, g _ _ H M (Tps.refl H) a Rv.int q⟩
  · obtain ⟨v, rfl, rr⟩ := one_inv r
    cases rr.bl_inv
    exact .inr ⟨_, rfl, g _ _ H M (Tps.refl H) a Rv.int q⟩
  · exact q.elim
theorem boot_int' : bootBuiltins "int" = some (.type "int") := by decide +kernel
theorem boot_abs' : bootBuiltins "abs" = some (.builtin "abs") := by decide +kernel
theorem boot_list' : bootBuiltins "list" = some (.type "list") := by decide +kernel
theorem boot_isinstance' : bootBuiltins "isinstance" = some (.builtin "isinstance") := by decide +kernel
theorem boot_all' : bootBuiltins "all" = some (.builtin "all") := by decide +kernel
theorem boot_any' : bootBuiltins "any" = some (.builtin "any") := by decide +kernel
theorem boot_sum' : bootBuiltins "sum" = some (.builtin "sum") := by decide +kernel
theorem boot_sorted' : bootBuiltins "sorted" = some (.builtin "sorted") := by decide +kernel
theorem d_intc (hm : X.mg "int" = none) (ha : DA X [e] u) (hg : Gl X "int" := by rfl) (he : starEach (e :: []) X.env = (false, eval e X.env) :: starEach [] X.env := by rfl) (hpl : (backTo pos (starEach [] X.env)).any (·.1) = false := by rfl) : DE X (.Call (.Name "int" p) [e] [] pos) (e3CB c3Int u) :=
  d_cty call_int1 cl_int hg hm boot_int' ha (by decide) (by decide) he hpl
def c3Abs : List D → MH → Q3 → Prop
  | [.int i], M, Q => Q (.int (if i < 0 then -i else i)) M
  | _, _, _ => False
theorem cl_abs : CallL K (fun xs H Q => ∃ i, xs = [.int i] ∧ Q (.int (if i < 0 then -i else i)) H) c3Abs := by
  intro ds vs H M Q Q2 r a q g
  unfold c3Abs at q
  split at q
  · obtain ⟨v, rfl, rr⟩ := one_inv r
    cases rr.int_inv
    exact ⟨_, rfl, g _ _ H M (Tps.refl H) a Rv.int q⟩
  · exact q.elim
theorem d_abs (hm : X.mg "abs" = none) (ha : DA X [e] u) (hg : Gl X "abs" := by rfl) (he : starEach (e :: []) X.env = (false, eval e X.env) :: starEach [] X.env := by rfl) (hpl : (backTo pos (starEach [] X.env)).any (·.1) = false := by rfl) : DE X (.Call (.Name "abs" p) [e] [] pos) (e3CB c3Abs u) :=
  d_cb call_abs cl_abs hg hm boot_abs' ha (by decide) (by decide) he hpl
/-- a value's type -/
def tyD (M : MH) : D → String → Prop
  | .non, n => n = "NoneType"
  | .bl _, n => n = "bool"
  | .int _, n => n = "int"
  | .str _, n => n = "str"
  | .tup _, n => n = "tuple"
  | .ref a, n => (n = "list" ∧ ∃ ds, LstM M a ds) ∨ (n = "dict" ∧ ((∃ kvs, M a = some (.dT kvs) ∧ False) ∨ ∃ kvs, M a = some (.dK kvs)))
  | .ty _, _ => False
theorem tyD_ok {H : Hp} {M : MH} {d : D} {v : V} {n : String} (a : Abs K M H) (r : Rv K H d v) (h : tyD M d n) : TyX K H v (.type n) := by
  cases d with
  | non => cases r.non_inv; obtain rfl : n = _ := h; exact .base .non
  | bl b => cases r.bl_inv; obtain rfl : n = _ := h; exact .base (.bl _)
  | int b => cases r.int_inv; obtain rfl : n = _ := h; exact .base (.int _)
  | str b => cases r.str_inv; obtain rfl : n = _ := h; exact .base (.str _)
  | tup b =>
    obtain ⟨p, vs, rfl, hs, _⟩ := r.tup_inv
    obtain rfl : n = _ := h
    rcases hs with (hs | ⟨o, hs⟩) | ⟨o, its, m, hk, hc, _⟩
    · exact .base (.tup hs)
    · exact .fTuple hs
    · exact .kTuple hk hc
  | ref l =>
    cases r.ref_inv
    rcases h with ⟨rfl, ds, hl⟩ | ⟨rfl, h⟩
    · rcases hl with e | e
      · obtain ⟨vs, h1, _⟩ := a _ _ e
        exact .base (.lst h1)
      · obtain ⟨vs, o, h1, _⟩ := a _ _ e
        exact .base (.frz h1)
    · rcases h with ⟨kvs, _, e⟩ | ⟨kvs, e⟩
      · exact e.elim
      · obtain ⟨ks, vs, h1, _⟩ := a _ _ e
        exact .base (.dK h1)
  | ty b => exact h.elim
@[irreducible] def c3Isi : List D → MH → Q3 → Prop
  | [d, .ty n], M, Q => ∃ m b, tyD M d m ∧ kitB m n = some b ∧ Q (.bl b) M
  | _, _, _ => False
theorem cl_isi : CallL K (rIsi K) c3Isi := by
  intro ds vs H M Q Q2 r a q g
  unfold c3Isi at q
  split at q
  · obtain ⟨v, w, rfl, r1, r2⟩ := two_inv r
    cases r2.ty_inv
    obtain ⟨m, b, h1, h2, q⟩ := q
    exact ⟨v, _, _, _, b, rfl, .ty _, tyD_ok a r1 h1, kit_ty h2, g _ _ H M (Tps.refl H) a Rv.bl q⟩
  · exact q.elim
theorem d_isi {e2 : Expr} (hm : X.mg "isinstance" = none) (ha : DA X [e, e2] u) (hg : Gl X "isinstance" := by rfl) (he : starEach (e :: [e2]) X.env = (false, eval e X.env) :: starEach [e2] X.env := by rfl) (hpl : (backTo pos (starEach [e2] X.env)).any (·.1) = false := by rfl) : DE X (.Call (.Name "isinstance" p) [e, e2] [] pos) (e3CB c3Isi u) :=
  d_cb call_isi cl_isi hg hm boot_isinstance' ha (by decide) (by decide) he hpl
def c3List : List D → MH → Q3 → Prop
  | [.tup ds], M, Q => ∀ p, M p = none → Q (.ref p) (updM M p (.lst ds))
  | [.ref l], M, Q => ∃ ds, LstM M l ds ∧ ∀ p, M p = none → Q (.ref p) (updM M p (.lst ds))
  | _, _, _ => False
theorem cl_list : CallL K (fun xs H Q => ∃ p ys, xs = [.ref p] ∧ (SqL K H p ys ∨ SqT K H p ys) ∧ ∀ l, H l = none → Q (.ref l) (upd H l (.lst ys))) c3List := by
  intro ds vs H M Q Q2 r a q g
  unfold c3List at q
  split at q
  · obtain ⟨v, rfl, rr⟩ := one_inv r
    obtain ⟨p, vs, rfl, hs, hv⟩ := rr.tup_inv
    exact ⟨p, vs, rfl, .inr hs, fun l nl => g _ _ _ _ (Tps.new nl) (a.lstN nl hv) Rv.ref (q l (a.fresh nl))⟩
  · obtain ⟨v, rfl, rr⟩ := one_inv r
    obtain ⟨ds, hl, q⟩ := q
    cases rr.ref_inv
    obtain ⟨vs, hs, hv⟩ := a.rd hl
    exact ⟨_, vs, rfl, .inl hs, fun l nl => g _ _ _ _ (Tps.new nl) (a.lstN nl hv) Rv.ref (q l (a.fresh nl))⟩
  · exact q.elim
theorem d_list (hm : X.mg "list" = none) (ha : DA X [e] u) (hg : Gl X "list" := by rfl) (he : starEach (e :: []) X.env = (false, eval e X.env) :: starEach [] X.env := by rfl) (hpl : (backTo pos (starEach [] X.env)).any (·.1) = false := by rfl) : DE X (.Call (.Name "list" p) [e] [] pos) (e3CB c3List u) :=
  d_cty call_list_of cl_list hg hm boot_list' ha (by decide) (by decide) he hpl
def k3Tup : D → MH → Q3 → Prop
  | .tup ds, M, Q => Q (.tup ds) M
  | .ref l, M, Q => ∃ ds, LstM M l ds ∧ Q (.tup ds) M
  | _, _, _ => False
def e3TupOf (t : E3) : E3 := fun W env M Q => t W env M fun d M1 => k3Tup d M1 Q
theorem d_tuple (hm : X.mg "tuple" = none) (ha : DE X a t) (hg : Gl X "tuple" := by rfl) (na : starEach [a] X.env = (false, eval a X.env) :: starEach [] X.env := by rfl) : DE X (.Call (.Name "tuple" p) [a] [] pos) (e3TupOf t) := fun W2 tk =>
  (pe_tupleD hg hm (ha W2 tk) na).imp fun σ H Q2 ⟨env, M, W, Q, s, a, l, q, g⟩ => by
    refine ⟨env, M, W, _, s, a, l, q, fun d v H1 M1 t1 a1 r1 q1 => ?_⟩
    have g1 := g.mono t1
    unfold k3Tup at q1
    split at q1
    · obtain ⟨p, vs, rfl, hs, hv⟩ := r1.tup_inv
      exact .inr ⟨p, vs, rfl, hs, g1 _ _ H1 M1 (Tps.refl H1) a1 r1 q1⟩
    · obtain ⟨ds, hl, q1⟩ := q1
      cases r1.ref_inv
      obtain ⟨vs, hs, hv⟩ := a1.rd hl
      exact .inl ⟨_, vs, rfl, hs, fun p op np dp => g1 _ _ _ M1 (Tps.new np) (a1.tupN np) (Rv.tup (SqD.of dp) (hv.mono (Tps.new np))) q1⟩
    · exact q1.elim
def bls (bs : List Bool) : List D := bs.map D.bl
theorem Rvs.blsV {H : Hp} : ∀ {bs : List Bool} {vs : List V}, Rvs K H (bls bs) vs → vs = bs.map V.bl
  | [], _, h => h.nil_inv
  | b :: bs, _, h => by
    obtain ⟨v, r, rfl, h1, h2⟩ := Rvs.cons_inv (d := .bl b) (ds := bls bs) h
    rw [h1.bl_inv, Rvs.blsV h2]; rfl
theorem Rvs.intsV {H : Hp} : ∀ {bs : List Int} {vs : List V}, Rvs K H (bs.map D.int) vs → vs = bs.map V.int
  | [], _, h => h.nil_inv
  | b :: bs, _, h => by
    obtain ⟨v, r, rfl, h1, h2⟩ := Rvs.cons_inv (d := .int b) (ds := bs.map D.int) h
    rw [h1.int_inv, Rvs.intsV h2]; rfl
def c3All : List D → MH → Q3 → Prop
  | [.ref l], M, Q => ∃ bs, LstM M l (bls bs) ∧ Q (.bl (bs.all id)) M
  | _, _, _ => False
theorem cl_all : CallL K (rAll K) c3All := by
  intro ds vs H M Q Q2 r a q g
  unfold c3All at q
  split at q
  · obtain ⟨v, rfl, rr⟩ := one_inv r
    obtain ⟨bs, hl, q⟩ := q
    cases rr.ref_inv
    obtain ⟨vs, hs, hv⟩ := a.rd hl
    rw [hv.blsV] at hs
    exact ⟨_, bs, rfl, hs, g _ _ H M (Tps.refl H) a Rv.bl q⟩
  · exact q.elim
theorem d_all (hc : X.calm = true) (hm : X.mg "all" = none) (ha : DA X [e] u) (hg : Gl X "all" := by rfl) (he : starEach (e :: []) X.env = (false, eval e X.env) :: starEach [] X.env := by rfl) (hpl : (backTo pos (starEach [] X.env)).any (·.1) = false := by rfl) : DE X (.Call (.Name "all" p) [e] [] pos) (e3CB c3All u) :=
  d_cb (cr_all hc) cl_all hg hm boot_all' ha (by decide) (by decide) he hpl
/-! ### calls of defs -/
abbrev Sp3 := List D → MH → Q3 → (Value → Option Addr → MH → Prop) → Prop
def lowF (K : Fg) (sp : Sp3) : Sp := fun vs H Q2 E2 => ∃ ds M Q E, Rvs K H ds vs ∧ Abs K M H ∧ sp ds M Q E ∧ Got K H Q Q2 ∧ ∀ cls dd H' M', Tps H H' → Abs K M' H' → E cls dd M' → E2 cls dd H'
/-- room, and no built-in under way that shows or compares -/
structure RoomG (k : Nat) (A : Around) : Prop where
  r : Room k A
  g : A.guards = some []
theorem RoomG.mono {i k : Nat} {A : Around} (z : RoomG k A) (h : i ≤ k) : RoomG i A := ⟨z.r.mono h, z.g⟩
theorem RoomG.down {k : Nat} {A : Around} (z : RoomG (k + 1) A) (env : Env) : RoomG k (A.deeper env) := ⟨z.r.deeper env, z.g⟩
/-- room also in an except suite -/
structure RoomU (A : Around) : Prop where
  un : A.units + 200 < cLine
  g : A.guards = some []
theorem RoomG.low {k : Nat} {A : Around} (z : RoomG k A) : RoomU A := ⟨by have := z.r.un; omega, z.g⟩
theorem RoomU.mark {A : Around} (z : RoomU A) (v : Option Value) : RoomU (A.mark v) := ⟨z.un, z.g⟩
theorem RoomU.units {A : Around} (z : RoomU A) : A.units + 64 < cLine := by have := z.un; omega
/-- a def keeps its promise wherever it is called -/
structure Fn3 (P : Program) (w : World) (K : Fg) (mg : Str → Option Value) (base : Heap) (k : Nat) (f : Addr) (fd : FuncData) (ps : List Str) (sp : Sp3) : Prop where
  many : ∀ ds M Q E, sp ds M Q E → ds.length = ps.length
  runs : ∀ (A : Around) (outer : List Env) (s : Shared) (H : Hp) (ar : Args) (ws : List Value) (zs : List V) (Q2 : VK) (E2 : XK), RoomG k A → Env0 P w K mg base A outer s H → BindsTo s fd ar (ps.zip ws) → Vals zs ws → lowF K sp zs H Q2 E2 →
    codeAny (model P w) A (.call (.ref f) ar) (CR (L2.CX P w) outer P w H s Q2 E2) s
theorem Fn3.mono {P : Program} {w : World} {K : Fg} {mg : Str → Option Value} {base : Heap} {i k : Nat} {f : Addr} {fd : FuncData} {ps : List Str} {sp : Sp3} (F : Fn3 P w K mg base i f fd ps sp) (h : i ≤ k) : Fn3 P w K mg base k f fd ps sp :=
  ⟨F.many, fun A outer s H ar ws zs Q2 E2 z => F.runs A outer s H ar ws zs Q2 E2 (z.mono h)⟩
theorem Fn3.imp {P : Program} {w : World} {K : Fg} {mg : Str → Option Value} {base : Heap} {k : Nat} {f : Addr} {fd : FuncData} {ps : List Str} {sp sp' : Sp3} (F : Fn3 P w K mg base k f fd ps sp) (h : ∀ ds M Q E, sp' ds M Q E → sp ds M Q E) : Fn3 P w K mg base k f fd ps sp' :=
  ⟨fun ds M Q E q => F.many ds M Q E (h _ _ _ _ q), fun A outer s H ar ws zs Q2 E2 z e b v ⟨ds, M, Q, E, r, a, q, g⟩ => F.runs A outer s H ar ws zs Q2 E2 z e b v ⟨ds, M, Q, E, r, a, h _ _ _ _ q, g⟩⟩
theorem low_many {K : Fg} {sp : Sp3} {n : Nat} (hm : ∀ ds M Q E, sp ds M Q E → ds.length = n) {zs : List V} {H : Hp} {Q2 : VK} {E2 : XK} (h : lowF K sp zs H Q2 E2) : zs.length = n := by
  obtain ⟨ds, M, Q, E, r, _, q, _⟩ := h
  rw [← r.length]
  exact hm ds M Q E q
/-- the callee is entered with its arguments bound, and comes back -/
theorem enter3 {k : Nat} {f : Addr} {fd : FuncData} {ps : List Str} {sp : Sp3} {pins : List (Addr × Obj)} {σ : L2.St} {H : Hp} {s : Shared} {Q2 : VK} {W2 : WX} {ar : Args} {ws : List Value} {zs : List V} (F : Fn3 X.prog X.w X.K X.mg X.base k f fd ps sp) (hr : RoomG k X.A) (tk : Takes X W2)
    (I : Inv X pins σ H s) (hb : BindsTo s fd ar (ps.zip ws)) (rv : Vals zs ws) (h : lowF X.K sp zs H Q2 (WE W2 σ)) : codeAny (model X.prog X.w) X.A (.call (.ref f) ar) (fun r s' => match r with
      | .ok (.ret u) => EP X pins σ Q2 u s'
      | .ok _ => False
      | .error x => X.xe x s') s :=
  codeAny_mono (F.runs X.A X.stack s H ar ws zs Q2 (WE W2 σ) hr I.env0 hb rv h) fun r s' hq => match r, hq with
    | .ok (.ret _), hq => I.after hq
    | .ok .next, hq => False.elim hq
    | .ok .brk, hq => False.elim hq
    | .ok .cont, hq => False.elim hq
    | .error x, hq => passAt tk σ pins H s x s' I hq
def e3Call (sp : Sp3) (u : A3) : E3 := fun W env M Q => u W env M fun ds M1 => sp ds M1 Q fun cls dd M' => W cls dd env M'
theorem d_call {k : Nat} {f : Addr} {fd : FuncData} {ps : List Str} {sp : Sp3} {x : Str} (F : Fn3 X.prog X.w X.K X.mg X.base k f fd ps sp) (hr : RoomG k X.A) (hm : X.mg x = some (.ref f)) (hk : PySem.W.keepIn X.K (.ref f) = true) (hb : Binds X.K fd ps [])
    (ha : DA X (e :: es) u) (hg : Gl X x := by rfl) (hdb : (x == ("__debug__" : Str)) = false := by decide) (he : starEach (e :: es) X.env = (false, eval e X.env) :: starEach es X.env := by rfl) (hpl : (backTo pos (starEach es X.env)).any (·.1) = false := by rfl) :
    DE X (.Call (.Name x p) (e :: es) [] pos) (e3Call sp u) := fun W2 tk => by
  refine ⟨fun pins s σ H Q2 I ⟨env, M, W, Q, se, a, l, q, g⟩ => wpAny_Call_Name_kw (ld_glob I hg hm ?_ hdb)⟩
  have low : lowA X.K W2 u σ H fun vs H1 => lowF X.K sp vs H1 Q2 (WE W2 σ) := ⟨env, M, W, _, se, a, l, q, fun ds vs H1 M1 t1 a1 r1 q1 => ⟨ds, M1, Q, _, r1, a1, q1, g.mono t1, fun cls dd H' M' t2 a2 w => l cls dd σ H' env M' (t1.trans t2) (se.mono (t1.trans t2)) a2 w⟩⟩
  refine PySem.W.callWith_K (h₀ := X.base) I.ok.mod.kin hk (thn ((ha W2 tk).run pos pins s σ H _ I low) fun us s1 ⟨vs, H1, I1, r, q2⟩ => ⟨I1.kIn, ?_⟩) he hpl
  have hn : us.length = ps.length := r.length.symm.trans (low_many F.many q2)
  have b := hb s1 us I1.kIn (by simpa using hn)
  rw [List.append_nil] at b
  refine wpAny_call (codeAny_mono (enter3 F hr tk I1 b r q2) fun r s' hq => ?_)
  match r, hq with
  | .ok (.ret _), hq => exact hq
  | .ok .next, hq => exact False.elim hq
  | .ok .brk, hq => exact False.elim hq
  | .ok .cont, hq => exact False.elim hq
  | .error _, hq => exact hq
end
end L3

namespace L3
open PySem PySem.Spec PyProof.Rows L2
section
variable {X : Cx} {e a b c o : Expr} {es : List Expr} {pos p : Pos} {t ta tb tc : E3} {u : A3} {K : Fg} {st : Stmt} {sts body : List Stmt} {s1 s2 : S3} {tA tB : T3} {g g' : G3}
/-! ### statements -/
abbrev En3 := Ends3
def s3Nil : S3 := fun _ D env M => D.nx env M
def s3Seq (t u : S3) : S3 := fun W D env M => t W { nx := fun env' M' => u W D env' M', rt := D.rt, bk := D.bk, ct := D.ct } env M
theorem dss_nil : DSs X [] s3Nil := fun W2 _ _ => pss_nil.imp fun D2 σ H ⟨env, M, W, D3, s, a, l, q, le⟩ => le.nx σ H env M (Tps.refl H) s a q
theorem dss_cons (h1 : DS X st s1) (h2 : DSs X sts s2) : DSs X (st :: sts) (s3Seq s1 s2) := fun W2 tk hp => (pss_cons (h1 W2 tk hp) (h2 W2 tk hp)).imp fun D2 σ H ⟨env, M, W, D3, s, a, l, q, le⟩ =>
  ⟨env, M, W, _, s, a, l, q, ⟨fun σ' H' env' M' t s' a' q' => ⟨env', M', W, D3, s', a', l.mono t, q', le.mono t⟩, le.rt, le.bk, le.ct⟩⟩
theorem dss_one (h1 : DS X st s1) : DSs X [st] s1 := fun W2 tk hp => pss_one (h1 W2 tk hp)
def s3Asg (t : E3) (i : Nat) : S3 := fun W D env M => t W env M fun d M1 => D.nx (env.set i (some d)) M1
theorem ds_set {i : Nat} {x : Str} {pos' : Pos} (hN : X.N.Nodup) (he : DE X e t) (hi : X.N[i]? = some x := by rfl) (hx : Loc X.env.scope x := by first | exact Or.inl rfl | exact Or.inr rfl) (hs : swapsWith e (some (.Name x pos')) pos.line X.env = pure false := by rfl) (hf : X.fn x = true ∨ X.env.scope.names.lookup x = some .local := by first | exact .inl rfl | exact .inr rfl) :
    DS X (.Assign [.Name x pos'] e pos) (s3Asg t i) := fun W2 tk hp => (ps_set hN hi hx (he W2 tk) hs hf).imp fun D2 σ H ⟨env, M, W, D3, s, a, l, q, le⟩ =>
  ⟨env, M, W, _, s, a, l, q, fun d v H1 M1 t1 a1 r1 q1 => le.nx _ H1 _ M1 t1 ((s.mono t1).set i r1) a1 q1⟩
def s3AsgG (t : E3) (g : G3) : S3 := fun W D env M => t W env M fun d M1 => g W d env M1 D.nx
theorem ds_asg {tg : Expr} (he : DE X e t) (hg : DG X tg g) (hs : swapsWithSole [tg] e pos.line X.env = pure false := by rfl) (hw : swappedStores [tg] e X.env = pure none := by rfl)
    (h1 : (assignEach [tg] X.env).map (·.2) = [assign tg X.env] := by rfl) : DS X (.Assign [tg] e pos) (s3AsgG t g) := fun W2 tk hp => (ps_asg (he W2 tk) (hg W2 tk) hs hw h1).imp fun D2 σ H ⟨env, M, W, D3, s, a, l, q, le⟩ =>
  ⟨env, M, W, _, s, a, l, q, fun d v H1 M1 t1 a1 r1 q1 => ⟨d, env, M1, W, _, r1, s.mono t1, a1, l.mono t1, q1, le.nx.mono t1⟩⟩
def s3Expr (t : E3) : S3 := fun W D env M => t W env M fun _ M1 => D.nx env M1
theorem ds_expr (he : DE X e t) (hs : swapsWith e none pos.line X.env = pure false := by rfl) : DS X (.Expr e pos) (s3Expr t) := fun W2 tk hp => (ps_expr (he W2 tk) hs).imp fun D2 σ H ⟨env, M, W, D3, s, a, l, q, le⟩ =>
  ⟨env, M, W, _, s, a, l, q, fun d v H1 M1 t1 a1 r1 q1 => le.nx σ H1 env M1 t1 (s.mono t1) a1 q1⟩
def s3Ret (t : E3) : S3 := fun W D env M => t W env M D.rt
theorem ds_ret (he : DE X e t) : DS X (.Return (some e) pos) (s3Ret t) := fun W2 tk hp => (ps_ret (he W2 tk)).imp fun D2 σ H ⟨env, M, W, D3, s, a, l, q, le⟩ => ⟨env, M, W, _, s, a, l, q, le.rt⟩
def s3RetN : S3 := fun _ D _ M => D.rt .non M
theorem ds_retN : DS X (.Return none pos) s3RetN := fun W2 tk hp => ps_retN.imp fun D2 σ H ⟨env, M, W, D3, s, a, l, q, le⟩ => le.rt _ _ H M (Tps.refl H) a Rv.non q
def s3If (c : T3) (t u : S3) : S3 := fun W D env M => c W env M fun b M1 => Br b (t W D env M1) (u W D env M1)
theorem ds_if {xs ys : List Stmt} (hc : DT X c tA) (ha : DSs X xs s1) (hb : DSs X ys s2) : DS X (.If c xs ys pos) (s3If tA s1 s2) := fun W2 tk hp => (ps_if (hc W2 tk) (ha W2 tk hp) (hb W2 tk hp)).imp fun D2 σ H ⟨env, M, W, D3, s, a, l, q, le⟩ =>
  ⟨env, M, W, _, s, a, l, q, fun b H1 M1 t1 a1 q1 => by
    cases b with
    | true => rw [if_pos rfl]; exact ⟨env, M1, W, D3, s.mono t1, a1, l.mono t1, q1.1 rfl, le.mono t1⟩
    | false => rw [if_neg Bool.false_ne_true]; exact ⟨env, M1, W, D3, s.mono t1, a1, l.mono t1, q1.2 rfl, le.mono t1⟩⟩
theorem ds_pass : DS X (.Pass pos) s3Nil := fun W2 _ _ => ps_pass.imp fun D2 σ H ⟨env, M, W, D3, s, a, l, q, le⟩ => le.nx σ H env M (Tps.refl H) s a q
def s3Brk : S3 := fun _ D env M => D.bk env M
def s3Cont : S3 := fun _ D env M => D.ct env M
theorem ds_break : DS X (.Break pos) s3Brk := fun W2 _ _ => ps_break.imp fun D2 σ H ⟨env, M, W, D3, s, a, l, q, le⟩ => le.bk σ H env M (Tps.refl H) s a q
theorem ds_continue : DS X (.Continue pos) s3Cont := fun W2 _ _ => ps_continue.imp fun D2 σ H ⟨env, M, W, D3, s, a, l, q, le⟩ => le.ct σ H env M (Tps.refl H) s a q
/-! ### targets -/
def g3Name (i : Nat) : G3 := fun _ d env M Q => Q (env.set i (some d)) M
theorem dg_name {i : Nat} {x : Str} (hN : X.N.Nodup) (hi : X.N[i]? = some x := by rfl) (hx : Loc X.env.scope x := by first | exact Or.inl rfl | exact Or.inr rfl) (hf : X.fn x = true ∨ X.env.scope.names.lookup x = some .local := by first | exact .inl rfl | exact .inr rfl) : DG X (.Name x pos) (g3Name i) := fun W2 tk =>
  (pg_name hN hi hx hf).imp fun v σ H Q2 ⟨d, env, M, W, Q, r, s, a, l, q, n⟩ => n _ H _ M (Tps.refl H) (s.set i r) a q
abbrev Gs3 := W3 → List D → En → MH → (En → MH → Prop) → Prop
def lowGs (K : Fg) (W2 : WX) (t : Gs3) : TGs := fun vs σ H Q2 => ∃ ds env M W Q, Rvs K H ds vs ∧ SE K H σ env ∧ Abs K M H ∧ LW K H W W2 ∧ t W ds env M Q ∧ Nxt K H Q Q2
def DGs (X : Cx) (es : List Expr) (t : Gs3) : Prop := ∀ W2, Takes X W2 → PGs X es (lowGs X.K W2 t)
theorem _root_.L2.PGs.imp {X : Cx} {e : List Expr} {t t' : TGs} (h : PGs X e t) (k : ∀ v σ H Q, t' v σ H Q → t v σ H Q) : PGs X e t' := ⟨fun pins s σ H v u Q I r q => h.run pins s σ H v u Q I r (k v σ H Q q)⟩
def g3sNil : Gs3 := fun _ ds env M Q => ds = [] ∧ Q env M
def g3sCons (g : G3) (gs : Gs3) : Gs3 := fun W ds env M Q => match ds with | d :: r => g W d env M fun env' M' => gs W r env' M' Q | [] => False
theorem dgs_nil : DGs X [] g3sNil := fun W2 tk => pgs_nil.imp fun vs σ H Q2 ⟨ds, env, M, W, Q, r, s, a, l, q, n⟩ => by
  obtain ⟨rfl, q⟩ := q
  exact ⟨r.nil_inv, n σ H env M (Tps.refl H) s a q⟩
theorem dgs_cons {gs : Gs3} (h1 : DG X e g) (h2 : DGs X es gs) (hs : (assignEach (e :: es) X.env).map (·.2) = assign e X.env :: (assignEach es X.env).map (·.2) := by rfl) : DGs X (e :: es) (g3sCons g gs) := fun W2 tk =>
  (pgs_cons (h1 W2 tk) (h2 W2 tk) hs).imp fun vs σ H Q2 ⟨ds, env, M, W, Q, r, s, a, l, q, n⟩ => by
    cases ds with
    | nil => exact q.elim
    | cons d ds =>
      obtain ⟨v, vr, rfl, r1, r2⟩ := r.cons_inv
      exact ⟨v, vr, rfl, d, env, M, W, _, r1, s, a, l, q, fun σ' H' env' M' t s' a' q' => ⟨ds, env', M', W, Q, r2.mono t, s', a', l.mono t, q', n.mono t⟩⟩
def g3Tup (k : Nat) (gs : Gs3) : G3 := fun W d env M Q => match d with | .tup ds => ds.length = k ∧ gs W ds env M Q | _ => False
theorem dg_tup {k : Nat} {gs : Gs3} {n : Nat} (hc : X.calm = true) (h : DGs X es gs) (hn : (assignEach es X.env).length = n := by rfl) (hst : (assignEach es X.env).findIdx? (·.1) = none := by rfl) : DG X (.Tuple es k pos) (g3Tup n gs) := fun W2 tk =>
  (pg_tup hc (h W2 tk) hn hst).imp fun v σ H Q2 ⟨d, env, M, W, Q, r, s, a, l, q, n⟩ => by
    cases d with
    | tup ds =>
      obtain ⟨p, vs, rfl, hs, hv⟩ := r.tup_inv
      exact ⟨p, vs, rfl, hs, by rw [← hv.length]; exact q.1, ds, env, M, W, Q, hv, s, a, l, q.2, n⟩
    | _ => exact q.elim
def g3SubL (to ti : E3) : G3 := fun W d env M Q => to W env M fun od M1 => ti W env M1 fun i M2 => match od, i with
  | .ref l, .int k => ∃ ds j, M2 l = some (.lst ds) ∧ ixN ds.length k = some j ∧ Q env (updM M2 l (.lst (ds.set j d)))
  | _, _ => False
theorem dg_subL {i : Expr} (ho : DE X o ta) (hi : DE X i tb) (ha : ∀ v, assign (.Subscript o i pos) X.env v = (do
      let ov ← holding [v] (eval o X.env)
      let iv ← holding [v, ov] (eval i X.env)
      standAt pos
      holding [v, ov, iv] (setItem ov iv v)
      release [v, ov, iv] []) := by intro _; rfl) : DG X (.Subscript o i pos) (g3SubL ta tb) := fun W2 tk => (pg_sub (ho W2 tk) (hi W2 tk) set_list ha).imp fun v σ H Q2 ⟨d, env, M, W, Q, r, s, a, l, q, n⟩ => by
    refine ⟨env, M, W, _, s, a, l, q, fun od ov H1 M1 t1 a1 r1 q1 => ?_⟩
    refine ⟨env, M1, W, _, s.mono t1, a1, l.mono t1, q1, fun i iv H2 M2 t2 a2 r2 q2 => ?_⟩
    have t12 := t1.trans t2
    split at q2
    · obtain ⟨ds, j, hl, hj, q2⟩ := q2
      cases r1.ref_inv; cases r2.int_inv
      obtain ⟨vs, h1, hv⟩ := a2.lst hl
      exact ⟨_, vs, _, j, rfl, rfl, h1, by rw [← hv.length]; exact hj, n σ _ env _ (t12.trans (Tps.lst h1)) (s.mono (t12.trans (Tps.lst h1))) (a2.lstU h1 (hv.set (r.mono t12) j)) q2⟩
    · exact q2.elim
/-! ### for -/
def Loop (ds : List D) (keep : MH → Prop) (g : G3) (tb : S3) (W : W3) (D3 : Ends3) (env : En) (M : MH) : Prop := ∃ Inv : Nat → En → MH → Prop, Inv 0 env M ∧
  (∀ i d env' M', ds[i]? = some d → Inv i env' M' → keep M' ∧ g W d env' M' fun env2 M2 => tb W { nx := Inv (i + 1), rt := D3.rt, bk := D3.nx, ct := Inv (i + 1) } env2 M2) ∧
  ∀ env' M', Inv ds.length env' M' → keep M' ∧ D3.nx env' M'
def s3For (ti : I3) (g : G3) (tb : S3) : S3 := fun W D3 env M => ti W env M fun ds keep M1 => Loop ds keep g tb W D3 env M1
theorem ds_for {tg iter : Expr} {ti : I3} (hc : X.calm = true) (hi : DI X tg iter ti) (hg : DG X tg g) (hb : DSs X body s1) (hs : ∀ x, foldedSetIterable iter X.env x = pure x := by intro _; rfl) : DS X (.For tg iter body [] pos) (s3For ti g s1) := fun W2 tk hp =>
  (ps_for hp hc (hi W2 tk) (hg W2 tk) (hb W2 tk hp) hs).imp fun D2 σ H ⟨env, M, W, D3, s, a, l, q, le⟩ => by
    refine ⟨env, M, W, _, s, a, l, q, fun ds keep J H1 M1 t1 a1 q1 ok => ?_⟩
    obtain ⟨Inv, h0, hst, hd⟩ := q1
    refine ⟨fun i m σ' H' => m = ds.length - i ∧ i ≤ ds.length ∧ ∃ env' M', Tps H1 H' ∧ SE X.K H' σ' env' ∧ Abs X.K M' H' ∧ Inv i env' M', ⟨ds.length, by simp, Nat.zero_le _, env, M1, Tps.refl _, s.mono t1, a1, h0⟩, ?_⟩
    rintro i m σ' H' ⟨rfl, hi, env', M', t2, s', a', iv⟩
    have t12 := t1.trans t2
    by_cases hlt : i < ds.length
    · have hx : ds[i]? = some ds[i] := List.getElem?_eq_getElem hlt
      obtain ⟨hk, hg⟩ := hst i _ env' M' hx iv
      obtain ⟨go, yl⟩ := ok.step i _ H' M' hx t2 a' hk
      refine .inr ⟨go, fun σ2 H2 => ∃ env2 M2, Tps H1 H2 ∧ SE X.K H2 σ2 env2 ∧ Abs X.K M2 H2 ∧ Inv (i + 1) env2 M2, fun σ2 H2 hn => ⟨ds.length - (i + 1), by omega, rfl, hlt, hn⟩, fun x H2 y => ?_⟩
      obtain ⟨t3, a3, r3⟩ := yl x H2 y
      have t123 := t12.trans t3
      refine ⟨ds[i], env', M', W, _, r3, s'.mono t3, a3, l.mono t123, hg, fun σ4 H4 env4 M4 t4 s4 a4 q4 => ?_⟩
      have t1234 := t123.trans t4
      have tt := (t2.trans t3).trans t4
      refine ⟨env4, M4, W, _, s4, a4, l.mono t1234, q4, ⟨fun σ5 H5 env5 M5 t5 s5 a5 q5 => ⟨env5, M5, tt.trans t5, s5, a5, q5⟩, le.rt.mono t1234, le.nx.mono t1234, fun σ5 H5 env5 M5 t5 s5 a5 q5 => ⟨env5, M5, tt.trans t5, s5, a5, q5⟩⟩⟩
    · have e : i = ds.length := by omega
      subst e
      obtain ⟨hk, hn⟩ := hd env' M' iv
      exact .inl ⟨ok.stop H' M' t2 a' hk, le.nx σ' H' env' M' t12 s' a' hn⟩
/-! ### what is walked -/
def True3 : MH → Prop := fun _ => True
def i3Seq (t : E3) : I3 := fun W env M Q => t W env M fun d M1 => match d with
  | .tup ds => Q ds True3 M1
  | .ref l => ∃ ds, LstM M1 l ds ∧ Q ds (fun M' => LstM M' l ds) M1
  | _ => False
theorem itok_tup {H : Hp} {p : Addr} {ds : List D} {vs : List V} (hs : SqT K H p vs) (hv : Rvs K H ds vs) : ItOk K H ds True3 (Itt K p) where
  step := fun i d H' M' hd t a _ => by
    obtain ⟨v, hv', r⟩ := hv.get hd
    refine ⟨⟨vs, v, t.seq hs, hv'⟩, fun x H2 y => ?_⟩
    obtain ⟨rfl, y⟩ := y
    have e := y vs (t.seq hs)
    rw [hv'] at e
    cases e
    exact ⟨Tps.refl _, a, r.mono t⟩
  stop := fun H' M' t a _ => ⟨vs, t.seq hs, Nat.le_of_eq hv.length.symm⟩
theorem itok_lst {H : Hp} {p : Addr} {ds : List D} : ItOk K H ds (fun M' => LstM M' p ds) (Itl K p) where
  step := fun i d H' M' hd t a hk => by
    obtain ⟨vs, hs, hv⟩ := a.rd hk
    obtain ⟨v, hv', r⟩ := hv.get hd
    refine ⟨⟨vs, v, hs, hv'⟩, fun x H2 y => ?_⟩
    obtain ⟨rfl, y⟩ := y
    have e := y vs hs
    rw [hv'] at e
    cases e
    exact ⟨Tps.refl _, a, r⟩
  stop := fun H' M' t a hk => by
    obtain ⟨vs, hs, hv⟩ := a.rd hk
    exact ⟨vs, hs, Nat.le_of_eq hv.length.symm⟩

/-- a list or a tuple, as it comes -/
def iSeq (K : Fg) (tl : TE) : TI := fun σ H R => tl σ H fun x H1 => ∃ a, x = .ref a ∧ (((∃ xs, SqT K H1 a xs) ∧ R (Itt K a) H1) ∨ ((∃ xs, SqL K H1 a xs) ∧ R (Itl K a) H1))
theorem pi_seq {tg l : Expr} {tl : TE} (hl : PE X l tl) : PI X tg l (iSeq X.K tl) := by
  refine ⟨fun pins s σ H R I h => ?_⟩
  refine thn (hl.run pins s σ H _ I h) fun v s1 ⟨x, H1, I1, r1, q1⟩ => ?_
  obtain ⟨a, e, q1⟩ := q1
  subst e
  cases r1
  rcases q1 with ⟨⟨xs, hq⟩, q⟩ | ⟨⟨xs, hq⟩, q⟩
  · obtain ⟨its, rv, p, hz⟩ := I1.tuple hq
    refine wpAny_pyIter_tuple (show s1.heap.IsTuple a its.toArray from p) ?_
    refine ⟨s1.heap.objs.size, [s1.heap.objs.size], _, _, H1, rfl, I1.kept (t' := s1.toks) fun b o e => Heap.get?_push_of_some _ e, turn_tuple a _, ⟨_, Heap.get?_push_size _ rfl, rfl, rfl⟩, fun b hb => ?_, q⟩
    have e : b = s1.heap.objs.size := by simpa using hb
    subst e
    exact I1.fpOk (Nat.le_refl _) (I1.hok.fresh (Nat.le_refl _))
  · obtain ⟨its, rv, p, hz⟩ := I1.list hq
    refine wpAny_pyIter_list p.isList ?_
    refine ⟨s1.heap.objs.size, [s1.heap.objs.size], _, _, H1, rfl, I1.kept (t' := s1.toks) fun b o e => Heap.get?_push_of_some _ e, turn_list a _, ⟨_, Heap.get?_push_size _ rfl, rfl, rfl⟩, fun b hb => ?_, q⟩
    have e : b = s1.heap.objs.size := by simpa using hb
    subst e
    exact I1.fpOk (Nat.le_refl _) (I1.hok.fresh (Nat.le_refl _))
theorem di_seq {tg : Expr} (h : DE X e t) : DI X tg e (i3Seq t) := fun W2 tk => (pi_seq (h W2 tk)).imp fun σ H R ⟨env, M, W, Q, s, a, l, q, k⟩ => by
  refine ⟨env, M, W, _, s, a, l, q, fun d v H1 M1 t1 a1 r1 q1 => ?_⟩
  split at q1
  · rename_i ds
    obtain ⟨p, vs, rfl, hs, hv⟩ := r1.tup_inv
    exact ⟨p, rfl, .inl ⟨⟨vs, hs⟩, k ds _ _ H1 M1 t1 a1 q1 (itok_tup hs hv)⟩⟩
  · obtain ⟨ds, hl, q1⟩ := q1
    cases r1.ref_inv
    obtain ⟨vs, hs, hv⟩ := a1.rd hl
    exact ⟨_, rfl, .inr ⟨⟨vs, hs⟩, k ds _ _ H1 M1 t1 a1 q1 itok_lst⟩⟩
  · exact q1.elim
/-- lo, lo + 1, .., n of them -/
def rngD (lo : Int) (n : Nat) : List D := (List.range n).map fun i => D.int (lo + (i : Nat))
theorem rngD_length {lo : Int} {n : Nat} : (rngD lo n).length = n := by unfold rngD; simp
theorem rngD_get {lo : Int} {n i : Nat} {d : D} (h : (rngD lo n)[i]? = some d) : i < n ∧ d = .int (lo + (i : Nat)) := by
  unfold rngD at h
  rw [List.getElem?_map] at h
  by_cases hi : i < n
  · rw [List.getElem?_range hi] at h
    cases h
    exact ⟨hi, rfl⟩
  · rw [List.getElem?_eq_none (by simpa using hi)] at h
    cases h
theorem itok_rng {H : Hp} {lo : Int} {n : Nat} : ItOk K H (rngD lo n) True3 (Itr lo n) where
  step := fun i d H' M' hd t a _ => by
    obtain ⟨hi, rfl⟩ := rngD_get hd
    refine ⟨hi, fun x H2 y => ?_⟩
    obtain ⟨rfl, rfl⟩ := y
    exact ⟨Tps.refl _, a, Rv.int⟩
  stop := fun H' M' t a _ => by rw [rngD_length]; exact Nat.le_refl n
def i3Rng1 (u : A3) : I3 := fun W env M Q => u W env M fun ds M1 => match ds with
  | [.int j] => -(2 ^ 62) ≤ j ∧ j < 2 ^ 62 ∧ Q (rngD 0 j.toNat) True3 M1
  | _ => False
def i3Rng2 (u : A3) : I3 := fun W env M Q => u W env M fun ds M1 => match ds with
  | [.int i, .int j] => (-(2 ^ 62) ≤ i ∧ i < 2 ^ 62 ∧ -(2 ^ 62) ≤ j ∧ j < 2 ^ 62) ∧ Q (rngD i (j - i).toNat) True3 M1
  | _ => False
theorem di_rng1 {tg a : Expr} (hm : X.mg "range" = none) (ha : DA X [a] u) (hg : Gl X "range" := by rfl) (hs : starEach [a] X.env = [(false, eval a X.env)] := by rfl) : DI X tg (.Call (.Name "range" p) [a] [] pos) (i3Rng1 u) := fun W2 tk =>
  (pi_range1 hg hm (ha W2 tk) hs).imp fun σ H R ⟨env, M, W, Q, s, a, l, q, k⟩ => ⟨env, M, W, _, s, a, l, q, fun ds vs H1 M1 t1 a1 r1 q1 => by
    split at q1
    · obtain ⟨v, rfl, rr⟩ := one_inv r1
      cases rr.int_inv
      exact ⟨_, rfl, q1.1, q1.2.1, k _ _ _ H1 M1 t1 a1 q1.2.2 itok_rng⟩
    · exact q1.elim⟩
theorem di_rng2 {tg a b : Expr} (hm : X.mg "range" = none) (ha : DA X [a, b] u) (hg : Gl X "range" := by rfl) (hs : starEach [a, b] X.env = [(false, eval a X.env), (false, eval b X.env)] := by rfl) (hs2 : starEach [b] X.env = [(false, eval b X.env)] := by rfl) : DI X tg (.Call (.Name "range" p) [a, b] [] pos) (i3Rng2 u) := fun W2 tk =>
  (pi_range2 hg hm (ha W2 tk) hs hs2).imp fun σ H R ⟨env, M, W, Q, s, a, l, q, k⟩ => ⟨env, M, W, _, s, a, l, q, fun ds vs H1 M1 t1 a1 r1 q1 => by
    split at q1
    · obtain ⟨v, w, rfl, rr, rr'⟩ := two_inv r1
      cases rr.int_inv; cases rr'.int_inv
      exact ⟨_, _, rfl, q1.1, k _ _ _ H1 M1 t1 a1 q1.2 itok_rng⟩
    · exact q1.elim⟩
/-! ### comprehensions -/
theorem SE.wipe {H : Hp} {σ : L2.St} {env : En} (s : SE K H σ env) : ∀ vs : List Nat, SE K H (L2.wipe σ vs) (vs.foldr (fun i e => e.set i none) env)
  | [] => s
  | v :: vs => (SE.wipe s vs).unset v
abbrev wipe3 (env : En) (vs : List Nat) : En := vs.foldr (fun i e => e.set i none) env
theorem wipe_set {σ : L2.St} {i : Nat} {v : Option V} : ∀ {vs : List Nat}, i ∈ vs → L2.wipe (σ.set i v) vs = L2.wipe σ vs
  | [], h => by simp at h
  | w :: vs, h => by
    unfold L2.wipe
    by_cases hi : i ∈ vs
    · rw [wipe_set hi]
    · have e : i = w := by simpa [hi] using h
      subst e
      have comm : ∀ (us : List Nat), L2.wipe (σ.set i v) us = (L2.wipe σ us).set i v ∨ i ∈ us := by
        intro us
        induction us with
        | nil => exact .inl rfl
        | cons a us ih =>
          by_cases ha : a = i
          · exact .inr (by simp [ha])
          · rcases ih with ih | ih
            · left
              unfold L2.wipe
              rw [ih, List.set_comm _ _ (fun z => ha z.symm)]
            · exact .inr (by simp [ih])
      rcases comm vs with q | q
      · rw [q, List.set_set]
      · exact absurd q hi
theorem wipe_wipe {σ : L2.St} : ∀ {vs ws : List Nat}, (∀ i ∈ vs, i ∈ ws) → L2.wipe (L2.wipe σ vs) ws = L2.wipe σ ws
  | [], ws, _ => rfl
  | v :: vs, ws, h => by
    show L2.wipe ((L2.wipe σ vs).set v none) ws = _
    rw [wipe_set (h v (by simp)), wipe_wipe fun i hi => h i (by simp [hi])]
abbrev W0 : W3 := fun _ _ _ _ => False
theorem LW0 {H : Hp} : LW K H W0 (fun _ _ _ _ => False) := fun _ _ _ _ _ _ _ _ _ z => z
def DTs (X : Cx) (ifs : List Expr) (t : T3) : Prop := ∀ W2, Takes X W2 → PTs X ifs (lowT X.K W2 t)
theorem _root_.L2.PTs.imp {X : Cx} {e : List Expr} {t t' : TT} (h : PTs X e t) (k : ∀ σ H Q, t' σ H Q → t σ H Q) : PTs X e t' := ⟨fun pins s σ H Q I q => h.run pins s σ H Q I (k σ H Q q)⟩
def t3Yes : T3 := fun _ _ M Q => Q true M
theorem dts_nil : DTs X [] t3Yes := fun W2 tk => pts_nil.imp fun σ H Q2 ⟨env, M, W, Q, s, a, l, q, g⟩ => g true H M (Tps.refl H) a q
theorem dts_one (h : DT X e tA) : DTs X [e] tA := fun W2 tk => pts_one (h W2 tk)
def LoopC (ds : List D) (keep : MH → Prop) (i : Nat) (tt : T3) (te : E3) (env : En) (p : Addr) (M : MH) (Q : MH → Prop) : Prop := ∃ Inv : Nat → List D → MH → Prop, Inv 0 [] (updM M p (.lst [])) ∧
  (∀ k d acc M', ds[k]? = some d → Inv k acc M' → M' p = some (.lst acc) → keep M' ∧ tt W0 (env.set i (some d)) M' fun b M3 => Br b
    (te W0 (env.set i (some d)) M3 fun y M4 => ∃ acc', M4 p = some (.lst acc') ∧ acc'.length < sizeLine ∧ Inv (k + 1) (acc' ++ [y]) (updM M4 p (.lst (acc' ++ [y]))))
    (∃ acc', M3 p = some (.lst acc') ∧ Inv (k + 1) acc' M3)) ∧
  ∀ acc M', Inv ds.length acc M' → M' p = some (.lst acc) → keep M' ∧ Q M'
def e3Lc (ti : I3) (i : Nat) (tt : T3) (te : E3) (vs : List Nat) : E3 := fun W env M Q => ti W env M fun ds keep M1 => ∀ p, M1 p = none → LoopC ds keep i tt te (wipe3 env vs) p M1 fun M' => Q (.ref p) M'
theorem lc_low {ti : I3} {i : Nat} {tt : T3} {te : E3} {vs : List Nat} {W2 W2b : WX} (hv : i ∈ vs) (hW : W2b = fun _ _ _ _ => False) {σ : L2.St} {H : Hp} {Q2 : VK} (h : lowE X.K W2 (e3Lc ti i tt te vs) σ H Q2) :
    tLc (lowI X.K W2 ti) (gName i) (lowT X.K W2b tt) (lowE X.K W2b te) vs σ H Q2 := by
  subst hW
  obtain ⟨env, M, W, Q, s, a, l, q, g⟩ := h
  refine ⟨env, M, W, _, s, a, l, q, fun ds keep J H1 M1 t1 a1 q1 ok => ?_⟩
  intro Dd nD
  obtain ⟨Inv, h0, hst, hd⟩ := q1 Dd (a1.fresh nD)
  have sw := (s.mono t1).wipe vs
  refine ⟨fun k m H' => m = ds.length - k ∧ k ≤ ds.length ∧ ∃ acc M', Tps H1 H' ∧ Abs X.K M' H' ∧ Inv k acc M' ∧ M' Dd = some (.lst acc), ⟨ds.length, by simp, Nat.zero_le _, [], _, Tps.new nD, a1.lstN nD Rvs.nil, h0, updM_same⟩, ?_⟩
  rintro k m H' ⟨rfl, hk, acc, M', t2, a', iv, hD⟩
  by_cases hlt : k < ds.length
  · have hx : ds[k]? = some ds[k] := List.getElem?_eq_getElem hlt
    obtain ⟨hkeep, hg⟩ := hst k _ acc M' hx iv hD
    obtain ⟨go, yl⟩ := ok.step k _ H' M' hx t2 a' hkeep
    refine .inr ⟨go, fun H2 => ∃ acc M2, Tps H1 H2 ∧ Abs X.K M2 H2 ∧ Inv (k + 1) acc M2 ∧ M2 Dd = some (.lst acc), fun H2 hn => ⟨ds.length - (k + 1), by omega, rfl, hlt, hn⟩, fun x H2 y => ?_⟩
    obtain ⟨t3, a3, r3⟩ := yl x H2 y
    have t23 := t2.trans t3
    refine ⟨?_, ?_⟩
    · rw [wipe_set hv, wipe_wipe fun _ h => h]
    · have s2 : SE X.K H2 ((L2.wipe σ vs).set i (some x)) ((wipe3 env vs).set i (some ds[k])) := (sw.mono t23).set i r3
      refine ⟨_, M', W0, _, s2, a3, LW0, hg, fun b H3 M3 t4 a4 q4 => ?_⟩
      cases b with
      | true =>
        rw [if_pos rfl]
        refine ⟨_, M3, W0, _, s2.mono t4, a4, LW0, q4.1 rfl, fun d v H4 M4 t5 a5 r5 q5 => ?_⟩
        obtain ⟨acc', e1, hz, iv'⟩ := q5
        obtain ⟨ws, hw, rw'⟩ := a5.lst e1
        exact ⟨ws, hw, by rw [← rw'.length]; exact hz, acc' ++ [d], _, ((t23.trans t4).trans t5).trans (Tps.lst hw), a5.lstU hw (rw'.app (Rvs.cons r5 Rvs.nil)), iv', updM_same⟩
      | false =>
        rw [if_neg Bool.false_ne_true]
        obtain ⟨acc', e1, iv'⟩ := q4.2 rfl
        exact ⟨acc', M3, t23.trans t4, a4, iv', e1⟩
  · have e : k = ds.length := by omega
    subst e
    obtain ⟨hkeep, hq⟩ := hd acc M' iv hD
    exact .inl ⟨ok.stop H' M' t2 a' hkeep, g _ _ H' M' (t1.trans t2) a' Rv.ref hq⟩
theorem takesF {X : Cx} : Takes X (fun _ _ _ _ => False) := takes0
theorem d_lc {elt iter : Expr} {ifs : List Expr} {scope : Scope} {x : Str} {i : Nat} {p' : Pos} {ti : I3} {tt : T3} {te : E3} (own : List (Str × Nat)) (hc : X.calm = true) (hN : X.N.Nodup) (hi : DI X (.Name x p') iter ti) (ok : BlkOk X.N X.env.scope scope own) (hv : i ∈ own.map (·.2))
    (hg : ∀ (s : Shared) (H : Hp) (C : Addr) (cl : List (Str × Addr)) (fp : List Addr), PG (X.blk s H scope (compEnvC scope cl C X.env) fp) (.Name x p') (gName i))
    (ht : ∀ (s : Shared) (H : Hp) (C : Addr) (cl : List (Str × Addr)) (fp : List Addr), DTs (X.blk s H scope (compEnvC scope cl C X.env) fp) ifs tt)
    (he : ∀ (s : Shared) (H : Hp) (C : Addr) (cl : List (Str × Addr)) (fp : List Addr), DE (X.blk s H scope (compEnvC scope cl C X.env) fp) elt te) (hs : ∀ x, foldedSetIterable iter X.env x = pure x := by intro _; rfl) :
    DE X (.ListComp elt [⟨.Name x p', iter, ifs, 0⟩] scope pos) (e3Lc ti i tt te (own.map (·.2))) := fun W2 tk =>
  (pe_lc hc hN (hi W2 tk) ok hg (fun s H C cl fp => ht s H C cl fp _ takesF) (fun s H C cl fp => he s H C cl fp _ takesF) hs).imp fun σ H Q2 h => lc_low hv rfl h
theorem ds_setLc {y : Str} {py : Pos} {j : Nat} {spos : Pos} {elt iter : Expr} {ifs : List Expr} {scope : Scope} {x : Str} {i : Nat} {p' : Pos} {ti : I3} {tt : T3} {te : E3} (own : List (Str × Nat)) (hc : X.calm = true) (hN : X.N.Nodup) (hi : DI X (.Name x p') iter ti) (ok : BlkOk X.N X.env.scope scope own) (hv : i ∈ own.map (·.2))
    (hg : ∀ (s : Shared) (H : Hp) (C : Addr) (cl : List (Str × Addr)) (fp : List Addr), PG (X.blk s H scope (compEnvC scope cl C X.env) fp) (.Name x p') (gName i))
    (ht : ∀ (s : Shared) (H : Hp) (C : Addr) (cl : List (Str × Addr)) (fp : List Addr), DTs (X.blk s H scope (compEnvC scope cl C X.env) fp) ifs tt)
    (he : ∀ (s : Shared) (H : Hp) (C : Addr) (cl : List (Str × Addr)) (fp : List Addr), DE (X.blk s H scope (compEnvC scope cl C X.env) fp) elt te)
    (hy : X.N[j]? = some y := by rfl) (hyl : X.env.scope.names.lookup y = some .local := by rfl)
    (hsw : swapsWith (.ListComp elt [⟨.Name x p', iter, ifs, 0⟩] scope pos) (some (.Name y py)) spos.line X.env = pure true := by exact sw_true rfl rfl rfl (by decide +kernel)) (hs : ∀ x, foldedSetIterable iter X.env x = pure x := by intro _; rfl) :
    DS X (.Assign [.Name y py] (.ListComp elt [⟨.Name x p', iter, ifs, 0⟩] scope pos) spos) (s3Asg (e3Lc ti i tt te (own.map (·.2))) j) := fun W2 tk hp =>
  (ps_setLc hc hN hy hyl hsw (hi W2 tk) ok hg (fun s H C cl fp => ht s H C cl fp _ takesF) (fun s H C cl fp => he s H C cl fp _ takesF) hs).imp fun D2 σ H ⟨env, M, W, D3, s, a, l, q, le⟩ =>
    lc_low (Q2 := fun x H1 => gName j x σ H1 D2.nx) hv rfl ⟨env, M, W, _, s, a, l, q, fun d v H1 M1 t1 a1 r1 q1 => le.nx _ H1 _ M1 t1 ((s.mono t1).set j r1) a1 q1⟩
end
end L3

namespace L3
open PySem PySem.Spec PyProof.Rows L2
section
variable {X : Cx} {e a b c o : Expr} {es : List Expr} {pos p : Pos} {t ta tb tc to te : E3} {u : A3} {K : Fg} {st : Stmt} {sts body : List Stmt} {s1 s2 : S3} {tA tB : T3}
/-! ### methods of lists -/
/-- the receiver is a list that may change; the arguments; what the method does -/
def e3Bm (m : Addr → List D → MH → Q3 → Prop) (to : E3) (u : A3) : E3 := fun W env M Q => to W env M fun od M1 => match od with
  | .ref l => (∃ ds, LstM M1 l ds) ∧ u W env M1 fun xs M2 => m l xs M2 Q
  | _ => False
def MtL (K : Fg) (r : V → List V → Hp → VK → Prop) (m : Addr → List D → MH → Q3 → Prop) : Prop := ∀ l xs vs H M Q Q2, Rvs K H xs vs → Abs K M H → m l xs M Q → Got K H Q Q2 → r (.ref l) vs H Q2
theorem bm_low {r : V → List V → Hp → VK → Prop} {m : Addr → List D → MH → Q3 → Prop} {W2 : WX} (hl : MtL X.K r m) {σ : L2.St} {H : Hp} {Q2 : VK} (h : lowE X.K W2 (e3Bm m to u) σ H Q2) : tBM X.K "list" r (lowE X.K W2 to) (lowA X.K W2 u) σ H Q2 := by
  obtain ⟨env, M, W, Q, s, a, l, q, g⟩ := h
  refine ⟨env, M, W, _, s, a, l, q, fun od v H1 M1 t1 a1 r1 q1 => ?_⟩
  split at q1
  · obtain ⟨⟨ds, hl'⟩, q1⟩ := q1
    cases r1.ref_inv
    obtain ⟨vs, hs, _⟩ := a1.rd hl'
    refine ⟨.inl ⟨rfl, vs, hs⟩, env, M1, W, _, s.mono t1, a1, l.mono t1, q1, fun xs ws H2 M2 t2 a2 r2 q2 => ?_⟩
    exact hl _ xs ws H2 M2 Q Q2 r2 a2 q2 (g.mono (t1.trans t2))
  · exact q1.elim
theorem d_bm {name : Str} {id : String} {r : V → List V → Hp → VK → Prop} {m : Addr → List D → MH → Q3 → Prop} {apos cpos : Pos} (slot : Slot "list" name id) (hty : typeOf (.builtin id) = pure (.type "method_descriptor")) (hm : MtR X id r) (hl : MtL X.K r m) (ho : DE X o to) (ha : DA X (e :: es) u)
    (hbase : attributeBase o name X.env (eval o X.env) = eval o X.env := by rfl)
    (hfew : ((backTo cpos (starEach (e :: es) X.env)).all (fun x => !x.1) && (backToKw cpos (keywordEach [] X.env)).all (fun x => x.1.isSome)
      && decide ((e :: es).length + ([] : List Keyword).length + (if ([] : List Keyword).isEmpty then 0 else 1) < 30)) = true := by rfl)
    (hline : (apos.endLine == cpos.line) = true := by rfl) (hs : starEach (e :: es) X.env = (false, eval e X.env) :: starEach es X.env := by rfl) (hplain : (backTo cpos (starEach es X.env)).any (·.1) = false := by rfl) :
    DE X (.Call (.Attribute o name apos) (e :: es) [] cpos) (e3Bm m to u) := fun W2 tk => (pe_bm PySem.F.plainAttrs_list slot hty hm (ho W2 tk) (ha W2 tk) hbase hfew hline hs hplain).imp fun σ H Q2 h => bm_low hl h
def m3App (l : Addr) : List D → MH → Q3 → Prop
  | [d], M, Q => ∃ ds, M l = some (.lst ds) ∧ ds.length < sizeLine ∧ Q .non (updM M l (.lst (ds ++ [d])))
  | _, _, _ => False
theorem ml_app : MtL K rAppend m3App := by
  intro l xs vs H M Q Q2 r a q g
  unfold m3App at q
  split at q
  · obtain ⟨v, rfl, rr⟩ := one_inv r
    obtain ⟨ds, h1, hz, q⟩ := q
    obtain ⟨ws, hw, rw'⟩ := a.lst h1
    exact ⟨l, ws, v, rfl, rfl, hw, by rw [← rw'.length]; exact hz, g _ _ _ _ (Tps.lst hw) (a.lstU hw (rw'.app (Rvs.cons rr Rvs.nil))) Rv.non q⟩
  · exact q.elim
theorem d_append {apos cpos : Pos} (ho : DE X o to) (ha : DA X [e] u) (hbase : attributeBase o "append" X.env (eval o X.env) = eval o X.env := by rfl)
    (hfew : ((backTo cpos (starEach (e :: []) X.env)).all (fun x => !x.1) && (backToKw cpos (keywordEach [] X.env)).all (fun x => x.1.isSome)
      && decide ((e :: []).length + ([] : List Keyword).length + (if ([] : List Keyword).isEmpty then 0 else 1) < 30)) = true := by rfl)
    (hline : (apos.endLine == cpos.line) = true := by rfl) (hs : starEach (e :: []) X.env = (false, eval e X.env) :: starEach [] X.env := by rfl) (hplain : (backTo cpos (starEach [] X.env)).any (·.1) = false := by rfl) :
    DE X (.Call (.Attribute o "append" apos) [e] [] cpos) (e3Bm m3App to u) := d_bm PySem.F.slot_list_append PySem.F.type_list_append mt_append ml_app ho ha hbase hfew hline hs hplain
/-! ### the rule of a def -/
def startE (N : List Str) (ds : List D) : En := ds.map some ++ List.replicate (N.length - ds.length) none
def rtX (E : Value → Option Addr → MH → Prop) : W3 := fun cls dd _ M' => ∃ M'', Sub M'' M' ∧ E cls dd M''
def rtD (Q : Q3) : Ends3 := { nx := fun _ M' => ∃ M'', Sub M'' M' ∧ Q .non M'', rt := fun d M' => ∃ M'', Sub M'' M' ∧ Q d M'' }
/-- the body's reading keeps the promise -/
def Rd3 (N : List Str) (t : S3) (sp : Sp3) : Prop := ∀ ds M Q E, sp ds M Q E → t (rtX E) (rtD Q) (startE N ds) M
theorem fn3_ok {P : Program} {w : World} {K : Fg} {mg : Str → Option Value} {base : Heap} {x qual : Str} {st : Stmt} {f : Addr} {fd : FuncData} {N ps : List Str} {k : Nat} {sp : Sp3} {t : S3} (F : Fun K x qual st f fd) (S : FnScope N ps (defScope st)) (len : ∀ ds M Q E, sp ds M Q E → ds.length = ps.length)
    (hbody : ∀ (cdv : Value) (A : Around) (outer : List Env) (s : Shared) (H : Hp) (E : XK), RoomG k (A.deeper (envOfC qual (defScope st) s.heap.objs.size f cdv)) → DSs (cxOf (L2.CX P w) P w K mg base N qual (defScope st) f cdv A outer s H E) (defBody st) t)
    (rd : Rd3 N t sp) : Fn3 P w K mg base (k + 1) f fd ps sp := by
  obtain ⟨oc, od, kV, doc, pm, an, cdv, ct, osl, rfl, lk, hcd⟩ := F.ex
  refine ⟨len, fun A outer s H ar ws zs Q2 E2 room e0 hb rv low => ?_⟩
  have many : zs.length = ps.length := low_many len low
  have keepB : ∀ (b : Addr) (o : Obj), base.get? b = some o → s.heap.get? b = some o := fun b o e => (e0.bs b o e).1
  have inS : K.In s.heap := e0.mod.kin.keeps keepB
  have kinds : ∀ y ∈ ps.zip ws, (defScope st).names.lookup y.1 = some .local ∨ ((defScope st).names.lookup y.1 = some .cell ∧ ((cellsFrom (s.heap.objs.size + 1) (defScope st).names []).lookup y.1).isSome = true) := fun y hy =>
    (S.par y.1 (List.of_mem_zip (b := y.2) hy).1).imp id fun q => ⟨q, PySem.W.cellsFrom_some _ _ _ (.inl q)⟩
  refine codeAny_call_function room.r.depth (inS _ _ lk) rfl S.co S.gen rfl (PySem.W.codeRec_of inS hcd) (hb _ _ _ _ (wpAny_newFunctionEnv_cells S.kind kinds fun env he s1 x => ?_))
  subst he
  refine ⟨(e0.mod.nolimit.keeps keepB).keeps x.toInCall.keep, codeAny_func ?_⟩
  obtain ⟨ds, M, Q, E, r, a, h, g, ge⟩ := low
  have tk : Takes (cxOf (L2.CX P w) P w K mg base N qual (defScope st) f cdv A outer s H E2) (fun cls d _ H => E2 cls d H) := takes_of rfl rfl rfl rfl
  have hp : Pass (cxOf (L2.CX P w) P w K mg base N qual (defScope st) f cdv A outer s H E2) := PassesOwn.leaving
  have I : Inv (cxOf (L2.CX P w) P w K mg base N qual (defScope st) f cdv A outer s H E2) [] (start N zs) H s1 := inv_start S room.r.hd e0 many rv x
  have wish : lowS K (fun cls d _ H => E2 cls d H) t { nx := fun _ H' => Q2 .non H', rt := Q2 } (start N zs) H := ⟨startE N ds, M, rtX E, rtD Q, SE.start N r, a, fun cls dd σ' H' env' M' t s' a' ⟨M'', sub, e⟩ => ge cls dd H' M'' t (a'.sub sub) e, rd ds M Q E h,
    fun σ' H' env' M' t s' a' ⟨M'', sub, q⟩ => g .non .non H' M'' t (a'.sub sub) Rv.non q, fun d v H' M' t a' r' ⟨M'', sub, q⟩ => g d v H' M'' t (a'.sub sub) r' q, fun _ _ _ _ _ _ _ z => z.elim, fun _ _ _ _ _ _ _ z => z.elim⟩
  refine wpAny_mono ((hbody cdv A outer s H E2 (room.down _) _ tk hp).run [] s1 (start N zs) H _ I wish) (fun fl s' hs => ?_) fun _ _ hs => hs
  match fl, hs with
  | .ret u, ⟨v, σ', H', J, rr, q⟩ => exact ⟨v, H', J.os, J.bare, J.base, J.hok, rr, q⟩
  | .next, ⟨σ', H', J, q⟩ => exact ⟨V.non, H', J.os, J.bare, J.base, J.hok, rfl, q⟩
  | .brk, ⟨_, _, _, q⟩ => exact False.elim q
  | .cont, ⟨_, _, _, q⟩ => exact False.elim q
/-! ### raise, try -/
def s3Raise (C : Addr) : S3 := fun W _ env M => W (.ref C) none env M
theorem ds_raise {C : Addr} {bmB : List Value} {B newId initId : String} {x m : Str} {j : Nat} {p p2 pos' pos2 : Pos} (F : ExcBaseFacts B newId initId bmB) (q : PySem.W.excIn X.K C bmB newId = true) (gC : X.mg x = some (.ref C)) (kC : PySem.W.keepIn X.K (.ref C) = true) (r : Raises X (.ref C)) (hc : X.calm = true) (hg : Gl X x := by rfl)
    (hdb : (x == ("__debug__" : Str)) = false := by decide) : DS X (.Raise (some (.Call (.Name x p) [.Constant (.str m) j p2] [] pos')) none pos2) (s3Raise C) := fun W2 tk hp =>
  (ps_raise hc tk (pmk_own F q gC kC r hg hdb)).imp fun D2 σ H ⟨env, M, W, D3, s, a, l, q, le⟩ => l _ _ σ H env M (Tps.refl H) s a q
def s3Try (K : Fg) (c : Value) (body hd : S3) : S3 := fun W D env M => body (fun cls dd env' M' => ∃ b, PySem.W.exmOne K cls c = some b ∧ (b = true → hd W0 D env' M') ∧ (b = false → W cls dd env' M')) D env M
theorem ds_try {x : Str} {c : Value} {b₀ : Stmt} {suite : List Stmt} {np pos' : Pos} (hs : X.stack = X.env :: X.outer) (hf : X.env.frame = some X.env.locals) (hc : Names X x c)
    (hb : ∀ (pn : List (Addr × Obj)) (xe : Value → Shared → Prop), DSs (X.tr pn xe) body s1)
    (hsu : ∀ (a : Addr) (oe : Obj) (pn : List (Addr × Obj)), DSs (X.suite a ((a, oe) :: pn)) (b₀ :: suite) s2) :
    DS X (.Try body [.ExceptHandler (some (.Name x np)) none (b₀ :: suite) pos'] [] [] pos) (s3Try X.K c s1 s2) := fun W2 tk hp =>
  (ps_try_only (tb := fun W => lowS X.K W s1) (ts := fun _ _ _ => lowS X.K (fun _ _ _ _ => False) s2) (Wout := W2) hs hf hc tk (fun W pn xe tk' hp' => hb pn xe W tk' hp') (fun a oe cls d pn _ _ => hsu a oe pn _ takes0 PassesOwn.never)).imp fun D2 σ H ⟨env, M, W, D3, s, a, l, q, le⟩ =>
    ⟨env, M, _, D3, s, a, fun cls dd σ' H' env' M' t s' a' ⟨b, e, h1, h2⟩ => ⟨b, e, fun hb a0 na => ⟨env', M', W0, D3, s', a', LW0, h1 hb, le.mono t⟩, fun hb => l cls dd σ' H' env' M' t s' a' (h2 hb)⟩, q, le⟩
end
/-! ### steps of a reading -/
theorem Rd3.intro {N : List Str} {t : S3} {sp : Sp3} (h : ∀ ds M Q E, sp ds M Q E → t (rtX E) (rtD Q) (startE N ds) M) : Rd3 N t sp := h
end L3
namespace L3
open PySem PySem.Spec PyProof.Rows L2
/-- a def that may be called -/
structure Cal (P : Program) (w : World) (K : Fg) (mg : Str → Option Value) (base : Heap) (k : Nat) (f : Addr) (fd : FuncData) (x : Str) (ps : List Str) (sp : Sp3) : Prop where
  F : Fn3 P w K mg base k f fd ps sp
  m : mg x = some (.ref f)
  kp : PySem.W.keepIn K (.ref f) = true
  b : Binds K fd ps []
theorem Cal.mono {P : Program} {w : World} {K : Fg} {mg : Str → Option Value} {base : Heap} {k j : Nat} {f : Addr} {fd : FuncData} {x : Str} {ps : List Str} {sp : Sp3} (C : Cal P w K mg base k f fd x ps sp) (h : k ≤ j) : Cal P w K mg base j f fd x ps sp := ⟨C.F.mono h, C.m, C.kp, C.b⟩
theorem d_callC {X : Cx} {k j : Nat} {f : Addr} {fd : FuncData} {ps : List Str} {sp : Sp3} {x : Str} {e : Expr} {es : List Expr} {u : A3} {p pos : Pos} (C : Cal X.prog X.w X.K X.mg X.base k f fd x ps sp) (hr : RoomG j X.A) (ha : DA X (e :: es) u) (hj : k ≤ j := by decide) (hg : Gl X x := by rfl) (hdb : (x == ("__debug__" : Str)) = false := by decide)
    (he : starEach (e :: es) X.env = (false, eval e X.env) :: starEach es X.env := by rfl) (hpl : (backTo pos (starEach es X.env)).any (·.1) = false := by rfl) : DE X (.Call (.Name x p) (e :: es) [] pos) (e3Call sp u) := d_call C.F (hr.mono hj) C.m C.kp C.b ha hg hdb he hpl
theorem fn3_none {P : Program} {w : World} {K : Fg} {mg : Str → Option Value} {base : Heap} {k : Nat} {f : Addr} {fd : FuncData} {ps : List Str} : Fn3 P w K mg base k f fd ps (fun _ _ _ _ => False) :=
  ⟨fun _ _ _ _ h => h.elim, fun A outer s H ar ws zs Q E _ _ _ _ ⟨_, _, _, _, _, _, h, _⟩ => h.elim⟩
/-- a constant of the module -/
def Cst (mg : Str → Option Value) (x : Str) (v : V) : Prop := ∃ u, mg x = some u ∧ RelV v u
theorem d_cst {X : Cx} {x : Str} {i : Int} {pos : Pos} (h : Cst X.mg x (.int i)) (hg : Gl X x := by rfl) (hd : (x == ("__debug__" : Str)) = false := by decide) : DE X (.Name x pos) (e3C (.int i)) := by
  obtain ⟨u, hm, r⟩ := h
  exact d_globI hg hm r hd
/-- what is known of an own exception's class -/
structure ExcT (K : Fg) (mg : Str → Option Value) (x : Str) (C : Addr) : Prop where
  g : mg x = some (.ref C)
  x : PySem.W.excIn K C [.type "ValueError", .type "Exception", .type "BaseException", .type "object"] "ValueError.__new__" = true
  k : PySem.W.keepIn K (.ref C) = true
  b : PySem.W.subIn K (.ref C) (.type "BaseException") = some true
  t : PySem.W.typeIn K (.ref C) = some (.type "type")
theorem ds_raiseT {X : Cx} {C : Addr} {x m : Str} {j : Nat} {p p2 pos' pos2 : Pos} (T : ExcT X.K X.mg x C) (hc : X.calm = true := by rfl) (hg : Gl X x := by rfl)
    (hdb : (x == ("__debug__" : Str)) = false := by decide) : DS X (.Raise (some (.Call (.Name x p) [.Constant (.str m) j p2] [] pos')) none pos2) (s3Raise C) := ds_raise PySem.F.excBase_ValueError T.x T.g T.k (raises_own T.b T.t) hc hg hdb
/-- an error of the class at S is what «except S» names -/
theorem exm_of {K : Fg} {S C : Addr} (h1 : PySem.W.subIn K (.ref C) (.type "BaseException") = some true) (h2 : PySem.W.isClsIn K C = true) (h3 : PySem.W.typeIn K (.ref C) = some (.type "type")) {b : Bool} (h4 : PySem.W.subIn K (.ref S) (.ref C) = some b) :
    PySem.W.exmOne K (.ref S) (.ref C) = some b := by
  have e1 : (PySem.W.subIn K (.ref C) (.type "BaseException") == some true) = true := by rw [h1] <;> rfl
  have e2 : ((PySem.W.clsIn K C).isSome && PySem.W.typeIn K (.ref C) == some (.type "type")) = true := by
    have h2' : (PySem.W.clsIn K C).isSome = true := h2
    rw [h2', h3] <;> rfl
  show (if (PySem.W.subIn K (.ref C) (.type "BaseException") == some true) = true then (if ((PySem.W.clsIn K C).isSome && PySem.W.typeIn K (.ref C) == some (.type "type")) = true then PySem.W.subIn K (.ref S) (.ref C) else none) else none) = some b
  rw [if_pos e1, if_pos e2]
  exact h4
/-! ### the law -/
def noList (K : Fg) : Bool := K.all fun p => p.2.cls != .type "list"
theorem mem_of_lookup' : ∀ {K : Fg} {a : Addr} {o : Obj}, K.lookup a = some o → (a, o) ∈ K
  | [], _, _, h => by simp at h
  | (b, u) :: K, a, o, h => by
    rw [List.lookup_cons] at h
    cases hb : a == b with
    | true =>
      rw [hb] at h
      cases h
      have : a = b := by simpa using hb
      subst this
      exact List.mem_cons_self
    | false =>
      rw [hb] at h
      exact List.mem_cons_of_mem _ (mem_of_lookup' h)
theorem noList_at {K : Fg} {h : Heap} {a : Addr} {o : Obj} (hk : noList K = true) (hK : K.In h) (ha : h.get? a = some o) (hc : o.cls = .type "list") : K.lookup a = none := by
  cases q : K.lookup a with
  | none => rfl
  | some z =>
    have e := hK a z q
    rw [ha] at e
    cases e
    have := List.all_eq_true.mp hk _ (mem_of_lookup' q)
    rw [hc] at this
    simp at this
/-- the law's promise: from the script alone -/
def spLaw3 (n : Nat) : Sp3 := fun ds M Q _ => ∃ (a : Addr) (ns : List Int), ds = [.ref a] ∧ ns.length ≤ n ∧ M a = some (.ro (ns.map D.int)) ∧ (∀ b, b ≠ a → M b = none) ∧ ∀ M', Q (.bl true) M'
/-! ### a call by keywords alone, in the parameters' order -/
def BindsK (K : Fg) (fd : FuncData) (ps : List Str) : Prop := ∀ (s : Shared) (ws : List Value), K.In s.heap → ws.length = ps.length → BindsTo s fd ⟨[], ps.zip ws⟩ (ps.zip ws)
theorem BindsK.all {K : Fg} {fd : FuncData} {ps : List Str} (h : ∀ us : List Value, us.length = ps.length → bindArgs fd ⟨[], ps.zip us⟩ = pure (ps.zip us)) : BindsK K fd ps := fun s us _ hl => .of_eq (h us hl)
def DK (X : Cx) (kws : List Keyword) (t : A3) : Prop := ∀ W2, Takes X W2 → PK X kws (lowA X.K W2 t)
section
variable {X : Cx} {e : Expr} {kws : List Keyword} {t : E3} {u : A3} {nm : Option Str} {kpos p pos : Pos} {k j : Nat} {f : Addr} {fd : FuncData} {ps : List Str} {sp : Sp3} {x : Str}
theorem _root_.L2.PK.imp {X : Cx} {e : List Keyword} {t t' : TA} (h : PK X e t) (k : ∀ σ H Q, t' σ H Q → t σ H Q) : PK X e t' := ⟨fun pos pins s σ H Q I q => h.run pos pins s σ H Q I (k σ H Q q)⟩
theorem dk_nil : DK X [] a3Nil := fun W2 _ => pk_nil.imp fun σ H Q2 ⟨env, M, W, Q, s, a, l, q, g⟩ => g [] [] H M (Tps.refl H) a Rvs.nil q
theorem dk_cons (ha : DE X e t) (hr : DK X kws u) : DK X (⟨nm, e, kpos⟩ :: kws) (a3Cons t u) := fun W2 tk =>
  (pk_cons (ha W2 tk) (hr W2 tk)).imp fun σ H Q2 ⟨env, M, W, Q, s, a, l, q, g⟩ => ⟨env, M, W, _, s, a, l, q, fun d v H1 M1 t1 a1 r1 q1 =>
    ⟨env, M1, W, _, s.mono t1, a1, l.mono t1, q1, fun ds vs H2 M2 t2 a2 r2 q2 => g _ _ H2 M2 (t1.trans t2) a2 (Rvs.cons (r1.mono t2) r2) q2⟩⟩
theorem d_callKw (C : Cal X.prog X.w X.K X.mg X.base k f fd x ps sp) (bk : BindsK X.K fd ps) (hr : RoomG j X.A) (ha : DK X kws u) (hj : k ≤ j := by decide) (hg : Gl X x := by rfl) (hdb : (x == ("__debug__" : Str)) = false := by decide)
    (hall : (backToKw pos (keywordEach kws X.env)).all (·.1.isSome) = true := by rfl) (hks : (backToKw pos (keywordEach kws X.env)).filterMap (·.1) = ps := by rfl)
    (hpl : ((backTo pos (starEach [] X.env)).any (·.1) || (backToKw pos (keywordEach kws X.env)).any (·.1.isNone)) = false := by rfl) : DE X (.Call (.Name x p) [] kws pos) (e3Call sp u) := fun W2 tk => by
  refine ⟨fun pins s σ H Q2 I h => ?_⟩
  obtain ⟨env, M, W, Q, se, a, l, q, g⟩ := h
  refine wpAny_Call_Name_kw (ld_glob I hg C.m ?_ hdb)
  refine PySem.W.callWith_KW0 (h₀ := X.base) I.ok.mod.kin C.kp hall (thn ((ha W2 tk).run pos pins s σ H (fun vs H1 => lowF X.K sp vs H1 Q2 (WE W2 σ)) I ⟨env, M, W, _, se, a, l, q, fun ds vs H1 M1 t1 a1 r1 q1 => ⟨ds, M1, Q, _, r1, a1, q1, g.mono t1, fun cls dd H' M' t2 a2 w => l cls dd σ H' env M' (t1.trans t2) (se.mono (t1.trans t2)) a2 w⟩⟩) fun ws s1 ⟨zs, H1, I1, rz, q2⟩ => ⟨I1.kIn, ?_⟩) hpl
  rw [hks]
  have hn : ws.length = ps.length := rz.length.symm.trans (low_many C.F.many q2)
  refine wpAny_call (codeAny_mono (enter3 C.F (hr.mono hj) tk I1 (bk s1 ws I1.kIn hn) rz q2) fun r s' hq => ?_)
  match r, hq with
  | .ok (.ret _), hq => exact hq
  | .ok .next, hq => exact False.elim hq
  | .ok .brk, hq => exact False.elim hq
  | .ok .cont, hq => exact False.elim hq
  | .error _, hq => exact hq
end
/-! ### the end of a row -/
/-- the heap of the top: the script alone is tracked, frozen -/
def topH (a : Addr) (o : Obj) (vs : List V) : Hp := fun b => if b = a then some (.frz o (.lst vs)) else none
theorem topH_at {a : Addr} {o : Obj} {vs : List V} : topH a o vs a = some (.frz o (.lst vs)) := if_pos rfl
theorem topH_out {a b : Addr} {o : Obj} {vs : List V} (h : b ≠ a) : topH a o vs b = none := if_neg h
theorem topH_inv {a b : Addr} {o : Obj} {vs : List V} {u : HO} (h : topH a o vs b = some u) : b = a ∧ u = .frz o (.lst vs) := by
  by_cases e : b = a
  · subst e
    rw [topH_at] at h
    exact ⟨rfl, by cases h; rfl⟩
  · rw [topH_out e] at h
    cases h
theorem top_run {P : Program} {w : World} {K : Fg} {mg mb : Str → Option Value} {k n : Nat} {fa a : Addr} {fd : FuncData} {s₁ : Shared} {us : List Value} {ns : List Int}
    (KX : K.In s₁.heap) (hns : s₁.heap.Ns mainGlobals mg) (hb : s₁.heap.Ns builtinsNs mb) (hbb : ∀ x : Str, x ≠ "__name__" → mb x = bootBuiltins x) (hlim : s₁.heap.NoLimit) (hg : s₁.gens = #[]) (hnl : noList K = true)
    (ha : s₁.heap.get? a = some { cls := .type "list", data := .seq us.toArray }) (hi : IntsAre us ns) (hl : ns.length ≤ n) (hl2 : n ≤ sizeLine) (hr : RoomG k callerA)
    (F : ∀ base : Heap, K.In base → base.Ns mainGlobals mg → Fn3 P w K mg base k fa fd ["script"] (spLaw3 n)) (hbind : ∀ (s : Shared) (u : Value), BindsTo s fd ⟨[u], []⟩ [("script", u)]) :
    codeAny (model P w) callerA (.call (.ref fa) ⟨[.ref a], []⟩) (fun r s' => r = .ok (.ret (.bool true)) ∧ OldK s₁.heap s'.heap ∧ s'.os = s₁.os ∧ AllBare s'.gens) s₁ := by
  have rv : Vals (ns.map V.int) us := vals_ints hi
  have kn : K.lookup a = none := noList_at hnl KX ha rfl
  generalize hT : topH a { cls := .type "list", data := .seq us.toArray } (ns.map V.int) = T
  have atA : T a = some (.frz { cls := .type "list", data := .seq us.toArray } (.lst (ns.map V.int))) := by rw [← hT]; exact topH_at
  have out : ∀ {b : Addr}, b ≠ a → T b = none := fun h => by rw [← hT]; exact topH_out h
  have inv : ∀ {b : Addr} {u : HO}, T b = some u → b = a ∧ u = .frz { cls := .type "list", data := .seq us.toArray } (.lst (ns.map V.int)) := fun h => by rw [← hT] at h; exact topH_inv h
  have okT : HOk P w T s₁.heap := fun b u z => by
    obtain ⟨rfl, rfl⟩ := inv z
    exact ⟨ha, by rw [List.length_map]; exact Nat.le_trans hl hl2, us, 0, rv, ha⟩
  have stay : ∀ {b : Addr} {o : Obj}, s₁.heap.get? b = some o → b ≠ a → (hidT s₁.heap T).get? b = some o := fun e h => hidT_get e (out h)
  have nsT : ∀ {b : Addr} {m : Str → Option Value}, s₁.heap.Ns b m → (hidT s₁.heap T).Ns b m := fun {b m} ⟨o, es, ep, e, d, r⟩ => ⟨o, es, ep, stay e (fun z => by
    subst z
    rw [ha] at e
    cases e
    have d' : Data.seq us.toArray _ = Data.dict es ep := d
    cases d'), d, r⟩
  have inT : K.In (hidT s₁.heap T) := fun b o e => stay (KX b o e) fun z => by
    subst z
    rw [kn] at e
    cases e
  have e0 : Env0 P w K mg (hidT s₁.heap T) callerA [] s₁ T := ⟨rfl, ⟨inT, nsT hns, ⟨mb, nsT hb, hbb⟩, hlim.imp fun mc h => ⟨nsT h.1, h.2⟩⟩, fun b o e => of_hidT e, Nat.le_of_eq (hidT_size _ _), trivial, fun b h => absurd (show b ∈ ([] : List Addr) from h) (by simp), okT, .of_eq hg⟩
  have low : lowF K (spLaw3 n) [.ref a] T (fun v _ => v = .bl true) fun _ _ _ => False := ⟨[.ref a], fun b => if b = a then some (.ro (ns.map D.int)) else none, fun d _ => d = .bl true, fun _ _ _ => False, Rvs.cons Rv.ref Rvs.nil, fun b u z => (by
      by_cases h : b = a
      · subst h
        simp only [if_pos rfl] at z
        cases z
        exact ⟨_, _, atA, Rvs.ints⟩
      · simp only [if_neg h] at z
        cases z), ⟨a, ns, rfl, hl, if_pos rfl, fun b h => if_neg h, fun _ => rfl⟩, fun d v H' M' _ _ r q => (by
      subst q
      exact r.bl_inv), fun _ _ _ _ _ _ z => z.elim⟩
  refine codeAny_mono ((F _ inT (nsT hns)).runs callerA [] s₁ T ⟨[.ref a], []⟩ [.ref a] [.ref a] _ _ hr e0 (hbind s₁ (.ref a)) (.cons rfl .nil) low) fun r s' h => ?_
  match r, h with
  | .ok .next, h => exact False.elim h
  | .ok .brk, h => exact False.elim h
  | .ok .cont, h => exact False.elim h
  | .error _, h =>
    obtain ⟨_, _, _, _, _, _, _, _, _, _, _, _, z⟩ := h
    exact z.elim
  | .ok (.ret u), ⟨v, H', os, bare, un, hok', rr, q⟩ =>
    have q' : v = .bl true := q
    subst q'
    obtain rfl : u = Value.bool true := rr
    refine ⟨rfl, OldK.of_keep fun b o e => ?_, os, bare⟩
    by_cases h : b = a
    · subst h
      rw [ha] at e
      cases e
      exact (hok' b _ (un.frzs b _ _ atA)).1
    · exact un.keep b o e (out h) (by intro z; exact absurd (show b ∈ ([] : List Addr) from z) (by simp)) (by simp)
theorem walk3 {l : PySem.W.OpenLaw} {n k : Nat} {q : Program} {loose : List Str} {XP : (Str → Option Value) → Heap → Prop} {YP : World → Heap → Prop} {d : DefRec} {K : Params → PySem.W.Frag}
    (hn : l.most = some n) (hn2 : n ≤ sizeLine) (hdf : d.params.defaults = []) (hr : RoomG k callerA) (hY : ∀ (w : World) (h : Heap), YP w h → (K w.params).In h) (hN : ∀ w : World, noList (K w.params) = true)
    (F : ∀ (w : World) (mg : Str → Option Value) (fa : Addr) (h : Heap), (K w.params).In h → h.Ns mainGlobals mg → mg d.name = some (.ref fa) →
      ∃ fd : FuncData, (∀ (s : Shared) (u : Value), BindsTo s fd ⟨[u], []⟩ [("script", u)]) ∧
        ∀ base : Heap, (K w.params).In base → base.Ns mainGlobals mg → Fn3 l.prog w (K w.params) mg base k fa fd ["script"] (spLaw3 n)) :
    PySem.W.WalkO q loose XP YP l.row.toRowW d [] (fun f vs => PySem.call f vs) :=
  Att.attach_call hn hdf fun w s₀ s₁ mg mb fa o pm cd doc a vs ns G Y ho hd hcd hmg hobj hints hlen hgn => by
    obtain ⟨fd, hb, hF⟩ := F w mg fa _ (hY w _ Y) G.T.g hmg
    exact top_run (hY w _ Y) G.T.g G.T.b G.T.builtins G.T.nolimit hgn (hN w) hobj hints hlen hn2 hr hF hb
end L3

namespace L3
open PySem PySem.Spec PyProof.Rows L2
theorem szLt {n : Nat} (h : n ≤ 1000000) : n < sizeLine := Nat.lt_of_le_of_lt h (by decide)
theorem szLe {n : Nat} (h : n ≤ 1000000) : n ≤ sizeLine := Nat.le_of_lt (szLt h)
/-! ### comprehensions by a function -/
theorem lcMap {ds : List D} {keep : MH → Prop} {i : Nat} {te : E3} {env : En} {p : Addr} {M : MH} {Q : MH → Prop} (f : D → D) (hp : M p = none) (hk : ∀ M', Sub M M' → keep M')
    (he : ∀ (k : Nat) (d : D) (M' : MH) (R : Q3), ds[k]? = some d → Sub M M' → (∀ M'', Sub M' M'' → R (f d) M'') → te W0 (env.set i (some d)) M' R) (hsz : ds.length < sizeLine)
    (hq : ∀ M', Sub M M' → M' p = some (.lst (ds.map f)) → Q M') : LoopC ds keep i t3Yes te env p M Q := by
  refine ⟨fun k acc M' => acc = (ds.take k).map f ∧ Sub M M', ⟨by simp, (Sub.refl M).new hp⟩, ?_, ?_⟩
  · rintro k d acc M' hd ⟨rfl, sub⟩ hpM
    refine ⟨hk M' sub, Br.tt (he k d M' _ hd sub fun M'' s2 => ⟨(ds.take k).map f, s2 p _ hpM, ?_, ?_, (sub.trans s2).new hp⟩)⟩
    · rw [List.length_map, List.length_take]
      exact Nat.lt_of_le_of_lt (Nat.min_le_right _ _) hsz
    · rw [List.take_add_one, hd, List.map_append]
      rfl
  · rintro acc M' ⟨rfl, sub⟩ hpM
    rw [List.take_length] at hpM
    exact ⟨hk M' sub, hq M' sub hpM⟩
theorem lcFilter {ds : List D} {keep : MH → Prop} {i : Nat} {tt : T3} {te : E3} {env : En} {p : Addr} {M : MH} {Q : MH → Prop} (b : D → Bool) (f : D → D) (hp : M p = none) (hk : ∀ M', Sub M M' → keep M')
    (ht : ∀ (k : Nat) (d : D) (M' : MH) (R : Bool → MH → Prop), ds[k]? = some d → Sub M M' → (∀ M'', Sub M' M'' → R (b d) M'') → tt W0 (env.set i (some d)) M' R)
    (he : ∀ (k : Nat) (d : D) (M' : MH) (R : Q3), ds[k]? = some d → b d = true → Sub M M' → (∀ M'', Sub M' M'' → R (f d) M'') → te W0 (env.set i (some d)) M' R) (hsz : ds.length < sizeLine)
    (hq : ∀ M', Sub M M' → M' p = some (.lst ((ds.filter b).map f)) → Q M') : LoopC ds keep i tt te env p M Q := by
  refine ⟨fun k acc M' => acc = ((ds.take k).filter b).map f ∧ Sub M M', ⟨by simp, (Sub.refl M).new hp⟩, ?_, ?_⟩
  · rintro k d acc M' hd ⟨rfl, sub⟩ hpM
    have e : ((ds.take (k + 1)).filter b).map f = ((ds.take k).filter b).map f ++ (if b d = true then [f d] else []) := by
      rw [List.take_add_one, hd]
      simp only [Option.toList_some, List.filter_append, List.map_append, List.filter_cons, List.filter_nil]
      split <;> rfl
    refine ⟨hk M' sub, ht k d M' _ hd sub fun M3 s3 => ⟨fun hb => he k d M3 _ hd hb (sub.trans s3) fun M'' s2 => ⟨_, s2 p _ (s3 p _ hpM), ?_, ?_, ((sub.trans s3).trans s2).new hp⟩, fun hb => ⟨_, s3 p _ hpM, ?_, sub.trans s3⟩⟩⟩
    · rw [List.length_map]
      have h1 := List.length_filter_le b (ds.take k)
      rw [List.length_take] at h1
      exact Nat.lt_of_le_of_lt (Nat.le_trans h1 (Nat.min_le_right _ _)) hsz
    · rw [e, if_pos hb]
    · rw [e, if_neg (by rw [hb]; decide), List.append_nil]
  · rintro acc M' ⟨rfl, sub⟩ hpM
    rw [List.take_length] at hpM
    exact ⟨hk M' sub, hq M' sub hpM⟩
theorem get_ints {xs : List Int} {i : Nat} {d : D} (h : (xs.map D.int)[i]? = some d) : ∃ x, xs[i]? = some x ∧ d = .int x := by
  rw [List.getElem?_map] at h
  cases e : xs[i]? with
  | none => rw [e] at h; cases h
  | some x => rw [e] at h; exact ⟨x, rfl, (Option.some.inj h).symm⟩
theorem at_ints {xs : List Int} {i : Int} (h0 : 0 ≤ i) (h1 : i < xs.length) : ∃ x, x ∈ xs ∧ atI (xs.map D.int) i = some (.int x) ∧ ∃ j : Nat, i = (j : Int) ∧ j < xs.length ∧ xs[j]? = some x := by
  obtain ⟨j, rfl⟩ := Int.eq_ofNat_of_zero_le h0
  have hj : j < xs.length := by omega
  have e : xs[j]? = some xs[j] := List.getElem?_eq_getElem hj
  exact ⟨xs[j], List.getElem_mem hj, atI_nat (by rw [List.getElem?_map, e]; rfl), j, rfl, hj, e⟩
theorem lstM_sub {M M' : MH} {a : Addr} {ds : List D} (s : Sub M M') (h : LstM M a ds) : LstM M' a ds := h.elim (fun e => .inl (s _ _ e)) fun e => .inr (s _ _ e)
/-! ### the laws' draws -/
def tDraws : S3 :=
    (s3Seq (s3Asg (e3Lc (i3Seq (e3Var 0)) 5 t3Yes (e3CB c3Abs (a3Cons (e3CB c3Int (a3Cons (e3Var 5) a3Nil)) a3Nil)) [5]) 2)
    (s3Seq (s3Asg (e3Lst a3Nil) 3)
    (s3Seq (s3For (i3Rng1 (a3Cons (e3Var 1) a3Nil)) (g3Name 4) (s3Seq (s3Asg (e3Var 4) 5)
    (s3Seq (s3If (t3Test (e3Op r3Gt (e3CB c3Len (a3Cons (e3Var 0) a3Nil)) (e3C (.int 0)))) (s3Seq (s3Asg (e3Op r3Mod (e3Var 4) (e3CB c3Len (a3Cons (e3Var 0) a3Nil))) 7)
    (s3Seq (s3Asg (e3CB c3Int (a3Cons (e3Op r3Ix (e3Var 0) (e3Var 7)) a3Nil)) 5)
    (s3If (t3And (t3Test (e3Op r3Ge (e3Var 5) (e3Op r3Pow (e3C (.int 10)) (e3C (.int 18))))) (t3Test (e3Op r3Gt (e3Op r3Ix (e3Var 2) (e3Var 7)) (e3C (.int 0))))) (s3Seq (s3Expr (e3Bm m3App (e3Var 3) (a3Cons (e3Op r3Mod (e3CB c3Int (a3Cons (e3Op r3Ix (e3Var 2) (e3Var 7)) a3Nil)) (e3C (.int 1000003))) a3Nil)))
    (s3Seq (s3AsgG (e3Op r3Div (e3CB c3Int (a3Cons (e3Op r3Ix (e3Var 2) (e3Var 7)) a3Nil)) (e3C (.int 1000003))) (g3SubL (e3Var 2) (e3Var 7)))
    s3Cont)) s3Nil))) s3Nil)
    (s3Seq (s3Asg (e3Op r3Mod (e3CB c3Int (a3Cons (e3Op r3Add (e3Op r3Add (e3Op r3Mul (e3Var 5) (e3C (.int 48271))) (e3Op r3Mul (e3Var 4) (e3C (.int 69621)))) (e3C (.int 11))) a3Nil)) (e3C (.int 2147483647))) 6)
    (s3Seq (s3Asg (e3Op r3Mod (e3CB c3Int (a3Cons (e3Op r3Add (e3Op r3Div (e3Op r3Mul (e3Var 6) (e3Var 6)) (e3C (.int 4096))) (e3Var 6)) a3Nil)) (e3C (.int 2147483629))) 6)
    (s3Expr (e3Bm m3App (e3Var 3) (a3Cons (e3Op r3Mod (e3CB c3Int (a3Cons (e3Op r3Add (e3Op r3Div (e3Op r3Mul (e3Var 6) (e3Var 6)) (e3C (.int 4096))) (e3Op r3Mul (e3Var 4) (e3C (.int 7919)))) a3Nil)) (e3C (.int 2147483629))) a3Nil))))))))
    (s3Ret (e3Var 3)))))
abbrev NDraws : List Str := ["script", "many", "rests", "draws", "k", "cell", "mixed", "at"]
def spDraws : Sp3 := fun ds M Q _ => ∃ (a : Addr) (n : Int) (ns : List Int), ds = [.ref a, .int n] ∧ 0 ≤ n ∧ n ≤ 100000 ∧ ns.length ≤ 1000 ∧ M a = some (.ro (ns.map D.int)) ∧
  ∀ (p : Addr) (xs : List Int), M p = none → (xs.length : Int) = n → (∀ x ∈ xs, (0 : Int) ≤ x ∧ x < 2147483629) → Q (.ref p) (updM M p (.lst (xs.map D.int)))
theorem mem_set {xs : List Int} {j : Nat} {y x : Int} (h : x ∈ xs.set j y) : x ∈ xs ∨ x = y := by
  rcases List.mem_or_eq_of_mem_set h with h | h
  · exact .inl h
  · exact .inr h
theorem rdDraws : Rd3 NDraws tDraws spDraws := by
  rintro ds M Q E ⟨a, n, ns, rfl, n0, n1, hl, ha, q⟩
  -- rests = [abs(int(cell)) for cell in script]
  refine ⟨_, .inr ha, fun r nr => lcMap (fun d => match d with | .int i => .int (if i < 0 then -i else i) | d => d) nr (fun M' s => .inr (s a _ ha)) (fun k d M' R hd s k2 => ?_) (szLt (by rw [List.length_map]; omega)) fun M1 s1 h1 => ?_⟩
  · obtain ⟨x, _, rfl⟩ := get_ints hd
    exact k2 M' (Sub.refl _)
  have e1 : (ns.map D.int).map (fun d => match d with | .int i => .int (if i < 0 then -i else i) | d => d) = (ns.map fun i => if i < 0 then -i else i).map D.int := by
    rw [List.map_map, List.map_map]; rfl
  rw [e1] at h1
  -- draws = []
  refine ⟨szLe (by simp), fun w nw => ?_⟩
  have nwM : M w = none := s1.free nw
  have nrw : r ≠ w := neM h1 nw
  -- for k in range(many)
  refine ⟨by omega, by omega, fun i env' M' => ∃ (s4 s5 s6 s7 : Option D) (rs xs : List Int), env' = [some (.ref a), some (.int n), some (.ref r), some (.ref w), s4, s5, s6, s7] ∧ Sub M M' ∧ M' r = some (.lst (rs.map D.int)) ∧ M' w = some (.lst (xs.map D.int)) ∧
    rs.length = ns.length ∧ (∀ x ∈ rs, (0 : Int) ≤ x) ∧ xs.length = i ∧ ∀ x ∈ xs, (0 : Int) ≤ x ∧ x < 2147483629, ?_, ?_, ?_⟩
  · refine ⟨none, none, none, none, _, [], rfl, s1.new nwM, (updM_ne nrw).trans h1, updM_same, by simp, ?_, rfl, by simp⟩
    intro x hx
    obtain ⟨y, _, rfl⟩ := List.mem_map.mp hx
    show 0 ≤ if y < 0 then -y else y
    split <;> omega
  · rintro i d env' M' hd ⟨s4, s5, s6, s7, rs, xs, rfl, sub, hr, hw, lr, pr, lx, px⟩
    obtain ⟨hi, rfl⟩ := rngD_get hd
    have hi' : (i : Int) < n := by omega
    refine ⟨trivial, ?_⟩
    have ha' : M' a = some (.ro (ns.map D.int)) := sub a _ ha
    -- the last rows
    have tail : ∀ (s5' s7' : Option D) (c : Int), s5' = some (.int c) →
        (s3Seq (s3Asg (e3Op r3Mod (e3CB c3Int (a3Cons (e3Op r3Add (e3Op r3Add (e3Op r3Mul (e3Var 5) (e3C (.int 48271))) (e3Op r3Mul (e3Var 4) (e3C (.int 69621)))) (e3C (.int 11))) a3Nil)) (e3C (.int 2147483647))) 6)
    (s3Seq (s3Asg (e3Op r3Mod (e3CB c3Int (a3Cons (e3Op r3Add (e3Op r3Div (e3Op r3Mul (e3Var 6) (e3Var 6)) (e3C (.int 4096))) (e3Var 6)) a3Nil)) (e3C (.int 2147483629))) 6)
    (s3Expr (e3Bm m3App (e3Var 3) (a3Cons (e3Op r3Mod (e3CB c3Int (a3Cons (e3Op r3Add (e3Op r3Div (e3Op r3Mul (e3Var 6) (e3Var 6)) (e3C (.int 4096))) (e3Op r3Mul (e3Var 4) (e3C (.int 7919)))) a3Nil)) (e3C (.int 2147483629))) a3Nil)))))
          (rtX E) { nx := fun env' M' => ∃ (s4 s5 s6 s7 : Option D) (rs xs : List Int), env' = [some (.ref a), some (.int n), some (.ref r), some (.ref w), s4, s5, s6, s7] ∧ Sub M M' ∧ M' r = some (.lst (rs.map D.int)) ∧ M' w = some (.lst (xs.map D.int)) ∧
    rs.length = ns.length ∧ (∀ x ∈ rs, (0 : Int) ≤ x) ∧ xs.length = i + 1 ∧ ∀ x ∈ xs, (0 : Int) ≤ x ∧ x < 2147483629, rt := (rtD Q).rt } [some (.ref a), some (.int n), some (.ref r), some (.ref w), some (.int (0 + (i : Nat))), s5', s6, s7'] M' := by
      rintro s5' s7' c rfl
      refine ⟨.inr ⟨by decide, by decide⟩, .inr ⟨by decide, by decide⟩, by decide, ?_⟩
      generalize hm : (c * 48271 + (0 + ((i : Nat) : Int)) * 69621 + 11) % 2147483647 = m1
      have m0 : 0 ≤ m1 := by rw [← hm]; exact Int.emod_nonneg _ (by decide)
      have m1' : m1 < 2147483647 := by rw [← hm]; exact Int.emod_lt_of_pos _ (by decide)
      refine ⟨.inl ⟨by omega, by omega⟩, ⟨by decide, by decide⟩, by decide, ?_⟩
      generalize hm2 : (m1 * m1 / 4096 + m1) % 2147483629 = m2
      have m20 : 0 ≤ m2 := by rw [← hm2]; exact Int.emod_nonneg _ (by decide)
      have m21 : m2 < 2147483629 := by rw [← hm2]; exact Int.emod_lt_of_pos _ (by decide)
      refine ⟨⟨_, .inl hw⟩, .inl ⟨by omega, by omega⟩, ⟨by decide, by decide⟩, .inr ⟨by decide, by decide⟩, by decide, _, hw, szLt (by rw [List.length_map]; omega), ?_⟩
      refine ⟨_, _, _, _, rs, xs ++ [_], rfl, sub.new nwM, (updM_ne nrw).trans hr, by rw [updM_same, List.map_append]; rfl, lr, pr, by simp [lx], ?_⟩
      intro x hx
      rcases List.mem_append.mp hx with hx | hx
      · exact px x hx
      · rw [List.mem_singleton] at hx
        rw [hx]
        exact ⟨Int.emod_nonneg _ (by decide), Int.emod_lt_of_pos _ (by decide)⟩
    refine ⟨_, .inr ha', fun e => ?_, fun e => ?_⟩
    · -- there are cells
      have hpos : 0 < ns.length := by
        have := of_decide_eq_true e
        rw [List.length_map] at this
        omega
      refine ⟨_, .inr ha', by rw [List.length_map]; omega, ?_⟩
      rw [List.length_map]
      have ht0 : 0 ≤ (0 + ((i : Nat) : Int)) % (ns.length : Int) := Int.emod_nonneg _ (by omega)
      have ht1 : (0 + ((i : Nat) : Int)) % (ns.length : Int) < ns.length := Int.emod_lt_of_pos _ (by omega)
      generalize (0 + ((i : Nat) : Int)) % (ns.length : Int) = at_ at ht0 ht1 ⊢
      obtain ⟨c, _, hc, _⟩ := at_ints ht0 ht1
      obtain ⟨y, hy, hyr, j, hj, hjl, hjr⟩ := at_ints (xs := rs) ht0 (by omega)
      refine ⟨_, _, .inr ha', hc, ⟨by decide, by decide, by decide⟩, fun e2 => ?_, fun e2 => ?_⟩
      · refine ⟨_, _, .inl hr, hyr, fun e3 => ?_, fun e3 => ?_⟩
        · refine ⟨⟨_, .inl hw⟩, _, _, .inl hr, hyr, by decide, _, hw, szLt (by rw [List.length_map]; omega), ?_⟩
          have hr2 : updM M' w (.lst (xs.map D.int ++ [.int (y % 1000003)])) r = some (.lst (rs.map D.int)) := (updM_ne nrw).trans hr
          refine ⟨_, _, .inl hr2, hyr, ⟨by decide, by decide⟩, _, j, hr2, ?_, ?_⟩
          · rw [List.length_map, hj]
            unfold ixN
            rw [if_pos (by omega), if_pos (by omega)]
            simp
          · refine ⟨_, _, _, _, rs.set j (y / 1000003), xs ++ [y % 1000003], rfl, (sub.new nwM).new nr, ?_, ?_, by simp [lr], ?_, by simp [lx], ?_⟩
            · rw [updM_same, List.map_set]
            · rw [updM_ne nrw.symm, updM_same, List.map_append]
              rfl
            · intro x hx
              rcases mem_set hx with hx | rfl
              · exact pr x hx
              · exact Int.ediv_nonneg (pr y hy) (by decide)
            · intro x hx
              rcases List.mem_append.mp hx with hx | hx
              · exact px x hx
              · rw [List.mem_singleton] at hx
                rw [hx]
                exact ⟨Int.emod_nonneg _ (by decide), Int.lt_trans (Int.emod_lt_of_pos _ (by decide)) (by decide)⟩
        · exact tail _ _ _ rfl
      · exact Br.ff (tail _ _ _ rfl)
    · exact tail _ _ _ rfl
  · rintro env' M' ⟨s4, s5, s6, s7, rs, xs, rfl, sub, hr, hw, lr, pr, lx, px⟩
    refine ⟨trivial, updM M w (.lst (xs.map D.int)), ?_, q w xs nwM ?_ px⟩
    · intro b o e
      by_cases hb : b = w
      · subst hb
        rw [updM_same] at e
        cases e
        exact hw
      · rw [updM_ne hb] at e
        exact sub b o e
    · rw [lx, rngD_length]
      omega
/-! ### the laws' take -/
def tTake : S3 :=
    (s3Seq (s3Asg (e3Op r3Ix (e3Var 0) (e3C (.int 1))) 2)
    (s3Seq (s3AsgG (e3Op r3Add (e3Var 2) (e3C (.int 1))) (g3SubL (e3Var 0) (e3C (.int 1))))
    (s3Seq (s3Asg (e3Op r3Ix (e3Var 0) (e3C (.int 0))) 3)
    (s3Seq (s3If (t3Test (e3Op r3Ge (e3Var 2) (e3CB c3Len (a3Cons (e3Var 3) a3Nil)))) (s3Ret (e3C (.int 0))) s3Nil)
    (s3Ret (e3Op r3Mod (e3Op r3Div (e3CB c3Int (a3Cons (e3Op r3Ix (e3Var 3) (e3Var 2)) a3Nil)) (e3C (.int 7))) (e3Var 1)))))))
abbrev NTake : List Str := ["hand", "many", "at", "draws"]
/-- the hand: the draws, how many are taken -/
def Hand (M : MH) (h : Addr) : Prop := ∃ (d : Addr) (n : Int) (xs : List Int), M h = some (.lst [.ref d, .int n]) ∧ M d = some (.lst (xs.map D.int)) ∧ d ≠ h ∧ 0 ≤ n ∧ ∀ x ∈ xs, (0 : Int) ≤ x
/-- all but the hand -/
def But (h : Addr) (M M' : MH) : Prop := ∀ b, b ≠ h → M' b = M b
def spTake : Sp3 := fun ds M Q _ => ∃ (h : Addr) (m : Int), ds = [.ref h, .int m] ∧ Hand M h ∧ 0 < m ∧ ∀ v M', 0 ≤ v → v < m → Hand M' h → But h M M' → Q (.int v) M'
theorem rdTake : Rd3 NTake tTake spTake := by
  rintro ds M Q E ⟨h, m, rfl, ⟨d, n, xs, hh, hd, hne, h0, hx⟩, hm, q⟩
  refine ⟨_, .int n, .inl hh, rfl, _, 1, hh, rfl, _, .ref d, .inl updM_same, rfl, ?_⟩
  have hd' : (updM M h (.lst [.ref d, .int (n + 1)])) d = some (.lst (xs.map D.int)) := (updM_ne hne).trans hd
  have fin : ∀ v, 0 ≤ v → v < m → (rtD Q).rt (.int v) (updM M h (.lst [.ref d, .int (n + 1)])) := fun v v0 v1 =>
    ⟨_, Sub.refl _, q v _ v0 v1 ⟨d, n + 1, xs, updM_same, hd', hne, by omega, hx⟩ fun b hb => updM_ne hb⟩
  refine ⟨_, .inl hd', fun e => ?_, fun e => ?_⟩
  · exact fin 0 (Int.le_refl _) hm
  · have e' := of_decide_eq_false e
    rw [List.length_map] at e'
    obtain ⟨x, hxm, hat, _⟩ := at_ints (xs := xs) h0 (by omega)
    exact ⟨_, _, .inl hd', hat, ⟨by decide, by decide⟩, hm, fin _ (Int.emod_nonneg _ (by omega)) (Int.emod_lt_of_pos _ hm)⟩
theorem hand_ne {M : MH} {h p : Addr} (hH : Hand M h) (np : M p = none) : h ≠ p := by
  obtain ⟨d, n, xs, h1, _⟩ := hH
  exact neM h1 np
/-- the hand stays where other things are made -/
theorem Hand.new {M : MH} {h p : Addr} {o : MO} (hH : Hand M h) (np : M p = none) : Hand (updM M p o) h := by
  obtain ⟨d, n, xs, h1, h2, h3⟩ := hH
  exact ⟨d, n, xs, (updM_ne (neM h1 np)).trans h1, (updM_ne (neM h2 np)).trans h2, h3⟩
theorem Hand.sub {M M' : MH} {h : Addr} (hH : Hand M h) (s : Sub M M') : Hand M' h := by
  obtain ⟨d, n, xs, h1, h2, h3⟩ := hH
  exact ⟨d, n, xs, s _ _ h1, s _ _ h2, h3⟩
end L3

namespace L3
open PySem PySem.Spec PyProof.Rows L2
/-! ### lists and rows of ints as data -/
theorem pys_ints {M : MH} : ∀ xs : List Int, Pys M (xs.map D.int) (xs.map PyData.int)
  | [] => .nil
  | x :: xs => .cons (.int x) (pys_ints xs)
theorem lay_ints : ∀ xs : List Int, PyData.canLayAll0 (xs.map PyData.int) = true
  | [] => by simp [PyData.canLayAll0]
  | x :: xs => by simp [PyData.canLayAll0, PyData.canLay0, lay_ints xs]
theorem depth_ints : ∀ xs : List Int, PyData.depthAll (xs.map PyData.int) ≤ 1
  | [] => by simp [PyData.depthAll]
  | x :: xs => by
    have := depth_ints xs
    simp only [List.map_cons, PyData.depthAll, PyData.depth]
    omega
theorem eqv_ints : ∀ xs ys : List Int, PyData.eqvAll (xs.map PyData.int) (ys.map PyData.int) = decide (xs = ys)
  | [], [] => by simp [PyData.eqvAll]
  | [], y :: ys => by simp [PyData.eqvAll]
  | x :: xs, [] => by simp [PyData.eqvAll]
  | x :: xs, y :: ys => by
    simp only [List.map_cons, PyData.eqvAll, PyData.eqv, eqv_ints xs ys]
    by_cases h : x = y
    · subst h; simp
    · simp [h]
theorem shaped_of {d : PyData} (h1 : d.canLay0 = true) (h2 : d.depth ≤ 64) : SeqAt.shaped d = true := by
  show (d.canLay0 && decide (d.depth ≤ 64)) = true
  rw [h1, decide_eq_true h2]
  rfl
theorem shaped_ints (xs : List Int) : SeqAt.shaped (.list (xs.map PyData.int)) = true :=
  shaped_of (by simp only [PyData.canLay0]; exact lay_ints xs) (by have := depth_ints xs; simp only [PyData.depth]; omega)
theorem shaped_row (xs : List Int) : SeqAt.shaped (.tuple (xs.map PyData.int)) = true :=
  shaped_of (by simp only [PyData.canLay0]; exact lay_ints xs) (by have := depth_ints xs; simp only [PyData.depth]; omega)
/-- a row of ints -/
def rowD (r : List Int) : D := .tup (r.map D.int)
def rowP (r : List Int) : PyData := .tuple (r.map PyData.int)
theorem pys_rows {M : MH} : ∀ rs : List (List Int), Pys M (rs.map rowD) (rs.map rowP)
  | [] => .nil
  | r :: rs => .cons (.tup (pys_ints r)) (pys_rows rs)
theorem lay_rows : ∀ rs : List (List Int), PyData.canLayAll0 (rs.map rowP) = true
  | [] => by simp [PyData.canLayAll0]
  | r :: rs => by simp [PyData.canLayAll0, PyData.canLay0, rowP, lay_ints r]; exact lay_rows rs
theorem depth_rows : ∀ rs : List (List Int), PyData.depthAll (rs.map rowP) ≤ 2
  | [] => by simp [PyData.depthAll]
  | r :: rs => by
    have h1 := depth_rows rs
    have h2 := depth_ints r
    simp only [List.map_cons, PyData.depthAll, rowP, PyData.depth]
    omega
theorem shaped_rowsL (rs : List (List Int)) : SeqAt.shaped (.list (rs.map rowP)) = true :=
  shaped_of (by simp only [PyData.canLay0]; exact lay_rows rs) (by have := depth_rows rs; simp only [PyData.depth]; omega)
theorem shaped_rowsT (rs : List (List Int)) : SeqAt.shaped (.tuple (rs.map rowP)) = true :=
  shaped_of (by simp only [PyData.canLay0]; exact lay_rows rs) (by have := depth_rows rs; simp only [PyData.depth]; omega)
theorem eqv_row (r s : List Int) : PyData.eqv (rowP r) (rowP s) = decide (r = s) := by
  unfold rowP
  simp only [PyData.eqv]
  exact eqv_ints r s
theorem any_rows (r : List Int) : ∀ rs : List (List Int), ((rs.map rowP).any fun z => PyData.eqv z (rowP r)) = decide (r ∈ rs)
  | [] => by simp
  | s :: rs => by
    rw [List.map_cons, List.any_cons, eqv_row, any_rows r rs]
    by_cases h : s = r
    · subst h; simp
    · have h' : ¬ r = s := fun z => h z.symm
      simp [h, h']
/-- row in rows -/
theorem in_rows {neg : Bool} {M : MH} {Q : Q3} {e : D} {r : List Int} {rs : List (List Int)} (h : Seq3 M (rs.map rowD) e) (q : Q (.bl (neg ^^ decide (r ∈ rs))) M) : r3In neg (rowD r) e M Q := by
  unfold r3In
  exact ⟨rowP r, rs.map rowD, rs.map rowP, .tup (pys_ints r), h, pys_rows rs, shaped_row r, shaped_rowsL rs, shaped_rowsT rs, by rw [any_rows]; exact q⟩
theorem any_ints (x : Int) : ∀ xs : List Int, ((xs.map PyData.int).any fun z => PyData.eqv z (.int x)) = decide (x ∈ xs)
  | [] => by simp
  | y :: xs => by
    rw [List.map_cons, List.any_cons, any_ints x xs]
    simp only [PyData.eqv]
    by_cases h : y = x
    · subst h; simp
    · have h' : ¬ x = y := fun z => h z.symm
      simp [h, h']
theorem in_ints {neg : Bool} {M : MH} {Q : Q3} {e : D} {x : Int} {xs : List Int} (h : Seq3 M (xs.map D.int) e) (q : Q (.bl (neg ^^ decide (x ∈ xs))) M) : r3In neg (.int x) e M Q := by
  unfold r3In
  exact ⟨.int x, xs.map D.int, xs.map PyData.int, .int x, h, pys_ints xs, shaped_of (by simp [PyData.canLay0]) (by simp [PyData.depth]), shaped_ints xs, shaped_row xs, by rw [any_ints]; exact q⟩
/-- lists of ints compared -/
theorem eq_lists {M : MH} {Q : Q3} {a b : Addr} {xs ys : List Int} (ha : LstM M a (xs.map D.int)) (hb : LstM M b (ys.map D.int)) (q : Q (.bl (decide (xs = ys))) M) : r3Eq (.ref a) (.ref b) M Q := by
  unfold r3Eq
  exact ⟨_, _, .ref ha (pys_ints xs), .ref hb (pys_ints ys), shaped_ints xs, shaped_ints ys, by simp only [PyData.eqv]; rw [eqv_ints]; exact q⟩
theorem ne_lists {M : MH} {Q : Q3} {a b : Addr} {xs ys : List Int} (ha : LstM M a (xs.map D.int)) (hb : LstM M b (ys.map D.int)) (q : Q (.bl (!decide (xs = ys))) M) : r3Ne (.ref a) (.ref b) M Q := by
  unfold r3Ne
  exact ⟨_, _, .ref ha (pys_ints xs), .ref hb (pys_ints ys), shaped_ints xs, shaped_ints ys, by simp only [PyData.eqv]; rw [eqv_ints]; exact q⟩
/-! ### numbers -/
/-- is_number -/
def isNum (d : D) (lo hi : Int) : Bool := match d with | .int i => decide (lo ≤ i) && decide (i ≤ hi) | _ => false
/-- a value by itself -/
def Own : D → Prop
  | .ref _ | .ty _ => False
  | _ => True
def tyName : D → String
  | .non => "NoneType" | .bl _ => "bool" | .int _ => "int" | .str _ => "str" | .tup _ => "tuple" | _ => ""
theorem ty_own {M : MH} {d : D} (h : Own d) : tyD M d (tyName d) := by
  cases d <;> first | rfl | exact h.elim
def tIsNumber : S3 :=
    (s3Ret (e3And (e3CB c3Isi (a3Cons (e3Var 0) (a3Cons (e3C (.ty "int")) a3Nil))) (e3And (e3Not (e3CB c3Isi (a3Cons (e3Var 0) (a3Cons (e3C (.ty "bool")) a3Nil)))) (e3Chain r3Le r3Le (e3Var 1) (e3Var 0) (e3Var 2)))))
/-- the type of a value: list or dict by what is known -/
def TyKnown (M : MH) (d : D) : Prop := ∃ n, tyD M d n ∧ (n = tyName d ∨ n = "list" ∨ n = "dict") ∧ ((∃ a, d = .ref a) ∨ n = tyName d)
theorem own_known {M : MH} {d : D} (h : Own d) : TyKnown M d := ⟨tyName d, ty_own h, .inl rfl, .inr rfl⟩
theorem lst_known {M : MH} {a : Addr} {ds : List D} (h : LstM M a ds) : TyKnown M (.ref a) := ⟨"list", .inl ⟨rfl, ds, h⟩, .inr (.inl rfl), .inl ⟨a, rfl⟩⟩
def spIsNumber : Sp3 := fun ds M Q _ => ∃ (d : D) (lo hi : Int), ds = [d, .int lo, .int hi] ∧ TyKnown M d ∧ Q (.bl (isNum d lo hi)) M
theorem isi_int {M : MH} {Q : Q3} {d : D} (h : TyKnown M d) (q1 : ∀ i, d = .int i → Q (.bl true) M) (q2 : ∀ b, d = .bl b → Q (.bl true) M) (q3 : (∀ i, d ≠ .int i) → (∀ b, d ≠ .bl b) → Q (.bl false) M) : c3Isi [d, .ty "int"] M Q := by
  obtain ⟨n, hn, _, h3⟩ := h
  unfold c3Isi
  cases d with
  | int i => exact ⟨"int", true, rfl, by decide +kernel, q1 i rfl⟩
  | bl b => exact ⟨"bool", true, rfl, by decide +kernel, q2 b rfl⟩
  | non => exact ⟨_, false, rfl, by decide +kernel, q3 (by intro i z; cases z) (by intro i z; cases z)⟩
  | str x => exact ⟨_, false, rfl, by decide +kernel, q3 (by intro i z; cases z) (by intro i z; cases z)⟩
  | tup x => exact ⟨_, false, rfl, by decide +kernel, q3 (by intro i z; cases z) (by intro i z; cases z)⟩
  | ref a =>
    rcases hn with ⟨rfl, h⟩ | ⟨rfl, h⟩
    · exact ⟨"list", false, .inl ⟨rfl, h⟩, by decide +kernel, q3 (by intro i z; cases z) (by intro i z; cases z)⟩
    · exact ⟨"dict", false, .inr ⟨rfl, h⟩, by decide +kernel, q3 (by intro i z; cases z) (by intro i z; cases z)⟩
  | ty x => exact hn.elim
theorem isi_bool {M : MH} {Q : Q3} {d : D} (h : TyKnown M d) (q2 : ∀ b, d = .bl b → Q (.bl true) M) (q3 : (∀ b, d ≠ .bl b) → Q (.bl false) M) : c3Isi [d, .ty "bool"] M Q := by
  obtain ⟨n, hn, _, h3⟩ := h
  unfold c3Isi
  cases d with
  | int i => exact ⟨"int", false, rfl, by decide +kernel, q3 (by intro i z; cases z)⟩
  | bl b => exact ⟨"bool", true, rfl, by decide +kernel, q2 b rfl⟩
  | non => exact ⟨_, false, rfl, by decide +kernel, q3 (by intro i z; cases z)⟩
  | str x => exact ⟨_, false, rfl, by decide +kernel, q3 (by intro i z; cases z)⟩
  | tup x => exact ⟨_, false, rfl, by decide +kernel, q3 (by intro i z; cases z)⟩
  | ref a =>
    rcases hn with ⟨rfl, h⟩ | ⟨rfl, h⟩
    · exact ⟨"list", false, .inl ⟨rfl, h⟩, by decide +kernel, q3 (by intro i z; cases z)⟩
    · exact ⟨"dict", false, .inr ⟨rfl, h⟩, by decide +kernel, q3 (by intro i z; cases z)⟩
  | ty x => exact hn.elim
theorem isi_tuple {M : MH} {Q : Q3} {d : D} (h : TyKnown M d) (q2 : ∀ b, d = .tup b → Q (.bl true) M) (q3 : (∀ b, d ≠ .tup b) → Q (.bl false) M) : c3Isi [d, .ty "tuple"] M Q := by
  obtain ⟨n, hn, _, h3⟩ := h
  unfold c3Isi
  cases d with
  | int i => exact ⟨"int", false, rfl, by decide +kernel, q3 (by intro i z; cases z)⟩
  | tup b => exact ⟨"tuple", true, rfl, by decide +kernel, q2 b rfl⟩
  | non => exact ⟨_, false, rfl, by decide +kernel, q3 (by intro i z; cases z)⟩
  | str x => exact ⟨_, false, rfl, by decide +kernel, q3 (by intro i z; cases z)⟩
  | bl x => exact ⟨_, false, rfl, by decide +kernel, q3 (by intro i z; cases z)⟩
  | ref a =>
    rcases hn with ⟨rfl, h⟩ | ⟨rfl, h⟩
    · exact ⟨"list", false, .inl ⟨rfl, h⟩, by decide +kernel, q3 (by intro i z; cases z)⟩
    · exact ⟨"dict", false, .inr ⟨rfl, h⟩, by decide +kernel, q3 (by intro i z; cases z)⟩
  | ty x => exact hn.elim
theorem isi_str {M : MH} {Q : Q3} {d : D} (h : TyKnown M d) (q2 : ∀ b, d = .str b → Q (.bl true) M) (q3 : (∀ b, d ≠ .str b) → Q (.bl false) M) : c3Isi [d, .ty "str"] M Q := by
  obtain ⟨n, hn, _, h3⟩ := h
  unfold c3Isi
  cases d with
  | int i => exact ⟨"int", false, rfl, by decide +kernel, q3 (by intro i z; cases z)⟩
  | str b => exact ⟨"str", true, rfl, by decide +kernel, q2 b rfl⟩
  | non => exact ⟨_, false, rfl, by decide +kernel, q3 (by intro i z; cases z)⟩
  | tup x => exact ⟨_, false, rfl, by decide +kernel, q3 (by intro i z; cases z)⟩
  | bl x => exact ⟨_, false, rfl, by decide +kernel, q3 (by intro i z; cases z)⟩
  | ref a =>
    rcases hn with ⟨rfl, h⟩ | ⟨rfl, h⟩
    · exact ⟨"list", false, .inl ⟨rfl, h⟩, by decide +kernel, q3 (by intro i z; cases z)⟩
    · exact ⟨"dict", false, .inr ⟨rfl, h⟩, by decide +kernel, q3 (by intro i z; cases z)⟩
  | ty x => exact hn.elim
theorem rdIsNumber : Rd3 ["value", "least", "most"] tIsNumber spIsNumber := by
  rintro ds M Q E ⟨d, lo, hi, rfl, hk, q⟩
  conv => whnf
  refine isi_int hk ?_ ?_ ?_
  · intro i e
    subst e
    refine Br.tt ?_
    conv => whnf
    refine isi_bool hk (fun b e => nomatch e) ?_
    intro _
    refine Br.tt ⟨fun e1 => ?_, fun e1 => ?_⟩
    · refine ⟨M, Sub.refl _, ?_⟩
      have : isNum (.int i) lo hi = decide (i ≤ hi) := by
        show (decide (lo ≤ i) && decide (i ≤ hi)) = _
        rw [e1]; rfl
      rw [this] at q
      exact q
    · refine ⟨M, Sub.refl _, ?_⟩
      have : isNum (.int i) lo hi = false := by
        show (decide (lo ≤ i) && decide (i ≤ hi)) = _
        rw [e1]; rfl
      rw [this] at q
      exact q
  · intro b e
    subst e
    refine Br.tt ?_
    conv => whnf
    refine isi_bool hk ?_ ?_
    · exact fun b' e => Br.ff ⟨M, Sub.refl _, q⟩
    · exact fun h => absurd rfl (h b)
  · intro h1 h2
    refine Br.ff ⟨M, Sub.refl _, ?_⟩
    have : isNum d lo hi = false := by
      cases d with
      | int i => exact absurd rfl (h1 i)
      | _ => rfl
    rw [this] at q
    exact q
def tWhole : S3 :=
    (s3Ret (e3And (e3CB c3Isi (a3Cons (e3Var 0) (a3Cons (e3C (.ty "int")) a3Nil))) (e3Not (e3CB c3Isi (a3Cons (e3Var 0) (a3Cons (e3C (.ty "bool")) a3Nil))))))
def isIntD : D → Bool
  | .int _ => true
  | _ => false
def spWhole : Sp3 := fun ds M Q _ => ∃ d, ds = [d] ∧ TyKnown M d ∧ Q (.bl (isIntD d)) M
theorem rdWhole : Rd3 ["found"] tWhole spWhole := by
  rintro ds M Q E ⟨d, rfl, hk, q⟩
  conv => whnf
  refine isi_int hk ?_ ?_ ?_
  · intro i e
    subst e
    refine Br.tt ?_
    conv => whnf
    refine isi_bool hk (fun b e => nomatch e) ?_
    exact fun _ => ⟨M, Sub.refl _, q⟩
  · intro b e
    subst e
    refine Br.tt ?_
    conv => whnf
    refine isi_bool hk ?_ ?_
    · exact fun b' e => ⟨M, Sub.refl _, q⟩
    · exact fun h => absurd rfl (h b)
  · intro h1 h2
    refine Br.ff ⟨M, Sub.refl _, ?_⟩
    have : isIntD d = false := by
      cases d with
      | int i => exact absurd rfl (h1 i)
      | _ => rfl
    rw [this] at q
    exact q

theorem eq_int {M : MH} {Q : Q3} {i j : Int} (q : Q (.bl (decide (i = j))) M) : r3Eq (.int i) (.int j) M Q := by unfold r3Eq; exact q
theorem ne_int {M : MH} {Q : Q3} {i j : Int} (q : Q (.bl (!decide (i = j))) M) : r3Ne (.int i) (.int j) M Q := by unfold r3Ne; exact q
theorem eq_bl {M : MH} {Q : Q3} {i j : Bool} (q : Q (.bl (i == j)) M) : r3Eq (.bl i) (.bl j) M Q := by unfold r3Eq; exact q
theorem ne_bl {M : MH} {Q : Q3} {i j : Bool} (q : Q (.bl (!(i == j))) M) : r3Ne (.bl i) (.bl j) M Q := by unfold r3Ne; exact q
theorem eq_str {M : MH} {Q : Q3} {i j : Str} (q : Q (.bl (decide (i = j))) M) : r3Eq (.str i) (.str j) M Q := by unfold r3Eq; exact q
theorem ne_str {M : MH} {Q : Q3} {i j : Str} (q : Q (.bl (!decide (i = j))) M) : r3Ne (.str i) (.str j) M Q := by unfold r3Ne; exact q
/-- what is known, with one more object -/
theorem Sub.put {M M' : MH} {p : Addr} {o : MO} (s : Sub M M') (h : M' p = some o) : Sub (updM M p o) M' := fun b u e => by
  by_cases hb : b = p
  · subst hb
    rw [updM_same] at e
    cases e
    exact h
  · rw [updM_ne hb] at e
    exact s b u e
theorem rng_map {f : D → D} {g : Nat → D} {n : Nat} (h : ∀ i : Nat, f (.int (i : Int)) = g i) : (rngD 0 n).map f = (List.range n).map g := by
  unfold rngD
  rw [List.map_map]
  refine List.map_congr_left fun i _ => ?_
  show f (.int (0 + (i : Int))) = g i
  rw [Int.zero_add]
  exact h i
theorem cut_from1 (xs : List D) : cutD xs (some 1) none = xs.drop 1 := by
  unfold cutD
  rw [show HT.sIx xs.length 0 (some 1) = min 1 xs.length from HT.sIx_nat xs.length 0 1, HT.sIx_none]
  cases xs with
  | nil => rfl
  | cons x r =>
    rw [show min 1 (x :: r).length = 1 by rw [List.length_cons]; omega]
    show (List.take ((x :: r).length - 1) r) = r
    rw [List.length_cons, Nat.add_sub_cancel]
    exact List.take_length
end L3

namespace L3
open PySem PySem.Spec PyProof.Rows L2
section
variable {X : Cx} {e a b c o : Expr} {es : List Expr} {pos p : Pos} {t ta tb tc to te : E3} {u : A3} {K : Fg}
/-! ### methods of tuples -/
theorem sqd_at {pins : List (Addr × Obj)} {σ : L2.St} {H : Hp} {s : Shared} {p : Addr} {xs : List V} (I : Inv X pins σ H s) (h : SqD X.K H p xs) : s.TypeIs (.ref p) "tuple" ∧ ∃ ob, s.heap.get? p = some ob ∧ ob.dict = none := by
  obtain ⟨its, _, ht, _⟩ := I.tuple h.1
  refine ⟨ht.typeIs, ?_⟩
  rcases h.2 with ⟨ob, v, e, d⟩ | ⟨ob, e, _, d⟩
  · exact ⟨ob, (I.hok p _ e).1, d⟩
  · exact ⟨ob, I.kIn p ob e, d⟩
def tTM (K : Fg) (r : V → List V → Hp → VK → Prop) (to : TE) (t : TA) : TE := fun σ H Q => to σ H fun x H1 => (∃ p xs, x = .ref p ∧ SqD K H1 p xs) ∧ t σ H1 fun ys H2 => r x ys H2 Q
theorem pe_tmD {name : Str} {id : String} {r : V → List V → Hp → VK → Prop} {to : TE} {t : TA} {apos cpos : Pos} (slot : Slot "tuple" name id) (hty : typeOf (.builtin id) = pure (.type "method_descriptor")) (hm : MtR X id r) (ho : PE X o to) (ha : PA X (e :: es) t)
    (hbase : attributeBase o name X.env (eval o X.env) = eval o X.env)
    (hfew : ((backTo cpos (starEach (e :: es) X.env)).all (fun x => !x.1) && (backToKw cpos (keywordEach [] X.env)).all (fun x => x.1.isSome) && decide ((e :: es).length + ([] : List Keyword).length + (if ([] : List Keyword).isEmpty then 0 else 1) < 30)) = true)
    (hline : (apos.endLine == cpos.line) = true) (hs : starEach (e :: es) X.env = (false, eval e X.env) :: starEach es X.env) (hplain : (backTo cpos (starEach es X.env)).any (·.1) = false) :
    PE X (.Call (.Attribute o name apos) (e :: es) [] cpos) (tTM X.K r to t) := ⟨fun pins s σ H Q I h =>
  wpAny_Call_method_late hbase hfew hline rfl (thn (ho.run pins s σ H _ I h) fun v s1 ⟨x, H1, I1, r1, ⟨p, xs, ex, sq⟩, q1⟩ => by
    subst ex
    cases r1
    obtain ⟨h1, h2⟩ := sqd_at I1 sq
    refine ⟨"tuple", id, PySem.F.plainAttrs_tuple, slot, hty, h1, fun a ea => (by cases ea; exact h2), ?_⟩
    have hA := ha.run cpos pins s1 σ H1 _ I1 q1
    rw [hs] at hA ⊢
    exact Calls.callWith_builtin (by show (false || (backTo cpos (starEach es X.env)).any (·.1)) = false; rw [hplain] <;> rfl) (Calls.evalArgs_plain (thn hA fun us s2 ⟨vs, H2, I2, r2, q2⟩ => hm pins s2 σ H2 (.ref p) vs (.ref p) us Q I2 rfl r2 q2)))⟩
def e3Tm (m : List D → List D → MH → Q3 → Prop) (to : E3) (u : A3) : E3 := fun W env M Q => to W env M fun od M1 => match od with
  | .tup ys => u W env M1 fun xs M2 => m ys xs M2 Q
  | _ => False
def MtT (K : Fg) (r : V → List V → Hp → VK → Prop) (m : List D → List D → MH → Q3 → Prop) : Prop := ∀ ys p zs xs vs H M Q Q2, SqT K H p zs → Rvs K H ys zs → Rvs K H xs vs → Abs K M H → m ys xs M Q → Got K H Q Q2 → r (.ref p) vs H Q2
theorem d_tm {name : Str} {id : String} {r : V → List V → Hp → VK → Prop} {m : List D → List D → MH → Q3 → Prop} {apos cpos : Pos} (slot : Slot "tuple" name id) (hty : typeOf (.builtin id) = pure (.type "method_descriptor")) (hm : MtR X id r) (hl : MtT X.K r m) (ho : DE X o to) (ha : DA X (e :: es) u)
    (hbase : attributeBase o name X.env (eval o X.env) = eval o X.env)
    (hfew : ((backTo cpos (starEach (e :: es) X.env)).all (fun x => !x.1) && (backToKw cpos (keywordEach [] X.env)).all (fun x => x.1.isSome) && decide ((e :: es).length + ([] : List Keyword).length + (if ([] : List Keyword).isEmpty then 0 else 1) < 30)) = true)
    (hline : (apos.endLine == cpos.line) = true) (hs : starEach (e :: es) X.env = (false, eval e X.env) :: starEach es X.env) (hplain : (backTo cpos (starEach es X.env)).any (·.1) = false) :
    DE X (.Call (.Attribute o name apos) (e :: es) [] cpos) (e3Tm m to u) := fun W2 tk => (pe_tmD slot hty hm (ho W2 tk) (ha W2 tk) hbase hfew hline hs hplain).imp fun σ H Q2 ⟨env, M, W, Q, s, a, l, q, g⟩ => by
  refine ⟨env, M, W, _, s, a, l, q, fun od v H1 M1 t1 a1 r1 q1 => ?_⟩
  split at q1
  · obtain ⟨p, zs, rfl, sq, rz⟩ := r1.tup_invD
    exact ⟨⟨p, zs, rfl, sq⟩, env, M1, W, _, s.mono t1, a1, l.mono t1, q1, fun xs ws H2 M2 t2 a2 r2 q2 => hl _ p zs xs ws H2 M2 Q Q2 (t2.seq sq.1) (rz.mono t2) r2 a2 q2 (g.mono (t1.trans t2))⟩
  · exact q1.elim
/-! ### t.index(i), l.index(i) -/
theorem ints_flat (ns : List Int) : (ns.map V.int).all flatV = true := by
  rw [List.all_map]
  exact List.all_eq_true.mpr fun _ _ => rfl
theorem idx_first : ∀ {ns : List Int} {z : Int} {m : Nat} {y : Int}, m < ns.idxOf z → ns[m]? = some y → y ≠ z
  | n :: ns, z, m, y, h, e => by
    rw [List.idxOf_cons] at h
    by_cases hz : (n == z) = true
    · rw [hz] at h
      simp at h
    · have hz' : (n == z) = false := by simpa using hz
      rw [hz'] at h
      cases m with
      | zero =>
        simp at e
        subst e
        simpa using hz
      | succ m => exact idx_first (ns := ns) (z := z) (m := m) (by simpa using h) (by simpa using e)
theorem idx_at {ns : List Int} {z : Int} (h : z ∈ ns) : ns[ns.idxOf z]? = some z := by
  have hl := List.idxOf_lt_length_iff.mpr h
  rw [List.getElem?_eq_getElem hl, List.getElem_idxOf hl]
theorem mt_tix : MtR X "tuple.index" (fun x xs H Q => ∃ p, ∃ ns : List Int, ∃ z, x = .ref p ∧ xs = [.int z] ∧ SqT X.K H p (ns.map V.int) ∧ z ∈ ns ∧ Q (.int (ns.idxOf z : Nat)) H) := by
  rintro pins s σ H x xs v us Q I rx rs ⟨p, ns, z, rfl, rfl, hq, hz, q⟩
  cases rx
  obtain ⟨u, rfl, t, rfl⟩ := vals1 rs
  obtain ⟨its, r, ⟨⟨cls, dd, dt, sl⟩, ho, hc, n, hd⟩, _⟩ := I.tuple hq
  simp only at hc hd
  subst hc hd
  have many : its.length = ns.length := by rw [← r.length, List.length_map]
  have at_ : ∀ (m : Nat) (hm : m < its.toArray.size) (y : Int), ns[m]? = some y → ∃ k, its.toArray[m] = Value.int y k := fun m hm y e => by
    obtain ⟨w, hw, k, hk⟩ := r.get (i := m) (x := .int y) (by rw [List.getElem?_map, e]; rfl)
    refine ⟨k, ?_⟩
    rw [← hk, ← (List.getElem?_eq_some_iff.mp hw).2]
    simp
  have hj : ns.idxOf z < its.toArray.size := by rw [List.size_toArray, many]; exact List.idxOf_lt_length_iff.mpr hz
  refine call_meets PySem.F.slot_tuple_index ⟨_, ho, rfl⟩ PySem.F.entry_tuple_index (PySem.F.args_tuple_index_2 _ _) (TI.tuple_indexAt p its.toArray n dd sl (.int z t) (eqU (.int z)) (ns.idxOf z) hj ?_ ?_)
    ⟨ho, fun w hw => mem_eqAt (x := .int z) ⟨t, rfl⟩ rfl r (ints_flat ns) w (by simpa using hw), .int (ns.idxOf z : Nat), H, I.tok _, ⟨_, rfl⟩, q⟩
  · obtain ⟨k, e⟩ := at_ _ hj z (idx_at hz)
    rw [e]
    exact beq_self_eq_true z
  · intro m hm hlt
    have hm' : m < ns.length := by rw [← many]; simpa using hm
    obtain ⟨k, e⟩ := at_ m hm ns[m] (List.getElem?_eq_getElem hm')
    rw [e]
    exact beq_eq_false_iff_ne.mpr (idx_first hlt (List.getElem?_eq_getElem hm'))
def m3Tix : List D → List D → MH → Q3 → Prop
  | ys, [.int z], M, Q => ∃ ns : List Int, ys = ns.map D.int ∧ z ∈ ns ∧ Q (.int (ns.idxOf z : Nat)) M
  | _, _, _, _ => False
theorem mt_tix3 : MtT X.K (fun x xs H Q => ∃ p, ∃ ns : List Int, ∃ z, x = .ref p ∧ xs = [.int z] ∧ SqT X.K H p (ns.map V.int) ∧ z ∈ ns ∧ Q (.int (ns.idxOf z : Nat)) H) m3Tix := by
  intro ys p zs xs vs H M Q Q2 sq rz rx a q g
  unfold m3Tix at q
  split at q
  · obtain ⟨ns, rfl, hz, q⟩ := q
    obtain ⟨v, rfl, rr⟩ := one_inv rx
    rw [rr.int_inv]
    rw [Rvs.intsV rz] at sq
    exact ⟨p, ns, _, rfl, rfl, sq, hz, g _ _ H M (Tps.refl H) a Rv.int q⟩
  · exact q.elim
theorem d_tix {apos cpos : Pos} (ho : DE X o to) (ha : DA X [e] u) (hbase : attributeBase o "index" X.env (eval o X.env) = eval o X.env := by rfl)
    (hfew : ((backTo cpos (starEach (e :: []) X.env)).all (fun x => !x.1) && (backToKw cpos (keywordEach [] X.env)).all (fun x => x.1.isSome) && decide ((e :: []).length + ([] : List Keyword).length + (if ([] : List Keyword).isEmpty then 0 else 1) < 30)) = true := by rfl)
    (hline : (apos.endLine == cpos.line) = true := by rfl) (hs : starEach (e :: []) X.env = (false, eval e X.env) :: starEach [] X.env := by rfl) (hplain : (backTo cpos (starEach [] X.env)).any (·.1) = false := by rfl) :
    DE X (.Call (.Attribute o "index" apos) [e] [] cpos) (e3Tm m3Tix to u) := d_tm PySem.F.slot_tuple_index PySem.F.type_tuple_index mt_tix mt_tix3 ho ha hbase hfew hline hs hplain
def m3Lix (l : Addr) : List D → MH → Q3 → Prop
  | [.int z], M, Q => ∃ ns : List Int, LstM M l (ns.map D.int) ∧ z ∈ ns ∧ Q (.int (ns.idxOf z : Nat)) M
  | _, _, _ => False
theorem mt_lix3 : MtL K (rIndex K) m3Lix := by
  intro l xs vs H M Q Q2 r a q g
  unfold m3Lix at q
  split at q
  · obtain ⟨ns, hl, hz, q⟩ := q
    obtain ⟨v, rfl, rr⟩ := one_inv r
    obtain ⟨ws, hs, hw⟩ := a.rd hl
    rw [Rvs.intsV hw] at hs
    rw [rr.int_inv]
    refine ⟨l, ns.map V.int, _, ns.idxOf _, .int _, rfl, rfl, hs, rfl, ints_flat ns, by rw [List.getElem?_map, idx_at hz]; rfl, beq_self_eq_true _, fun m z' hlt e => ?_, g _ _ H M (Tps.refl H) a Rv.int q⟩
    rw [List.getElem?_map] at e
    cases e2 : ns[m]? with
    | none => rw [e2] at e; cases e
    | some y =>
      rw [e2] at e
      cases e
      exact beq_eq_false_iff_ne.mpr (idx_first hlt e2)
  · exact q.elim
theorem d_lix {apos cpos : Pos} (ho : DE X o to) (ha : DA X [e] u) (hbase : attributeBase o "index" X.env (eval o X.env) = eval o X.env := by rfl)
    (hfew : ((backTo cpos (starEach (e :: []) X.env)).all (fun x => !x.1) && (backToKw cpos (keywordEach [] X.env)).all (fun x => x.1.isSome)
      && decide ((e :: []).length + ([] : List Keyword).length + (if ([] : List Keyword).isEmpty then 0 else 1) < 30)) = true := by rfl)
    (hline : (apos.endLine == cpos.line) = true := by rfl) (hs : starEach (e :: []) X.env = (false, eval e X.env) :: starEach [] X.env := by rfl) (hplain : (backTo cpos (starEach [] X.env)).any (·.1) = false := by rfl) :
    DE X (.Call (.Attribute o "index" apos) [e] [] cpos) (e3Bm m3Lix to u) := d_bm PySem.F.slot_list_index PySem.F.type_list_index mt_index mt_lix3 ho ha hbase hfew hline hs hplain
/-! ### repr(x) -/
def Shw (d : PyData) : Prop := d.showable = true ∧ d.hasDict = false ∧ d.depth ≤ 100 ∧ d.shown.length ≤ sizeLine
def rRepr (K : Fg) : List V → Hp → VK → Prop := fun vs H Q => ∃ v d, vs = [v] ∧ Dp K H v d ∧ Shw d ∧ Q (.str d.shown) H
theorem cr_reprU (hr : RoomU X.A) : CallR X (.builtin "repr") (rRepr X.K) := by
  rintro pins s σ H xs us Q I r ⟨v, d, rfl, hd, ⟨h1, h2, h3, h4⟩, q⟩
  obtain ⟨w, rfl, rv⟩ := vals1 r
  have big : ∀ {a : Addr} {as : List Addr}, w = .ref a → Reads s.heap (.ref a) d as → wpAny (model X.prog X.w) X.A (call (.builtin "repr") [w]) (EP X pins σ Q) X.xe s := fun e rd => by
    subst e
    exact repr_of_reads' rd h1 (fun z => absurd z (by rw [h2]; decide)) hr.g (by have := hr.un; omega) (fun _ _ e => e) (fun h' u tk hk => ⟨.str d.shown, H, I.kept hk, ⟨_, rfl⟩, q⟩) h4
  obtain ⟨as, rd⟩ := Dp.reads I d v w hd rv
  cases hd with
  | non =>
    cases (show w = .none from rv)
    exact PySem.P.repr_of_none ⟨.str _, H, I.tok _, ⟨_, rfl⟩, q⟩
  | bl b =>
    cases (show w = .bool b from rv)
    exact PySem.P.repr_of_bool ⟨.str _, H, I.tok _, ⟨_, rfl⟩, q⟩
  | int i =>
    obtain ⟨t, rfl⟩ := rv
    exact PySem.P.repr_of_int (by simpa [PyData.showable] using h1) ⟨.str _, H, I.tok _, ⟨_, rfl⟩, q⟩
  | str x =>
    obtain ⟨t, rfl⟩ := rv
    exact PySem.P.repr_of_str ⟨.str _, H, I.tok _, ⟨_, rfl⟩, q⟩ h4
  | lst hs ha => cases (show w = .ref _ from rv); exact big rfl rd
  | tup hs ha => cases (show w = .ref _ from rv); exact big rfl rd
theorem cr_repr {k : Nat} (hr : RoomG k X.A) : CallR X (.builtin "repr") (rRepr X.K) := cr_reprU hr.low
@[irreducible] def c3Repr : List D → MH → Q3 → Prop := fun ds M Q => ∃ d p, ds = [d] ∧ Py M d p ∧ Shw p ∧ Q (.str p.shown) M
theorem repr_is {M : MH} {Q : Q3} {d : D} {p : PyData} (h : Py M d p) (s : Shw p) (q : Q (.str p.shown) M) : c3Repr [d] M Q := by
  unfold c3Repr
  exact ⟨d, p, rfl, h, s, q⟩
theorem cl_repr : CallL K (rRepr K) c3Repr := by
  intro ds vs H M Q Q2 r a q g
  unfold c3Repr at q
  obtain ⟨d, p, rfl, hp, s, q⟩ := q
  obtain ⟨v, rfl, rr⟩ := one_inv r
  exact ⟨v, p, rfl, Py.dp a p d v hp rr, s, g _ _ H M (Tps.refl H) a Rv.str q⟩
theorem boot_repr' : bootBuiltins "repr" = some (.builtin "repr") := by decide +kernel
theorem d_repr {k : Nat} (hr : RoomG k X.A) (hm : X.mg "repr" = none) (ha : DA X [e] u) (hg : Gl X "repr" := by rfl) (he : starEach (e :: []) X.env = (false, eval e X.env) :: starEach [] X.env := by rfl) (hpl : (backTo pos (starEach [] X.env)).any (·.1) = false := by rfl) : DE X (.Call (.Name "repr" p) [e] [] pos) (e3CB c3Repr u) :=
  d_cb (cr_repr hr) cl_repr hg hm boot_repr' ha (by decide) (by decide) he hpl
mutual
def smallP : PyData → Bool
  | .none | .bool _ => true
  | .int i => decide (i.natAbs < 1000000000)
  | .str x => x.cps.toList.all fun c => decide (c < 16 ^ 8)
  | .list xs | .tuple xs => smallPs xs
  | .dict _ => false
def smallPs : List PyData → Bool
  | [] => true
  | x :: xs => smallP x && smallPs xs
end
mutual
theorem small_show : ∀ p : PyData, smallP p = true → p.showable = true ∧ p.hasDict = false ∧ p.leavesShort 10 = true
  | .none, _ => ⟨rfl, rfl, rfl⟩
  | .bool _, _ => ⟨rfl, rfl, rfl⟩
  | .int i, h => by
    have h' : i.natAbs < 1000000000 := by simpa [smallP] using h
    refine ⟨?_, by simp [PyData.hasDict], ?_⟩
    · simp only [PyData.showable, decide_eq_true_eq]
      have : i.natAbs.log2 < 30 := by
        by_cases h0 : i.natAbs = 0
        · rw [h0]; decide
        · exact (Nat.log2_lt h0).mpr (by omega)
      omega
    · simp only [PyData.leavesShort, decide_eq_true_eq]
      have e2 : (PyData.int i).shown.length = (toString i).length := by
        show (Str.ofString (toString i)).length = _
        exact PySem.ofString_length _
      rw [e2]
      exact int_text_length_le10 (k := 9) (by decide) h'
  | .str x, h => ⟨by simp [PyData.showable], by simp [PyData.hasDict], by simpa only [PyData.leavesShort, smallP] using h⟩
  | .list xs, h => by
    obtain ⟨a, b, c⟩ := smalls_show xs (by simpa [smallP] using h)
    exact ⟨by simpa [PyData.showable] using a, by simpa [PyData.hasDict] using b, by simpa [PyData.leavesShort] using c⟩
  | .tuple xs, h => by
    obtain ⟨a, b, c⟩ := smalls_show xs (by simpa [smallP] using h)
    exact ⟨by simpa [PyData.showable] using a, by simpa [PyData.hasDict] using b, by simpa [PyData.leavesShort] using c⟩
  | .dict _, h => by simp [smallP] at h
theorem smalls_show : ∀ ps : List PyData, smallPs ps = true → PyData.showableAll ps = true ∧ PyData.hasDictAll ps = false ∧ PyData.leavesShortAll 10 ps = true
  | [], _ => by simp [PyData.showableAll, PyData.hasDictAll, PyData.leavesShortAll]
  | x :: xs, h => by
    have h' : smallP x = true ∧ smallPs xs = true := by simpa [smallPs] using h
    obtain ⟨a, b, c⟩ := small_show x h'.1
    obtain ⟨a', b', c'⟩ := smalls_show xs h'.2
    simp [PyData.showableAll, PyData.hasDictAll, PyData.leavesShortAll, a, b, c, a', b', c']
end
theorem shw_of {p : PyData} (h : smallP p = true) (hd : p.depth ≤ 100) (hw : p.weight ≤ 2 ^ 20) : Shw p := by
  obtain ⟨a, b, c⟩ := small_show p h
  exact ⟨a, b, hd, PyData.shown_fits (B := 10) (by decide) (by decide) c hw⟩
/-! ### values without lists -/
mutual
def pyOf : D → PyData
  | .bl b => .bool b
  | .int i => .int i
  | .str x => .str x
  | .tup ds => .tuple (pysOf ds)
  | _ => .none
def pysOf : List D → List PyData
  | [] => []
  | d :: ds => pyOf d :: pysOf ds
end
mutual
def pureD : D → Bool
  | .non | .bl _ | .int _ | .str _ => true
  | .tup ds => pureDs ds
  | _ => false
def pureDs : List D → Bool
  | [] => true
  | d :: ds => pureD d && pureDs ds
end
mutual
theorem py_of {M : MH} : ∀ d : D, pureD d = true → Py M d (pyOf d)
  | .non, _ => by unfold pyOf; exact .non
  | .bl b, _ => by unfold pyOf; exact .bl b
  | .int i, _ => by unfold pyOf; exact .int i
  | .str x, _ => by unfold pyOf; exact .str x
  | .tup ds, h => by unfold pyOf; exact .tup (pys_of ds (by simpa [pureD] using h))
  | .ref _, h => by simp [pureD] at h
  | .ty _, h => by simp [pureD] at h
theorem pys_of {M : MH} : ∀ ds : List D, pureDs ds = true → Pys M ds (pysOf ds)
  | [], _ => by unfold pysOf; exact .nil
  | d :: ds, h => by
    have h' : pureD d = true ∧ pureDs ds = true := by simpa [pureDs] using h
    unfold pysOf
    exact .cons (py_of d h'.1) (pys_of ds h'.2)
end
end
end L3

namespace L3
open PySem PySem.Spec PyProof.Rows L2
/-! ### data that may be shown: by depth and weight -/
structure Fit (k w : Nat) (d : D) : Prop where
  pu : pureD d = true
  sm : smallP (pyOf d) = true
  dp : (pyOf d).depth ≤ k
  wt : (pyOf d).weight ≤ w
theorem Fit.mono {k w k' w' : Nat} {d : D} (h : Fit k w d) (hk : k ≤ k') (hw : w ≤ w') : Fit k' w' d := ⟨h.pu, h.sm, Nat.le_trans h.dp hk, Nat.le_trans h.wt hw⟩
theorem fit_non {k w : Nat} : Fit k w .non := ⟨rfl, rfl, by simp [pyOf, PyData.depth], by simp [pyOf, PyData.weight]⟩
theorem fit_bl {k w : Nat} {b : Bool} : Fit k w (.bl b) := ⟨rfl, rfl, by simp [pyOf, PyData.depth], by simp [pyOf, PyData.weight]⟩
theorem fit_int {k w : Nat} {i : Int} (h : i.natAbs < 1000000000) (hw : 30 ≤ w) : Fit k w (.int i) := by
  refine ⟨rfl, by simpa [pyOf, smallP] using h, by simp [pyOf, PyData.depth], ?_⟩
  simp only [pyOf, PyData.weight]
  split
  · exact Nat.zero_le _
  · rename_i h0
    have h0' : i.natAbs ≠ 0 := by
      intro z
      exact h0 (by simpa using Int.natAbs_eq_zero.mp z)
    have := (Nat.log2_lt h0' (k := 30)).mpr (by omega)
    omega
theorem smalls_all : ∀ {ds : List D}, (∀ x ∈ ds, smallP (pyOf x) = true) → smallPs (pysOf ds) = true
  | [], _ => by simp [pysOf, smallPs]
  | d :: ds, h => by
    simp only [pysOf, smallPs, Bool.and_eq_true]
    exact ⟨h d List.mem_cons_self, smalls_all fun x hx => h x (List.mem_cons_of_mem _ hx)⟩
theorem pures_all : ∀ {ds : List D}, (∀ x ∈ ds, pureD x = true) → pureDs ds = true
  | [], _ => by simp [pureDs]
  | d :: ds, h => by
    simp only [pureDs, Bool.and_eq_true]
    exact ⟨h d List.mem_cons_self, pures_all fun x hx => h x (List.mem_cons_of_mem _ hx)⟩
theorem depths_all {k : Nat} : ∀ {ds : List D}, (∀ x ∈ ds, (pyOf x).depth ≤ k) → PyData.depthAll (pysOf ds) ≤ k
  | [], _ => by simp [pysOf, PyData.depthAll]
  | d :: ds, h => by
    have h1 := h d List.mem_cons_self
    have h2 := depths_all (k := k) fun x hx => h x (List.mem_cons_of_mem d hx)
    simp only [pysOf, PyData.depthAll]
    omega
theorem weights_all {w : Nat} : ∀ {ds : List D}, (∀ x ∈ ds, (pyOf x).weight ≤ w) → PyData.weightAll (pysOf ds) ≤ ds.length * (w + 1)
  | [], _ => by simp [pysOf, PyData.weightAll]
  | d :: ds, h => by
    have h1 := h d List.mem_cons_self
    have h2 := weights_all (w := w) fun x hx => h x (List.mem_cons_of_mem d hx)
    simp only [pysOf, PyData.weightAll, List.length_cons]
    have : (ds.length + 1) * (w + 1) = ds.length * (w + 1) + (w + 1) := by rw [Nat.add_mul, Nat.one_mul]
    omega
theorem fit_tup {k w n : Nat} {ds : List D} (h : ∀ x ∈ ds, Fit k w x) (hl : ds.length ≤ n) {w' : Nat} (hw : n * (w + 1) ≤ w') {k' : Nat} (hk : k + 1 ≤ k') : Fit k' w' (.tup ds) := by
  refine ⟨?_, ?_, ?_, ?_⟩
  · simp only [pureD]; exact pures_all fun x hx => (h x hx).pu
  · simp only [pyOf, smallP]; exact smalls_all fun x hx => (h x hx).sm
  · have := depths_all (k := k) fun x hx => (h x hx).dp
    simp only [pyOf, PyData.depth]
    omega
  · have h1 := weights_all (w := w) fun x hx => (h x hx).wt
    have h2 : ds.length * (w + 1) ≤ n * (w + 1) := Nat.mul_le_mul_right _ hl
    simp only [pyOf, PyData.weight]
    omega
theorem fit_row {n : Nat} {r : List Int} (h : ∀ x ∈ r, x.natAbs < 1000000000) (hl : r.length ≤ n) : Fit 1 (n * 31) (rowD r) := by
  refine fit_tup (k := 0) (w := 30) (n := n) (fun x hx => ?_) (by simpa using hl) (Nat.le_refl _) (Nat.le_refl _)
  obtain ⟨i, hi, rfl⟩ := List.mem_map.mp hx
  exact fit_int (h i hi) (Nat.le_refl _)
theorem repr_fit {M : MH} {Q : Q3} {d : D} {k w : Nat} (h : Fit k w d) (q : Q (.str (pyOf d).shown) M) (hk : k ≤ 100 := by decide) (hw : w ≤ 1048576 := by decide) : c3Repr [d] M Q :=
  repr_is (py_of d h.pu) (shw_of h.sm (Nat.le_trans h.dp hk) (Nat.le_trans h.wt hw)) q
/-! ### the hand, exactly -/
structure HandD (M : MH) (h d : Addr) (n : Int) : Prop where
  own : M h = some (.lst [.ref d, .int n])
  ne : d ≠ h
  n0 : 0 ≤ n
  ex : ∃ xs : List Int, M d = some (.lst (xs.map D.int)) ∧ ∀ x ∈ xs, (0 : Int) ≤ x
def setH (M : MH) (h d : Addr) (n : Int) : MH := updM M h (.lst [.ref d, .int n])
section
variable {M M' : MH} {h d p : Addr} {n m : Int} {o : MO}
theorem setH_at : setH M h d n h = some (.lst [.ref d, .int n]) := updM_same
theorem setH_ne {b : Addr} (e : b ≠ h) : setH M h d n b = M b := updM_ne e
theorem setH_setH : setH (setH M h d n) h d m = setH M h d m := updM_updM
theorem HandD.self (z : HandD M h d n) : setH M h d n = M := by
  funext b
  by_cases e : b = h
  · subst e; rw [setH_at, z.own]
  · exact setH_ne e
theorem HandD.set (z : HandD M h d n) (m0 : 0 ≤ m) : HandD (setH M h d m) h d m := ⟨setH_at, z.ne, m0, by
  obtain ⟨xs, e, q⟩ := z.ex
  exact ⟨xs, (setH_ne z.ne).trans e, q⟩⟩
theorem HandD.sub (z : HandD M h d n) (s : Sub M M') : HandD M' h d n := ⟨s _ _ z.own, z.ne, z.n0, by
  obtain ⟨xs, e, q⟩ := z.ex
  exact ⟨xs, s _ _ e, q⟩⟩
/-- the hand goes on, beside what was made -/
theorem subH (s : Sub (setH M h d n) M') : Sub (setH M h d m) (setH M' h d m) := fun b u e => by
  by_cases hb : b = h
  · subst hb
    rw [setH_at] at e ⊢
    exact e
  · rw [setH_ne hb] at e ⊢
    exact s b u ((setH_ne hb).trans e)
theorem HandD.at_ (z : HandD M h d n) (s : Sub (setH M h d m) M') (m0 : 0 ≤ m) : HandD M' h d m := (z.set m0).sub s
theorem HandD.start (z : HandD M h d n) : Sub (setH M h d n) M := by rw [z.self]; exact Sub.refl M
theorem free_h (s : Sub (setH M h d n) M') (np : M' p = none) : p ≠ h := by
  intro e
  subst e
  rw [s _ _ setH_at] at np
  cases np
theorem free_old (s : Sub (setH M h d n) M') (np : M' p = none) : M p = none := by
  have e := s.free np
  rwa [setH_ne (free_h s np)] at e
end
def spTakeD : Sp3 := fun ds M Q _ => ∃ (h d : Addr) (n m : Int), ds = [.ref h, .int m] ∧ HandD M h d n ∧ 0 < m ∧ ∀ v, 0 ≤ v → v < m → Q (.int v) (setH M h d (n + 1))
theorem rdTakeD : Rd3 NTake tTake spTakeD := by
  rintro ds M Q E ⟨h, d, n, m, rfl, z, hm, q⟩
  obtain ⟨xs, hd, hx⟩ := z.ex
  refine ⟨_, .int n, .inl z.own, rfl, _, 1, z.own, rfl, _, .ref d, .inl updM_same, rfl, ?_⟩
  have hd' : (updM M h (.lst [.ref d, .int (n + 1)])) d = some (.lst (xs.map D.int)) := (updM_ne z.ne).trans hd
  refine ⟨_, .inl hd', fun e => ?_, fun e => ?_⟩
  · exact ⟨_, Sub.refl _, q 0 (Int.le_refl _) hm⟩
  · have e' := of_decide_eq_false e
    rw [List.length_map] at e'
    obtain ⟨x, hxm, hat, _⟩ := at_ints (xs := xs) z.n0 (by omega)
    exact ⟨_, _, .inl hd', hat, ⟨by decide, by decide⟩, hm, ⟨_, Sub.refl _, q _ (Int.emod_nonneg _ (by omega)) (Int.emod_lt_of_pos _ hm)⟩⟩
/-- hand = [draws, 0] -/
theorem hand_new {M : MH} {d h : Addr} {xs : List Int} (nd : M d = none) (hx : ∀ x ∈ xs, (0 : Int) ≤ x) (nh : updM M d (.lst (xs.map D.int)) h = none) : HandD (updM (updM M d (.lst (xs.map D.int))) h (.lst [.ref d, .int 0])) h d 0 := by
  have ne : d ≠ h := by
    intro e
    subst e
    rw [updM_same] at nh
    cases nh
  exact ⟨updM_same, ne, Int.le_refl _, xs, (updM_ne ne).trans updM_same, hx⟩
/-! ### order = [k for k in range(many)], with drawn exchanges -/
def rngI (n : Nat) : List Int := (List.range n).map fun k : Nat => (k : Int)
theorem rngI_D (n : Nat) : rngD 0 n = (rngI n).map D.int := by
  unfold rngD rngI
  rw [List.map_map]
  exact List.map_congr_left fun i _ => by
    show D.int (0 + (i : Int)) = _
    rw [Int.zero_add]; rfl
theorem rngI_length {n : Nat} : (rngI n).length = n := by unfold rngI; simp
theorem mem_rngI {n : Nat} {x : Int} : x ∈ rngI n ↔ 0 ≤ x ∧ x < n := by
  unfold rngI
  rw [List.mem_map]
  constructor
  · rintro ⟨k, hk, rfl⟩
    have := List.mem_range.mp hk
    omega
  · rintro ⟨h0, h1⟩
    obtain ⟨k, rfl⟩ := Int.eq_ofNat_of_zero_le h0
    exact ⟨k, List.mem_range.mpr (by omega), rfl⟩
/-- an order of 0 .. m - 1 -/
def Ord (m : Nat) (l : List Int) : Prop := l.Perm (rngI m)
theorem Ord.len {m : Nat} {l : List Int} (h : Ord m l) : l.length = m := h.length_eq.trans rngI_length
theorem Ord.mem {m : Nat} {l : List Int} (h : Ord m l) {x : Int} : x ∈ l ↔ 0 ≤ x ∧ x < m := h.mem_iff.trans mem_rngI
theorem Ord.swap {m : Nat} {l : List Int} (h : Ord m l) {i j : Nat} (hi : i < l.length) (hj : j < l.length) : Ord m ((l.set i l[j]).set j l[i]) := (List.set_set_perm hi hj).trans h
def tOrder (sp : Sp3) : S3 :=
    (s3Seq (s3Asg (e3Lc (i3Rng1 (a3Cons (e3Var 1) a3Nil)) 3 t3Yes (e3Var 3) [3]) 2)
    (s3Seq (s3For (i3Rng1 (a3Cons (e3Var 1) a3Nil)) (g3Name 3) (s3Seq (s3Asg (e3Call sp (a3Cons (e3Var 0) (a3Cons (e3Var 1) a3Nil))) 4)
    (s3Seq (s3Asg (e3Op r3Ix (e3Var 2) (e3Var 3)) 5)
    (s3Seq (s3AsgG (e3Op r3Ix (e3Var 2) (e3Var 4)) (g3SubL (e3Var 2) (e3Var 3)))
    (s3AsgG (e3Var 5) (g3SubL (e3Var 2) (e3Var 4)))))))
    (s3Ret (e3TupOf (e3Var 2)))))
abbrev NOrder : List Str := ["hand", "many", "order", "k", "at", "kept"]
def spOrder : Sp3 := fun ds M Q _ => ∃ (h d : Addr) (n : Int) (m : Nat), ds = [.ref h, .int (m : Int)] ∧ HandD M h d n ∧ 1 ≤ m ∧ m ≤ 100000 ∧ ∀ l n', Ord m l → 0 ≤ n' → Q (rowD l) (setH M h d n')
theorem ixN_nat {n i : Nat} (h : i < n) : ixN n (i : Int) = some i := by
  unfold ixN
  rw [if_pos (by omega), if_pos (by omega)]
  simp
theorem get_map {l : List Int} {i : Nat} (h : i < l.length) : (l.map D.int)[i]? = some (.int l[i]) := by
  rw [List.getElem?_map, List.getElem?_eq_getElem h]; rfl
theorem rdOrder : Rd3 NOrder (tOrder spTakeD) spOrder := by
  rintro ds M Q E ⟨h, d, n, m, rfl, z, m1, m2, q⟩
  refine ⟨by omega, by omega, fun p np => lcMap id np (fun _ _ => trivial) (fun k x M' R hd s k2 => k2 M' (Sub.refl _)) (szLt (by rw [rngD_length]; omega)) fun M1 s1 h1 => ?_⟩
  rw [List.map_id, Int.toNat_natCast, rngI_D] at h1
  refine ⟨by omega, by omega, fun i env' M' => ∃ (s3 s4 s5 : Option D) (l : List Int) (n' : Int), env' = [some (.ref h), some (.int m), some (.ref p), s3, s4, s5] ∧ 0 ≤ n' ∧ Sub (setH M h d n') M' ∧ M' p = some (.lst (l.map D.int)) ∧ Ord m l, ?_, ?_, ?_⟩
  · exact ⟨_, _, _, rngI m, n, rfl, z.n0, by rw [z.self]; exact s1, h1, List.Perm.refl _⟩
  · rintro i x env' M' hd ⟨s3, s4, s5, l, n', rfl, n0, sub, hp, ord⟩
    obtain ⟨hi, rfl⟩ := rngD_get hd
    rw [Int.toNat_natCast] at hi
    rw [Int.zero_add]
    have hne : p ≠ h := by
      intro e
      subst e
      rw [sub _ _ setH_at] at hp
      injection hp with hp
      injection hp with hp
      have := ord.len
      match l, hp with
      | [a, b], hp => cases hp
    refine ⟨trivial, h, d, n', m, rfl, z.at_ sub n0, by omega, fun v v0 v1 => ?_⟩
    obtain ⟨j, rfl⟩ := Int.eq_ofNat_of_zero_le v0
    have hi' : i < l.length := by rw [ord.len]; exact hi
    have hj' : j < l.length := by rw [ord.len]; omega
    have hp2 : setH M' h d (n' + 1) p = some (.lst (l.map D.int)) := (setH_ne hne).trans hp
    refine ⟨_, _, .inl hp2, atI_nat (get_map hi'), _, _, .inl hp2, atI_nat (get_map hj'), _, i, hp2, by rw [List.length_map]; exact ixN_nat hi', ?_⟩
    rw [← List.map_set]
    refine ⟨_, j, updM_same, by rw [List.length_map, List.length_set]; exact ixN_nat hj', ?_⟩
    rw [← List.map_set, updM_updM]
    refine ⟨_, _, _, _, n' + 1, rfl, by omega, ?_, updM_same, ord.swap hi' hj'⟩
    refine Sub.new (subH sub) ?_
    rw [setH_ne hne]
    exact np
  · rintro env' M' ⟨s3, s4, s5, l, n', rfl, n0, sub, hp, ord⟩
    exact ⟨trivial, _, .inl hp, _, sub, q l n' ord n0⟩
/-- a comprehension whose items are drawn -/
theorem lcHand {ds : List D} {i : Nat} {te : E3} {env : En} {p h d : Addr} {M M1 : MH} {n : Int} {Q : MH → Prop} (P : D → Prop) (sub0 : Sub (setH M h d n) M1) (n0 : 0 ≤ n) (np : M1 p = none)
    (he : ∀ (k : Nat) (x : D) (M' : MH) (n' : Int) (R : Q3), ds[k]? = some x → 0 ≤ n' → Sub (setH M h d n') M' → (∀ y n2, P y → 0 ≤ n2 → R y (setH M' h d n2)) → te W0 (env.set i (some x)) M' R) (hsz : ds.length < sizeLine)
    (hq : ∀ (acc : List D) (M' : MH) (n' : Int), acc.length = ds.length → (∀ y ∈ acc, P y) → 0 ≤ n' → Sub (setH M h d n') M' → M' p = some (.lst acc) → Q M') : LoopC ds True3 i t3Yes te env p M1 Q := by
  have ph : p ≠ h := free_h sub0 np
  have mp : M p = none := free_old sub0 np
  refine ⟨fun k acc M' => acc.length = k ∧ (∀ y ∈ acc, P y) ∧ k ≤ ds.length ∧ ∃ n', 0 ≤ n' ∧ Sub (setH M h d n') M', ⟨rfl, by simp, Nat.zero_le _, n, n0, sub0.new (sub0.free np)⟩, ?_, ?_⟩
  · rintro k x acc M' hx ⟨rfl, hp, hk, n', n0', sub⟩ hM
    have hlt : acc.length < ds.length := (List.getElem?_eq_some_iff.mp hx).1
    refine ⟨trivial, Br.tt (he acc.length x M' n' _ hx n0' sub fun y n2 py n20 => ⟨acc, (setH_ne ph).trans hM, Nat.lt_trans hlt hsz, by simp, fun z hz => ?_, hlt, n2, n20, Sub.new (subH sub) (by rw [setH_ne ph]; exact mp)⟩)⟩
    rcases List.mem_append.mp hz with hz | hz
    · exact hp z hz
    · rw [List.mem_singleton] at hz
      rw [hz]; exact py
  · rintro acc M' ⟨hl, hp, _, n', n0', sub⟩ hM
    exact ⟨trivial, hq acc M' n' hl hp n0' sub hM⟩
end L3

namespace L3
open PySem PySem.Spec PyProof.Rows L2
section
variable {X : Cx} {e a b c o : Expr} {es : List Expr} {pos p : Pos} {t ta tb tc to te : E3} {u : A3} {K : Fg} {st : Stmt} {sts body : List Stmt} {s1 s2 : S3} {tA tB : T3}
/-! ### while -/
def s3While (tt : T3) (tb : S3) : S3 := fun W D env M => ∃ Inv : Nat → En → MH → Prop, (∃ n, Inv n env M) ∧ ∀ n env' M', Inv n env' M' → tt W env' M' fun b M2 => Br b
  (tb W { nx := fun e2 M3 => ∃ n', n' < n ∧ Inv n' e2 M3, rt := D.rt, bk := D.nx, ct := fun e2 M3 => ∃ n', n' < n ∧ Inv n' e2 M3 } env' M2) (D.nx env' M2)
theorem ds_while (hc : DT X c tA) (hb : DSs X body s1) : DS X (.While c body [] pos) (s3While tA s1) := fun W2 tk hp => (ps_while hp (hc W2 tk) (hb W2 tk hp)).imp fun D2 σ H ⟨env, M, W, D3, s, a, l, ⟨Iv, ⟨n0, i0⟩, turn⟩, le⟩ => by
  refine ⟨fun n σ' H' => ∃ env' M', Tps H H' ∧ SE X.K H' σ' env' ∧ Abs X.K M' H' ∧ Iv n env' M', ⟨n0, env, M, Tps.refl H, s, a, i0⟩, ?_⟩
  rintro n σ' H' ⟨env', M', t', s', a', i'⟩
  refine ⟨env', M', W, _, s', a', l.mono t', turn n env' M' i', fun b H1 M1 t1 a1 q1 => ?_⟩
  have tt := t'.trans t1
  cases b with
  | true =>
    show if true = true then _ else _
    rw [if_pos rfl]
    have back : Nxt X.K H1 (fun e2 M3 => ∃ n', n' < n ∧ Iv n' e2 M3) fun σ2 H2 => ∃ n', n' < n ∧ ∃ env2 M2, Tps H H2 ∧ SE X.K H2 σ2 env2 ∧ Abs X.K M2 H2 ∧ Iv n' env2 M2 := fun σ2 H2 env2 M2 t2 s2 a2 ⟨n', hn, i2⟩ => ⟨n', hn, env2, M2, tt.trans t2, s2, a2, i2⟩
    exact ⟨fun σ2 H2 => ∃ n', n' < n ∧ ∃ env2 M2, Tps H H2 ∧ SE X.K H2 σ2 env2 ∧ Abs X.K M2 H2 ∧ Iv n' env2 M2, fun _ _ z => z, env', M1, W, _, s'.mono t1, a1, l.mono tt, q1.1 rfl, ⟨back, le.rt.mono tt, le.nx.mono tt, back⟩⟩
  | false =>
    show if false = true then _ else _
    rw [if_neg Bool.false_ne_true]
    exact le.nx σ' H1 env' M1 tt (s'.mono t1) a1 (q1.2 rfl)
/-! ### enumerate of a tuple -/
def IteT (K : Fg) (a : Addr) : It :=
  ⟨fun i H => ∃ (xs : List V) (x : V), SqT K H a xs ∧ xs[i]? = some x, fun i H v H' => ∃ T x o, v = .ref T ∧ H T = none ∧ o.dict = none ∧ H' = upd H T (.frz o (.tup [.int (i : Nat), x])) ∧ ∀ xs, SqT K H a xs → xs[i]? = some x, fun i H => ∃ xs : List V, SqT K H a xs ∧ xs.length = i⟩
theorem turn_enumT {P : Program} {w : World} {K : Fg} {elts : List Expr} {kk : Nat} {tpos : Pos} (a e it : Addr) (n1 : e ≠ it) (n2 : a ≠ it) (n3 : e ≠ a) :
    Turn P w K (.Tuple elts kk tpos) (IteT K a) [e, it] e (fun i h => (∃ old, IsEnum h e it ((i : Nat) : Int) old) ∧ h.IsTupleIter it a i) where
  mem := List.mem_cons_self
  obj := fun i h ⟨⟨old, he⟩, o, ho, hc, hd⟩ b hb => by
    rcases List.mem_cons.mp hb with rfl | hb
    · exact ⟨_, he, fun v q => nomatch q⟩
    · rw [List.mem_singleton.mp hb]
      exact ⟨o, ho, fun v q => by rw [hd] at q; cases q⟩
  keep := fun i h h' ⟨⟨old, he⟩, hi⟩ k => ⟨⟨old, k e (by simp) _ he⟩, hi.at fun o q => k it (by simp) o q⟩
  item := by
    rintro X rfl rfl rfl hc i pins s σ H E I hf ⟨⟨old, he⟩, hit⟩ ⟨xs, x, hq, hx⟩
    obtain ⟨its, rv, p, hz⟩ := I.tuple hq
    obtain ⟨u, hu, ru⟩ := rv.get hx
    have small : ∀ b ∈ [e, it], b < s.heap.objs.size := fun b hb => by
      rcases List.mem_cons.mp hb with rfl | hb
      · exact Heap.lt_size he
      · rw [List.mem_singleton.mp hb]
        obtain ⟨_, q, _⟩ := hit
        exact Heap.lt_size q
    have hlt : i < its.toArray.size := by simpa using (List.getElem?_eq_some_iff.mp hu).1
    refine wpAny_pyNext_enum_itemD (Draws.tuple (A := X.A.in1) (I.ok.hd hc) it a n2 its.toArray) he ⟨hit, p⟩ hlt n1 (by simp [n1, n3]) fun y h1 tk hy out ⟨hit1, _⟩ hT hsz hk => ?_
    have hyu : y = u := by
      have e1 : its[i]? = some y := by simpa using hy
      rw [hu] at e1
      cases e1
      rfl
    subst hyu
    refine ⟨_, rfl, wpAny_letOwnedTupleGo_enum (s := { s with heap := h1, toks := tk + 1 }) out fun h2 he2 sb => ?_⟩
    have hT2 : h2.get? s.heap.objs.size = some { cls := .type "tuple", data := .seq #[.int i tk, y] } := (sb.2 _ (Nat.ne_of_gt (small e (by simp)))).trans hT
    have I1 : Inv X pins σ (upd H s.heap.objs.size (.frz { cls := .type "tuple", data := .seq #[.int i tk, y] } (.tup [.int (i : Nat), x]))) { s with heap := h2, toks := tk + 1 } :=
      I.turnedNew (ch := [e, it]) (fun b ob hb q => (sb.2 b (fun z => hb (by simp [z]))).trans (hk b ob (fun z => hb (by simp [z])) (fun z => hb (by simp [z])) q)) hf (Nat.le_refl _)
        ⟨hT2, by show 2 ≤ sizeLine; decide, [.int i tk, y], .cons ⟨_, rfl⟩ (.cons ru .nil), ⟨_, hT2, rfl, _, rfl⟩⟩
    refine ⟨.ref s.heap.objs.size, _, I1, rfl, ⟨_, x, _, rfl, I.hok.fresh (Nat.le_refl _), rfl, rfl, fun ys hy => by rw [I.tuple_inj hy hq]; exact hx⟩, ⟨⟨y, by rw [show ((i + 1 : Nat) : Int) = (i : Int) + 1 by omega]; exact he2⟩, hit1.at fun o q => (sb.2 it (Ne.symm n1)).trans q⟩, fun b hb => ?_⟩
    rw [upd_ne (Nat.ne_of_lt (small b hb))]
    exact (hf b hb).1
  done := by
    rintro X rfl rfl rfl hc i pins s σ H E I hf ⟨⟨old, he⟩, hit⟩ ⟨xs, hq, rfl⟩
    obtain ⟨its, rv, p, hz⟩ := I.tuple hq
    obtain ⟨f0, f1, f2, f3, f4, f5⟩ := hf it (by simp)
    have hl : its.toArray.size = xs.length := List.size_toArray.trans rv.length.symm
    exact wpAny_pyNext_enum_endD (Draws.tuple (A := X.A.in1) (I.ok.hd hc) it a n2 its.toArray) he (by rw [hl]; exact ⟨hit, p⟩) fun h' eb => ⟨rfl, I.turned (t' := s.toks) (fun b o hb q => eb b o hb q) f0 f1 f3 f4 f5⟩
  self := fun A i s Q E ⟨⟨_, he⟩, _⟩ h => wpAny_pyIter_enum he h
open AutoSeq1 (wpAny_loadPart') in
theorem meets_enumT (l : Addr) (items : Array Value) (n : Nat) (dct : Option Addr) (sl : Array (Option Value)) :
    Meets (Builtin.«enumerate.__new__» ⟨[.type "enumerate", .ref l], []⟩) (fun _ R s => s.heap.get? l = some { cls := .type "tuple", dict := dct, data := .seq items n, slots := sl } ∧
      R (.ok (.ret (.ref (s.heap.push { cls := .type "tuple_iterator", data := .fields #[.ref l, .int 0 0] }).objs.size)))
        { s with heap := (s.heap.push { cls := .type "tuple_iterator", data := .fields #[.ref l, .int 0 0] }).push { cls := .type "enumerate", data := .fields #[.none, .bool false, .ref s.heap.objs.size, rawInt 0, .none, .none] } }) :=
  .of_wp fun prog w A R s ⟨hl, h⟩ => by
    obtain ⟨hp, g, d, tk, os⟩ := s
    have hsub := sub_enumerate
    have hT : Heap.IsTuple (Shared.heap ⟨hp, g, d, tk, os⟩) l items := ⟨_, hl, rfl, n, rfl⟩
    wp_walk using wpAny_loadPart' hl
    refine wpAny_stack_any fun st => wpAny_pure ?_
    split
    · rename_i c _ _ _ _ _
      cases (c == Value.type "enumerate") <;> (wp_walk using wpAny_loadPart' hl, wpAny_pyIter_tuple hT; exact ⟨_, rfl, h⟩)
    · wp_walk using wpAny_loadPart' hl, wpAny_pyIter_tuple hT
      exact ⟨_, rfl, h⟩
theorem call_enumT {prog : Program} {w : World} {A : Around} {E : Value → Shared → Prop} {s : Shared} {l : Addr} {items : Array Value} {Q : Value → Shared → Prop} (hL : s.heap.IsTuple l items)
    (h : ∀ h', IsEnum h' (s.heap.objs.size + 1) s.heap.objs.size 0 .none → h'.IsTupleIter s.heap.objs.size l 0 → (∀ b o, s.heap.get? b = some o → h'.get? b = some o) → Q (.ref (s.heap.objs.size + 1)) { s with heap := h' }) :
    wpAny (model prog w) A (call (.type "enumerate") [.ref l]) Q E s := by
  obtain ⟨⟨c, dct, dt, sl⟩, hl, hc, n, hd⟩ := hL
  cases (show c = .type "tuple" from hc)
  cases (show dt = .seq items n from hd)
  have two : ((s.heap.push { cls := .type "tuple_iterator", data := .fields #[.ref l, .int 0 0] }).push { cls := .type "enumerate", data := .fields #[.none, .bool false, .ref s.heap.objs.size, rawInt 0, .none, .none] }).get? (s.heap.objs.size + 1) =
      some { cls := .type "enumerate", data := .fields #[.none, .bool false, .ref s.heap.objs.size, rawInt 0, .none, .none] } := by
    have z := Heap.get?_push_size (s.heap.push { cls := .type "tuple_iterator", data := .fields #[.ref l, .int 0 0] }) (o := { cls := .type "enumerate", data := .fields #[.none, .bool false, .ref s.heap.objs.size, rawInt 0, .none, .none] }) rfl
    rw [Heap.size_push] at z
    exact z
  refine callType_new PySem.F.called_enumerate (by decide) (PySem.F.typeCall_enumerate_1 _) (PySem.F.newCall_enumerate_1 _) (fun obj => PySem.F.args_object_init_2 obj _) PySem.F.entry_enumerate_new (meets_enumT l items n dct sl) ⟨hl, ?_⟩
  rw [Heap.size_push]
  exact ⟨⟨_, two, rfl⟩, h _ two ⟨_, Heap.get?_push_of_some _ (Heap.get?_push_size _ rfl), rfl, rfl⟩ fun b o x => Heap.get?_push_of_some _ (Heap.get?_push_of_some _ x)⟩
def iEnumT (K : Fg) (ta : TA) : TI := fun σ H R => ta σ H fun vs H1 => ∃ a xs, vs = [.ref a] ∧ SqT K H1 a xs ∧ R (IteT K a) H1
theorem pi_enumT {ta : TA} {tpos : Pos} {elts : List Expr} {kk : Nat} (hg : Gl X "enumerate") (hm : X.mg "enumerate" = none) (ha : PA X [e] ta) (hs : starEach [e] X.env = [(false, eval e X.env)]) :
    PI X (.Tuple elts kk tpos) (.Call (.Name "enumerate" p) [e] [] pos) (iEnumT X.K ta) :=
  ⟨fun pins s σ H R I h => Call_ (ld_blt I hg hm boot_enumerate (PyProof.Rows.callWith_type1 (thn (ha.run pos pins s σ H _ I h) fun us s1 ⟨vs, H1, I1, r1, a, xs, ex, hq, q⟩ => by
    subst ex
    obtain ⟨v, rfl, rv⟩ := vals1 r1
    cases rv
    obtain ⟨its, rt, pl, hz⟩ := I1.tuple hq
    have ha : a < s1.heap.objs.size := by
      obtain ⟨o, ho, _⟩ := pl
      exact Heap.lt_size ho
    refine call_enumT (show s1.heap.IsTuple a its.toArray from pl) fun h' he hit hk => wpAny_pyIter_enum he ?_
    refine ⟨s1.heap.objs.size + 1, [s1.heap.objs.size + 1, s1.heap.objs.size], _, _, H1, rfl, I1.kept (t' := s1.toks) hk, turn_enumT a _ _ (Nat.succ_ne_self _) (Nat.ne_of_lt ha) (Nat.ne_of_gt (Nat.lt_succ_of_lt ha)), ⟨⟨.none, he⟩, hit⟩, fun b hb => ?_, q⟩
    have hle : s1.heap.objs.size ≤ b := by
      rcases List.mem_cons.mp hb with rfl | hb
      · exact Nat.le_add_right _ _
      · exact Nat.le_of_eq (List.mem_singleton.mp hb).symm
    exact I1.fpOk hle (I1.hok.fresh hle)) hs rfl))⟩
def enumD : Nat → List D → List D
  | _, [] => []
  | k, x :: xs => .tup [.int (k : Int), x] :: enumD (k + 1) xs
theorem enumD_length : ∀ {k : Nat} {xs : List D}, (enumD k xs).length = xs.length
  | _, [] => rfl
  | k, x :: xs => by rw [enumD, List.length_cons, enumD_length, List.length_cons]
theorem enumD_get : ∀ {k : Nat} {xs : List D} {i : Nat} {d : D}, (enumD k xs)[i]? = some d → ∃ x, xs[i]? = some x ∧ d = .tup [.int ((k + i : Nat) : Int), x]
  | _, [], i, d, h => by simp [enumD] at h
  | k, x :: xs, 0, d, h => by
    simp [enumD] at h
    exact ⟨x, rfl, h.symm⟩
  | k, x :: xs, i + 1, d, h => by
    obtain ⟨y, h1, h2⟩ := enumD_get (k := k + 1) (xs := xs) (i := i) (d := d) (by simpa [enumD] using h)
    refine ⟨y, h1, h2.trans ?_⟩
    rw [show k + 1 + i = k + (i + 1) by omega]
theorem itok_enumT {H : Hp} {p : Addr} {ds : List D} {vs : List V} (hs : SqT K H p vs) (hv : Rvs K H ds vs) : ItOk K H (enumD 0 ds) True3 (IteT K p) where
  step := fun i d H' M' hd t a _ => by
    obtain ⟨x, hx, rfl⟩ := enumD_get hd
    obtain ⟨v, hv', r⟩ := hv.get hx
    refine ⟨⟨vs, v, t.seq hs, hv'⟩, ?_⟩
    rintro y H2 ⟨T, z, ob, rfl, nT, dT, rfl, hz⟩
    have e := hz vs (t.seq hs)
    rw [hv'] at e
    cases e
    rw [Nat.zero_add]
    exact ⟨Tps.new nT, a.tupN nT, Rv.tup (SqD.of dT) (Rvs.cons Rv.int (Rvs.cons ((r.mono t).mono (Tps.new nT)) Rvs.nil))⟩
  stop := fun H' M' t a _ => ⟨vs, t.seq hs, by rw [enumD_length]; exact hv.length.symm⟩
def i3Enum (u : A3) : I3 := fun W env M Q => u W env M fun ds M1 => match ds with
  | [.tup xs] => Q (enumD 0 xs) True3 M1
  | _ => False
theorem di_enumerate {elts : List Expr} {kk : Nat} {tpos : Pos} (hm : X.mg "enumerate" = none) (ha : DA X [e] u) (hg : Gl X "enumerate" := by rfl) (hs : starEach [e] X.env = [(false, eval e X.env)] := by rfl) : DI X (.Tuple elts kk tpos) (.Call (.Name "enumerate" p) [e] [] pos) (i3Enum u) := fun W2 tk =>
  (pi_enumT hg hm (ha W2 tk) hs).imp fun σ H R ⟨env, M, W, Q, s, a, l, q, k⟩ => ⟨env, M, W, _, s, a, l, q, fun ds vs H1 M1 t1 a1 r1 q1 => by
    split at q1
    · obtain ⟨v, rfl, rr⟩ := one_inv r1
      obtain ⟨p, ws, rfl, hs, hv⟩ := rr.tup_inv
      exact ⟨p, ws, rfl, hs, k _ _ _ H1 M1 t1 a1 q1 (itok_enumT hs hv)⟩
    · exact q1.elim⟩
end
end L3

namespace L3
open PySem PySem.Spec PyProof.Rows L2
section
variable {X : Cx} {e e2 a b c o : Expr} {es : List Expr} {pos p : Pos} {t ta tb tc to te : E3} {u : A3} {K : Fg}
/-! ### zip of two tuples -/
def IzD (K : Fg) (a b : Addr) : It :=
  ⟨fun i H => ∃ (xs ys : List V) (x y : V), SqT K H a xs ∧ SqT K H b ys ∧ xs[i]? = some x ∧ ys[i]? = some y,
   fun i H v H' => ∃ T x y ob, v = .ref T ∧ H T = none ∧ ob.dict = none ∧ H' = upd H T (.frz ob (.tup [x, y])) ∧ (∀ xs, SqT K H a xs → xs[i]? = some x) ∧ ∀ ys, SqT K H b ys → ys[i]? = some y,
   fun i H => ∃ xs ys : List V, SqT K H a xs ∧ SqT K H b ys ∧ (xs.length ≤ i ∨ ys.length ≤ i)⟩
theorem turn_zipD {P : Program} {w : World} {K : Fg} {elts : List Expr} {kk : Nat} {tpos : Pos} {a b z TI TO i1 i2 : Addr} (D : ZipApart z TI TO i1 i2 a b) :
    Turn P w K (.Tuple elts kk tpos) (IzD K a b) [z, TI, TO, i1, i2] z (fun i h => IsZip h z TI TO .none ∧ IsPair h TI (.ref i1) (.ref i2) ∧ (∃ x y, IsPair h TO x y) ∧ h.IsTupleIter i1 a i ∧ h.IsTupleIter i2 b i) where
  mem := List.mem_cons_self
  obj := (RZ.turn_zipT (K := K) (P := P) (w := w) (elts := elts) (kk := kk) (tpos := tpos) D).obj
  keep := (RZ.turn_zipT (K := K) (P := P) (w := w) (elts := elts) (kk := kk) (tpos := tpos) D).keep
  done := fun X hP hw hK hc i pins s σ H E I hf st hg => (RZ.turn_zipT (K := K) (P := P) (w := w) (elts := elts) (kk := kk) (tpos := tpos) D).done X hP hw hK hc i pins s σ H E I hf st hg
  self := (RZ.turn_zipT (K := K) (P := P) (w := w) (elts := elts) (kk := kk) (tpos := tpos) D).self
  item := by
    rintro X rfl rfl rfl hc i pins s σ H E I hf ⟨hz, hTI, ⟨x0, y0, hTO⟩, h1, h2⟩ ⟨xs, ys, x, y, hqx, hqy, hx, hy⟩
    obtain ⟨its, rv, p, _⟩ := I.tuple hqx
    obtain ⟨its2, rv2, p2, _⟩ := I.tuple hqy
    obtain ⟨v, hv, rx⟩ := rv.get hx
    obtain ⟨v2, hv2, ry⟩ := rv2.get hy
    have small : ∀ c ∈ [z, TI, TO, i1, i2], c < s.heap.objs.size := fun c hcm => by
      obtain ⟨ob, hob, _⟩ := (RZ.turn_zipT (K := X.K) (P := X.prog) (w := X.w) (elts := elts) (kk := kk) (tpos := tpos) D).obj i s.heap ⟨hz, hTI, ⟨x0, y0, hTO⟩, h1, h2⟩ c hcm
      exact Heap.lt_size hob
    refine RZ.pyNext_zipT_item D hz hTI hTO h1 h2 p p2 (x := v) (y := v2) (by simpa using hv) (by simpa using hv2) fun h3 z3 TO3 h13 h23 hT hsz hk => ?_
    refine ⟨_, rfl, wpAny_letOwnedTupleGo_zip (s := { s with heap := h3 }) z3 fun h4 z4 sb => ?_⟩
    have hT2 : IsPair h4 s.heap.objs.size v v2 := (sb.2 _ (Nat.ne_of_gt (small z (by simp)))).trans hT
    have kept : ∀ (c : Addr) (ob : Obj), c ∉ [z, TI, TO, i1, i2] → s.heap.get? c = some ob → h4.get? c = some ob := fun c ob hb q =>
      (sb.2 c (fun q' => hb (by simp [q']))).trans (hk c ob (fun q' => hb (by simp [q'])) (fun q' => hb (by simp [q'])) (fun q' => hb (by simp [q'])) (fun q' => hb (by simp [q'])) q)
    have I1 : Inv X pins σ (upd H s.heap.objs.size (.frz { cls := .type "tuple", data := .seq #[v, v2] } (.tup [x, y]))) { s with heap := h4 } :=
      I.turnedNew (t' := s.toks) (ch := [z, TI, TO, i1, i2]) kept hf (Nat.le_refl _) ⟨hT2, by show 2 ≤ sizeLine; decide, [v, v2], .cons rx (.cons ry .nil), ⟨_, hT2, rfl, _, rfl⟩⟩
    refine ⟨.ref s.heap.objs.size, _, I1, rfl, ⟨_, x, y, _, rfl, I.hok.fresh (Nat.le_refl _), rfl, rfl, fun l hl => by rw [I.tuple_inj hl hqx]; exact hx, fun l hl => by rw [I.tuple_inj hl hqy]; exact hy⟩,
      ⟨z4, (sb.2 _ D.TIz).trans (hk _ _ D.TIz D.TITO D.TIi1 D.TIi2 hTI), ⟨v, v2, (sb.2 _ D.TOz).trans TO3⟩, h13.at fun ob q => (sb.2 _ D.i1z).trans q, h23.at fun ob q => (sb.2 _ D.i2z).trans q⟩, fun c hcm => ?_⟩
    rw [upd_ne (Nat.ne_of_lt (small c hcm))]
    exact (hf c hcm).1
def iZipD (K : Fg) (ta : TA) : TI := fun σ H R => ta σ H fun vs H1 => ∃ a b xs ys, vs = [.ref a, .ref b] ∧ SqT K H1 a xs ∧ SqT K H1 b ys ∧ R (IzD K a b) H1
theorem pi_zipD {ta : TA} {tpos : Pos} {elts : List Expr} {kk : Nat} (hg : Gl X "zip") (hm : X.mg "zip" = none) (ha : PA X [e, e2] ta) (hs : starEach [e, e2] X.env = (false, eval e X.env) :: starEach [e2] X.env) (hpl : (backTo pos (starEach [e2] X.env)).any (·.1) = false) :
    PI X (.Tuple elts kk tpos) (.Call (.Name "zip" p) [e, e2] [] pos) (iZipD X.K ta) :=
  ⟨fun pins s σ H R I h => Call_ (ld_blt I hg hm PyProof.Rows.boot_zip (PyProof.Rows.callWith_type1 (thn (ha.run pos pins s σ H _ I h) fun us s1 ⟨vs, H1, I1, r1, a, b, xs, ys, ex, hqx, hqy, q⟩ => by
    subst ex
    obtain ⟨v, v2, rfl, rv, rv2⟩ := vals2 r1
    cases rv
    cases rv2
    obtain ⟨its, rt, p1, _⟩ := I1.tuple hqx
    obtain ⟨its2, rt2, p2, _⟩ := I1.tuple hqy
    have l1 : a < s1.heap.objs.size := by obtain ⟨ob, ho, _⟩ := p1; exact Heap.lt_size ho
    have l2 : b < s1.heap.objs.size := by obtain ⟨ob, ho, _⟩ := p2; exact Heap.lt_size ho
    refine RZ.call_zipT (show s1.heap.IsTuple a its.toArray from p1) (show s1.heap.IsTuple b its2.toArray from p2) fun h' hz hTI hTO h1 h2 hsz hk => wpAny_pyIter_zip hz ?_
    refine ⟨s1.heap.objs.size + 4, [s1.heap.objs.size + 4, s1.heap.objs.size + 2, s1.heap.objs.size + 3, s1.heap.objs.size, s1.heap.objs.size + 1], _, _, H1, rfl, I1.kept (t' := s1.toks) hk, turn_zipD (PySem.W.ktu_apart s1.heap.objs.size a b l1 l2), ⟨hz, hTI, ⟨_, _, hTO⟩, h1, h2⟩, fun c hcm => ?_, q⟩
    have hle : s1.heap.objs.size ≤ c := by
      simp only [List.mem_cons, List.not_mem_nil, or_false] at hcm
      rcases hcm with rfl | rfl | rfl | rfl | rfl <;> first | exact Nat.le_add_right _ _ | exact Nat.le_refl _
    exact I1.fpOk hle (I1.hok.fresh hle)) hs hpl))⟩
def zipD : List D → List D → List D
  | x :: xs, y :: ys => .tup [x, y] :: zipD xs ys
  | _, _ => []
theorem zipD_length : ∀ {xs ys : List D}, (zipD xs ys).length = min xs.length ys.length
  | [], ys => by simp [zipD]
  | x :: xs, [] => by simp [zipD]
  | x :: xs, y :: ys => by rw [zipD, List.length_cons, zipD_length, List.length_cons, List.length_cons]; omega
theorem zipD_get : ∀ {xs ys : List D} {i : Nat} {d : D}, (zipD xs ys)[i]? = some d → ∃ x y, xs[i]? = some x ∧ ys[i]? = some y ∧ d = .tup [x, y]
  | [], ys, i, d, h => by simp [zipD] at h
  | x :: xs, [], i, d, h => by simp [zipD] at h
  | x :: xs, y :: ys, 0, d, h => by simp [zipD] at h; exact ⟨x, y, rfl, rfl, h.symm⟩
  | x :: xs, y :: ys, i + 1, d, h => zipD_get (xs := xs) (ys := ys) (i := i) (by simpa [zipD] using h)
theorem itok_zipD {H : Hp} {p q : Addr} {ds es : List D} {vs ws : List V} (hs : SqT K H p vs) (hv : Rvs K H ds vs) (hs2 : SqT K H q ws) (hv2 : Rvs K H es ws) : ItOk K H (zipD ds es) True3 (IzD K p q) where
  step := fun i d H' M' hd t a _ => by
    obtain ⟨x, y, hx, hy, rfl⟩ := zipD_get hd
    obtain ⟨v, h1, r1⟩ := hv.get hx
    obtain ⟨v2, h2, r2⟩ := hv2.get hy
    refine ⟨⟨vs, ws, v, v2, t.seq hs, t.seq hs2, h1, h2⟩, ?_⟩
    rintro z H2 ⟨T, z1, z2, ob, rfl, nT, dT, rfl, k1, k2⟩
    have e1 := k1 vs (t.seq hs)
    have e2 := k2 ws (t.seq hs2)
    rw [h1] at e1
    rw [h2] at e2
    cases e1
    cases e2
    exact ⟨Tps.new nT, a.tupN nT, Rv.tup (SqD.of dT) (Rvs.cons ((r1.mono t).mono (Tps.new nT)) (Rvs.cons ((r2.mono t).mono (Tps.new nT)) Rvs.nil))⟩
  stop := fun H' M' t a _ => ⟨vs, ws, t.seq hs, t.seq hs2, by
    rw [zipD_length, ← hv.length, ← hv2.length]
    omega⟩
def i3Zip (u : A3) : I3 := fun W env M Q => u W env M fun ds M1 => match ds with
  | [.tup xs, .tup ys] => Q (zipD xs ys) True3 M1
  | _ => False
theorem di_zip {elts : List Expr} {kk : Nat} {tpos : Pos} (hm : X.mg "zip" = none) (ha : DA X [e, e2] u) (hg : Gl X "zip" := by rfl) (hs : starEach [e, e2] X.env = (false, eval e X.env) :: starEach [e2] X.env := by rfl) (hpl : (backTo pos (starEach [e2] X.env)).any (·.1) = false := by rfl) :
    DI X (.Tuple elts kk tpos) (.Call (.Name "zip" p) [e, e2] [] pos) (i3Zip u) := fun W2 tk =>
  (pi_zipD hg hm (ha W2 tk) hs hpl).imp fun σ H R ⟨env, M, W, Q, s, a, l, q, k⟩ => ⟨env, M, W, _, s, a, l, q, fun ds vs H1 M1 t1 a1 r1 q1 => by
    split at q1
    · obtain ⟨v, v2, rfl, ra, rb⟩ := two_inv r1
      obtain ⟨p, ws, rfl, hs, hv⟩ := ra.tup_inv
      obtain ⟨p2, ws2, rfl, hs2, hv2⟩ := rb.tup_inv
      exact ⟨p, p2, ws, ws2, rfl, hs, hs2, k _ _ _ H1 M1 t1 a1 q1 (itok_zipD hs hv hs2 hv2)⟩
    · exact q1.elim⟩
/-! ### sorted(ints), max, min -/
def c3Sorted : List D → MH → Q3 → Prop
  | [.ref l], M, Q => ∃ ns : List Int, LstM M l (ns.map D.int) ∧ ∀ (ms : List Int) (q : Addr), ms.Perm ns → ms.Pairwise (· ≤ ·) → M q = none → Q (.ref q) (updM M q (.lst (ms.map D.int)))
  | _, _, _ => False
theorem cl_sorted : CallL K (rSortedI K) c3Sorted := by
  intro ds vs H M Q Q2 r a q g
  unfold c3Sorted at q
  split at q
  · obtain ⟨v, rfl, rr⟩ := one_inv r
    cases rr.ref_inv
    obtain ⟨ns, hl, q⟩ := q
    obtain ⟨ws, hs, hw⟩ := a.rd hl
    rw [Rvs.intsV hw] at hs
    exact ⟨_, ns, rfl, hs, fun ms q' hp hs' nq => g _ _ _ _ (Tps.new nq) (a.lstN nq Rvs.ints) Rv.ref (q ms q' hp hs' (a.fresh nq))⟩
  · exact q.elim
theorem d_sorted (hm : X.mg "sorted" = none) (ha : DA X [e] u) (hg : Gl X "sorted" := by rfl) (he : starEach (e :: []) X.env = (false, eval e X.env) :: starEach [] X.env := by rfl) (hpl : (backTo pos (starEach [] X.env)).any (·.1) = false := by rfl) : DE X (.Call (.Name "sorted" p) [e] [] pos) (e3CB c3Sorted u) :=
  d_cb cr_sortedI cl_sorted hg hm boot_sorted' ha (by decide) (by decide) he hpl
def c3Max : List D → MH → Q3 → Prop
  | [.int i, .int j], M, Q => Q (.int (if j > i then j else i)) M
  | _, _, _ => False
def c3Min : List D → MH → Q3 → Prop
  | [.int i, .int j], M, Q => Q (.int (if j < i then j else i)) M
  | _, _, _ => False
theorem cl_max2 : CallL K (fun xs H Q => ∃ i j, xs = [.int i, .int j] ∧ Q (.int (if j > i then j else i)) H) c3Max := by
  intro ds vs H M Q Q2 r a q g
  unfold c3Max at q
  split at q
  · obtain ⟨v, w, rfl, r1, r2⟩ := two_inv r
    cases r1.int_inv
    cases r2.int_inv
    exact ⟨_, _, rfl, g _ _ H M (Tps.refl H) a Rv.int q⟩
  · exact q.elim
theorem cl_min2 : CallL K (fun xs H Q => ∃ i j, xs = [.int i, .int j] ∧ Q (.int (if j < i then j else i)) H) c3Min := by
  intro ds vs H M Q Q2 r a q g
  unfold c3Min at q
  split at q
  · obtain ⟨v, w, rfl, r1, r2⟩ := two_inv r
    cases r1.int_inv
    cases r2.int_inv
    exact ⟨_, _, rfl, g _ _ H M (Tps.refl H) a Rv.int q⟩
  · exact q.elim
theorem boot_max' : bootBuiltins "max" = some (.builtin "max") := by decide +kernel
theorem boot_min' : bootBuiltins "min" = some (.builtin "min") := by decide +kernel
theorem d_max (hc : X.calm = true) (hm : X.mg "max" = none) (ha : DA X (e :: es) u) (hg : Gl X "max" := by rfl) (he : starEach (e :: es) X.env = (false, eval e X.env) :: starEach es X.env := by rfl) (hpl : (backTo pos (starEach es X.env)).any (·.1) = false := by rfl) : DE X (.Call (.Name "max" p) (e :: es) [] pos) (e3CB c3Max u) :=
  d_cb (call_max2 hc) cl_max2 hg hm boot_max' ha (by decide) (by decide) he hpl
theorem d_min (hc : X.calm = true) (hm : X.mg "min" = none) (ha : DA X (e :: es) u) (hg : Gl X "min" := by rfl) (he : starEach (e :: es) X.env = (false, eval e X.env) :: starEach es X.env := by rfl) (hpl : (backTo pos (starEach es X.env)).any (·.1) = false := by rfl) : DE X (.Call (.Name "min" p) (e :: es) [] pos) (e3CB c3Min u) :=
  d_cb (call_min2 hc) cl_min2 hg hm boot_min' ha (by decide) (by decide) he hpl
/-! ### isinstance(x, (types)) -/
def rIsiD (K : Fg) : List V → Hp → VK → Prop := fun xs H Q => ∃ (x : V) (tp : Addr) (cs : List V) (t : Value) (us : List Value) (b : Bool), xs = [x, .ref tp] ∧ SqT K H tp cs ∧ Paired ClsV cs us ∧ TyX K H x t ∧ PySem.W.kitAny K t us = some b ∧ Q (.bl b) H
theorem call_isiD : CallR X (.builtin "isinstance") (rIsiD X.K) := by
  rintro pins s σ H xs us Q I r ⟨x, tp, cs, t, ws, b, rfl, hT, k, ty, e, q⟩
  obtain ⟨u1, u2, rfl, r1, r2⟩ := vals2 r
  cases (show u2 = Value.ref tp from r2)
  obtain ⟨P, Z, pz, hx⟩ := kit_of I r1 ty
  obtain ⟨its, rv, ⟨⟨oc, od, dt, sl⟩, h1, h2, n, h3⟩, _⟩ := I.tuple hT
  cases ClsV.all k rv
  simp only at h2 h3
  subst h2 h3
  exact PySem.W.kia_tup Z I.kIn pz h1 e hx fun tk => ⟨.bl b, H, I.tok tk, rfl, q⟩
def anyKit (m : String) : List String → Option Bool
  | [] => some false
  | n :: ns => match kitB m n with
    | some true => some true
    | some false => anyKit m ns
    | none => none
theorem anyKit_ok {m : String} : ∀ {ns : List String} {b : Bool}, anyKit m ns = some b → PySem.W.kitAny K (.type m) (ns.map Value.type) = some b
  | [], b, h => h
  | n :: ns, b, h => by
    unfold anyKit at h
    split at h
    · rename_i h1
      cases h
      exact kitAny_cons (kit_ty h1) (fun z => nomatch z) fun _ => rfl
    · rename_i h1
      exact kitAny_cons (kit_ty h1) (fun _ => anyKit_ok h) fun z => nomatch z
    · cases h
@[irreducible] def c3IsiT : List D → MH → Q3 → Prop := fun ds M Q => ∃ d ns m b, ds = [d, .tup (List.map D.ty ns)] ∧ tyD M d m ∧ anyKit m ns = some b ∧ Q (.bl b) M
theorem isi_tups {M : MH} {Q : Q3} {d : D} {ns : List String} {m : String} {b : Bool} (h : tyD M d m) (k : anyKit m ns = some b) (q : Q (.bl b) M) : c3IsiT [d, .tup (ns.map D.ty)] M Q := by
  unfold c3IsiT
  exact ⟨d, ns, m, b, rfl, h, k, q⟩
theorem tys_rv {H : Hp} : ∀ {ns : List String} {vs : List V}, Rvs K H (ns.map D.ty) vs → Paired ClsV vs (ns.map Value.type)
  | [], _, h => by cases h.nil_inv; exact .nil
  | n :: ns, _, h => by
    obtain ⟨v, r, rfl, h1, h2⟩ := Rvs.cons_inv (d := .ty n) (ds := ns.map D.ty) h
    cases h1.ty_inv
    exact .cons (.ty n) (tys_rv h2)
theorem cl_isiT : CallL K (rIsiD K) c3IsiT := by
  intro ds vs H M Q Q2 r a q g
  unfold c3IsiT at q
  obtain ⟨d, ns, m, b, rfl, h1, h2, q⟩ := q
  obtain ⟨v, w, rfl, r1, r2⟩ := two_inv r
  obtain ⟨tp, cs, rfl, hs, hv⟩ := r2.tup_inv
  exact ⟨v, tp, cs, _, ns.map Value.type, b, rfl, hs, tys_rv hv, tyD_ok a r1 h1, anyKit_ok h2, g _ _ H M (Tps.refl H) a Rv.bl q⟩
theorem d_isiT (hm : X.mg "isinstance" = none) (ha : DA X [e, e2] u) (hg : Gl X "isinstance" := by rfl) (he : starEach (e :: [e2]) X.env = (false, eval e X.env) :: starEach [e2] X.env := by rfl) (hpl : (backTo pos (starEach [e2] X.env)).any (·.1) = false := by rfl) : DE X (.Call (.Name "isinstance" p) [e, e2] [] pos) (e3CB c3IsiT u) :=
  d_cb call_isiD cl_isiT hg hm boot_isinstance' ha (by decide) (by decide) he hpl
end
end L3

namespace L3
open PySem PySem.Spec PyProof.Rows L2
section
variable {X : Cx} {e e2 a b c o : Expr} {es : List Expr} {pos p : Pos} {t ta tb tc to te : E3} {u : A3} {K : Fg}
/-! ### list(range), tuple(range) -/
theorem rg_rvs {H : Hp} {i j : Int} : Rvs K H (rngD i (j - i).toNat) (rgV i j) := by
  have e1 : rngD i (j - i).toNat = ((List.range (j - i).toNat).map fun k : Nat => i + (k : Int)).map D.int := by unfold rngD; rw [List.map_map]; rfl
  have e2 : rgV i j = ((List.range (j - i).toNat).map fun k : Nat => i + (k : Int)).map V.int := by unfold rgV; rw [List.map_map]; rfl
  rw [e1, e2]
  exact Rvs.ints
def tTupRgD (te : L2.St → Hp → (Int → Int → Hp → Prop) → Prop) : TE := fun σ H Q => te σ H fun a b H1 => RgOk a b ∧ NewT (rgV a b) H1 Q
theorem pe_tupRgD {te : L2.St → Hp → (Int → Int → Hp → Prop) → Prop} (hc : X.calm = true) (hg : Gl X "tuple") (hm : X.mg "tuple" = none) (he : PRg X e te) (na : starEach [e] X.env = (false, eval e X.env) :: starEach [] X.env) : PE X (.Call (.Name "tuple" p) [e] [] pos) (tTupRgD te) :=
  ⟨fun pins s σ H Q I h => Call_ (ld_blt I hg hm boot_tuple (PyProof.Rows.callWith_type1 (args_cons (thn (he pins s σ H _ I h) fun x s1 ⟨r, i, j, t, u, v, H1, ex, hr, I1, ⟨b1, b2, b3, b4, b5⟩, q⟩ => args_nil (by
    subst ex
    refine call_tuple_range (n := (j - i).toNat) (I1.ok.hd hc) hr (small_one b1 b2 b3 b4) (rangeSize_nat i j) b5 fun h' tk acc hk hi => ?_
    have big : (rgV i j).length ≤ sizeLine := by rw [rgV_length, sizeLine_eq]; omega
    have z := tup_pushed (I1.kept (t' := tk) hk) (vals_rg hi) big q
    simpa only [Array.toArray_toList] using z)) na) na))⟩
def e3LstRg1 (t : E3) : E3 := fun W env M Q => t W env M fun d M1 => match d with
  | .int n => RgOk 0 n ∧ ∀ p, M1 p = none → Q (.ref p) (updM M1 p (.lst (rngD 0 n.toNat)))
  | _ => False
def e3TupRg1 (t : E3) : E3 := fun W env M Q => t W env M fun d M1 => match d with
  | .int n => RgOk 0 n ∧ Q (.tup (rngD 0 n.toNat)) M1
  | _ => False
theorem rng0 {n : Int} : rngD 0 n.toNat = rngD 0 (n - 0).toNat := by rw [Int.sub_zero]
theorem d_listRg1 (hc : X.calm = true) (hl : X.mg "list" = none) (hm : X.mg "range" = none) (ha : DE X a ta) (hg : Gl X "list" := by rfl) (hgr : Gl X "range" := by rfl) (na : starEach [a] X.env = (false, eval a X.env) :: starEach [] X.env := by rfl) {p2 pos2 : Pos}
    (ne : starEach [Expr.Call (.Name "range" p2) [a] [] pos2] X.env = (false, eval (Expr.Call (.Name "range" p2) [a] [] pos2) X.env) :: starEach [] X.env := by rfl) : DE X (.Call (.Name "list" p) [.Call (.Name "range" p2) [a] [] pos2] [] pos) (e3LstRg1 ta) := fun W2 tk =>
  (pe_listRg hc hg hl (prg_1 hgr hm (ha W2 tk) na) ne).imp fun σ H Q2 ⟨env, M, W, Q, s, a, l, q, g⟩ => ⟨env, M, W, _, s, a, l, q, fun d v H1 M1 t1 a1 r1 q1 => by
    split at q1
    · cases r1.int_inv
      exact ⟨_, rfl, q1.1, fun w nw => g _ _ _ _ (t1.trans (Tps.new nw)) (a1.lstN nw (by rw [rng0]; exact rg_rvs)) Rv.ref (q1.2 w (a1.fresh nw))⟩
    · exact q1.elim⟩
theorem d_tupleRg1 (hc : X.calm = true) (hl : X.mg "tuple" = none) (hm : X.mg "range" = none) (ha : DE X a ta) (hg : Gl X "tuple" := by rfl) (hgr : Gl X "range" := by rfl) (na : starEach [a] X.env = (false, eval a X.env) :: starEach [] X.env := by rfl) {p2 pos2 : Pos}
    (ne : starEach [Expr.Call (.Name "range" p2) [a] [] pos2] X.env = (false, eval (Expr.Call (.Name "range" p2) [a] [] pos2) X.env) :: starEach [] X.env := by rfl) : DE X (.Call (.Name "tuple" p) [.Call (.Name "range" p2) [a] [] pos2] [] pos) (e3TupRg1 ta) := fun W2 tk =>
  (pe_tupRgD hc hg hl (prg_1 hgr hm (ha W2 tk) na) ne).imp fun σ H Q2 ⟨env, M, W, Q, s, a, l, q, g⟩ => ⟨env, M, W, _, s, a, l, q, fun d v H1 M1 t1 a1 r1 q1 => by
    split at q1
    · cases r1.int_inv
      exact ⟨_, rfl, q1.1, fun w ow nw dw => g _ _ _ M1 (t1.trans (Tps.new nw)) (a1.tupN nw) (Rv.tup (SqD.of dw) (by rw [rng0]; exact rg_rvs)) q1.2⟩
    · exact q1.elim⟩
/-! ### l.pop(), l.pop(i) -/
theorem Rvs.erase {H : Hp} : ∀ {ds : List D} {vs : List V} (k : Nat), Rvs K H ds vs → Rvs K H (ds.eraseIdx k) (vs.eraseIdx k)
  | [], vs, k, h => by cases h.nil_inv; exact Rvs.nil
  | d :: ds, vs, k, h => by
    obtain ⟨v, r, rfl, h1, h2⟩ := h.cons_inv
    cases k with
    | zero => exact h2
    | succ k => exact Rvs.cons h1 (Rvs.erase k h2)
theorem Rvs.butLast {H : Hp} {ds : List D} {vs : List V} (h : Rvs K H ds vs) : Rvs K H ds.dropLast vs.dropLast := by
  rw [List.dropLast_eq_take, List.dropLast_eq_take, h.length]
  exact h.take _
def e3Bm0 (m : Addr → MH → Q3 → Prop) (to : E3) : E3 := fun W env M Q => to W env M fun od M1 => match od with
  | .ref l => (∃ ds, LstM M1 l ds) ∧ m l M1 Q
  | _ => False
def MtL0 (K : Fg) (r : V → List V → Hp → VK → Prop) (m : Addr → MH → Q3 → Prop) : Prop := ∀ l H M Q Q2, Abs K M H → m l M Q → Got K H Q Q2 → r (.ref l) [] H Q2
theorem d_bm0 {name : Str} {id : String} {r : V → List V → Hp → VK → Prop} {m : Addr → MH → Q3 → Prop} {apos cpos : Pos} (slot : Slot "list" name id) (hty : typeOf (.builtin id) = pure (.type "method_descriptor")) (hm : MtR X id r) (hl : MtL0 X.K r m) (ho : DE X o to)
    (hbase : attributeBase o name X.env (eval o X.env) = eval o X.env) (hline : (apos.endLine == cpos.line) = true) : DE X (.Call (.Attribute o name apos) [] [] cpos) (e3Bm0 m to) := fun W2 tk =>
  (pe_bm0 PySem.F.plainAttrs_list slot hty hm (ho W2 tk) hbase hline).imp fun σ H Q2 ⟨env, M, W, Q, s, a, l, q, g⟩ => by
    refine ⟨env, M, W, _, s, a, l, q, fun od v H1 M1 t1 a1 r1 q1 => ?_⟩
    split at q1
    · obtain ⟨⟨ds, hl'⟩, q1⟩ := q1
      cases r1.ref_inv
      obtain ⟨vs, hs, _⟩ := a1.rd hl'
      exact ⟨.inl ⟨rfl, vs, hs⟩, hl _ H1 M1 Q Q2 a1 q1 (g.mono t1)⟩
    · exact q1.elim
def m3Pop (l : Addr) (M : MH) (Q : Q3) : Prop := ∃ ds d, M l = some (.lst ds) ∧ ds[ds.length - 1]? = some d ∧ Q d (updM M l (.lst ds.dropLast))
theorem ml_pop : MtL0 K rPop m3Pop := by
  rintro l H M Q Q2 a ⟨ds, d, h1, h2, q⟩ g
  obtain ⟨vs, hv, r⟩ := a.lst h1
  obtain ⟨v, hg, rd⟩ := r.get h2
  exact ⟨l, vs, v, rfl, rfl, hv, by rw [← r.length]; exact hg, g _ _ _ _ (Tps.lst hv) (a.lstU hv r.butLast) (rd.mono (Tps.lst hv)) q⟩
theorem d_pop {apos cpos : Pos} (ho : DE X o to) (hbase : attributeBase o "pop" X.env (eval o X.env) = eval o X.env := by rfl) (hline : (apos.endLine == cpos.line) = true := by rfl) : DE X (.Call (.Attribute o "pop" apos) [] [] cpos) (e3Bm0 m3Pop to) :=
  d_bm0 PySem.F.slot_list_pop PySem.F.type_list_pop mt_pop ml_pop ho hbase hline
def m3PopAt (l : Addr) : List D → MH → Q3 → Prop
  | [.int i], M, Q => ∃ ds d k, M l = some (.lst ds) ∧ -(2 ^ 63) ≤ i ∧ i < 2 ^ 63 ∧ ixN ds.length i = some k ∧ ds[k]? = some d ∧ Q d (updM M l (.lst (ds.eraseIdx k)))
  | _, _, _ => False
theorem ml_popAt : MtL K rPopAt m3PopAt := by
  intro l xs vs H M Q Q2 r a q g
  unfold m3PopAt at q
  split at q
  · obtain ⟨ds, d, k, h1, b1, b2, hk, h2, q⟩ := q
    obtain ⟨v, rfl, rr⟩ := one_inv r
    cases rr.int_inv
    obtain ⟨ws, hv, rw'⟩ := a.lst h1
    obtain ⟨w, hg, rd⟩ := rw'.get h2
    exact ⟨l, ws, _, k, w, rfl, rfl, hv, b1, b2, by rw [← rw'.length]; exact (ixN_seq hk).1, hg, g _ _ _ _ (Tps.lst hv) (a.lstU hv (rw'.erase k)) (rd.mono (Tps.lst hv)) q⟩
  · exact q.elim
theorem d_popAt {apos cpos : Pos} (ho : DE X o to) (ha : DA X [e] u) (hbase : attributeBase o "pop" X.env (eval o X.env) = eval o X.env := by rfl)
    (hfew : ((backTo cpos (starEach (e :: []) X.env)).all (fun x => !x.1) && (backToKw cpos (keywordEach [] X.env)).all (fun x => x.1.isSome)
      && decide ((e :: []).length + ([] : List Keyword).length + (if ([] : List Keyword).isEmpty then 0 else 1) < 30)) = true := by rfl)
    (hline : (apos.endLine == cpos.line) = true := by rfl) (hs : starEach (e :: []) X.env = (false, eval e X.env) :: starEach [] X.env := by rfl) (hplain : (backTo cpos (starEach [] X.env)).any (·.1) = false := by rfl) :
    DE X (.Call (.Attribute o "pop" apos) [e] [] cpos) (e3Bm m3PopAt to u) := d_bm PySem.F.slot_list_pop PySem.F.type_list_pop mt_popAt ml_popAt ho ha hbase hfew hline hs hplain
/-! ### comprehensions of two fors -/
/-- the inner loop -/
def LoopI (ds : List D) (keep : MH → Prop) (j : Nat) (tt : T3) (te : E3) (env : En) (p : Addr) (M : MH) (done : List D → MH → Prop) : Prop := ∃ Iv : Nat → List D → MH → Prop, (∃ acc, M p = some (.lst acc) ∧ Iv 0 acc M) ∧
  (∀ k d acc M', ds[k]? = some d → Iv k acc M' → M' p = some (.lst acc) → keep M' ∧ tt W0 (env.set j (some d)) M' fun b M3 => Br b
    (te W0 (env.set j (some d)) M3 fun y M4 => ∃ acc', M4 p = some (.lst acc') ∧ acc'.length < sizeLine ∧ Iv (k + 1) (acc' ++ [y]) (updM M4 p (.lst (acc' ++ [y]))))
    (∃ acc', M3 p = some (.lst acc') ∧ Iv (k + 1) acc' M3)) ∧
  ∀ acc M', Iv ds.length acc M' → M' p = some (.lst acc) → keep M' ∧ done acc M'
def Loop2 (ds : List D) (keep : MH → Prop) (i : Nat) (tt : T3) (ti1 : I3) (j : Nat) (tt1 : T3) (te : E3) (vs1 : List Nat) (env : En) (p : Addr) (M : MH) (Q : MH → Prop) : Prop := ∃ Iv : Nat → List D → MH → Prop, Iv 0 [] (updM M p (.lst [])) ∧
  (∀ k d acc M', ds[k]? = some d → Iv k acc M' → M' p = some (.lst acc) → keep M' ∧ tt W0 (env.set i (some d)) M' fun b M3 => Br b
    (ti1 W0 (env.set i (some d)) M3 fun ds1 keep1 M4 => LoopI ds1 keep1 j tt1 te (wipe3 (env.set i (some d)) vs1) p M4 (Iv (k + 1)))
    (∃ acc', M3 p = some (.lst acc') ∧ Iv (k + 1) acc' M3)) ∧
  ∀ acc M', Iv ds.length acc M' → M' p = some (.lst acc) → keep M' ∧ Q M'
def e3Lc2 (ti : I3) (i : Nat) (tt : T3) (ti1 : I3) (j : Nat) (tt1 : T3) (te : E3) (vs vs1 : List Nat) : E3 := fun W env M Q => ti W env M fun ds keep M1 => ∀ p, M1 p = none → Loop2 ds keep i tt ti1 j tt1 te vs1 (wipe3 env vs) p M1 fun M' => Q (.ref p) M'
theorem lc2_low {ti ti1 : I3} {i j : Nat} {tt tt1 : T3} {te : E3} {vs vs1 : List Nat} {W2 W2b : WX} (hv : i ∈ vs) (hv1 : j ∈ vs1) (hW : W2b = fun _ _ _ _ => False) {σ : L2.St} {H : Hp} {Q2 : VK} (h : lowE X.K W2 (e3Lc2 ti i tt ti1 j tt1 te vs vs1) σ H Q2) :
    tLc2 (lowI X.K W2 ti) (gName i) (lowT X.K W2b tt) (lowI X.K W2b ti1) (gName j) (lowT X.K W2b tt1) (lowE X.K W2b te) vs vs1 σ H Q2 := by
  subst hW
  obtain ⟨env, M, W, Q, s, a, l, q, g⟩ := h
  refine ⟨env, M, W, _, s, a, l, q, fun ds keep J H1 M1 t1 a1 q1 ok Dd nD => ?_⟩
  obtain ⟨Iv, h0, hst, hd⟩ := q1 Dd (a1.fresh nD)
  have sw := (s.mono t1).wipe vs
  refine ⟨fun k m H' => m = ds.length - k ∧ k ≤ ds.length ∧ ∃ acc M', Tps H1 H' ∧ Abs X.K M' H' ∧ Iv k acc M' ∧ M' Dd = some (.lst acc), ⟨ds.length, by simp, Nat.zero_le _, [], _, Tps.new nD, a1.lstN nD Rvs.nil, h0, updM_same⟩, ?_⟩
  rintro k m H' ⟨rfl, hk, acc, M', t2, a', iv, hD⟩
  by_cases hlt : k < ds.length
  · have hx : ds[k]? = some ds[k] := List.getElem?_eq_getElem hlt
    obtain ⟨hkeep, hg⟩ := hst k _ acc M' hx iv hD
    obtain ⟨go, yl⟩ := ok.step k _ H' M' hx t2 a' hkeep
    refine .inr ⟨go, fun H2 => ∃ acc M2, Tps H1 H2 ∧ Abs X.K M2 H2 ∧ Iv (k + 1) acc M2 ∧ M2 Dd = some (.lst acc), fun H2 hn => ⟨ds.length - (k + 1), by omega, rfl, hlt, hn⟩, fun x H2 y => ?_⟩
    obtain ⟨t3, a3, r3⟩ := yl x H2 y
    have t23 := t2.trans t3
    refine ⟨by rw [wipe_set hv, wipe_wipe fun _ h => h], ?_⟩
    have s2 : SE X.K H2 ((L2.wipe σ vs).set i (some x)) ((wipe3 env vs).set i (some ds[k])) := (sw.mono t23).set i r3
    refine ⟨_, M', W0, _, s2, a3, LW0, hg, fun b H3 M3 t4 a4 q4 => ?_⟩
    cases b with
    | false =>
      show if false = true then _ else _
      rw [if_neg Bool.false_ne_true]
      obtain ⟨acc', e1, iv'⟩ := q4.2 rfl
      exact ⟨acc', M3, t23.trans t4, a4, iv', e1⟩
    | true =>
      show if true = true then _ else _
      rw [if_pos rfl]
      refine ⟨_, M3, W0, _, s2.mono t4, a4, LW0, q4.1 rfl, fun ds1 keep1 J1 H4 M4 t5 a5 q5 ok1 => ?_⟩
      obtain ⟨Iv1, ⟨acc0, e0, i0⟩, hst1, hd1⟩ := q5
      have t45 := t4.trans t5
      have sw1 := (s2.mono t45).wipe vs1
      refine ⟨fun k1 m1 H' => m1 = ds1.length - k1 ∧ k1 ≤ ds1.length ∧ ∃ acc M', Tps H4 H' ∧ Abs X.K M' H' ∧ Iv1 k1 acc M' ∧ M' Dd = some (.lst acc), ⟨ds1.length, by simp, Nat.zero_le _, acc0, M4, Tps.refl _, a5, i0, e0⟩, ?_⟩
      rintro k1 m1 H5 ⟨rfl, hk1, acc1, M5, t6, a6, iv1, hD1⟩
      by_cases hlt1 : k1 < ds1.length
      · have hx1 : ds1[k1]? = some ds1[k1] := List.getElem?_eq_getElem hlt1
        obtain ⟨hkeep1, hg1⟩ := hst1 k1 _ acc1 M5 hx1 iv1 hD1
        obtain ⟨go1, yl1⟩ := ok1.step k1 _ H5 M5 hx1 t6 a6 hkeep1
        refine .inr ⟨go1, fun H2 => ∃ acc M2, Tps H4 H2 ∧ Abs X.K M2 H2 ∧ Iv1 (k1 + 1) acc M2 ∧ M2 Dd = some (.lst acc), fun H2 hn => ⟨ds1.length - (k1 + 1), by omega, rfl, hlt1, hn⟩, fun x1 H6 y1 => ?_⟩
        obtain ⟨t7, a7, r7⟩ := yl1 x1 H6 y1
        have t67 := t6.trans t7
        refine ⟨by rw [wipe_set hv1, wipe_wipe fun _ h => h], ?_⟩
        refine ⟨_, M5, W0, _, (sw1.mono t67).set j r7, a7, LW0, hg1, fun b H7 M7 t8 a8 q8 => ?_⟩
        cases b with
        | false =>
          show if false = true then _ else _
          rw [if_neg Bool.false_ne_true]
          obtain ⟨acc', e1, iv'⟩ := q8.2 rfl
          exact ⟨acc', M7, t67.trans t8, a8, iv', e1⟩
        | true =>
          show if true = true then _ else _
          rw [if_pos rfl]
          refine ⟨_, M7, W0, _, ((sw1.mono t67).set j r7).mono t8, a8, LW0, q8.1 rfl, fun d v H8 M8 t9 a9 r9 q9 => ?_⟩
          obtain ⟨acc', e1, hz, iv'⟩ := q9
          obtain ⟨ws, hw, rw'⟩ := a9.lst e1
          exact ⟨ws, hw, by rw [← rw'.length]; exact hz, acc' ++ [d], _, ((t67.trans t8).trans t9).trans (Tps.lst hw), a9.lstU hw (rw'.app (Rvs.cons r9 Rvs.nil)), iv', updM_same⟩
      · have e1 : k1 = ds1.length := by omega
        subst e1
        obtain ⟨hkeep1, hn⟩ := hd1 acc1 M5 iv1 hD1
        exact .inl ⟨ok1.stop H5 M5 t6 a6 hkeep1, acc1, M5, (t23.trans t45).trans t6, a6, hn, hD1⟩
  · have e : k = ds.length := by omega
    subst e
    obtain ⟨hkeep, hq⟩ := hd acc M' iv hD
    exact .inl ⟨ok.stop H' M' t2 a' hkeep, g _ _ H' M' (t1.trans t2) a' Rv.ref hq⟩
theorem d_lc2 {elt iter iter1 : Expr} {ifs ifs1 : List Expr} {scope : Scope} {x y : Str} {i j : Nat} {p1 p2 : Pos} {ti ti1 : I3} {tt tt1 : T3} {te : E3} (own : List (Str × Nat)) (hc : X.calm = true) (hN : X.N.Nodup) (hi : DI X (.Name x p1) iter ti) (ok : BlkOk X.N X.env.scope scope own) (hv : i ∈ own.map (·.2)) (hv1 : j ∈ own.map (·.2))
    (hg : ∀ (s : Shared) (H : Hp) (C : Addr) (cl : List (Str × Addr)) (fp : List Addr), PG (X.blk s H scope (compEnvC scope cl C X.env) fp) (.Name x p1) (gName i))
    (ht : ∀ (s : Shared) (H : Hp) (C : Addr) (cl : List (Str × Addr)) (fp : List Addr), DTs (X.blk s H scope (compEnvC scope cl C X.env) fp) ifs tt)
    (hi1 : ∀ (s : Shared) (H : Hp) (C : Addr) (cl : List (Str × Addr)) (fp : List Addr), DI (X.blk s H scope (compEnvC scope cl C X.env) fp) (.Name y p2) iter1 ti1)
    (hg1 : ∀ (s : Shared) (H : Hp) (C : Addr) (cl : List (Str × Addr)) (fp : List Addr), PG (X.blk s H scope (compEnvC scope cl C X.env) fp) (.Name y p2) (gName j))
    (ht1 : ∀ (s : Shared) (H : Hp) (C : Addr) (cl : List (Str × Addr)) (fp : List Addr), DTs (X.blk s H scope (compEnvC scope cl C X.env) fp) ifs1 tt1)
    (he : ∀ (s : Shared) (H : Hp) (C : Addr) (cl : List (Str × Addr)) (fp : List Addr), DE (X.blk s H scope (compEnvC scope cl C X.env) fp) elt te) (hs : ∀ x, foldedSetIterable iter X.env x = pure x := by intro _; rfl) (hs1 : ∀ env x, foldedSetIterable iter1 env x = pure x := by intro _ _; rfl) :
    DE X (.ListComp elt [⟨.Name x p1, iter, ifs, 0⟩, ⟨.Name y p2, iter1, ifs1, 0⟩] scope pos) (e3Lc2 ti i tt ti1 j tt1 te (own.map (·.2)) [j]) := fun W2 tk =>
  (pe_lc2 (vs1 := [j]) hc hN (hi W2 tk) ok (fun k hk => by rw [List.mem_singleton.mp hk]; exact hv1) hg (fun s H C cl fp => ht s H C cl fp _ takesF) (fun s H C cl fp => hi1 s H C cl fp _ takesF) hg1 (fun s H C cl fp => ht1 s H C cl fp _ takesF) (fun s H C cl fp => he s H C cl fp _ takesF) hs hs1).imp fun σ H Q2 h => lc2_low hv List.mem_cons_self rfl h
theorem ds_setLc2 {elt iter iter1 : Expr} {ifs ifs1 : List Expr} {scope : Scope} {x y z : Str} {i j k : Nat} {p1 p2 pz spos : Pos} {ti ti1 : I3} {tt tt1 : T3} {te : E3} (own : List (Str × Nat)) (hc : X.calm = true) (hN : X.N.Nodup) (hi : DI X (.Name x p1) iter ti) (ok : BlkOk X.N X.env.scope scope own) (hv : i ∈ own.map (·.2)) (hv1 : j ∈ own.map (·.2))
    (hg : ∀ (s : Shared) (H : Hp) (C : Addr) (cl : List (Str × Addr)) (fp : List Addr), PG (X.blk s H scope (compEnvC scope cl C X.env) fp) (.Name x p1) (gName i))
    (ht : ∀ (s : Shared) (H : Hp) (C : Addr) (cl : List (Str × Addr)) (fp : List Addr), DTs (X.blk s H scope (compEnvC scope cl C X.env) fp) ifs tt)
    (hi1 : ∀ (s : Shared) (H : Hp) (C : Addr) (cl : List (Str × Addr)) (fp : List Addr), DI (X.blk s H scope (compEnvC scope cl C X.env) fp) (.Name y p2) iter1 ti1)
    (hg1 : ∀ (s : Shared) (H : Hp) (C : Addr) (cl : List (Str × Addr)) (fp : List Addr), PG (X.blk s H scope (compEnvC scope cl C X.env) fp) (.Name y p2) (gName j))
    (ht1 : ∀ (s : Shared) (H : Hp) (C : Addr) (cl : List (Str × Addr)) (fp : List Addr), DTs (X.blk s H scope (compEnvC scope cl C X.env) fp) ifs1 tt1)
    (he : ∀ (s : Shared) (H : Hp) (C : Addr) (cl : List (Str × Addr)) (fp : List Addr), DE (X.blk s H scope (compEnvC scope cl C X.env) fp) elt te)
    (hy : X.N[k]? = some z := by rfl) (hyl : X.env.scope.names.lookup z = some .local := by rfl)
    (hsw : swapsWith (.ListComp elt [⟨.Name x p1, iter, ifs, 0⟩, ⟨.Name y p2, iter1, ifs1, 0⟩] scope pos) (some (.Name z pz)) spos.line X.env = pure true := by exact sw_true rfl rfl rfl (by decide +kernel))
    (hs : ∀ x, foldedSetIterable iter X.env x = pure x := by intro _; rfl) (hs1 : ∀ env x, foldedSetIterable iter1 env x = pure x := by intro _ _; rfl) :
    DS X (.Assign [.Name z pz] (.ListComp elt [⟨.Name x p1, iter, ifs, 0⟩, ⟨.Name y p2, iter1, ifs1, 0⟩] scope pos) spos) (s3Asg (e3Lc2 ti i tt ti1 j tt1 te (own.map (·.2)) [j]) k) := fun W2 tk hp =>
  (ps_setLc2 (vs1 := [j]) hc hN hy hyl hsw (hi W2 tk) ok (fun k hk => by rw [List.mem_singleton.mp hk]; exact hv1) hg (fun s H C cl fp => ht s H C cl fp _ takesF) (fun s H C cl fp => hi1 s H C cl fp _ takesF) hg1 (fun s H C cl fp => ht1 s H C cl fp _ takesF) (fun s H C cl fp => he s H C cl fp _ takesF) hs hs1).imp fun D2 σ H ⟨env, M, W, D3, s, a, l, q, le⟩ =>
    lc2_low (Q2 := fun x H1 => gName k x σ H1 D2.nx) hv List.mem_cons_self rfl ⟨env, M, W, _, s, a, l, q, fun d v H1 M1 t1 a1 r1 q1 => le.nx _ H1 _ M1 t1 ((s.mono t1).set k r1) a1 q1⟩
/-- pure items: one after the other -/
theorem lc2Map {ds : List D} {keep : MH → Prop} {i j : Nat} {ti1 : I3} {te : E3} {vs1 : List Nat} {env : En} {p : Addr} {M : MH} {Q : MH → Prop} (f : D → List D) (hp : M p = none) (hk : ∀ M', Sub M M' → keep M')
    (hz : ∀ k, ((ds.take k).flatMap f).length < sizeLine)
    (hi : ∀ (k : Nat) (d : D) (M' : MH) (R : List D → (MH → Prop) → MH → Prop), ds[k]? = some d → Sub M M' →
      (∀ (ds1 : List D) (g : D → D) (keep1 : MH → Prop), f d = ds1.map g → (∀ M'', Sub M M'' → keep1 M'') →
        (∀ (k1 : Nat) (d1 : D) (M'' : MH) (R : Q3), ds1[k1]? = some d1 → Sub M M'' → (∀ M3, Sub M'' M3 → R (g d1) M3) → te W0 ((wipe3 (env.set i (some d)) vs1).set j (some d1)) M'' R) → R ds1 keep1 M') → ti1 W0 (env.set i (some d)) M' R)
    (hq : ∀ M', Sub M M' → M' p = some (.lst (ds.flatMap f)) → Q M') : Loop2 ds keep i t3Yes ti1 j t3Yes te vs1 env p M Q := by
  refine ⟨fun k acc M' => acc = (ds.take k).flatMap f ∧ Sub M M', ⟨by simp, (Sub.refl M).new hp⟩, ?_, ?_⟩
  · rintro k d acc M' hd ⟨rfl, sub⟩ hpM
    refine ⟨hk M' sub, Br.tt (hi k d M' _ hd sub fun ds1 g keep1 hf hk1 hte => ?_)⟩
    have step : (ds.take (k + 1)).flatMap f = (ds.take k).flatMap f ++ ds1.map g := by
      rw [List.take_add_one, hd, Option.toList_some, List.flatMap_append, ← hf]
      simp
    refine ⟨fun k1 acc M'' => acc = (ds.take k).flatMap f ++ (ds1.take k1).map g ∧ Sub M M'', ⟨_, hpM, by simp, sub⟩, ?_, ?_⟩
    · rintro k1 d1 acc M'' hd1 ⟨rfl, sub2⟩ hpM2
      refine ⟨hk1 M'' sub2, Br.tt (hte k1 d1 M'' _ hd1 sub2 fun M3 s3 => ⟨_, s3 p _ hpM2, ?_, ?_, (sub2.trans s3).new hp⟩)⟩
      · have h1 := hz (k + 1)
        rw [step] at h1
        rw [List.length_append, List.length_map] at h1 ⊢
        have : (ds1.take k1).length ≤ ds1.length := by rw [List.length_take]; exact Nat.min_le_right _ _
        omega
      · rw [List.take_add_one, hd1, Option.toList_some, List.map_append, List.append_assoc]
        rfl
    · rintro acc M'' ⟨rfl, sub2⟩ hpM2
      refine ⟨hk1 M'' sub2, ?_, sub2⟩
      rw [List.take_length, step]
  · rintro acc M' ⟨rfl, sub⟩ hpM
    rw [List.take_length] at hpM
    exact ⟨hk M' sub, hq M' sub hpM⟩
/-! ### a comprehension over pairs -/
def LoopP (ds : List D) (keep : MH → Prop) (i j : Nat) (tt : T3) (te : E3) (env : En) (p : Addr) (M : MH) (Q : MH → Prop) : Prop := ∃ Iv : Nat → List D → MH → Prop, Iv 0 [] (updM M p (.lst [])) ∧
  (∀ k d acc M', ds[k]? = some d → Iv k acc M' → M' p = some (.lst acc) → keep M' ∧ ∃ d1 d2, d = .tup [d1, d2] ∧ tt W0 ((env.set i (some d1)).set j (some d2)) M' fun b M3 => Br b
    (te W0 ((env.set i (some d1)).set j (some d2)) M3 fun y M4 => ∃ acc', M4 p = some (.lst acc') ∧ acc'.length < sizeLine ∧ Iv (k + 1) (acc' ++ [y]) (updM M4 p (.lst (acc' ++ [y]))))
    (∃ acc', M3 p = some (.lst acc') ∧ Iv (k + 1) acc' M3)) ∧
  ∀ acc M', Iv ds.length acc M' → M' p = some (.lst acc) → keep M' ∧ Q M'
def e3LcP (ti : I3) (i j : Nat) (tt : T3) (te : E3) (vs : List Nat) : E3 := fun W env M Q => ti W env M fun ds keep M1 => ∀ p, M1 p = none → LoopP ds keep i j tt te (wipe3 env vs) p M1 fun M' => Q (.ref p) M'
theorem lcP_low {ti : I3} {i j : Nat} {tt : T3} {te : E3} {vs : List Nat} {W2 W2b : WX} (hv : i ∈ vs) (hv1 : j ∈ vs) (hW : W2b = fun _ _ _ _ => False) {σ : L2.St} {H : Hp} {Q2 : VK} (h : lowE X.K W2 (e3LcP ti i j tt te vs) σ H Q2) :
    tLc (lowI X.K W2 ti) (gTup X.K 2 (gCons (gName i) (gCons (gName j) gNil))) (lowT X.K W2b tt) (lowE X.K W2b te) vs σ H Q2 := by
  subst hW
  obtain ⟨env, M, W, Q, s, a, l, q, g⟩ := h
  refine ⟨env, M, W, _, s, a, l, q, fun ds keep J H1 M1 t1 a1 q1 ok Dd nD => ?_⟩
  obtain ⟨Iv, h0, hst, hd⟩ := q1 Dd (a1.fresh nD)
  have sw := (s.mono t1).wipe vs
  refine ⟨fun k m H' => m = ds.length - k ∧ k ≤ ds.length ∧ ∃ acc M', Tps H1 H' ∧ Abs X.K M' H' ∧ Iv k acc M' ∧ M' Dd = some (.lst acc), ⟨ds.length, by simp, Nat.zero_le _, [], _, Tps.new nD, a1.lstN nD Rvs.nil, h0, updM_same⟩, ?_⟩
  rintro k m H' ⟨rfl, hk, acc, M', t2, a', iv, hD⟩
  by_cases hlt : k < ds.length
  · have hx : ds[k]? = some ds[k] := List.getElem?_eq_getElem hlt
    obtain ⟨hkeep, d1, d2, hdd, hg⟩ := hst k _ acc M' hx iv hD
    obtain ⟨go, yl⟩ := ok.step k _ H' M' hx t2 a' hkeep
    refine .inr ⟨go, fun H2 => ∃ acc M2, Tps H1 H2 ∧ Abs X.K M2 H2 ∧ Iv (k + 1) acc M2 ∧ M2 Dd = some (.lst acc), fun H2 hn => ⟨ds.length - (k + 1), by omega, rfl, hlt, hn⟩, fun x H2 y => ?_⟩
    obtain ⟨t3, a3, r3⟩ := yl x H2 y
    have t23 := t2.trans t3
    rw [hdd] at r3
    obtain ⟨pt, ws, rfl, hs, hw⟩ := r3.tup_inv
    obtain ⟨v1, v2, rfl, r1, r2⟩ := two_inv hw
    refine ⟨pt, [v1, v2], rfl, hs, rfl, v1, [v2], rfl, v2, [], rfl, rfl, ?_, ?_⟩
    · rw [wipe_set hv1, wipe_set hv, wipe_wipe fun _ h => h]
    · have s2 : SE X.K H2 (((L2.wipe σ vs).set i (some v1)).set j (some v2)) (((wipe3 env vs).set i (some d1)).set j (some d2)) := ((sw.mono t23).set i r1).set j r2
      refine ⟨_, M', W0, _, s2, a3, LW0, hg, fun b H3 M3 t4 a4 q4 => ?_⟩
      cases b with
      | true =>
        show if true = true then _ else _
        rw [if_pos rfl]
        refine ⟨_, M3, W0, _, s2.mono t4, a4, LW0, q4.1 rfl, fun d v H4 M4 t5 a5 r5 q5 => ?_⟩
        obtain ⟨acc', e1, hz, iv'⟩ := q5
        obtain ⟨us, hu, ru⟩ := a5.lst e1
        exact ⟨us, hu, by rw [← ru.length]; exact hz, acc' ++ [d], _, ((t23.trans t4).trans t5).trans (Tps.lst hu), a5.lstU hu (ru.app (Rvs.cons r5 Rvs.nil)), iv', updM_same⟩
      | false =>
        show if false = true then _ else _
        rw [if_neg Bool.false_ne_true]
        obtain ⟨acc', e1, iv'⟩ := q4.2 rfl
        exact ⟨acc', M3, t23.trans t4, a4, iv', e1⟩
  · have e : k = ds.length := by omega
    subst e
    obtain ⟨hkeep, hq⟩ := hd acc M' iv hD
    exact .inl ⟨ok.stop H' M' t2 a' hkeep, g _ _ H' M' (t1.trans t2) a' Rv.ref hq⟩
theorem d_lcP {elt iter : Expr} {ifs : List Expr} {scope : Scope} {tg : Expr} {i j : Nat} {ti : I3} {tt : T3} {te : E3} (own : List (Str × Nat)) (hc : X.calm = true) (hN : X.N.Nodup) (hi : DI X tg iter ti) (ok : BlkOk X.N X.env.scope scope own) (hv : i ∈ own.map (·.2)) (hv1 : j ∈ own.map (·.2))
    (hg : ∀ (s : Shared) (H : Hp) (C : Addr) (cl : List (Str × Addr)) (fp : List Addr), PG (X.blk s H scope (compEnvC scope cl C X.env) fp) tg (gTup X.K 2 (gCons (gName i) (gCons (gName j) gNil))))
    (ht : ∀ (s : Shared) (H : Hp) (C : Addr) (cl : List (Str × Addr)) (fp : List Addr), DTs (X.blk s H scope (compEnvC scope cl C X.env) fp) ifs tt)
    (he : ∀ (s : Shared) (H : Hp) (C : Addr) (cl : List (Str × Addr)) (fp : List Addr), DE (X.blk s H scope (compEnvC scope cl C X.env) fp) elt te) (hs : ∀ x, foldedSetIterable iter X.env x = pure x := by intro _; rfl) :
    DE X (.ListComp elt [⟨tg, iter, ifs, 0⟩] scope pos) (e3LcP ti i j tt te (own.map (·.2))) := fun W2 tk =>
  (pe_lc hc hN (hi W2 tk) ok hg (fun s H C cl fp => ht s H C cl fp _ takesF) (fun s H C cl fp => he s H C cl fp _ takesF) hs).imp fun σ H Q2 h => lcP_low hv hv1 rfl h
/-! ### * of wide factors -/
def r3MulW : D → D → MH → Q3 → Prop
  | .int i, .int j, M, Q => CMulW i j ∧ Q (.int (i * j)) M
  | _, _, _, _ => False
theorem opl_mulW : OpL K (rI CMulW fun i j => .int (i * j)) r3MulW := by
  intro d e v u H M Q Q2 rd re a q g
  unfold r3MulW at q
  split at q
  · cases rd.int_inv; cases re.int_inv
    exact ⟨_, _, rfl, rfl, q.1, g _ _ H M (Tps.refl H) a Rv.int q.2⟩
  · exact q.elim
theorem d_mulW (ha : DE X a ta) (hb : DE X b tb) : DE X (.BinOp a .Mult b pos) (e3Op r3MulW ta tb) := d_op op_mulW opl_mulW ha hb
/-! ### try with two clauses -/
def s3Try2 (K : Fg) (c1 c2 : Value) (body h1 h2 : S3) : S3 := fun W D env M => body (fun cls dd env' M' => ∃ b, PySem.W.exmOne K cls c1 = some b ∧ (b = true → h1 W0 D env' M') ∧ (b = false → ∃ b2, PySem.W.exmOne K cls c2 = some b2 ∧ (b2 = true → h2 W0 D env' M') ∧ (b2 = false → W cls dd env' M'))) D env M
theorem ds_try2 {x1 x2 : Str} {c1 c2 : Value} {b1 b2 : Stmt} {suite1 suite2 body : List Stmt} {np1 np2 pp1 pp2 : Pos} {sb s1 s2 : S3} (hs : X.stack = X.env :: X.outer) (hf : X.env.frame = some X.env.locals) (hc1 : Names X x1 c1) (hc2 : Names X x2 c2)
    (hb : ∀ (pn : List (Addr × Obj)) (xe : Value → Shared → Prop), DSs (X.tr pn xe) body sb)
    (hs1 : ∀ (a : Addr) (oe : Obj) (pn : List (Addr × Obj)), DSs (X.suite a ((a, oe) :: pn)) (b1 :: suite1) s1)
    (hs2 : ∀ (a : Addr) (oe : Obj) (pn : List (Addr × Obj)), DSs (X.suite a ((a, oe) :: pn)) (b2 :: suite2) s2) :
    DS X (.Try body [.ExceptHandler (some (.Name x1 np1)) none (b1 :: suite1) pp1, .ExceptHandler (some (.Name x2 np2)) none (b2 :: suite2) pp2] [] [] pos) (s3Try2 X.K c1 c2 sb s1 s2) := fun W2 tk hp =>
  (ps_try_many (tb := fun W => lowS X.K W sb) (Wout := W2) (l := [(c1, fun _ _ _ => lowS X.K (fun _ _ _ _ => False) s1), (c2, fun _ _ _ => lowS X.K (fun _ _ _ _ => False) s2)]) hs hf tk (fun W pn xe tk' hp' => hb pn xe W tk' hp')
    (.cons hc1 (fun a oe cls d pn _ _ => hs1 a oe pn _ takes0 PassesOwn.never) (.cons hc2 (fun a oe cls d pn _ _ => hs2 a oe pn _ takes0 PassesOwn.never) .nil))).imp fun D2 σ H ⟨env, M, W, D3, s, a, l, q, le⟩ =>
    ⟨env, M, _, D3, s, a, fun cls dd σ' H' env' M' t s' a' ⟨b, e, y1, n1⟩ => ⟨b, e, fun hb a0 na => ⟨env', M', W0, D3, s', a', LW0, y1 hb, le.mono t⟩, fun hb => (let ⟨b', e', y2, n2⟩ := n1 hb
      ⟨b', e', fun hb' a0 na => ⟨env', M', W0, D3, s', a', LW0, y2 hb', le.mono t⟩, fun hb' => l cls dd σ' H' env' M' t s' a' (n2 hb')⟩)⟩, q, le⟩
end
end L3

namespace L3
open PySem PySem.Spec PyProof.Rows L2
/-! ### networks -/
structure Net where
  many : Nat
  links : List (List Int)
  wh : List Int
  bl : List Int
def netD (N : Net) : D := .tup [.str "network", .int (N.many : Int), .tup (N.links.map rowD), rowD N.wh, rowD N.bl]
structure Good (N : Net) (c : Nat) : Prop where
  m1 : 1 ≤ N.many
  m2 : N.many ≤ 400
  c4 : c ≤ 4
  l : N.links.length = c
  o : ∀ l ∈ N.links, Ord N.many l
  w : N.wh.length = N.many
  b : N.bl.length = N.many
  iw : ∀ x ∈ N.wh, 0 ≤ x ∧ x < 100
  ib : ∀ x ∈ N.bl, 0 ≤ x ∧ x < 100
def sideS (b : Bool) : Str := if b then "white" else "black"
theorem side_w (b : Bool) : decide (sideS b = "white") = b := by cases b <;> decide
theorem side_b (b : Bool) : decide (sideS b = "black") = !b := by cases b <;> decide
def behind (N : Net) (b : Bool) (k : Int) (c : Nat) : Int := if b then (N.links.getD c []).getD k.toNat 0 else ((N.links.getD c []).idxOf k : Nat)
def inp (N : Net) (b : Bool) (k : Int) : Int := (if b then N.wh else N.bl).getD k.toNat 0
def viewD (N : Net) : Nat → Bool → Int → Int → D
  | 0, b, k, _ => .tup [.int (inp N b k)]
  | r + 1, b, k, back => .tup [.int (inp N b k), .tup ((List.range N.links.length).map fun c : Nat => if (c : Int) + 1 = back then .non else viewD N r (!b) (behind N b k c) ((c : Int) + 1))]
section
variable {N : Net} {c : Nat}
theorem Good.link (g : Good N c) {i : Nat} (hi : i < c) : N.links.getD i [] ∈ N.links ∧ Ord N.many (N.links.getD i []) ∧ (N.links.map rowD)[i]? = some (rowD (N.links.getD i [])) := by
  have hl : i < N.links.length := by rw [g.l]; exact hi
  have e : N.links.getD i [] = N.links[i] := by simp [hl]
  rw [e]
  exact ⟨List.getElem_mem hl, g.o _ (List.getElem_mem hl), by rw [List.getElem?_map, List.getElem?_eq_getElem hl]; rfl⟩
theorem getD_at {xs : List Int} {k : Int} (k0 : 0 ≤ k) (k1 : k < xs.length) : xs.getD k.toNat 0 ∈ xs ∧ atI (xs.map D.int) k = some (.int (xs.getD k.toNat 0)) := by
  obtain ⟨j, rfl⟩ := Int.eq_ofNat_of_zero_le k0
  have hj : j < xs.length := by omega
  have e : xs.getD (j : Int).toNat 0 = xs[j] := by rw [Int.toNat_natCast]; simp [hj]
  rw [e]
  exact ⟨List.getElem_mem hj, atI_nat (get_map hj)⟩
theorem Good.behind (g : Good N c) {b : Bool} {k : Int} {i : Nat} (hi : i < c) (k0 : 0 ≤ k) (k1 : k < N.many) : 0 ≤ behind N b k i ∧ behind N b k i < N.many := by
  obtain ⟨_, o, _⟩ := g.link hi
  cases b with
  | true =>
    show 0 ≤ (N.links.getD i []).getD k.toNat 0 ∧ (N.links.getD i []).getD k.toNat 0 < N.many
    exact o.mem.mp (getD_at k0 (by rw [o.len]; exact k1)).1
  | false =>
    show 0 ≤ (((N.links.getD i []).idxOf k : Nat) : Int) ∧ (((N.links.getD i []).idxOf k : Nat) : Int) < N.many
    have h := List.idxOf_lt_length_iff.mpr (o.mem.mpr ⟨k0, k1⟩)
    rw [o.len] at h
    omega
theorem Good.inp (g : Good N c) {b : Bool} {k : Int} (k0 : 0 ≤ k) (k1 : k < N.many) : 0 ≤ inp N b k ∧ inp N b k < 100 := by
  cases b with
  | true => exact g.iw _ (getD_at k0 (by rw [g.w]; exact k1)).1
  | false => exact g.ib _ (getD_at k0 (by rw [g.b]; exact k1)).1
def viewW : Nat → Nat
  | 0 => 62
  | r + 1 => 2 * (4 * (viewW r + 1) + 1)
theorem viewW_pos : ∀ r, 30 ≤ viewW r
  | 0 => by decide
  | r + 1 => by
    have := viewW_pos r
    show 30 ≤ 2 * (4 * (viewW r + 1) + 1)
    omega
theorem fit_view (g : Good N c) : ∀ (r : Nat) (b : Bool) (k back : Int), 0 ≤ k → k < N.many → Fit (2 * r + 1) (viewW r) (viewD N r b k back)
  | 0, b, k, back, k0, k1 => by
    obtain ⟨i0, i1⟩ := g.inp (b := b) k0 k1
    refine fit_tup (k := 0) (w := 30) (n := 1) (fun x hx => ?_) (Nat.le_refl _) (by decide) (by decide)
    rw [List.mem_singleton] at hx
    subst hx
    exact fit_int (by omega) (Nat.le_refl _)
  | r + 1, b, k, back, k0, k1 => by
    obtain ⟨i0, i1⟩ := g.inp (b := b) k0 k1
    have hp := viewW_pos r
    refine fit_tup (k := 2 * r + 2) (w := 4 * (viewW r + 1)) (n := 2) (fun x hx => ?_) (Nat.le_refl _) (Nat.le_refl _) (by omega)
    simp only [List.mem_cons, List.not_mem_nil, or_false] at hx
    rcases hx with rfl | rfl
    · exact fit_int (by omega) (by omega)
    · refine fit_tup (k := 2 * r + 1) (w := viewW r) (n := 4) (fun x hx => ?_) (by rw [List.length_map, List.length_range, g.l]; exact g.c4) (Nat.le_refl _) (Nat.le_refl _)
      obtain ⟨i, hi, rfl⟩ := List.mem_map.mp hx
      have hi' : i < c := by rw [← g.l]; exact List.mem_range.mp hi
      split
      · exact fit_non
      · exact fit_view g r (!b) _ _ (g.behind hi' k0 k1).1 (g.behind hi' k0 k1).2
theorem fit_net (g : Good N c) : Fit 3 250000 (netD N) := by
  have rows : ∀ l : List Int, l.length = N.many → (∀ x ∈ l, 0 ≤ x ∧ x < 1000) → Fit 1 (400 * 31) (rowD l) := fun l hl hx => fit_row (n := 400) (fun x h => by have := hx x h; omega) (by rw [hl]; exact g.m2)
  have m1 := g.m1
  have m2 := g.m2
  refine fit_tup (k := 2) (w := 4 * (400 * 31 + 1)) (n := 5) (fun x hx => ?_) (Nat.le_refl _) (by decide) (Nat.le_refl _)
  simp only [List.mem_cons, List.not_mem_nil, or_false] at hx
  rcases hx with rfl | rfl | rfl | rfl | rfl
  · exact ⟨rfl, by decide +kernel, by simp [pyOf, PyData.depth], by simp only [pyOf, PyData.weight]; decide⟩
  · exact fit_int (by omega) (by decide)
  · refine fit_tup (k := 1) (w := 400 * 31) (n := 4) (fun x hx => ?_) (by rw [List.length_map, g.l]; exact g.c4) (Nat.le_refl _) (Nat.le_refl _)
    obtain ⟨l, hl, rfl⟩ := List.mem_map.mp hx
    have o := g.o l hl
    exact rows l o.len fun x h => by have := o.mem.mp h; omega
  · exact (rows _ g.w fun x h => by have := g.iw x h; omega).mono (by decide) (by decide)
  · exact (rows _ g.b fun x h => by have := g.ib x h; omega).mono (by decide) (by decide)
end
/-! ### the program's defs on networks -/
def tOtherSide : S3 := (s3Ret (e3If (t3Test (e3Op r3Eq (e3Var 0) (e3C (.str "white")))) (e3C (.str "black")) (e3C (.str "white"))))
def spOtherSide : Sp3 := fun ds M Q _ => ∃ b, ds = [.str (sideS b)] ∧ Q (.str (sideS (!b))) M
theorem rdOtherSide : Rd3 ["side"] tOtherSide spOtherSide := by
  rintro ds M Q E ⟨b, rfl, q⟩
  conv => whnf
  refine eq_str ?_
  rw [side_w]
  cases b with
  | true => exact Br.tt ⟨M, Sub.refl _, q⟩
  | false => exact Br.ff ⟨M, Sub.refl _, q⟩
def tMetBehind : S3 :=
    (s3Seq (s3Asg (e3Op r3Ix (e3Op r3Ix (e3Var 0) (e3C (.int 2))) (e3Op r3Sub (e3Var 3) (e3C (.int 1)))) 4)
    (s3Ret (e3If (t3Test (e3Op r3Eq (e3Var 1) (e3C (.str "white")))) (e3Op r3Ix (e3Var 4) (e3Var 2)) (e3Tm m3Tix (e3Var 4) (a3Cons (e3Var 2) a3Nil)))))
def spMetBehind : Sp3 := fun ds M Q _ => ∃ (N : Net) (c : Nat) (b : Bool) (k : Int) (i : Nat), ds = [netD N, .str (sideS b), .int k, .int ((i : Int) + 1)] ∧ Good N c ∧ 0 ≤ k ∧ k < N.many ∧ i < c ∧ Q (.int (behind N b k i)) M
theorem rdMetBehind : Rd3 ["network", "side", "node", "colour", "links"] tMetBehind spMetBehind := by
  rintro ds M Q E ⟨N, c, b, k, i, rfl, g, k0, k1, hi, q⟩
  obtain ⟨_, o, hat⟩ := g.link hi
  refine ⟨_, rfl, rowD (N.links.getD i []), ?_, ?_⟩
  · rw [Int.add_sub_cancel]
    exact atI_nat hat
  conv => whnf
  refine eq_str ?_
  rw [side_w]
  cases b with
  | true => exact Br.tt ⟨_, (getD_at k0 (by rw [o.len]; exact k1)).2, M, Sub.refl _, q⟩
  | false => exact Br.ff ⟨_, rfl, o.mem.mpr ⟨k0, k1⟩, M, Sub.refl _, q⟩
def tInputOf : S3 := (s3Ret (e3If (t3Test (e3Op r3Eq (e3Var 1) (e3C (.str "white")))) (e3Op r3Ix (e3Op r3Ix (e3Var 0) (e3C (.int 3))) (e3Var 2)) (e3Op r3Ix (e3Op r3Ix (e3Var 0) (e3C (.int 4))) (e3Var 2))))
def spInputOf : Sp3 := fun ds M Q _ => ∃ (N : Net) (c : Nat) (b : Bool) (k : Int), ds = [netD N, .str (sideS b), .int k] ∧ Good N c ∧ 0 ≤ k ∧ k < N.many ∧ Q (.int (inp N b k)) M
theorem rdInputOf : Rd3 ["network", "side", "node"] tInputOf spInputOf := by
  rintro ds M Q E ⟨N, c, b, k, rfl, g, k0, k1, q⟩
  conv => whnf
  refine eq_str ?_
  rw [side_w]
  cases b with
  | true => exact Br.tt ⟨_, rfl, _, (getD_at k0 (by rw [g.w]; exact k1)).2, M, Sub.refl _, q⟩
  | false => exact Br.ff ⟨_, rfl, _, (getD_at k0 (by rw [g.b]; exact k1)).2, M, Sub.refl _, q⟩
def tBranchIn (sI sB sO sf : Sp3) : S3 :=
    (s3Seq (s3Asg (e3Call sI (a3Cons (e3Var 0) (a3Cons (e3Var 1) (a3Cons (e3Var 2) a3Nil)))) 5)
    (s3Seq (s3If (t3Test (e3Op r3Eq (e3Var 3) (e3C (.int 0)))) (s3Ret (e3Tup (a3Cons (e3Var 5) a3Nil))) s3Nil)
    (s3Seq (s3Asg (e3Lst a3Nil) 6)
    (s3Seq (s3For (i3Rng2 (a3Cons (e3C (.int 1)) (a3Cons (e3Op r3Add (e3CB c3Len (a3Cons (e3Op r3Ix (e3Var 0) (e3C (.int 2))) a3Nil)) (e3C (.int 1))) a3Nil))) (g3Name 7) (s3If (t3Test (e3Op r3Eq (e3Var 7) (e3Var 4))) (s3Expr (e3Bm m3App (e3Var 6) (a3Cons (e3C .non) a3Nil))) (s3Seq (s3Asg (e3Call sB (a3Cons (e3Var 0) (a3Cons (e3Var 1) (a3Cons (e3Var 2) (a3Cons (e3Var 7) a3Nil))))) 8)
    (s3Expr (e3Bm m3App (e3Var 6) (a3Cons (e3Call sf (a3Cons (e3Var 0) (a3Cons (e3Call sO (a3Cons (e3Var 1) a3Nil)) (a3Cons (e3Var 8) (a3Cons (e3Op r3Sub (e3Var 3) (e3C (.int 1))) (a3Cons (e3Var 7) a3Nil)))))) a3Nil))))))
    (s3Ret (e3Tup (a3Cons (e3Var 5) (a3Cons (e3TupOf (e3Var 6)) a3Nil))))))))
abbrev NBranchIn : List Str := ["network", "side", "node", "reach", "colour", "number", "parts", "other", "behind"]
/-- the promise to a depth -/
def spView (n : Nat) : Sp3 := fun ds M Q _ => ∃ (N : Net) (c r : Nat) (b : Bool) (k back : Int), ds = [netD N, .str (sideS b), .int k, .int (r : Int), .int back] ∧ Good N c ∧ 0 ≤ k ∧ k < N.many ∧ r ≤ n ∧ Q (viewD N r b k back) M
def partD (N : Net) (r : Nat) (b : Bool) (k back : Int) (c : Nat) : D := if (c : Int) + 1 = back then .non else viewD N r (!b) (behind N b k c) ((c : Int) + 1)
theorem viewD_succ {N : Net} {r : Nat} {b : Bool} {k back : Int} : viewD N (r + 1) b k back = .tup [.int (inp N b k), .tup ((List.range N.links.length).map (partD N r b k back))] := rfl
theorem parts_step {N : Net} {r : Nat} {b : Bool} {k back : Int} {i : Nat} {x : D} (h : partD N r b k back i = x) : (List.range i).map (partD N r b k back) ++ [x] = (List.range (i + 1)).map (partD N r b k back) := by
  rw [List.range_succ, List.map_append, ← h]; rfl
theorem rdBranchIn {n : Nat} {sf : Sp3} (hf : n = 0 ∨ ∃ j, n = j + 1 ∧ sf = spView j) : Rd3 NBranchIn (tBranchIn spInputOf spMetBehind spOtherSide sf) (spView n) := by
  rintro ds M Q E ⟨N, c, r, b, k, back, rfl, g, k0, k1, hr, q⟩
  refine ⟨N, c, b, k, rfl, g, k0, k1, ?_⟩
  conv => whnf
  refine eq_int ⟨fun e => ?_, fun e => ?_⟩
  · have r0 : r = 0 := by have := of_decide_eq_true e; omega
    subst r0
    exact ⟨szLe (by show 1 ≤ 1000000; decide), M, Sub.refl _, q⟩
  have rp : r ≠ 0 := fun z => by subst z; exact of_decide_eq_false e rfl
  obtain ⟨r, rfl⟩ := Nat.exists_eq_succ_of_ne_zero rp
  obtain ⟨j, rfl, rfl⟩ : ∃ j, n = j + 1 ∧ sf = spView j := by
    rcases hf with h | h
    · omega
    · exact h
  refine ⟨szLe (by simp), fun w nw => ?_⟩
  refine ⟨_, rfl, ?_⟩
  have lc : (N.links.map rowD).length = c := by rw [List.length_map, g.l]
  have c4 := g.c4
  conv => whnf
  rw [lc]
  refine ⟨⟨by decide, by decide, by omega, by omega⟩, ?_⟩
  rw [show ((c : Int) + 1 - 1).toNat = c by omega]
  refine ⟨fun i env' M' => ∃ s7 s8, env' = [some (netD N), some (.str (sideS b)), some (.int k), some (.int ((r + 1 : Nat) : Int)), some (.int back), some (.int (inp N b k)), some (.ref w), s7, s8] ∧ Sub M M' ∧ M' w = some (.lst ((List.range i).map (partD N r b k back))), ⟨none, none, rfl, (Sub.refl M).new nw, updM_same⟩, ?_, ?_⟩
  · rintro i d env' M' hd ⟨s7, s8, rfl, sub, hw⟩
    obtain ⟨hi, rfl⟩ := rngD_get hd
    have e1 : (1 : Int) + (i : Int) = (i : Int) + 1 := Int.add_comm 1 _
    rw [e1]
    have hz : ((List.range i).map (partD N r b k back)).length < sizeLine := szLt (by rw [List.length_map, List.length_range]; omega)
    refine ⟨trivial, eq_int ⟨fun e => ?_, fun e => ?_⟩⟩
    · refine ⟨⟨_, .inl hw⟩, _, hw, hz, _, _, rfl, sub.new nw, ?_⟩
      rw [updM_same, parts_step]
      unfold partD
      rw [if_pos (of_decide_eq_true e)]
    · obtain ⟨b0, b1⟩ := g.behind (b := b) hi k0 k1
      refine ⟨N, c, b, k, i, rfl, g, k0, k1, hi, ⟨_, .inl hw⟩, b, rfl, N, c, r, !b, behind N b k i, (i : Int) + 1, ?_, g, b0, b1, by omega, _, hw, hz, _, _, rfl, sub.new nw, ?_⟩
      · rw [show ((r + 1 : Nat) : Int) - 1 = (r : Int) by omega]
      · rw [updM_same, parts_step]
        unfold partD
        rw [if_neg (of_decide_eq_false e)]
  · rintro env' M' ⟨s7, s8, rfl, sub, hw⟩
    rw [rngD_length] at hw
    refine ⟨trivial, _, .inl hw, szLe (by show 2 ≤ 1000000; decide), M, sub, ?_⟩
    have q' := q
    rw [show r.succ = r + 1 from rfl, viewD_succ, g.l] at q'
    exact q'
end L3

namespace My
open PySem PySem.Spec PyProof.Rows L2 L3

def topS (i : Nat) : Stmt := PySem.Challenge.pw_looksfar_k35_kinds.main.body.getD i (.Pass ⟨0, 0, 0, 0⟩)
abbrev s_is_number : Stmt := topS 5
abbrev N_is_number : List Str := ["value", "least", "most"]
theorem sc_is_number : FnScope N_is_number ["value", "least", "most"] (defScope s_is_number) := ⟨rfl, rfl, rfl, by decide +kernel, rfl, by decide +kernel, by decide +kernel⟩
abbrev s_are_inputs : Stmt := topS 7
abbrev N_are_inputs : List Str := ["inputs", "many", "bound", "number"]
theorem sc_are_inputs : FnScope N_are_inputs ["inputs", "many", "bound"] (defScope s_are_inputs) := ⟨rfl, rfl, rfl, by decide +kernel, rfl, by decide +kernel, by decide +kernel⟩
abbrev s_are_links : Stmt := topS 8
abbrev N_are_links : List Str := ["links", "many", "met", "node"]
theorem sc_are_links : FnScope N_are_links ["links", "many"] (defScope s_are_links) := ⟨rfl, rfl, rfl, by decide +kernel, rfl, by decide +kernel, by decide +kernel⟩
abbrev s_check_plain : Stmt := topS 11
abbrev N_check_plain : List Str := ["network", "many", "links", "row"]
theorem sc_check_plain : FnScope N_check_plain ["network"] (defScope s_check_plain) := ⟨rfl, rfl, rfl, by decide +kernel, rfl, by decide +kernel, by decide +kernel⟩
abbrev s_back_links : Stmt := topS 12
abbrev N_back_links : List Str := ["network", "found", "row", "back", "white", "black"]
theorem sc_back_links : FnScope N_back_links ["network"] (defScope s_back_links) := ⟨rfl, rfl, rfl, by decide +kernel, rfl, by decide +kernel, by decide +kernel⟩
abbrev s_numbered : Stmt := topS 13
abbrev N_numbered : List Str := ["marks", "places", "found", "mark"]
theorem sc_numbered : FnScope N_numbered ["marks"] (defScope s_numbered) := ⟨rfl, rfl, rfl, by decide +kernel, rfl, by decide +kernel, by decide +kernel⟩
abbrev s_finer : Stmt := topS 14
abbrev N_finer : List Str := ["own", "other", "links", "marks", "node", "number", "row"]
theorem sc_finer : FnScope N_finer ["own", "other", "links"] (defScope s_finer) := ⟨rfl, rfl, rfl, by decide +kernel, rfl, by decide +kernel, by decide +kernel⟩
abbrev s_kinds : Stmt := topS 15
abbrev N_kinds : List Str := ["network", "back", "many", "white", "black"]
theorem sc_kinds : FnScope N_kinds ["network"] (defScope s_kinds) := ⟨rfl, rfl, rfl, by decide +kernel, rfl, by decide +kernel, by decide +kernel⟩
abbrev s_first_of : Stmt := topS 16
abbrev N_first_of : List Str := ["numbers", "kind"]
theorem sc_first_of : FnScope N_first_of ["numbers"] (defScope s_first_of) := ⟨rfl, rfl, rfl, by decide +kernel, rfl, by decide +kernel, by decide +kernel⟩
abbrev s_base_of : Stmt := topS 17
abbrev N_base_of : List Str := ["network", "links", "inputs", "white", "black", "whites", "blacks", "row", "node"]
theorem sc_base_of : FnScope N_base_of ["network"] (defScope s_base_of) := ⟨rfl, rfl, rfl, by decide +kernel, rfl, by decide +kernel, by decide +kernel⟩
abbrev s_law_draws : Stmt := topS 19
abbrev N_law_draws : List Str := ["script", "many", "rests", "draws", "k", "cell", "mixed", "at"]
theorem sc_law_draws : FnScope N_law_draws ["script", "many"] (defScope s_law_draws) := ⟨rfl, rfl, rfl, by decide +kernel, rfl, by decide +kernel, by decide +kernel⟩
abbrev s_law_take : Stmt := topS 20
abbrev N_law_take : List Str := ["hand", "many", "at", "draws"]
theorem sc_law_take : FnScope N_law_take ["hand", "many"] (defScope s_law_take) := ⟨rfl, rfl, rfl, by decide +kernel, rfl, by decide +kernel, by decide +kernel⟩
abbrev s_law_whole : Stmt := topS 21
abbrev N_law_whole : List Str := ["found"]
theorem sc_law_whole : FnScope N_law_whole ["found"] (defScope s_law_whole) := ⟨rfl, rfl, rfl, by decide +kernel, rfl, by decide +kernel, by decide +kernel⟩
abbrev s_law_like : Stmt := topS 22
abbrev N_law_like : List Str := ["found", "due", "k"]
theorem sc_law_like : FnScope N_law_like ["found", "due"] (defScope s_law_like) := ⟨rfl, rfl, rfl, by decide +kernel, rfl, by decide +kernel, by decide +kernel⟩
abbrev s_law_order : Stmt := topS 23
abbrev N_law_order : List Str := ["hand", "many", "left", "order", "k"]
theorem sc_law_order : FnScope N_law_order ["hand", "many"] (defScope s_law_order) := ⟨rfl, rfl, rfl, by decide +kernel, rfl, by decide +kernel, by decide +kernel⟩
abbrev s_law_network : Stmt := topS 24
abbrev N_law_network : List Str := ["hand", "colours", "many", "p", "q", "links", "white", "c", "i"]
theorem sc_law_network : FnScope N_law_network ["hand", "colours", "many", "p", "q"] (defScope s_law_network) := ⟨rfl, rfl, rfl, by decide +kernel, rfl, by decide +kernel, by decide +kernel⟩
abbrev s_law_wrong_network : Stmt := topS 25
abbrev N_law_wrong_network : List Str := ["hand", "network", "twice", "wrong", "number", "other", "first", "strange", "inputs", "word", "many", "links", "white", "black"]
theorem sc_law_wrong_network : FnScope N_law_wrong_network ["hand", "network"] (defScope s_law_wrong_network) := ⟨rfl, rfl, rfl, by decide +kernel, rfl, by decide +kernel, by decide +kernel⟩
abbrev s_law_behind : Stmt := topS 26
abbrev N_law_behind : List Str := ["network", "side", "node", "colour"]
theorem sc_law_behind : FnScope N_law_behind ["network", "side", "node", "colour"] (defScope s_law_behind) := ⟨rfl, rfl, rfl, by decide +kernel, rfl, by decide +kernel, by decide +kernel⟩
abbrev s_law_branch : Stmt := topS 27
abbrev N_law_branch : List Str := ["network", "side", "node", "reach", "colour", "here", "parts", "c"]
theorem sc_law_branch : FnScope N_law_branch ["network", "side", "node", "reach", "colour"] (defScope s_law_branch) := ⟨rfl, rfl, rfl, by decide +kernel, rfl, by decide +kernel, by decide +kernel⟩
abbrev s_law_kinds : Stmt := topS 28
abbrev N_law_kinds : List Str := ["network", "sides", "turn", "finer_v", "side", "marks", "node", "near", "c"]
theorem sc_law_kinds : FnScope N_law_kinds ["network"] (defScope s_law_kinds) := ⟨rfl, rfl, rfl, by decide +kernel, rfl, by decide +kernel, by decide +kernel⟩
abbrev s_law_counted : Stmt := topS 29
abbrev N_law_counted : List Str := ["marks", "known", "mark"]
theorem sc_law_counted : FnScope N_law_counted ["marks"] (defScope s_law_counted) := ⟨rfl, rfl, rfl, by decide +kernel, rfl, by decide +kernel, by decide +kernel⟩
abbrev s_law_base : Stmt := topS 30
abbrev N_law_base : List Str := ["network", "many", "firsts", "links", "colour", "inputs", "white", "black", "kind", "at", "node"]
theorem sc_law_base : FnScope N_law_base ["network"] (defScope s_law_base) := ⟨rfl, rfl, rfl, by decide +kernel, rfl, by decide +kernel, by decide +kernel⟩
abbrev s_law_cover : Stmt := topS 31
abbrev N_law_cover : List Str := ["network", "turns", "copies", "links", "c", "sides", "inputs", "row", "i", "s", "k"]
theorem sc_law_cover : FnScope N_law_cover ["network", "turns"] (defScope s_law_cover) := ⟨rfl, rfl, rfl, by decide +kernel, rfl, by decide +kernel, by decide +kernel⟩
abbrev s_law_turns : Stmt := topS 32
abbrev N_law_turns : List Str := ["hand", "network", "copies", "turns", "c", "i"]
theorem sc_law_turns : FnScope N_law_turns ["hand", "network", "copies"] (defScope s_law_turns) := ⟨rfl, rfl, rfl, by decide +kernel, rfl, by decide +kernel, by decide +kernel⟩
abbrev s_law_mixed_up : Stmt := topS 33
abbrev N_law_mixed_up : List Str := ["hand", "network", "white", "black", "links", "colour", "inputs", "i"]
theorem sc_law_mixed_up : FnScope N_law_mixed_up ["hand", "network"] (defScope s_law_mixed_up) := ⟨rfl, rfl, rfl, by decide +kernel, rfl, by decide +kernel, by decide +kernel⟩
abbrev s_law_copies : Stmt := topS 34
abbrev N_law_copies : List Str := ["hand", "colours", "p", "q", "most", "network", "copies"]
theorem sc_law_copies : FnScope N_law_copies ["hand", "colours", "p", "q", "most"] (defScope s_law_copies) := ⟨rfl, rfl, rfl, by decide +kernel, rfl, by decide +kernel, by decide +kernel⟩
abbrev s_law_refused : Stmt := topS 35
abbrev N_law_refused : List Str := ["network", "first"]
theorem sc_law_refused : FnScope N_law_refused ["network", "first"] (defScope s_law_refused) := ⟨rfl, rfl, rfl, by decide +kernel, rfl, by decide +kernel, by decide +kernel⟩
abbrev s_law_alike_views : Stmt := topS 36
abbrev N_law_alike_views : List Str := ["network", "numbers", "reach", "side", "node", "first"]
theorem sc_law_alike_views : FnScope N_law_alike_views ["network", "numbers"] (defScope s_law_alike_views) := ⟨rfl, rfl, rfl, by decide +kernel, rfl, by decide +kernel, by decide +kernel⟩
abbrev s_law_right : Stmt := topS 37
abbrev N_law_right : List Str := ["network", "due", "base", "every"]
theorem sc_law_right : FnScope N_law_right ["network"] (defScope s_law_right) := ⟨rfl, rfl, rfl, by decide +kernel, rfl, by decide +kernel, by decide +kernel⟩
abbrev s_law_asked : Stmt := topS 38
abbrev N_law_asked : List Str := ["script", "hand", "colours", "p", "q", "first", "second", "bad"]
theorem sc_law_asked : FnScope N_law_asked ["script"] (defScope s_law_asked) := ⟨rfl, rfl, rfl, by decide +kernel, rfl, by decide +kernel, by decide +kernel⟩
abbrev s_law : Stmt := topS 39
abbrev N_law : List Str := ["script"]
theorem sc_law : FnScope N_law ["script"] (defScope s_law) := ⟨rfl, rfl, rfl, by decide +kernel, rfl, by decide +kernel, by decide +kernel⟩
structure Gm where
  K : Fg
  LookError : Addr
  BadNetwork : Addr
structure Txt (G : Gm) (mg : Str → Option Value) : Prop where
  nol : noList G.K = true
  n_abs : mg "abs" = none
  n_all : mg "all" = none
  n_bool : mg "bool" = none
  n_enumerate : mg "enumerate" = none
  n_int : mg "int" = none
  n_isinstance : mg "isinstance" = none
  n_len : mg "len" = none
  n_list : mg "list" = none
  n_max : mg "max" = none
  n_range : mg "range" = none
  n_str : mg "str" = none
  n_sum : mg "sum" = none
  n_tuple : mg "tuple" = none
  c_MOST_INPUTS : Cst mg "MOST_INPUTS" (.int 4)
  c_MOST_NODES : Cst mg "MOST_NODES" (.int 400)
  x_LookError : ExcT G.K mg "LookError" G.LookError
  x_BadNetwork : ExcT G.K mg "BadNetwork" G.BadNetwork
  e_BadNetwork_BadNetwork : PySem.W.exmOne G.K (.ref G.BadNetwork) (.ref G.BadNetwork) = some true
  e_BadNetwork_LookError : PySem.W.exmOne G.K (.ref G.BadNetwork) (.ref G.LookError) = some true
  e_LookError_BadNetwork : PySem.W.exmOne G.K (.ref G.LookError) (.ref G.BadNetwork) = some false
  e_LookError_LookError : PySem.W.exmOne G.K (.ref G.LookError) (.ref G.LookError) = some true
end My

namespace L3
open PySem PySem.Spec PyProof.Rows L2
/-- a comprehension by the places -/
theorem lcIdx {ds : List D} {keep : MH → Prop} {i : Nat} {te : E3} {env : En} {p : Addr} {M : MH} {Q : MH → Prop} (g : Nat → D) (hp : M p = none) (hk : ∀ M', Sub M M' → keep M')
    (he : ∀ (k : Nat) (d : D) (M' : MH) (R : Q3), ds[k]? = some d → Sub M M' → (∀ M'', Sub M' M'' → R (g k) M'') → te W0 (env.set i (some d)) M' R) (hsz : ds.length < sizeLine)
    (hq : ∀ M', Sub M M' → M' p = some (.lst ((List.range ds.length).map g)) → Q M') : LoopC ds keep i t3Yes te env p M Q := by
  refine ⟨fun k acc M' => acc = (List.range k).map g ∧ Sub M M', ⟨rfl, (Sub.refl M).new hp⟩, ?_, ?_⟩
  · rintro k d acc M' hd ⟨rfl, sub⟩ hpM
    have hlt := (List.getElem?_eq_some_iff.mp hd).1
    refine ⟨hk M' sub, Br.tt (he k d M' _ hd sub fun M'' s2 => ⟨(List.range k).map g, s2 p _ hpM, ?_, ?_, (sub.trans s2).new hp⟩)⟩
    · rw [List.length_map, List.length_range]
      exact Nat.lt_trans hlt hsz
    · rw [List.range_succ, List.map_append]
      rfl
  · rintro acc M' ⟨rfl, sub⟩ hpM
    exact ⟨hk M' sub, hq M' sub hpM⟩
theorem range_get {g : Nat → D} {n k : Nat} {d : D} (h : ((List.range n).map g)[k]? = some d) : k < n ∧ d = g k := by
  rw [List.getElem?_map] at h
  by_cases hk : k < n
  · rw [List.getElem?_range hk] at h
    exact ⟨hk, (Option.some.inj h).symm⟩
  · rw [List.getElem?_eq_none (by simpa using hk)] at h
    cases h
theorem range_at {g : Nat → D} {n k : Nat} (h : k < n) : ((List.range n).map g)[k]? = some (g k) := by
  rw [List.getElem?_map, List.getElem?_range h]; rfl
/-! ### trees: views by a walk -/
section
variable {S : Type} (num : S → Int) (nx : S → Int → S) (cs : Nat)
def treeG : Nat → S → Int → D
  | 0, s, _ => .tup [.int (num s)]
  | r + 1, s, back => .tup [.int (num s), .tup ((List.range cs).map fun c : Nat => if (c : Int) + 1 = back then .non else treeG r (nx s ((c : Int) + 1)) ((c : Int) + 1))]
def partG (r : Nat) (s : S) (back : Int) (c : Nat) : D := if (c : Int) + 1 = back then .non else treeG num nx cs r (nx s ((c : Int) + 1)) ((c : Int) + 1)
theorem treeG_zero {s : S} {back : Int} : treeG num nx cs 0 s back = .tup [.int (num s)] := rfl
theorem treeG_succ {r : Nat} {s : S} {back : Int} : treeG num nx cs (r + 1) s back = .tup [.int (num s), .tup ((List.range cs).map (partG num nx cs r s back))] := rfl
variable {num nx cs}
theorem tree_not_non {r : Nat} {s : S} {b : Int} : isNonD (treeG num nx cs r s b) = false := by cases r <;> rfl
theorem part_in {r : Nat} {s : S} {b : Int} {c : Nat} (h : (c : Int) + 1 ≠ b) : partG num nx cs r s b c = treeG num nx cs r (nx s ((c : Int) + 1)) ((c : Int) + 1) := if_neg h
theorem part_out {r : Nat} {s : S} {b : Int} {c : Nat} (h : (c : Int) + 1 = b) : partG num nx cs r s b c = .non := if_pos h
theorem parts_app {r : Nat} {s : S} {b : Int} {i : Nat} {x : D} (h : partG num nx cs r s b i = x) : (List.range i).map (partG num nx cs r s b) ++ [x] = (List.range (i + 1)).map (partG num nx cs r s b) := by
  rw [List.range_succ, List.map_append, ← h]; rfl
theorem fit_tree (hn : ∀ s, 0 ≤ num s ∧ num s < 100) (hc : cs ≤ 4) : ∀ (r : Nat) (s : S) (b : Int), Fit (2 * r + 1) (viewW r) (treeG num nx cs r s b)
  | 0, s, b => by
    have := hn s
    refine fit_tup (k := 0) (w := 30) (n := 1) (fun x hx => ?_) (Nat.le_refl _) (by decide) (by decide)
    rw [List.mem_singleton] at hx
    subst hx
    exact fit_int (by omega) (Nat.le_refl _)
  | r + 1, s, b => by
    have := hn s
    have hp := viewW_pos r
    refine fit_tup (k := 2 * r + 2) (w := 4 * (viewW r + 1)) (n := 2) (fun x hx => ?_) (Nat.le_refl _) (Nat.le_refl _) (by omega)
    simp only [List.mem_cons, List.not_mem_nil, or_false] at hx
    rcases hx with rfl | rfl
    · exact fit_int (by omega) (by omega)
    · refine fit_tup (k := 2 * r + 1) (w := viewW r) (n := 4) (fun x hx => ?_) (by rw [List.length_map, List.length_range]; exact hc) (Nat.le_refl _) (Nat.le_refl _)
      obtain ⟨i, _, rfl⟩ := List.mem_map.mp hx
      split
      · exact fit_non
      · exact fit_tree hn hc r _ _
theorem viewW_le {i : Nat} (h : i ≤ 4) : viewW i ≤ 1048576 := by
  have : i = 0 ∨ i = 1 ∨ i = 2 ∨ i = 3 ∨ i = 4 := by omega
  rcases this with rfl | rfl | rfl | rfl | rfl <;> decide
end
/-! ### reach_of, shortened, backward -/
def tReachOf : S3 :=
    (s3Seq (s3Asg (e3C (.int 0)) 1)
    (s3Seq (s3While (t3Test (e3Op r3Eq (e3CB c3Len (a3Cons (e3Var 0) a3Nil)) (e3C (.int 2)))) (s3Seq (s3Asg (e3Op r3Add (e3Var 1) (e3C (.int 1))) 1)
    (s3Asg (e3Op r3Ix (e3Lc (i3Seq (e3Op r3Ix (e3Var 0) (e3C (.int 1)))) 2 (t3Test (e3Op r3IsNot (e3Var 2) (e3C .non))) (e3Var 2) [2]) (e3C (.int 0))) 0)))
    (s3Ret (e3Var 1))))
def spReachOf (S : Type) : Sp3 := fun ds M Q _ => ∃ (num : S → Int) (nx : S → Int → S) (cs r : Nat) (s : S) (b : Int), ds = [treeG num nx cs r s b] ∧ 2 ≤ cs ∧ cs ≤ 1000 ∧ Q (.int (r : Int)) M
theorem first_part {S : Type} {num : S → Int} {nx : S → Int → S} {cs r : Nat} {s : S} {b : Int} (hc : 2 ≤ cs) : ∃ s' b', atI ((((List.range cs).map (partG num nx cs r s b)).filter fun d => !isNonD d).map id) ((0 : Nat) : Int) = some (treeG num nx cs r s' b') := by
  generalize hL : ((List.range cs).map (partG num nx cs r s b)).filter (fun d => !isNonD d) = L
  have mem : ∀ x ∈ L, ∃ s' b', x = treeG num nx cs r s' b' := fun x hx => by
    rw [← hL, List.mem_filter] at hx
    obtain ⟨c, _, rfl⟩ := List.mem_map.mp hx.1
    by_cases h : (c : Int) + 1 = b
    · rw [part_out h] at hx
      exact absurd hx.2 (by decide)
    · exact ⟨_, _, part_in h⟩
  have some_ : L ≠ [] := by
    have pick : ∃ c, c < cs ∧ (c : Int) + 1 ≠ b := by
      by_cases h : ((0 : Nat) : Int) + 1 = b
      · exact ⟨1, by omega, by omega⟩
      · exact ⟨0, by omega, h⟩
    obtain ⟨c, h1, h2⟩ := pick
    have : partG num nx cs r s b c ∈ L := by
      rw [← hL, List.mem_filter]
      refine ⟨List.mem_map.mpr ⟨c, List.mem_range.mpr h1, rfl⟩, ?_⟩
      rw [part_in h2, tree_not_non]
      rfl
    intro z
    rw [z] at this
    simp at this
  match L, some_, mem with
  | x :: L, _, mem =>
    obtain ⟨s', b', rfl⟩ := mem x List.mem_cons_self
    exact ⟨s', b', atI_nat rfl⟩
theorem rdReachOf {S : Type} : Rd3 ["view", "reach", "part"] tReachOf (spReachOf S) := by
  rintro ds M Q E ⟨num, nx, cs, r, s, b, rfl, c2, c3, q⟩
  refine ⟨fun n env' M' => ∃ s' b' s2, n ≤ r ∧ env' = [some (treeG num nx cs n s' b'), some (.int ((r : Int) - (n : Int))), s2] ∧ Sub M M', ⟨r, s, b, none, Nat.le_refl _, by rw [Int.sub_self]; rfl, Sub.refl M⟩, ?_⟩
  rintro n env' M' ⟨s', b', s2, hn, rfl, sub⟩
  cases n with
  | zero =>
    refine eq_int (Br.no rfl ⟨M, sub, ?_⟩)
    rw [show (r : Int) - ((0 : Nat) : Int) = (r : Int) by omega]
    exact q
  | succ n =>
    refine eq_int (Br.yes rfl ?_)
    refine ⟨.tup ((List.range cs).map (partG num nx cs n s' b')), rfl, fun p np => ?_⟩
    refine lcFilter (fun d => !isNonD d) id np (fun _ _ => trivial) (fun k d M2 R hd s2 k2 => k2 M2 (Sub.refl _)) (fun k d M2 R hd hb s2 k2 => k2 M2 (Sub.refl _)) (szLt (by rw [List.length_map, List.length_range]; omega)) fun M2 s3 h2 => ?_
    obtain ⟨s'', b'', hat⟩ := first_part (num := num) (nx := nx) (r := n) (s := s') (b := b') c2
    refine ⟨_, _, .inl h2, hat, n, Nat.lt_succ_self n, s'', b'', s2, by omega, ?_, sub.trans s3⟩
    rw [show (r : Int) - ((n + 1 : Nat) : Int) + 1 = (r : Int) - (n : Int) by omega]
    rfl
def tShortened (sf : Sp3) : S3 :=
    (s3Seq (s3If (t3Test (e3Op r3Eq (e3Var 1) (e3C (.int 0)))) (s3Ret (e3Tup (a3Cons (e3Op r3Ix (e3Var 0) (e3C (.int 0))) a3Nil))) s3Nil)
    (s3Ret (e3Tup (a3Cons (e3Op r3Ix (e3Var 0) (e3C (.int 0))) (a3Cons (e3TupOf (e3Lc (i3Seq (e3Op r3Ix (e3Var 0) (e3C (.int 1)))) 2 t3Yes (e3If (t3Test (e3Op r3Is (e3Var 2) (e3C .non))) (e3C .non) (e3Call sf (a3Cons (e3Var 2) (a3Cons (e3Op r3Sub (e3Var 1) (e3C (.int 1))) a3Nil)))) [2])) a3Nil)))))
def spShort (S : Type) (n : Nat) : Sp3 := fun ds M Q _ => ∃ (num : S → Int) (nx : S → Int → S) (cs r m : Nat) (s : S) (b : Int), ds = [treeG num nx cs r s b, .int (m : Int)] ∧ cs ≤ 1000 ∧ m ≤ r ∧ m ≤ n ∧ Q (treeG num nx cs m s b) M
theorem tree_num {S : Type} {num : S → Int} {nx : S → Int → S} {cs r : Nat} {s : S} {b : Int} : ∃ ds, treeG num nx cs r s b = .tup ds ∧ atI ds 0 = some (.int (num s)) := by cases r <;> exact ⟨_, rfl, rfl⟩
theorem rdShortened {S : Type} {n : Nat} {sf : Sp3} (hf : n = 0 ∨ ∃ j, n = j + 1 ∧ sf = spShort S j) : Rd3 ["branch", "reach", "part"] (tShortened sf) (spShort S n) := by
  rintro ds M Q E ⟨num, nx, cs, r, m, s, b, rfl, c3, hm, hn, q⟩
  obtain ⟨xs, e0, h0⟩ := tree_num (num := num) (nx := nx) (cs := cs) (r := r) (s := s) (b := b)
  conv => whnf
  refine eq_int ⟨fun e => ?_, fun e => ?_⟩
  · have m0 : m = 0 := by have := of_decide_eq_true e; omega
    subst m0
    rw [e0]
    exact ⟨_, h0, szLe (by show 1 ≤ 1000000; decide), M, Sub.refl _, q⟩
  have mp : m ≠ 0 := fun z => by subst z; exact of_decide_eq_false e rfl
  obtain ⟨m, rfl⟩ := Nat.exists_eq_succ_of_ne_zero mp
  obtain ⟨r, rfl⟩ := Nat.exists_eq_succ_of_ne_zero (show r ≠ 0 by omega)
  obtain ⟨j, rfl, rfl⟩ : ∃ j, n = j + 1 ∧ sf = spShort S j := by
    rcases hf with h | h
    · omega
    · exact h
  refine ⟨_, rfl, _, rfl, fun p np => ?_⟩
  refine lcIdx (partG num nx cs m s b) np (fun _ _ => trivial) (fun k d M' R hd s1 k2 => ?_) (szLt (by rw [List.length_map, List.length_range]; omega)) fun M1 s1 h1 => ?_
  · have hd' : ((List.range cs).map (partG num nx cs r s b))[k]? = some d := hd
    clear hd
    obtain ⟨hk, rfl⟩ := range_get hd'
    have k3 := k2 M' (Sub.refl _)
    change R (partG num nx cs m s b k) M' at k3
    show Br (isNonD (partG num nx cs r s b k)) _ _
    by_cases hb : (k : Int) + 1 = b
    · rw [part_out hb] at k3 ⊢
      exact Br.tt k3
    · rw [part_in hb] at k3 ⊢
      refine Br.no tree_not_non ⟨num, nx, cs, r, m, _, _, ?_, c3, by omega, by omega, k3⟩
      rw [show ((m.succ : Nat) : Int) - 1 = (m : Int) by omega]
  · rw [List.length_map, List.length_range] at h1
    exact ⟨_, .inl h1, szLe (by show 2 ≤ 1000000; decide), M, s1, q⟩
def tBackward (sS : Sp3) : S3 :=
    (s3Seq (s3If (t3Test (e3Op r3Eq (e3Var 2) (e3C (.int 0)))) (s3Ret (e3Tup (a3Cons (e3Op r3Ix (e3Var 0) (e3C (.int 0))) a3Nil))) s3Nil)
    (s3Seq (s3Asg (e3Lst a3Nil) 3)
    (s3Seq (s3For (i3Enum (a3Cons (e3Op r3Ix (e3Var 0) (e3C (.int 1))) a3Nil)) (g3Tup 2 (g3sCons (g3Name 4) (g3sCons (g3Name 5) g3sNil))) (s3Expr (e3Bm m3App (e3Var 3) (a3Cons (e3If (t3Test (e3Op r3Eq (e3Var 4) (e3Op r3Sub (e3Var 1) (e3C (.int 1))))) (e3C .non) (e3Call sS (a3Cons (e3Var 5) (a3Cons (e3Op r3Sub (e3Var 2) (e3C (.int 1))) a3Nil)))) a3Nil))))
    (s3Ret (e3Tup (a3Cons (e3Op r3Ix (e3Var 0) (e3C (.int 0))) (a3Cons (e3TupOf (e3Var 3)) a3Nil)))))))
def spBackward (S : Type) (n : Nat) : Sp3 := fun ds M Q _ => ∃ (num : S → Int) (nx : S → Int → S) (cs r m : Nat) (s : S) (c : Nat), ds = [treeG num nx cs r s 0, .int ((c : Int) + 1), .int (m : Int)] ∧ cs ≤ 1000 ∧ m ≤ r ∧ m ≤ n + 1 ∧ Q (treeG num nx cs m s ((c : Int) + 1)) M
theorem rdBackward {S : Type} {n : Nat} : Rd3 ["view", "colour", "reach", "parts", "at", "part"] (tBackward (spShort S n)) (spBackward S n) := by
  rintro ds M Q E ⟨num, nx, cs, r, m, s, c, rfl, c3, hm, hn, q⟩
  obtain ⟨xs, e0, h0⟩ := tree_num (num := num) (nx := nx) (cs := cs) (r := r) (s := s) (b := 0)
  conv => whnf
  refine eq_int ⟨fun e => ?_, fun e => ?_⟩
  · have m0 : m = 0 := by have := of_decide_eq_true e; omega
    subst m0
    rw [e0]
    exact ⟨_, h0, szLe (by show 1 ≤ 1000000; decide), M, Sub.refl _, q⟩
  have mp : m ≠ 0 := fun z => by subst z; exact of_decide_eq_false e rfl
  obtain ⟨m, rfl⟩ := Nat.exists_eq_succ_of_ne_zero mp
  obtain ⟨r, rfl⟩ := Nat.exists_eq_succ_of_ne_zero (show r ≠ 0 by omega)
  refine ⟨szLe (by simp), fun w nw => ⟨_, rfl, ?_⟩⟩
  refine ⟨fun i env' M' => ∃ s4 s5, env' = [some (treeG num nx cs (r + 1) s 0), some (.int ((c : Int) + 1)), some (.int ((m + 1 : Nat) : Int)), some (.ref w), s4, s5] ∧ Sub M M' ∧ M' w = some (.lst ((List.range i).map (partG num nx cs m s ((c : Int) + 1)))), ⟨none, none, rfl, (Sub.refl M).new nw, updM_same⟩, ?_, ?_⟩
  · rintro i d env' M' hd ⟨s4, s5, rfl, sub, hw⟩
    obtain ⟨x, hx, rfl⟩ := enumD_get hd
    have hx' : ((List.range cs).map (partG num nx cs r s 0))[i]? = some x := hx
    clear hd hx
    obtain ⟨hi, rfl⟩ := range_get hx'
    rw [Nat.zero_add]
    have hz : ((List.range i).map (partG num nx cs m s ((c : Int) + 1))).length < sizeLine := szLt (by rw [List.length_map, List.length_range]; omega)
    refine ⟨trivial, rfl, rfl, ⟨_, .inl hw⟩, ?_⟩
    conv => whnf
    rw [show ((c : Int) + 1) - 1 = (c : Int) by omega]
    refine eq_int ⟨fun e => ?_, fun e => ?_⟩
    · have ec : i = c := by have := of_decide_eq_true e; omega
      exact ⟨_, hw, hz, _, _, rfl, sub.new nw, by rw [updM_same, parts_app (part_out (by omega))]⟩
    · have ec : i ≠ c := by have := of_decide_eq_false e; omega
      rw [part_in (show (i : Int) + 1 ≠ 0 by omega)]
      refine ⟨num, nx, cs, r, m, nx s ((i : Int) + 1), (i : Int) + 1, ?_, c3, by omega, by omega, _, hw, hz, _, _, rfl, sub.new nw, ?_⟩
      · rw [show ((m + 1 : Nat) : Int) - 1 = (m : Int) by omega]
      · rw [updM_same, parts_app (part_in (by omega))]
  · rintro env' M' ⟨s4, s5, rfl, sub, hw⟩
    rw [enumD_length, List.length_map, List.length_range] at hw
    exact ⟨trivial, _, rfl, _, .inl hw, szLe (by show 2 ≤ 1000000; decide), M, sub, q⟩
end L3

namespace L3
open PySem PySem.Spec PyProof.Rows L2
/-! ### dicts with ints and texts as keys -/
def kD : Key → D
  | .inl i => .int i
  | .inr x => .str x
def valD (kvs : List (Key × D)) (k : Key) : Option D := (kvs.find? fun kv => decide (kv.1 = k)).map (·.2)
def putD (kvs : List (Key × D)) (k : Key) (v : D) : List (Key × D) :=
  if (kvs.any fun kv => decide (kv.1 = k)) = true then kvs.map (fun kv => if kv.1 = k then (kv.1, v) else kv) else kvs ++ [(k, v)]
def mergeD (kvs more : List (Key × D)) : List (Key × D) := more.foldl (fun acc kv => putD acc kv.1 kv.2) kvs
def DR (K : Fg) (H : Hp) (kvs : List (Key × D)) (ks : List (Key × V)) : Prop := ks.map (·.1) = kvs.map (·.1) ∧ Rvs K H (kvs.map (·.2)) (ks.map (·.2))
theorem Tps.dK {H : Hp} {p : Addr} {o : HO} {vs : List (Key × V)} (h : H p = some (.dK vs)) : Tps H (L2.upd H p o) :=
  ⟨fun q xs e => by rw [upd_ne (ne_of e h (by intro z; cases z))]; exact e, fun q u x e => by rw [upd_ne (ne_of e h (by intro z; cases z))]; exact e⟩
section
variable {K : Fg} {H H' : Hp} {M : MH} {p : Addr}
theorem kD_inv {k : Key} {v : V} (h : Rv K H (kD k) v) : v = kV k := by
  cases k with
  | inl i => exact h.int_inv
  | inr x => exact h.str_inv
theorem DR.mono {kvs : List (Key × D)} {ks : List (Key × V)} (h : DR K H kvs ks) (t : Tps H H') : DR K H' kvs ks := ⟨h.1, h.2.mono t⟩
theorem DR.nil : DR K H [] [] := ⟨rfl, Rvs.nil⟩
theorem DR.len {kvs : List (Key × D)} {ks : List (Key × V)} (h : DR K H kvs ks) : ks.length = kvs.length := by
  have := congrArg List.length h.1
  simpa using this
theorem DR.cons {k : Key} {d : D} {v : V} {kvs : List (Key × D)} {ks : List (Key × V)} (r : Rv K H d v) (h : DR K H kvs ks) : DR K H ((k, d) :: kvs) ((k, v) :: ks) :=
  ⟨by simp [h.1], Rvs.cons r h.2⟩
theorem DR.inv {k : Key} {d : D} {kvs : List (Key × D)} {ks : List (Key × V)} (h : DR K H ((k, d) :: kvs) ks) : ∃ v r, ks = (k, v) :: r ∧ Rv K H d v ∧ DR K H kvs r := by
  cases ks with
  | nil => exact absurd h.1 (by simp)
  | cons q r =>
    obtain ⟨v, vs, e, h1, h2⟩ := h.2.cons_inv
    have e1 := h.1
    simp only [List.map_cons, List.cons.injEq] at e e1
    obtain ⟨q1, q2⟩ := q
    simp only at e e1
    refine ⟨q2, r, by rw [e1.1], by rw [e.1]; exact h1, e1.2, by rw [e.2]; exact h2⟩
theorem DR.nil_inv {ks : List (Key × V)} (h : DR K H [] ks) : ks = [] := by simpa using h.1
theorem DR.val {k : Key} : ∀ {kvs : List (Key × D)} {ks : List (Key × V)}, DR K H kvs ks → (valD kvs k = none ∧ valV ks k = none) ∨ ∃ d v, valD kvs k = some d ∧ valV ks k = some v ∧ Rv K H d v
  | [], ks, h => by
    cases h.nil_inv
    exact .inl ⟨rfl, rfl⟩
  | (j, d) :: kvs, ks, h => by
    obtain ⟨v, r, rfl, h1, h2⟩ := h.inv
    by_cases e : j = k
    · refine .inr ⟨d, v, ?_, valV_pos e, h1⟩
      simp [valD, List.find?_cons, e]
    · have ih := DR.val (k := k) h2
      have e1 : valD ((j, d) :: kvs) k = valD kvs k := by simp [valD, List.find?_cons, e]
      have e2 : valV ((j, v) :: r) k = valV r k := valV_neg e
      rw [e1, e2]
      exact ih
theorem DR.any {kvs : List (Key × D)} {ks : List (Key × V)} (h : DR K H kvs ks) (k : Key) : (ks.any fun kv => decide (kv.1 = k)) = (kvs.any fun kv => decide (kv.1 = k)) := by
  have a1 : (ks.any fun kv => decide (kv.1 = k)) = ((ks.map (·.1)).any fun j => decide (j = k)) := by rw [List.any_map]; rfl
  have a2 : (kvs.any fun kv => decide (kv.1 = k)) = ((kvs.map (·.1)).any fun j => decide (j = k)) := by rw [List.any_map]; rfl
  rw [a1, a2, h.1]
theorem DR.app {kvs more : List (Key × D)} {ks ms : List (Key × V)} (h : DR K H kvs ks) (m : DR K H more ms) : DR K H (kvs ++ more) (ks ++ ms) :=
  ⟨by rw [List.map_append, List.map_append, h.1, m.1], by rw [List.map_append, List.map_append]; exact h.2.app m.2⟩
theorem DR.repl {k : Key} {d : D} {v : V} (r : Rv K H d v) : ∀ {kvs : List (Key × D)} {ks : List (Key × V)}, DR K H kvs ks → DR K H (kvs.map fun kv => if kv.1 = k then (kv.1, d) else kv) (ks.map fun kv => if kv.1 = k then (kv.1, v) else kv)
  | [], ks, h => by
    cases h.nil_inv
    exact DR.nil
  | (j, x) :: kvs, ks, h => by
    obtain ⟨y, t, rfl, h1, h2⟩ := h.inv
    have ih := DR.repl (k := k) r h2
    rw [List.map_cons, List.map_cons]
    by_cases e : j = k
    · rw [if_pos e, if_pos e]
      exact DR.cons r ih
    · rw [if_neg e, if_neg e]
      exact DR.cons h1 ih
theorem DR.put {k : Key} {d : D} {v : V} {kvs : List (Key × D)} {ks : List (Key × V)} (h : DR K H kvs ks) (r : Rv K H d v) : DR K H (putD kvs k d) (putK ks k v) := by
  unfold putD putK
  rw [h.any k]
  split
  · exact h.repl r
  · exact h.app (DR.cons r DR.nil)
theorem DR.merge : ∀ {more : List (Key × D)} {ms : List (Key × V)} {kvs : List (Key × D)} {ks : List (Key × V)}, DR K H more ms → DR K H kvs ks → DR K H (mergeD kvs more) (mergeK ks ms)
  | [], ms, kvs, ks, m, h => by
    cases m.nil_inv
    exact h
  | (k, d) :: more, ms, kvs, ks, m, h => by
    obtain ⟨v, r, rfl, h1, h2⟩ := m.inv
    exact DR.merge (more := more) (ms := r) (kvs := putD kvs k d) (ks := putK ks k v) h2 (h.put h1)
theorem Abs.dK (h : Abs K M H) {kvs : List (Key × D)} (e : M p = some (.dK kvs)) : ∃ ks, H p = some (.dK ks) ∧ DR K H kvs ks := by
  obtain ⟨ks, vs, h1, h2, rfl, h4⟩ := h p _ e
  exact ⟨ks, h1, h2, h4⟩
theorem Abs.dKN (h : Abs K M H) {kvs : List (Key × D)} {ks : List (Key × V)} (e : H p = none) (r : DR K H kvs ks) : Abs K (updM M p (.dK kvs)) (L2.upd H p (.dK ks)) :=
  h.upd (Tps.new e) ⟨ks, _, upd_same, r.1, rfl, r.2.mono (Tps.new e)⟩
theorem Abs.dKU (h : Abs K M H) {kvs : List (Key × D)} {ks ws : List (Key × V)} (e : H p = some (.dK ws)) (r : DR K H kvs ks) : Abs K (updM M p (.dK kvs)) (L2.upd H p (.dK ks)) :=
  h.upd (Tps.dK e) ⟨ks, _, upd_same, r.1, rfl, r.2.mono (Tps.dK e)⟩
end
section
variable {X : Cx} {e a b c o i : Expr} {es : List Expr} {pos p : Pos} {t ta tb tc : E3} {u : A3} {K : Fg}
def e3DNew : E3 := fun _ _ M Q => ∀ p, M p = none → Q (.ref p) (updM M p (.dK []))
theorem d_dnew : DE X (.Dict [] [] pos) e3DNew := fun W2 _ => pe_dnewK.imp fun σ H Q2 ⟨env, M, W, Q, s, a, l, q, g⟩ p hp =>
  g _ _ _ _ (Tps.new hp) (a.dKN hp DR.nil) Rv.ref (q p (a.fresh hp))
/-- pairs of a display -/
def e3Pairs : List (E3 × E3) → W3 → En → MH → (List (D × D) → MH → Prop) → Prop
  | [], _, _, M, Q => Q [] M
  | (tk, tv) :: r, W, env, M, Q => tk W env M fun x M1 => tv W env M1 fun y M2 => e3Pairs r W env M2 fun ps M3 => Q ((x, y) :: ps) M3
inductive DPs (X : Cx) : List (Option Expr) → List Expr → List (E3 × E3) → Prop
  | nil : DPs X [] [] []
  | cons {k v : Expr} {ks : List (Option Expr)} {vs : List Expr} {tk tv : E3} {r : List (E3 × E3)} (hk : DE X k tk) (hv : DE X v tv) (hr : DPs X ks vs r) : DPs X (some k :: ks) (v :: vs) ((tk, tv) :: r)
def lowP (K : Fg) (W2 : WX) (l : List (E3 × E3)) : List (TE × TE) := l.map fun q => (lowE K W2 q.1, lowE K W2 q.2)
theorem DPs.low {W2 : WX} (tk : Takes X W2) {ks : List (Option Expr)} {vs : List Expr} {l : List (E3 × E3)} (h : DPs X ks vs l) : PPs X pos ks vs (lowP X.K W2 l) := by
  induction h with
  | nil => exact pps_nil
  | cons hk hv hr ih => exact pps_cons (hk W2 tk) (hv W2 tk) ih
/-- pairs of values are as told -/
inductive PR (K : Fg) (H : Hp) : List (D × D) → List (V × V) → Prop
  | nil : PR K H [] []
  | cons {x y : D} {u v : V} {ds : List (D × D)} {vs : List (V × V)} (h1 : Rv K H x u) (h2 : Rv K H y v) (r : PR K H ds vs) : PR K H ((x, y) :: ds) ((u, v) :: vs)
theorem pairs_low {W2 : WX} : ∀ {l : List (E3 × E3)} {σ : L2.St} {H : Hp} {env : En} {M : MH} {W : W3} {Q : List (D × D) → MH → Prop} {Q2 : List (V × V) → Hp → Prop},
    SE K H σ env → Abs K M H → LW K H W W2 → e3Pairs l W env M Q → (∀ ds vs H' M', Tps H H' → Abs K M' H' → PR K H' ds vs → Q ds M' → Q2 vs H') → tPairs (lowP K W2 l) σ H Q2
  | [], σ, H, env, M, W, Q, Q2, s, a, l, q, g => g [] [] H M (Tps.refl H) a .nil q
  | (tk, tv) :: r, σ, H, env, M, W, Q, Q2, s, a, l, q, g => by
    show lowE K W2 tk σ H _
    refine ⟨env, M, W, _, s, a, l, q, fun x u H1 M1 t1 a1 r1 q1 => ?_⟩
    refine ⟨env, M1, W, _, s.mono t1, a1, l.mono t1, q1, fun y v H2 M2 t2 a2 r2 q2 => ?_⟩
    have t12 := t1.trans t2
    refine pairs_low (l := r) (s.mono t12) a2 (l.mono t12) q2 fun ds vs H3 M3 t3 a3 r3 q3 => ?_
    exact g _ _ H3 M3 (t12.trans t3) a3 (.cons (r1.mono (t2.trans t3)) (r2.mono t3) r3) q3
theorem pr_keys {H : Hp} : ∀ {kvs : List (Key × D)} {vs : List (V × V)}, PR K H (kvs.map fun kv => (kD kv.1, kv.2)) vs → ∃ ks : List (Key × V), vs = ks.map (fun kv => (kV kv.1, kv.2)) ∧ DR K H kvs ks
  | [], _, h => by cases h; exact ⟨[], rfl, DR.nil⟩
  | (k, d) :: kvs, _, h => by
    cases h with
    | cons h1 h2 r =>
      obtain ⟨ks, rfl, hk⟩ := pr_keys r
      exact ⟨(k, _) :: ks, by rw [kD_inv h1]; rfl, DR.cons h2 hk⟩
def e3Disp (l : List (E3 × E3)) : E3 := fun W env M Q => ∀ p, M p = none → e3Pairs l W env (updM M p (.dK [])) fun ps M2 => M2 p = some (.dK []) ∧ ∃ kvs : List (Key × D), ps = kvs.map (fun kv => (kD kv.1, kv.2)) ∧ kvs.length ≤ 15 ∧ Q (.ref p) (updM M2 p (.dK (mergeD [] kvs)))
theorem d_disp {keys : List (Option Expr)} {values : List Expr} {l : List (E3 × E3)} (h : DPs X keys values l) (hall : keys.all (·.isSome) = true := by rfl) (hl : keys.length = values.length := by rfl) (h0 : keys ≠ [] := by simp) (h15 : keys.length ≤ 15 := by simp) :
    DE X (.Dict keys values pos) (e3Disp l) := fun W2 tk => (pe_disp (h.low tk) hall hl h0 h15).imp fun σ H Q2 ⟨env, M, W, Q, s, a, lw, q, g⟩ p hp => by
  have tn : Tps H (L2.upd H p (.dK [])) := Tps.new hp
  refine pairs_low (s.mono tn) (a.dKN hp DR.nil) (lw.mono tn) (q p (a.fresh hp)) fun ds vs H3 M3 t3 a3 r3 q3 => ?_
  obtain ⟨hm, kvs, rfl, hz, q4⟩ := q3
  obtain ⟨ks, rfl, hk⟩ := pr_keys r3
  obtain ⟨ws, hw, hr⟩ := a3.dK hm
  cases hr.nil_inv
  exact ⟨hw, ks, rfl, by rw [hk.len]; exact hz, g _ _ _ _ ((tn.trans t3).trans (Tps.dK hw)) (a3.dKU hw (hk.merge DR.nil)) Rv.ref q4⟩
/-! ### d[k] -/
def rIxD (X : Cx) : R2 := fun x y H Q => ∃ p kvs k v, x = .ref p ∧ y = kV k ∧ H p = some (.dK kvs) ∧ valV kvs k = some v ∧ Q v H
def r3IxD : D → D → MH → Q3 → Prop := fun x y M Q => ∃ p kvs k d, x = .ref p ∧ y = kD k ∧ M p = some (.dK kvs) ∧ valD kvs k = some d ∧ Q d M
theorem opl_ixD : OpL K (rIxD X) r3IxD := by
  intro d e v u H M Q Q2 rd re a q g
  obtain ⟨p, kvs, k, x, rfl, rfl, hm, hv, q⟩ := q
  cases rd.ref_inv
  cases kD_inv re
  obtain ⟨ks, hk, hr⟩ := a.dK hm
  rcases hr.val (k := k) with ⟨z, _⟩ | ⟨x', w, z1, z2, rx⟩
  · rw [z] at hv; cases hv
  · rw [z1] at hv
    cases hv
    exact ⟨p, ks, k, w, rfl, rfl, hk, z2, g _ _ H M (Tps.refl H) a rx q⟩
theorem d_ixD {n : Nat} (hr : Room n X.A) (ha : DE X a ta) (hb : DE X b tb) (hs : NoSl b := by exact fun _ _ => rfl) : DE X (.Subscript a b pos) (e3Op r3IxD ta tb) := fun W2 tk =>
  (pe_dget (by have := Room.u65 hr; omega) (ha W2 tk) (hb W2 tk) hs).imp fun σ H Q2 h => by
    refine (?_ : tOp (fun x y H Q => ∃ a v, x = .ref a ∧ DGet H a y (some v) ∧ Q v H) (lowE X.K W2 ta) (lowE X.K W2 tb) σ H Q2)
    exact op_low (fun d e v u H M Q Q2 rd re a q g => let ⟨p, kvs, k, v, h1, h2, h3, h4, h5⟩ := opl_ixD (X := X) d e v u H M Q Q2 rd re a q g; ⟨p, v, h1, h2 ▸ h4 ▸ DGet.k h3, h5⟩) h
def g3SubD (to ti : E3) : G3 := fun W d env M Q => to W env M fun od M1 => ti W env M1 fun i M2 => ∃ p kvs k, od = .ref p ∧ i = kD k ∧ M2 p = some (.dK kvs) ∧ kvs.length < sizeLine ∧ Q env (updM M2 p (.dK (putD kvs k d)))
theorem dg_subD {n : Nat} (hr : Room n X.A) (ho : DE X o ta) (hi : DE X i tb) (ha : ∀ v, assign (.Subscript o i pos) X.env v = (do
      let ov ← holding [v] (eval o X.env)
      let iv ← holding [v, ov] (eval i X.env)
      standAt pos
      holding [v, ov, iv] (setItem ov iv v)
      release [v, ov, iv] []) := by intro _; rfl) : DG X (.Subscript o i pos) (g3SubD ta tb) := fun W2 tk => (pg_sub (ho W2 tk) (hi W2 tk) (set_dict (by have := Room.u65 hr; omega)) ha).imp fun v σ H Q2 ⟨d, env, M, W, Q, r, s, a, l, q, n⟩ => by
    refine ⟨env, M, W, _, s, a, l, q, fun od ov H1 M1 t1 a1 r1 q1 => ?_⟩
    refine ⟨env, M1, W, _, s.mono t1, a1, l.mono t1, q1, fun i iv H2 M2 t2 a2 r2 q2 => ?_⟩
    have t12 := t1.trans t2
    obtain ⟨p, kvs, k, rfl, rfl, hm, hz, q2⟩ := q2
    cases (r1.mono t2).ref_inv
    cases kD_inv r2
    obtain ⟨ks, hk, hr⟩ := a2.dK hm
    exact ⟨p, _, rfl, DPut.k hk (by rw [hr.len]; exact hz), n σ _ env _ (t12.trans (Tps.dK hk)) (s.mono (t12.trans (Tps.dK hk))) (a2.dKU hk (hr.put (r.mono t12))) q2⟩
/-! ### k in d -/
def r3InD (neg : Bool) : D → D → MH → Q3 → Prop := fun y x M Q => ∃ p kvs k, x = .ref p ∧ y = kD k ∧ M p = some (.dK kvs) ∧ Q (.bl (neg ^^ (valD kvs k).isSome)) M
def rInDK (neg : Bool) : R2 := fun y x H Q => ∃ p kvs k, x = .ref p ∧ y = kV k ∧ H p = some (.dK kvs) ∧ Q (.bl (neg ^^ (valV kvs k).isSome)) H
theorem opl_inD {neg : Bool} : OpL K (rInDK neg) (r3InD neg) := by
  intro d e v u H M Q Q2 rd re a q g
  obtain ⟨p, kvs, k, rfl, rfl, hm, q⟩ := q
  cases re.ref_inv
  cases kD_inv rd
  obtain ⟨ks, hk, hr⟩ := a.dK hm
  refine ⟨p, ks, k, rfl, rfl, hk, ?_⟩
  rcases hr.val (k := k) with ⟨z, z'⟩ | ⟨x', w, z1, z2, rx⟩
  · rw [z']; rw [z] at q; exact g _ _ H M (Tps.refl H) a Rv.bl q
  · rw [z2]; rw [z1] at q; exact g _ _ H M (Tps.refl H) a Rv.bl q
theorem ho_inD {n : Nat} (hr : Room n X.A) : OpR X (compareOp .In) (rInDK false) := by
  rintro pins s σ H x y v u Q I rx ry ⟨p, kvs, k, rfl, rfl, hk, q⟩
  cases ry
  exact d_in (by have := Room.u65 hr; omega) I (DGet.k hk) rx fun s3 I3 => ⟨.bl _, H, I3, rfl, by rw [Bool.false_xor] at q; exact q⟩
theorem ho_notinD {n : Nat} (hr : Room n X.A) : OpR X (compareOp .NotIn) (rInDK true) := by
  rintro pins s σ H x y v u Q I rx ry ⟨p, kvs, k, rfl, rfl, hk, q⟩
  cases ry
  exact d_notIn (by have := Room.u65 hr; omega) I (DGet.k hk) rx fun s3 I3 => ⟨.bl _, H, I3, rfl, by rw [Bool.true_xor] at q; exact q⟩
end
end L3

namespace L3
open PySem PySem.Spec PyProof.Rows L2
/-! ### values whose parts are known -/
mutual
def Vk (M : MH) : D → Prop
  | .tup ds => Vks M ds
  | .ref a => (∃ ds, LstM M a ds) ∨ ∃ kvs, M a = some (.dK kvs)
  | .ty _ => False
  | .non => True
  | .bl _ => True
  | .int _ => True
  | .str _ => True
def Vks (M : MH) : List D → Prop
  | [] => True
  | d :: ds => Vk M d ∧ Vks M ds
end
theorem vks_get {M : MH} : ∀ {ds : List D} {i : Nat} {x : D}, Vks M ds → ds[i]? = some x → Vk M x
  | [], _, _, _, e => by simp at e
  | d :: ds, 0, x, h, e => by
    simp only [Vks] at h
    simp at e
    subst e
    exact h.1
  | d :: ds, i + 1, x, h, e => by
    simp only [Vks] at h
    exact vks_get (i := i) h.2 (by simpa using e)
theorem vks_all {M : MH} : ∀ {ds : List D}, (∀ x ∈ ds, Vk M x) → Vks M ds
  | [], _ => by simp only [Vks]
  | d :: ds, h => by
    simp only [Vks]
    exact ⟨h d List.mem_cons_self, vks_all fun x hx => h x (List.mem_cons_of_mem _ hx)⟩
theorem vks_mem {M : MH} {ds : List D} {x : D} (h : Vks M ds) (hx : x ∈ ds) : Vk M x := by
  obtain ⟨i, hi⟩ := List.getElem?_of_mem hx
  exact vks_get h hi
theorem vk_tup {M : MH} {ds : List D} (h : ∀ x ∈ ds, Vk M x) : Vk M (.tup ds) := by
  simp only [Vk]
  exact vks_all h
theorem vk_row {M : MH} {l : List Int} : Vk M (rowD l) := vk_tup fun x hx => by
  obtain ⟨i, _, rfl⟩ := List.mem_map.mp hx
  simp only [Vk]
theorem vk_lst {M : MH} {a : Addr} {ds : List D} (h : LstM M a ds) : Vk M (.ref a) := by
  simp only [Vk]
  exact .inl ⟨ds, h⟩
theorem vk_ty {M : MH} {d : D} (h : Vk M d) : TyKnown M d := by
  cases d with
  | ref a =>
    simp only [Vk] at h
    rcases h with ⟨ds, e⟩ | ⟨kvs, e⟩
    · exact lst_known e
    · exact ⟨"dict", .inr ⟨rfl, .inr ⟨kvs, e⟩⟩, .inr (.inr rfl), .inl ⟨a, rfl⟩⟩
  | ty n => simp only [Vk] at h
  | non => exact own_known trivial
  | bl b => exact own_known trivial
  | int i => exact own_known trivial
  | str x => exact own_known trivial
  | tup ds => exact own_known trivial
mutual
theorem vk_mono {M M' : MH} (s : Sub M M') : ∀ d : D, Vk M d → Vk M' d
  | .tup ds, h => by
    simp only [Vk] at h ⊢
    exact vks_mono s ds h
  | .ref a, h => by
    simp only [Vk] at h ⊢
    rcases h with ⟨ds, e⟩ | ⟨kvs, e⟩
    · exact .inl ⟨ds, lstM_sub s e⟩
    · exact .inr ⟨kvs, s _ _ e⟩
  | .ty _, h => by simp only [Vk] at h
  | .non, _ => by simp only [Vk]
  | .bl _, _ => by simp only [Vk]
  | .int _, _ => by simp only [Vk]
  | .str _, _ => by simp only [Vk]
theorem vks_mono {M M' : MH} (s : Sub M M') : ∀ ds : List D, Vks M ds → Vks M' ds
  | [], _ => by simp only [Vks]
  | d :: ds, h => by
    simp only [Vks] at h ⊢
    exact ⟨vk_mono s d h.1, vks_mono s ds h.2⟩
end
theorem at_mem {ds : List D} {v : Int} (h0 : -(ds.length : Int) ≤ v) (h1 : v < ds.length) : ∃ x, atI ds v = some x ∧ x ∈ ds := by
  by_cases hv : 0 ≤ v
  · obtain ⟨j, rfl⟩ := Int.eq_ofNat_of_zero_le hv
    have hj : j < ds.length := by omega
    exact ⟨ds[j], atI_nat (List.getElem?_eq_getElem hj), List.getElem_mem hj⟩
  · have hj : (v + ds.length).toNat < ds.length := by omega
    refine ⟨ds[(v + ds.length).toNat], ?_, List.getElem_mem hj⟩
    unfold atI ixN
    rw [if_neg hv, if_pos h0]
    exact List.getElem?_eq_getElem hj
/-- the value alone: which rows of links, which inputs are right -/
def lkOk (n : Int) : List Int → List D → Bool
  | _, [] => true
  | seen, x :: xs => match x with
    | .int v => decide (0 ≤ v) && decide (v ≤ n - 1) && !(seen.contains v) && lkOk n (v :: seen) xs
    | _ => false
def rowOk (n : Int) : D → Bool
  | .tup zs => decide ((zs.length : Int) = n) && lkOk n [] zs
  | _ => false
def insOk (n b : Int) : D → Bool
  | .tup zs => decide ((zs.length : Int) = n) && zs.all fun x => isNum x 0 (b - 1)
  | _ => false
def rowsOk (n : Int) : D → Bool
  | .tup zs => decide (2 ≤ zs.length) && decide (zs.length ≤ 4) && zs.all (rowOk n)
  | _ => false
/-- a network by itself -/
def netOk : D → Bool
  | .tup [.str w, .int n, l, a, b] => decide (w = "network") && isNum (.int n) 1 400 && rowsOk n l && insOk n 4 a && insOk n 4 b
  | _ => false
theorem lk_ints {n : Int} : ∀ {l seen : List Int}, (∀ x ∈ l, 0 ≤ x ∧ x < n) → l.Nodup → (∀ x ∈ l, x ∉ seen) → lkOk n seen (l.map D.int) = true
  | [], _, _, _, _ => rfl
  | v :: l, seen, h, nd, hs => by
    have hv := h v List.mem_cons_self
    have nd' := List.nodup_cons.mp nd
    have ih : lkOk n (v :: seen) (l.map D.int) = true := lk_ints (fun x hx => h x (List.mem_cons_of_mem _ hx)) nd'.2 fun x hx hm => by
      rcases List.mem_cons.mp hm with rfl | hm
      · exact nd'.1 hx
      · exact hs x (List.mem_cons_of_mem _ hx) hm
    show (decide (0 ≤ v) && decide (v ≤ n - 1) && !(seen.contains v) && lkOk n (v :: seen) (l.map D.int)) = true
    have hc : seen.contains v = false := by
      rw [List.contains_eq_mem]
      exact decide_eq_false (hs v List.mem_cons_self)
    rw [decide_eq_true hv.1, decide_eq_true (show v ≤ n - 1 by omega), hc, ih]
    rfl
theorem rngI_nodup (m : Nat) : (rngI m).Nodup := by
  unfold rngI
  exact List.Pairwise.map _ (fun a b h z => h (Int.ofNat.inj z)) List.nodup_range
theorem Ord.nodup {m : Nat} {l : List Int} (o : Ord m l) : l.Nodup := o.symm.nodup (rngI_nodup m)
theorem Ord.ok {m : Nat} {l : List Int} (o : Ord m l) : rowOk (m : Int) (rowD l) = true := by
  show (decide (((l.map D.int).length : Int) = (m : Int)) && lkOk (m : Int) [] (l.map D.int)) = true
  rw [List.length_map, o.len, decide_eq_true rfl, lk_ints (fun x hx => o.mem.mp hx) o.nodup fun x _ h => by simp at h]
  rfl
theorem perm_of_sub : ∀ {l r : List Int}, l.Nodup → (∀ x ∈ l, x ∈ r) → r.length ≤ l.length → l.Perm r
  | [], r, _, _, h => by
    have : r = [] := List.length_eq_zero_iff.mp (Nat.le_zero.mp h)
    rw [this]
  | x :: l, r, nd, hs, h => by
    have nd' := List.nodup_cons.mp nd
    have hx := hs x List.mem_cons_self
    have p := List.perm_cons_erase hx
    have hl : (r.erase x).length ≤ l.length := by
      rw [List.length_erase_of_mem hx]
      simp at h
      omega
    refine (List.Perm.cons x (perm_of_sub nd'.2 (fun y hy => ?_) hl)).trans p.symm
    have hyx : y ≠ x := fun e => nd'.1 (e ▸ hy)
    exact (List.mem_erase_of_ne hyx).mpr (hs y (List.mem_cons_of_mem _ hy))
/-- all of a range, each once -/
theorem ord_of {m : Nat} {l : List Int} (hl : l.length = m) (hx : ∀ x ∈ l, 0 ≤ x ∧ x < m) (nd : l.Nodup) : Ord m l := by
  exact perm_of_sub nd (fun x h => mem_rngI.mpr (hx x h)) (by rw [rngI_length, hl]; exact Nat.le_refl _)
theorem ints_ok {n : Nat} {l : List Int} (hl : l.length = n) (hx : ∀ x ∈ l, 0 ≤ x ∧ x < 4) : insOk (n : Int) 4 (rowD l) = true := by
  show (decide (((l.map D.int).length : Int) = (n : Int)) && (l.map D.int).all fun x => isNum x 0 (4 - 1)) = true
  rw [List.length_map, hl, decide_eq_true rfl, Bool.true_and, List.all_eq_true]
  intro x h
  obtain ⟨i, hi, rfl⟩ := List.mem_map.mp h
  have := hx i hi
  show (decide (0 ≤ i) && decide (i ≤ 4 - 1)) = true
  rw [decide_eq_true this.1, decide_eq_true (show i ≤ 4 - 1 by omega)]
  rfl
/-! ### comprehensions of lists, over pairs -/
theorem lcLists {ds : List D} {keep : MH → Prop} {i : Nat} {te : E3} {env : En} {p : Addr} {M : MH} {Q : MH → Prop} (g : Nat → List D) (hp : M p = none) (hk : ∀ M', Sub M M' → keep M')
    (he : ∀ (k : Nat) (d : D) (M' : MH) (R : Q3), ds[k]? = some d → Sub M M' → (∀ q M'', M' q = none → Sub M' M'' → M'' q = some (.lst (g k)) → R (.ref q) M'') → te W0 (env.set i (some d)) M' R) (hsz : ds.length < sizeLine)
    (hq : ∀ (qs : List Addr) (M' : MH), qs.length = ds.length → (∀ k q, qs[k]? = some q → M' q = some (.lst (g k))) → Sub M M' → M' p = some (.lst (qs.map D.ref)) → Q M') : LoopC ds keep i t3Yes te env p M Q := by
  refine ⟨fun k acc M' => ∃ qs : List Addr, acc = qs.map D.ref ∧ qs.length = k ∧ (∀ j q, qs[j]? = some q → q ≠ p ∧ M' q = some (.lst (g j))) ∧ Sub M M', ⟨[], rfl, rfl, fun j q e => by simp at e, (Sub.refl M).new hp⟩, ?_, ?_⟩
  · rintro k d acc M' hd ⟨qs, rfl, rfl, hqs, sub⟩ hpM
    have hlt := (List.getElem?_eq_some_iff.mp hd).1
    refine ⟨hk M' sub, Br.tt (he qs.length d M' _ hd sub fun q M'' nq s2 hM => ⟨qs.map D.ref, s2 p _ hpM, ?_, qs ++ [q], by rw [List.map_append]; rfl, by simp, fun j q' hj => ?_, (sub.trans s2).new hp⟩)⟩
    · rw [List.length_map]
      exact Nat.lt_trans hlt hsz
    · have nqp : q ≠ p := fun e => by
        subst e
        rw [hpM] at nq
        cases nq
      by_cases hjl : j < qs.length
      · rw [List.getElem?_append_left hjl] at hj
        obtain ⟨h1, h2⟩ := hqs j q' hj
        exact ⟨h1, (updM_ne h1).trans (s2 _ _ h2)⟩
      · rw [List.getElem?_append_right (by omega)] at hj
        have hj0 : j = qs.length := by
          have := (List.getElem?_eq_some_iff.mp hj).1
          simp at this
          omega
        subst hj0
        simp at hj
        subst hj
        exact ⟨nqp, (updM_ne nqp).trans hM⟩
  · rintro acc M' ⟨qs, rfl, hl, hqs, sub⟩ hpM
    exact ⟨hk M' sub, hq qs M' hl (fun k q e => (hqs k q e).2) sub hpM⟩
theorem lcPIdx {ds : List D} {keep : MH → Prop} {i j : Nat} {te : E3} {env : En} {p : Addr} {M : MH} {Q : MH → Prop} (g : Nat → D) (hp : M p = none) (hk : ∀ M', Sub M M' → keep M')
    (hd2 : ∀ (k : Nat) (d : D), ds[k]? = some d → ∃ d1 d2, d = .tup [d1, d2])
    (he : ∀ (k : Nat) (d1 d2 : D) (M' : MH) (R : Q3), ds[k]? = some (.tup [d1, d2]) → Sub M M' → (∀ M'', Sub M' M'' → R (g k) M'') → te W0 ((env.set i (some d1)).set j (some d2)) M' R) (hsz : ds.length < sizeLine)
    (hq : ∀ M', Sub M M' → M' p = some (.lst ((List.range ds.length).map g)) → Q M') : LoopP ds keep i j t3Yes te env p M Q := by
  refine ⟨fun k acc M' => acc = (List.range k).map g ∧ Sub M M', ⟨rfl, (Sub.refl M).new hp⟩, ?_, ?_⟩
  · rintro k d acc M' hd ⟨rfl, sub⟩ hpM
    have hlt := (List.getElem?_eq_some_iff.mp hd).1
    obtain ⟨d1, d2, rfl⟩ := hd2 k d hd
    refine ⟨hk M' sub, d1, d2, rfl, Br.tt (he k d1 d2 M' _ hd sub fun M'' s2 => ⟨(List.range k).map g, s2 p _ hpM, ?_, ?_, (sub.trans s2).new hp⟩)⟩
    · rw [List.length_map, List.length_range]
      exact Nat.lt_trans hlt hsz
    · rw [List.range_succ, List.map_append]
      rfl
  · rintro acc M' ⟨rfl, sub⟩ hpM
    exact ⟨hk M' sub, hq M' sub hpM⟩
/-- isinstance(x, list) of a list -/
theorem isi_lst {M : MH} {Q : Q3} {a : Addr} {ds : List D} (h : LstM M a ds) (q : Q (.bl true) M) : c3Isi [.ref a, .ty "list"] M Q := by
  unfold c3Isi
  exact ⟨"list", true, .inl ⟨rfl, ds, h⟩, by decide +kernel, q⟩
end L3

namespace L3
open PySem PySem.Spec PyProof.Rows L2
/-! ### a heap without one of its objects; values by their data -/
def rest (M : MH) (h : Addr) : MH := fun b => if b = h then none else M b
theorem rest_sub {M M' : MH} {h : Addr} (s : Sub M M') : Sub (rest M h) (rest M' h) := fun b o e => by
  unfold rest at e ⊢
  split at e
  · cases e
  · rename_i hb
    rw [if_neg hb]
    exact s b o e
theorem rest_in {M : MH} {h : Addr} : Sub (rest M h) M := fun b o e => by
  unfold rest at e
  split at e
  · cases e
  · exact e
mutual
theorem py_mono {M M' : MH} (s : Sub M M') : ∀ (p : PyData) (d : D), Py M d p → Py M' d p
  | .none, _, h => by cases h; exact .non
  | .bool b, _, h => by cases h; exact .bl b
  | .int i, _, h => by cases h; exact .int i
  | .str x, _, h => by cases h; exact .str x
  | .tuple ps, _, h => by
    cases h with
    | tup r => exact .tup (pys_mono s ps _ r)
  | .list ps, _, h => by
    cases h with
    | ref l r => exact .ref (l.imp (s _ _) (s _ _)) (pys_mono s ps _ r)
  | .dict _, _, h => by cases h
theorem pys_mono {M M' : MH} (s : Sub M M') : ∀ (ps : List PyData) (ds : List D), Pys M ds ps → Pys M' ds ps
  | [], _, h => by cases h; exact .nil
  | p :: ps, _, h => by
    cases h with
    | cons a b => exact .cons (py_mono s p _ a) (pys_mono s ps _ b)
end
mutual
theorem py_vk {M : MH} : ∀ (p : PyData) (d : D), Py M d p → Vk M d
  | .none, _, h => by cases h; simp [Vk]
  | .bool b, _, h => by cases h; simp [Vk]
  | .int i, _, h => by cases h; simp [Vk]
  | .str x, _, h => by cases h; simp [Vk]
  | .tuple ps, _, h => by
    cases h with
    | tup r =>
      simp only [Vk]
      exact pys_vk ps _ r
  | .list ps, _, h => by
    cases h with
    | ref l r =>
      simp only [Vk]
      exact .inl ⟨_, l⟩
  | .dict _, _, h => by cases h
theorem pys_vk {M : MH} : ∀ (ps : List PyData) (ds : List D), Pys M ds ps → Vks M ds
  | [], _, h => by cases h; simp [Vks]
  | p :: ps, _, h => by
    cases h with
    | cons a b =>
      simp only [Vks]
      exact ⟨py_vk p _ a, pys_vk ps _ b⟩
end
theorem rest_at {M : MH} {h b : Addr} (e : b ≠ h) : rest M h b = M b := if_neg e
theorem rest_upd {M : MH} {p : Addr} {o : MO} : rest (updM M p o) p = rest M p := by
  funext b
  unfold rest
  split
  · rfl
  · rename_i e
    exact updM_ne e
/-- without two -/
def rest2 (M : MH) (p h : Addr) : MH := rest (rest M p) h
theorem rest2_at {M : MH} {p h b : Addr} (e1 : b ≠ p) (e2 : b ≠ h) : rest2 M p h b = M b := (rest_at e2).trans (rest_at e1)
theorem rest2_upd {M : MH} {p h : Addr} {o : MO} : rest2 (updM M p o) p h = rest2 M p h := congrArg (fun m => rest m h) rest_upd
theorem rest2_sub {M M' : MH} {p h : Addr} (s : Sub M M') : Sub (rest2 M p h) (rest2 M' p h) := rest_sub (rest_sub s)
theorem rest2_set {M : MH} {p h d : Addr} {n : Int} : Sub (rest2 M p h) (setH M h d n) := fun b o e => by
  unfold rest2 rest at e
  split at e
  · cases e
  · rename_i hb
    split at e
    · cases e
    · exact (setH_ne hb).trans e
/-- may be compared -/
def Pc (k : Nat) (M : MH) (x : D) : Prop := ∃ p, Py M x p ∧ p.canLay0 = true ∧ p.depth ≤ k
theorem Pc.mono {k k' : Nat} {M M' : MH} {x : D} (h : Pc k M x) (s : Sub M M') (hk : k ≤ k') : Pc k' M' x := by
  obtain ⟨p, a, b, c⟩ := h
  exact ⟨p, py_mono s p x a, b, Nat.le_trans c hk⟩
theorem Pc.vk {k : Nat} {M : MH} {x : D} (h : Pc k M x) : Vk M x := by
  obtain ⟨p, a, _⟩ := h
  exact py_vk p x a
section
variable {M : MH} {k : Nat}
theorem pc_non : Pc k M .non := ⟨.none, .non, rfl, by simp [PyData.depth]⟩
theorem pc_int {i : Int} : Pc k M (.int i) := ⟨.int i, .int i, rfl, by simp [PyData.depth]⟩
theorem pc_bl {b : Bool} : Pc k M (.bl b) := ⟨.bool b, .bl b, rfl, by simp [PyData.depth]⟩
theorem pcs : ∀ {ds : List D}, (∀ x ∈ ds, Pc k M x) → ∃ ps, Pys M ds ps ∧ PyData.canLayAll0 ps = true ∧ PyData.depthAll ps ≤ k
  | [], _ => ⟨[], .nil, by simp [PyData.canLayAll0], by simp [PyData.depthAll]⟩
  | d :: ds, h => by
    obtain ⟨p, h1, h2, h3⟩ := h d List.mem_cons_self
    obtain ⟨ps, k1, k2, k3⟩ := pcs (ds := ds) fun x hx => h x (List.mem_cons_of_mem _ hx)
    exact ⟨p :: ps, .cons h1 k1, by simp [PyData.canLayAll0, h2, k2], by simp only [PyData.depthAll]; omega⟩
theorem pc_tup {ds : List D} (h : ∀ x ∈ ds, Pc k M x) : Pc (k + 1) M (.tup ds) := by
  obtain ⟨ps, h1, h2, h3⟩ := pcs h
  exact ⟨.tuple ps, .tup h1, by simpa [PyData.canLay0] using h2, by simp only [PyData.depth]; omega⟩
theorem pc_lst {a : Addr} {ds : List D} (ha : M a = some (.lst ds)) (h : ∀ x ∈ ds, Pc k M x) : Pc (k + 1) M (.ref a) := by
  obtain ⟨ps, h1, h2, h3⟩ := pcs h
  exact ⟨.list ps, .ref (.inl ha) h1, by simpa [PyData.canLay0] using h2, by simp only [PyData.depth]; omega⟩
theorem pc_row {l : List Int} : Pc 1 M (rowD l) := pc_tup fun x hx => by
  obtain ⟨i, _, rfl⟩ := List.mem_map.mp hx
  exact pc_int
theorem eq_py {Q : Q3} {x y : D} (hx : Pc 64 M x) (hy : Pc 64 M y) (nx : ∀ i, x ≠ .int i) (nb : ∀ i, x ≠ .bl i) (ns : ∀ i, x ≠ .str i) (h : ∀ p q, Py M x p → Py M y q → Q (.bl (PyData.eqv p q)) M) : r3Eq x y M Q := by
  obtain ⟨p, a1, a2, a3⟩ := hx
  obtain ⟨q, b1, b2, b3⟩ := hy
  unfold r3Eq
  have key : ∃ p q, Py M x p ∧ Py M y q ∧ SeqAt.shaped p = true ∧ SeqAt.shaped q = true ∧ Q (.bl (PyData.eqv p q)) M := ⟨p, q, a1, b1, shaped_of a2 a3, shaped_of b2 b3, h p q a1 b1⟩
  cases x with
  | int i => exact absurd rfl (nx i)
  | bl i => exact absurd rfl (nb i)
  | str i => exact absurd rfl (ns i)
  | _ => exact key
end
end L3

namespace L3
open PySem PySem.Spec PyProof.Rows L2
/-! ### dicts whose keys are tuples (of ints and None, of any depth to 8) -/
mutual
theorem hash_N {w : World} : ∀ d : D, kOk d = true → (nk d).hash w = hashN (nk d)
  | .tup ds, h => by
    simp only [nk, NestedKey.hash, hashN]
    rw [hashes_N ds (by simpa only [kOk] using h)]
  | .int _, _ => by simp only [nk, NestedKey.hash, hashN]
  | .bl _, _ => by simp only [nk, NestedKey.hash, hashN]
  | .non, _ => by simp only [nk, NestedKey.hash, hashN]
  | .str _, h => by simp only [kOk] at h; cases h
  | .ref _, h => by simp only [kOk] at h; cases h
  | .ty _, h => by simp only [kOk] at h; cases h
theorem hashes_N {w : World} : ∀ ds : List D, kOks ds = true → NestedKey.hashes w (nks ds) = hashNs (nks ds)
  | [], _ => by simp only [nks, NestedKey.hashes, hashNs]
  | d :: ds, h => by
    simp only [kOks, Bool.and_eq_true] at h
    simp only [nks, NestedKey.hashes, hashNs]
    rw [hash_N d h.1, hashes_N ds h.2]
end
theorem keyD_ok {d : D} (h : keyD d = true) : kOk d = true ∧ (nk d).depth ≤ 8 := by
  cases d with
  | tup ds =>
    have h' : (kOk (.tup ds) && decide ((nk (.tup ds)).depth ≤ 8)) = true := h
    rw [Bool.and_eq_true, decide_eq_true_eq] at h'
    exact h'
  | _ => cases h
def valT (kvs : List (D × D)) (k : D) : Option D := (kvs.find? fun p => decide (nk p.1 = nk k)).map (·.2)
def storT (kvs : List (D × D)) (k v : D) : List (D × D) := if (valT kvs k).isSome = true then kvs.map (fun p => if nk p.1 = nk k then (p.1, v) else p) else kvs ++ [(k, v)]
section
variable {X : Cx} {pins : List (Addr × Obj)} {σ : L2.St} {H : Hp} {s : Shared}
mutual
theorem nest_is (I : Inv X pins σ H s) : ∀ (d : D) (v : V) (u : Value), kOk d = true → Rv X.K H d v → RelV v u → NestedIs s.heap (nk d) u
  | .tup ds, v, u, h, r, ru => by
    obtain ⟨a, vs, rfl, hs, hv⟩ := r.tup_inv
    obtain rfl : u = Value.ref a := ru
    obtain ⟨its, rv, ⟨o, ho, hc, n, hd⟩, _⟩ := I.tuple hs
    have h2 := nest_all I ds vs its (by simpa only [kOk] using h) hv rv
    simp only [nk]
    exact .tup ho hc hd (by simpa using h2)
  | .int i, v, u, _, r, ru => by
    cases r.int_inv
    obtain ⟨t, rfl⟩ := (show ∃ t, u = Value.int i t from ru)
    simp only [nk]
    exact .int i t
  | .bl b, v, u, _, r, ru => by
    cases r.bl_inv
    obtain rfl : u = Value.bool b := ru
    simp only [nk]
    exact .bool rfl
  | .non, v, u, _, r, ru => by
    cases r.non_inv
    obtain rfl : u = Value.none := ru
    simp only [nk]
    exact .none
  | .str _, _, _, h, _, _ => by simp only [kOk] at h; cases h
  | .ref _, _, _, h, _, _ => by simp only [kOk] at h; cases h
  | .ty _, _, _, h, _, _ => by simp only [kOk] at h; cases h
theorem nest_all (I : Inv X pins σ H s) : ∀ (ds : List D) (vs : List V) (us : List Value), kOks ds = true → Rvs X.K H ds vs → Vals vs us → NestedAll s.heap (nks ds) us
  | [], vs, us, _, r, ru => by
    cases r.nil_inv
    cases ru
    simp only [nks]
    exact .nil
  | d :: ds, vs, us, h, r, ru => by
    simp only [kOks, Bool.and_eq_true] at h
    obtain ⟨v, vs', rfl, r1, r2⟩ := r.cons_inv
    cases ru with
    | cons q1 q2 =>
      simp only [nks]
      exact .cons (nest_is I d v _ h.1 r1 q1) (nest_all I ds vs' _ h.2 r2 q2)
end
theorem key_isN (I : Inv X pins σ H s) {d : D} {b : Addr} (h : keyD d = true) (r : Rv X.K H d (.ref b)) : (nestedKind X.prog X.w).is s.heap (nk d) b :=
  ⟨nest_is I d _ _ (keyD_ok h).1 r (show RelV (.ref b) (.ref b) from rfl), (keyD_ok h).2⟩
theorem paired_mem {α β : Type} {F : α → β → Prop} {l : List α} {m : List β} (h : Paired F l m) : ∀ x ∈ m, ∃ p ∈ l, F p x := by
  induction h with
  | nil => exact fun x hx => by simp at hx
  | cons r t ih =>
    intro x hx
    rcases List.mem_cons.mp hx with rfl | hx
    · exact ⟨_, List.mem_cons_self, r⟩
    · obtain ⟨p, h1, h2⟩ := ih x hx
      exact ⟨p, List.mem_cons_of_mem _ h1, h2⟩
theorem ent_N {K : Fg} {P : Program} {w : World} {H : Hp} {kvs : List (D × D)} {xs : List (NestedKey × Addr × Value)} (h : Paired (EntR K H) kvs xs) : xs.map entN = xs.map (entryOfKey (nestedKind P w)) := by
  refine List.map_congr_left fun x hx => ?_
  obtain ⟨p, _, a1, a2, _⟩ := paired_mem h x hx
  unfold entN entryOfKey
  rw [a1]
  show (⟨hashN (nk p.1), _, _⟩ : DictEntry) = ⟨(nk p.1).hash w, _, _⟩
  rw [hash_N p.1 (keyD_ok a2).1]
theorem dict_N (I : Inv X pins σ H s) {a : Addr} {kvs : List (D × D)} {xs : List (NestedKey × Addr × Value)} (e : H a = some (.ext (RawN a xs))) (h : Paired (EntR X.K H) kvs xs) : (a == sysModules) = false ∧ s.heap.DictOfH (nestedKind X.prog X.w) a xs := by
  have ok : ObjOk X.prog X.w H s.heap a (.ext (RawN a xs)) := I.hok a _ e
  obtain ⟨⟨hm, o, es, ep, h1, h2, h3, h4, h5⟩, _⟩ := ok
  refine ⟨hm, o, es, ep, h1, h2, h3, h4.trans (ent_N h), fun x hx => ?_, h5⟩
  obtain ⟨p, _, a1, a2, a3, _⟩ := paired_mem h x hx
  rw [a1]
  exact key_isN I a2 a3
theorem raw_ok {P : Program} {w : World} {K : Fg} {H H' : Hp} {h' : Heap} {a : Addr} {kvs : List (D × D)} {xs : List (NestedKey × Addr × Value)} (hm : (a == sysModules) = false) (d : h'.DictOfH (nestedKind P w) a xs) (hp : Paired (EntR K H) kvs xs) : ObjOk P w H' h' a (.ext (RawN a xs)) := by
  obtain ⟨o, es, ep, h1, h2, h3, h4, _, h5⟩ := d
  refine ⟨⟨hm, o, es, ep, h1, h2, h3, h4.trans (ent_N hp).symm, h5⟩, ⟨o, h1⟩, ?_⟩
  rintro g1 g2 ⟨k0, o', es', ep', k1, k2, k3, k4, k5⟩ hk
  exact ⟨k0, o', es', ep', hk o' k1, k2, k3, k4, k5⟩
theorem raw_new {K : Fg} {P : Program} {w : World} {H : Hp} (h : Heap) (hb : sysModules < h.objs.size) : ObjOk P w H (h.push { cls := .type "dict", data := .dict #[] }) h.objs.size (.ext (RawN h.objs.size [])) :=
  raw_ok (K := K) (kvs := []) (H := H) (beq_eq_false_iff_ne.mpr (Ne.symm (Nat.ne_of_lt hb))) (Heap.DictOfH.new h) .nil
end
section
variable {K : Fg} {H : Hp}
theorem find_N {kvs : List (D × D)} {xs : List (NestedKey × Addr × Value)} (h : Paired (EntR K H) kvs xs) (d : D) : (valT kvs d = none ∧ atKey xs (nk d) = none) ∨ ∃ e v b u, valT kvs d = some e ∧ atKey xs (nk d) = some (b, u) ∧ Rv K H e v ∧ RelV v u := by
  induction h with
  | nil => exact .inl ⟨rfl, rfl⟩
  | @cons p x ps xs r t ih =>
    obtain ⟨a1, a2, a3, v, a4, a5⟩ := r
    by_cases e : nk p.1 = nk d
    · refine .inr ⟨p.2, v, x.2.1, x.2.2, ?_, ?_, a4, a5⟩
      · simp [valT, List.find?_cons, e]
      · simp [atKey, List.find?_cons, a1, e]
    · have e1 : valT (p :: ps) d = valT ps d := by simp [valT, List.find?_cons, e]
      have e2 : atKey (x :: xs) (nk d) = atKey xs (nk d) := by simp [atKey, List.find?_cons, a1, e]
      rw [e1, e2]
      exact ih
theorem paired_map {α β : Type} {F G : α → β → Prop} {f : α → α} {g : β → β} {l : List α} {m : List β} (h : Paired F l m) (k : ∀ a b, F a b → G (f a) (g b)) : Paired G (l.map f) (m.map g) := by
  induction h with
  | nil => exact .nil
  | cons r _ ih => exact .cons (k _ _ r) ih
theorem put_N {kvs : List (D × D)} {xs : List (NestedKey × Addr × Value)} (h : Paired (EntR K H) kvs xs) {d e : D} {b : Addr} {v : V} {u : Value} (hk : keyD d = true) (rk : Rv K H d (.ref b)) (rv : Rv K H e v) (ru : RelV v u) : Paired (EntR K H) (storT kvs d e) (storedH xs (nk d) b u) := by
  have hs : (valT kvs d).isSome = (atKey xs (nk d)).isSome := by
    rcases find_N h d with ⟨z1, z2⟩ | ⟨_, _, _, _, z1, z2, _⟩ <;> rw [z1, z2] <;> rfl
  unfold storT storedH
  rw [hs]
  split
  · refine paired_map h fun p x ⟨a1, a2, a3, w, a4, a5⟩ => ?_
    unfold putAt
    rw [a1]
    by_cases e : nk p.1 = nk d
    · rw [if_pos e, if_pos e]
      exact ⟨rfl, a2, a3, v, rv, ru⟩
    · rw [if_neg e, if_neg e]
      exact ⟨a1, a2, a3, w, a4, a5⟩
  · exact Paired.snoc h ⟨rfl, hk, rk, v, rv, ru⟩
theorem paired_len {α β : Type} {F : α → β → Prop} {l : List α} {m : List β} (h : Paired F l m) : l.length = m.length := by
  induction h with
  | nil => rfl
  | cons _ _ ih => rw [List.length_cons, List.length_cons, ih]
theorem ent_mono {H' : Hp} (t : Tps H H') {kvs : List (D × D)} {xs : List (NestedKey × Addr × Value)} (h : Paired (EntR K H) kvs xs) : Paired (EntR K H') kvs xs := Paired.mapP h fun p x ⟨a1, a2, a3, v, a4, a5⟩ => ⟨a1, a2, a3.mono t, v, a4.mono t, a5⟩
theorem Abs.dT {M : MH} (h : Abs K M H) {p : Addr} {kvs : List (D × D)} (e : M p = some (.dT kvs)) : ∃ xs, H p = some (.ext (RawN p xs)) ∧ xs.length ≤ sizeLine ∧ Paired (EntR K H) kvs xs := h p _ e
theorem Abs.dTN {M : MH} (h : Abs K M H) {p : Addr} (e : H p = none) : Abs K (updM M p (.dT [])) (L2.upd H p (.ext (RawN p []))) := h.upd (Tps.new e) ⟨[], upd_same, Nat.zero_le _, .nil⟩
theorem Abs.dTU {M : MH} (h : Abs K M H) {p : Addr} {φ : Heap → Prop} {kvs : List (D × D)} {xs : List (NestedKey × Addr × Value)} (e : H p = some (.ext φ)) (hz : xs.length ≤ sizeLine) (r : Paired (EntR K H) kvs xs) : Abs K (updM M p (.dT kvs)) (L2.upd H p (.ext (RawN p xs))) :=
  h.upd (Tps.ext e) ⟨xs, upd_same, hz, ent_mono (Tps.ext e) r⟩
theorem key_ref {d : D} {u : V} (h : keyD d = true) (r : Rv K H d u) : ∃ b, u = .ref b := by
  cases d with
  | tup ds =>
    obtain ⟨a, _, e, _⟩ := r.tup_inv
    exact ⟨a, e⟩
  | _ => cases h
theorem stored_len {xs : List (NestedKey × Addr × Value)} {k : NestedKey} {b : Addr} {u : Value} (h : xs.length < sizeLine) : (storedH xs k b u).length ≤ sizeLine := by
  unfold storedH
  split
  · rw [List.length_map]; omega
  · rw [List.length_append, List.length_singleton]; omega
end
section
variable {X : Cx} {e a b c o i : Expr} {es : List Expr} {pos p : Pos} {t ta tb tc : E3} {u : A3}
/-! {} -/
def e3DNewT : E3 := fun _ _ M Q => ∀ p, M p = none → Q (.ref p) (updM M p (.dT []))
theorem pe_dnewN : PE X (.Dict [] [] pos) (fun _ H Q => ∀ p, H p = none → Q (.ref p) (upd H p (.ext (RawN p [])))) := ⟨fun pins s σ H Q I h =>
  wpAny_Dict_empty ⟨.ref s.heap.objs.size, _, I.laid (a := s.heap.objs.size) (o := .ext (RawN s.heap.objs.size [])) (t' := s.toks) (fun _ _ q => Heap.get?_push_of_some _ q) (Nat.le_refl _) (raw_new (K := X.K) s.heap I.big), rfl, h _ (I.hok.fresh (Nat.le_refl _))⟩⟩
theorem d_dnewT : DE X (.Dict [] [] pos) e3DNewT := fun W2 _ => pe_dnewN.imp fun σ H Q2 ⟨env, M, W, Q, s, a, l, q, g⟩ p hp =>
  g _ _ _ _ (Tps.new hp) (a.dTN hp) Rv.ref (q p (a.fresh hp))
/-! d[k] -/
def rIxN (K : Fg) : R2 := fun x y H Q => ∃ a kvs xs d e b, x = .ref a ∧ y = .ref b ∧ H a = some (.ext (RawN a xs)) ∧ Paired (EntR K H) kvs xs ∧ keyD d = true ∧ Rv K H d (.ref b) ∧ valT kvs d = some e ∧ ∀ v, Rv K H e v → Q v H
theorem pe_ixN {td ty : TE} (hu : X.A.units + 65 < cLine) (ho : PE X o td) (hi : PE X i ty) (hs : NoSl i) : PE X (.Subscript o i pos) (tOp (rIxN X.K) td ty) := by
  refine ⟨fun pins s σ H Q I h => ?_⟩
  refine subD_of PySem.F.slot_dict_getitem.lookup hs (thn (ho.run pins s σ H _ I h) fun u s1 ⟨x, H1, I1, rx, q1⟩ => thn (hi.run pins s1 σ H1 _ I1 q1) fun iv s2 ⟨y, H2, I2, ry, q2⟩ => ?_)
  obtain ⟨a, kvs, xs, d, e, b, rfl, rfl, hx, hp, hk, rk, hv, q2⟩ := q2
  obtain rfl : u = Value.ref a := rx
  obtain rfl : iv = Value.ref b := ry
  obtain ⟨hm, dd⟩ := dict_N I2 hx hp
  rcases find_N hp d with ⟨z, _⟩ | ⟨e', v, c, w, z1, z2, r1, r2⟩
  · rw [z] at hv; cases hv
  · rw [z1] at hv
    cases hv
    exact ⟨dd.typeIs, wpAny_getItem_heap (by show X.A.units + 1 + 8 < cLine; omega) (key_isN I2 hk rk) dd z2 ⟨v, H2, I2.tok _, r2, q2 v r1⟩⟩
def r3IxN : D → D → MH → Q3 → Prop := fun x y M Q => ∃ p kvs e, x = .ref p ∧ M p = some (.dT kvs) ∧ keyD y = true ∧ valT kvs y = some e ∧ Q e M
theorem opl_ixN {K : Fg} : OpL K (rIxN K) r3IxN := by
  intro d e v u H M Q Q2 rd re a q g
  obtain ⟨p, kvs, x, rfl, hm, hk, hv, q⟩ := q
  cases rd.ref_inv
  obtain ⟨b, rfl⟩ := key_ref hk re
  obtain ⟨xs, hx, _, hp⟩ := a.dT hm
  exact ⟨p, kvs, xs, e, x, b, rfl, rfl, hx, hp, hk, re, hv, fun v r => g _ _ H M (Tps.refl H) a r q⟩
theorem d_ixN {n : Nat} (hr : Room n X.A) (ha : DE X a ta) (hb : DE X b tb) (hs : NoSl b := by exact fun _ _ => rfl) : DE X (.Subscript a b pos) (e3Op r3IxN ta tb) := fun W2 tk =>
  (pe_ixN (Room.u65 hr) (ha W2 tk) (hb W2 tk) hs).imp fun σ H Q2 h => op_low opl_ixN h
/-! k in d -/
def rInN (K : Fg) (neg : Bool) : R2 := fun y x H Q => ∃ a kvs xs d b, x = .ref a ∧ y = .ref b ∧ H a = some (.ext (RawN a xs)) ∧ Paired (EntR K H) kvs xs ∧ keyD d = true ∧ Rv K H d (.ref b) ∧ Q (.bl (neg ^^ (valT kvs d).isSome)) H
def r3InN (neg : Bool) : D → D → MH → Q3 → Prop := fun y x M Q => ∃ p kvs, x = .ref p ∧ M p = some (.dT kvs) ∧ keyD y = true ∧ Q (.bl (neg ^^ (valT kvs y).isSome)) M
theorem opl_inN {K : Fg} {neg : Bool} : OpL K (rInN K neg) (r3InN neg) := by
  intro d e v u H M Q Q2 rd re a q g
  obtain ⟨p, kvs, rfl, hm, hk, q⟩ := q
  cases re.ref_inv
  obtain ⟨b, rfl⟩ := key_ref hk rd
  obtain ⟨xs, hx, _, hp⟩ := a.dT hm
  exact ⟨p, kvs, xs, d, b, rfl, rfl, hx, hp, hk, rd, g _ _ H M (Tps.refl H) a Rv.bl q⟩
theorem some_N {K : Fg} {H : Hp} {kvs : List (D × D)} {xs : List (NestedKey × Addr × Value)} (h : Paired (EntR K H) kvs xs) (d : D) : (valT kvs d).isSome = (atKey xs (nk d)).isSome := by
  rcases find_N h d with ⟨z1, z2⟩ | ⟨_, _, _, _, z1, z2, _⟩ <;> rw [z1, z2] <;> rfl
theorem ho_inN {n : Nat} (hr : Room n X.A) : OpR X (compareOp .In) (rInN X.K false) := by
  rintro pins s σ H x y v u Q I rx ry ⟨p, kvs, xs, d, b, rfl, rfl, hx, hp, hk, rk, q⟩
  have := Room.u65 hr
  cases rx
  cases ry
  obtain ⟨hm, dd⟩ := dict_N I hx hp
  refine wpAny_in_heap (by show X.A.units + 1 + 8 < cLine; omega) (key_isN I hk rk) hm dd ?_
  rw [some_N hp, Bool.false_xor] at q
  exact ⟨.bl _, H, I.tok _, rfl, q⟩
theorem ho_notinN {n : Nat} (hr : Room n X.A) : OpR X (compareOp .NotIn) (rInN X.K true) := by
  rintro pins s σ H x y v u Q I rx ry ⟨p, kvs, xs, d, b, rfl, rfl, hx, hp, hk, rk, q⟩
  have := Room.u65 hr
  cases rx
  cases ry
  obtain ⟨hm, dd⟩ := dict_N I hx hp
  refine wpAny_notIn_heap (by show X.A.units + 1 + 8 < cLine; omega) (key_isN I hk rk) hm dd ?_
  rw [some_N hp, Bool.true_xor] at q
  exact ⟨.bl _, H, I.tok _, rfl, q⟩
/-! d[k] = v -/
def rSetN (K : Fg) : TSet := fun o i v H Q => ∃ a kvs xs d e b, o = .ref a ∧ i = .ref b ∧ H a = some (.ext (RawN a xs)) ∧ Paired (EntR K H) kvs xs ∧ xs.length < sizeLine ∧ keyD d = true ∧ Rv K H d (.ref b) ∧ Rv K H e v ∧
  ∀ ys, ys.length ≤ sizeLine → Paired (EntR K H) (storT kvs d e) ys → Q (upd H a (.ext (RawN a ys)))
theorem set_N (hu : X.A.units + 65 < cLine) : PSet X (rSetN X.K) := by
  rintro pins s σ H o i v ov iv u Q I ro ri rv ⟨a, kvs, xs, d, e, b, rfl, rfl, hx, hp, hz, hk, rk, re, q⟩
  cases (show ov = Value.ref a from ro)
  cases (show iv = Value.ref b from ri)
  obtain ⟨hm, dd⟩ := dict_N I hx hp
  refine wpAny_setItem_heap (hsz := Nat.le_of_lt hz) (by show X.A.units + 1 + 8 < cLine; omega) (key_isN I hk rk) dd fun h' dd' hs => ?_
  have hp' := put_N hp hk rk re rv
  have he : ∃ q, h'.get? a = some q := let ⟨q, _, _, hq, _⟩ := dd'; ⟨q, hq⟩
  exact ⟨_, d_write I (by rw [hx]; exact True.intro) hs he (raw_ok hm dd' hp'), q _ (stored_len hz) hp'⟩
def g3SubN (to ti : E3) : G3 := fun W d env M Q => to W env M fun od M1 => ti W env M1 fun i M2 => ∃ p kvs, od = .ref p ∧ M2 p = some (.dT kvs) ∧ keyD i = true ∧ kvs.length < sizeLine ∧ Q env (updM M2 p (.dT (storT kvs i d)))
theorem dg_subN {n : Nat} (hr : Room n X.A) (ho : DE X o ta) (hi : DE X i tb) (ha : ∀ v, assign (.Subscript o i pos) X.env v = (do
      let ov ← holding [v] (eval o X.env)
      let iv ← holding [v, ov] (eval i X.env)
      standAt pos
      holding [v, ov, iv] (setItem ov iv v)
      release [v, ov, iv] []) := by intro _; rfl) : DG X (.Subscript o i pos) (g3SubN ta tb) := fun W2 tk => (pg_sub (ho W2 tk) (hi W2 tk) (set_N (Room.u65 hr)) ha).imp fun v σ H Q2 ⟨d, env, M, W, Q, r, s, a, l, q, n⟩ => by
    refine ⟨env, M, W, _, s, a, l, q, fun od ov H1 M1 t1 a1 r1 q1 => ?_⟩
    refine ⟨env, M1, W, _, s.mono t1, a1, l.mono t1, q1, fun i iv H2 M2 t2 a2 r2 q2 => ?_⟩
    have t12 := t1.trans t2
    obtain ⟨p, kvs, rfl, hm, hk, hz, q2⟩ := q2
    cases (r1.mono t2).ref_inv
    obtain ⟨b, rfl⟩ := key_ref hk r2
    obtain ⟨xs, hx, hzx, hp⟩ := a2.dT hm
    refine ⟨p, kvs, xs, i, d, b, rfl, rfl, hx, hp, by rw [← paired_len hp]; exact hz, hk, r2, r.mono t12, fun ys hy hp' => ?_⟩
    exact n σ _ env _ (t12.trans (Tps.ext hx)) (s.mono (t12.trans (Tps.ext hx))) (a2.dTU hx hy hp') q2
end
end L3

namespace L3
open PySem PySem.Spec PyProof.Rows L2
/-! ### {k: v for k in ..}, keys tuples -/
abbrev Blk (X : Cx) (scope : Scope) (mk : Shared → Hp → Addr → List (Str × Addr) → List Addr → Prop) : Prop := ∀ (s : Shared) (H : Hp) (C : Addr) (cl : List (Str × Addr)) (fp : List Addr), mk s H C cl fp
/-- the turns of such a block, the dict at D as o tells, p one more pair -/
def tDcG (o : Addr → HO) (p : Addr → V → V → Hp → (Hp → Prop) → Prop) (wi : TI) (g : TG) (tt : TT) (tk tv : TE) (vs : List Nat) : TE := fun σ H Q =>
  wi σ H fun J Ha => ∀ D, Ha D = none → ∃ Z : Nat → Nat → Hp → Prop, (∃ m, Z 0 m (upd Ha D (o D))) ∧ ∀ i m Hb, Z i m Hb →
    (J.stop i Hb ∧ Q (.ref D) Hb) ∨ (J.go i Hb ∧ ∃ Y : Hp → Prop, (∀ Hc, Y Hc → ∃ m', m' < m ∧ Z (i + 1) m' Hc) ∧
      ∀ x Hc, J.yld i Hb x Hc → g x (L2.wipe σ vs) Hc fun σd Hd => L2.wipe σd vs = L2.wipe σ vs ∧ tt σd Hd fun b He => if b = true then tk σd He fun y Hf => tv σd Hf fun z Hg => p D y z Hg Y else Y He)
section
variable {X : Cx}
theorem pe_dcG {kx vx tg iter : Expr} {ifs : List Expr} {scope : Scope} {own : List (Str × Nat)} {pos : Pos} {wi : TI} {g : TG} {tt : TT} {tk tv : TE} {o : Addr → HO} {p : Addr → V → V → Hp → (Hp → Prop) → Prop}
    (calm : X.calm = true) (nd : X.N.Nodup)
    (onew : ∀ (H : Hp) (h : Heap), sysModules < h.objs.size → ObjOk X.prog X.w H (h.push { cls := .type "dict", data := .dict #[] }) h.objs.size (o h.objs.size))
    (oput : ∀ (s0 : Shared) (H0 : Hp) (ce : Env) (fp : List Addr) (pn : List (Addr × Obj)) (σ : L2.St) (H : Hp) (s : Shared) (D : Addr) (y z : V) (u r : Value) (Y : Hp → Prop) (Ex : Value → Shared → Prop), Inv (X.blk s0 H0 scope ce fp) pn σ H s → RelV y u → RelV z r → p D y z H Y →
      wpAny (model X.prog X.w) X.A (dictSet D u r) (fun _ s' => ∃ H', Inv (X.blk s0 H0 scope ce fp) pn σ H' s' ∧ Y H') Ex s)
    (di : PI X tg iter wi) (bok : BlkOk X.N X.env.scope scope own)
    (dg : Blk X scope fun s H C cl fp => PG (X.blk s H scope (compEnvC scope cl C X.env) fp) tg g) (dt : Blk X scope fun s H C cl fp => PTs (X.blk s H scope (compEnvC scope cl C X.env) fp) ifs tt)
    (dk : Blk X scope fun s H C cl fp => PE (X.blk s H scope (compEnvC scope cl C X.env) fp) kx tk) (dv : Blk X scope fun s H C cl fp => PE (X.blk s H scope (compEnvC scope cl C X.env) fp) vx tv)
    (unset : ∀ x, foldedSetIterable iter X.env x = pure x := by intro _; rfl) : PE X (.DictComp kx vx [⟨tg, iter, ifs, 0⟩] scope pos) (tDcG o p wi g tt tk tv (own.map (·.2))) := by
  refine ⟨fun pn s σ H Q inv0 want => ?_⟩
  rw [arm_eval_DictComp]
  have free : ∀ y ∈ scope.names, y.2 = .free → ∃ c, X.env.cells.lookup y.1 = some c := fun y hy e => (bok.free y hy e).elim (fun k => inv0.ok.has _ (.inl k)) fun k => inv0.ok.has _ (.inr k)
  refine wpAny_comprehension_free (use := none) rfl unset (closure_ok free) bok.kind (fun y hy e => by rw [bok.uniq y hy, e]) (thn (di.run pn s σ H _ inv0 want) fun _ sa ha => thn ha fun _ sb hb => ?_)
  obtain ⟨it, fp, tn, J, Hb, rfl, invb, turn, tn0, away, rest⟩ := hb
  refine wpAny_newObj_type (newEnv_comp ?_)
  generalize eD : sb.heap.objs.size = D
  have freeD : Hb D = none := invb.hok.fresh (Nat.le_of_eq eD)
  obtain ⟨Z, ⟨m0, z0⟩, step⟩ := rest D freeD
  generalize ec : ({ sb with heap := sb.heap.push { cls := .type "dict", data := .dict #[] } } : Shared) = sc
  have hc : sc.heap = sb.heap.push { cls := .type "dict", data := .dict #[] } := by rw [← ec]
  have invc : Inv X pn σ (upd Hb D (o D)) sc := by
    rw [← ec]
    refine invb.laid (t' := sb.toks) (fun b ob e => Heap.get?_push_of_some _ e) (Nat.le_of_eq eD) ?_
    have := onew (upd Hb sb.heap.objs.size (o sb.heap.objs.size)) sb.heap invb.big
    rw [eD] at this
    exact this
  have awayc : ∀ b ∈ fp, FpOk X pn (upd Hb D (o D)) b ∧ b < sc.heap.objs.size := fun b hb => by
    obtain ⟨ob, e, _⟩ := turn.obj _ _ tn0 b hb
    have lt := Heap.lt_size e
    refine ⟨⟨(upd_ne (by rw [← eD]; exact Nat.ne_of_lt lt)).trans (away b hb).1, (away b hb).2⟩, ?_⟩
    rw [hc, Heap.size_push]
    exact Nat.lt_succ_of_lt lt
  have tnc : tn 0 sc.heap := turn.keep _ _ _ tn0 fun b _ ob e => by rw [hc]; exact Heap.get?_push_of_some _ e
  have invd := block_start invc bok nd awayc
  have pg : PG (X.blk sc (upd Hb D (o D)) scope (compEnvC scope (cellsFrom (sc.heap.objs.size + 1) scope.names (cloFrom X.env.cells scope.names [])) sc.heap.objs.size X.env) fp) tg g := dg _ _ _ _ _
  have pt : PTs (X.blk sc (upd Hb D (o D)) scope (compEnvC scope (cellsFrom (sc.heap.objs.size + 1) scope.names (cloFrom X.env.cells scope.names [])) sc.heap.objs.size X.env) fp) ifs tt := dt _ _ _ _ _
  have pk : PE (X.blk sc (upd Hb D (o D)) scope (compEnvC scope (cellsFrom (sc.heap.objs.size + 1) scope.names (cloFrom X.env.cells scope.names [])) sc.heap.objs.size X.env) fp) kx tk := dk _ _ _ _ _
  have pv : PE (X.blk sc (upd Hb D (o D)) scope (compEnvC scope (cellsFrom (sc.heap.objs.size + 1) scope.names (cloFrom X.env.cells scope.names [])) sc.heap.objs.size X.env) fp) vx tv := dv _ _ _ _ _
  have bare : ∀ b ∈ fp, (upd Hb D (o D)) b = none := fun b hb => (awayc b hb).1.1
  show codeAny (model X.prog X.w) X.A (.compStart (.DictComp kx vx [⟨tg, iter, ifs, 0⟩] scope pos) 0 (.ref it) (.ref D) (compEnvC scope (cellsFrom (sc.heap.objs.size + 1) scope.names (cloFrom X.env.cells scope.names [])) sc.heap.objs.size X.env))
    (compPost (model X.prog X.w) X.A X.xe none (EP X pn σ Q) (.ref D) sc.heap.objs.size) { sc with heap := pushCells (sc.heap.push { cls := .type "dict", data := .dict #[] }) scope.names }
  generalize ece : compEnvC scope (cellsFrom (sc.heap.objs.size + 1) scope.names (cloFrom X.env.cells scope.names [])) sc.heap.objs.size X.env = ce at invd pg pt pk pv ⊢
  have loc : ce.locals = sc.heap.objs.size := by subst ece; rfl
  generalize upd Hb D (o D) = Hc at invc invd pg pt pk pv z0 bare awayc
  generalize ed : ({ sc with heap := pushCells (sc.heap.push { cls := .type "dict", data := .dict #[] }) scope.names } : Shared) = sd at invd ⊢
  have tnd : tn 0 sd.heap := turn.keep _ _ _ tnc fun b _ ob e => by rw [← ed]; exact pushCells_keeps _ _ _ _ (Heap.get?_push_of_some _ e)
  have outs : ∀ {σ' : L2.St} {H' : Hp} {s' : Shared}, Inv (X.blk sc Hc scope ce fp) [] σ' H' s' → (∀ b ∈ fp, H' b = none) → ∀ b ∈ fp, FpOk (X.blk sc Hc scope ce fp) [] H' b := fun {σ' H' s'} inv' hn b hb =>
    ⟨hn b hb, (inv'.ok.exf b hb).1, inv'.ok.exfs b hb, .inl hb, fun x c e => (inv'.ok.exf b hb).2 x c e, fun q hq => absurd (show q ∈ ([] : List (Addr × Obj)) ++ [] from hq) (by simp)⟩
  have loop : codeAny (model X.prog X.w) X.A (.compLoop (.DictComp kx vx [⟨tg, iter, ifs, 0⟩] scope pos) 0 (.ref it) (.ref D) ce) (compPost (model X.prog X.w) X.A X.xe none (EP X pn σ Q) (.ref D) sc.heap.objs.size) sd := by
    refine compLoop_anyD (fun n t => ∃ i Hx, Inv (X.blk sc Hc scope ce fp) [] (L2.wipe σ (own.map (·.2))) Hx t ∧ tn i t.heap ∧ (∀ b ∈ fp, Hx b = none) ∧ Z i n Hx) ?_ m0 ⟨0, Hc, invd, tnd, bare, z0⟩
    rintro n t5 ⟨i, H5, inv5, tn5, bare5, z5⟩
    rcases step i n H5 z5 with ⟨stop, fin⟩ | ⟨go, Y, hY, one⟩
    · refine thnF (turn.done (X.blk sc Hc scope ce fp) rfl rfl rfl calm i [] t5 _ H5 (fun _ _ => False) inv5 (outs inv5 bare5) tn5 stop) fun r t6 ⟨er, inv6⟩ => ?_
      subst er
      have inv7 : Inv X pn σ H5 t6 := invc.call' (ch := fp) inv6.os inv6.base inv6.hok inv6.bare fun b hb => ⟨(awayc b hb).1.2.2.2.1, (awayc b hb).1.2.1, (awayc b hb).1.2.2.2.2.1, (awayc b hb).1.2.2.2.2.2⟩
      have nC : H5 sc.heap.objs.size = none := by have := inv6.free; rw [show (X.blk sc Hc scope ce fp).env.locals = sc.heap.objs.size from loc] at this; exact this
      obtain ⟨mm, hn, _⟩ := inv6.loc
      rw [show (X.blk sc Hc scope ce fp).env.locals = sc.heap.objs.size from loc] at hn
      obtain ⟨q0, q1, q2, q3, q4, q5⟩ := invc.fpOk (Nat.le_refl _) nC
      exact ⟨mm, hn, fun h2 sb2 => ⟨.ref D, H5, inv7.turned (t' := t6.toks) (fun b ob hb e => (sb2.2 b hb).trans e) q0 q1 q3 q4 q5, rfl, fin⟩⟩
    · refine thnF (turn.item (X.blk sc Hc scope ce fp) rfl rfl rfl calm i [] t5 _ H5 (fun _ _ => False) inv5 (outs inv5 bare5) tn5 go) fun r t6 ⟨u, er, h6⟩ => ?_
      subst er
      refine thnF h6 fun _ t7 ⟨x, H7, inv7, rx, yl, tn7, bare7⟩ => ?_
      refine thnF (pg.run _ t7 _ H7 x u _ (inv7.pinned (outs inv7 bare7) (turn.obj _ _ tn7)) rx (one x H7 yl)) fun _ t8 ⟨σ8, H8, inv8, wiped, h8⟩ => ?_
      refine thnF (pt.run _ t8 σ8 H8 _ inv8 h8) fun b t9 ⟨H9, inv9, h9⟩ => ?_
      have turnEnds : ∀ {s' : Shared} {H' : Hp}, Inv (X.blk sc Hc scope ce fp) ([] ++ pinsAt fp t7.heap) σ8 H' s' → Y H' → ∃ m, m < n ∧ ∃ i Hx, Inv (X.blk sc Hc scope ce fp) [] (L2.wipe σ (own.map (·.2))) Hx s' ∧ tn i s'.heap ∧ (∀ b ∈ fp, Hx b = none) ∧ Z i m Hx := fun {s' H'} inv' y' => by
        obtain ⟨m', lt, z'⟩ := hY H' y'
        have kept : ∀ b ∈ fp, ∀ ob, t7.heap.get? b = some ob → s'.heap.get? b = some ob ∧ H' b = none := fun b hb ob e =>
          ⟨(inv'.pin (b, ob) (List.mem_append_right _ (List.mem_append_right _ (mem_pinsAt hb e)))).1, (inv'.pin (b, ob) (List.mem_append_right _ (List.mem_append_right _ (mem_pinsAt hb e)))).2.1⟩
        refine ⟨m', lt, i + 1, H', (inv'.unpinned (pins := [])).weak (by rw [← wiped, wipe_length]) (fun j v e => ?_), turn.keep _ _ _ tn7 fun b hb ob e => (kept b hb ob e).1, fun b hb => ?_, z'⟩
        · rw [← wiped] at e
          exact (wipe_some e).1
        · obtain ⟨ob, e, _⟩ := turn.obj _ _ tn7 b hb
          exact (kept b hb ob e).2
      cases b with
      | false =>
        simp only [Bool.false_eq_true, if_false] at h9 ⊢
        exact turnEnds inv9 h9
      | true =>
        simp only [if_true] at h9 ⊢
        exact thnF (pk.run _ t9 σ8 H9 _ inv9 h9) fun _ t10 ⟨_, H10, inv10, r10, h10⟩ => thnF (pv.run _ t10 σ8 H10 _ inv10 h10) fun _ t11 ⟨_, H11, inv11, r11, h11⟩ =>
          wpAny_mono (oput sc Hc ce fp _ σ8 H11 t11 D _ _ _ _ Y _ inv11 r10 r11 h11) (fun _ t12 ⟨H12, inv12, h12⟩ => turnEnds inv12 h12) fun _ _ z => z
  exact codeAny_compStart_dict loop (turn.self X.A 0 _ _ _ tnd loop)
end
def pDcN (K : Fg) (D : Addr) (y z : V) (H : Hp) (Y : Hp → Prop) : Prop := ∃ kvs xs d e b, y = .ref b ∧ H D = some (.ext (RawN D xs)) ∧ Paired (EntR K H) kvs xs ∧ xs.length < sizeLine ∧ keyD d = true ∧ Rv K H d (.ref b) ∧ Rv K H e z ∧
  ∀ ys, ys.length ≤ sizeLine → Paired (EntR K H) (storT kvs d e) ys → Y (upd H D (.ext (RawN D ys)))
def LoopT (ds : List D) (keep : MH → Prop) (i : Nat) (tt : T3) (tk tv : E3) (env : En) (p : Addr) (M : MH) (Q : MH → Prop) : Prop := ∃ Inv : Nat → List (D × D) → MH → Prop, Inv 0 [] (updM M p (.dT [])) ∧
  (∀ k d acc M', ds[k]? = some d → Inv k acc M' → M' p = some (.dT acc) → keep M' ∧ tt W0 (env.set i (some d)) M' fun b M3 => Br b
    (tk W0 (env.set i (some d)) M3 fun y M4 => tv W0 (env.set i (some d)) M4 fun z M5 => ∃ acc', M5 p = some (.dT acc') ∧ acc'.length < sizeLine ∧ keyD y = true ∧ Inv (k + 1) (storT acc' y z) (updM M5 p (.dT (storT acc' y z))))
    (∃ acc', M3 p = some (.dT acc') ∧ Inv (k + 1) acc' M3)) ∧
  ∀ acc M', Inv ds.length acc M' → M' p = some (.dT acc) → keep M' ∧ Q M'
def e3DcT (ti : I3) (i : Nat) (tt : T3) (tk tv : E3) (vs : List Nat) : E3 := fun W env M Q => ti W env M fun ds keep M1 => ∀ p, M1 p = none → LoopT ds keep i tt tk tv (wipe3 env vs) p M1 fun M' => Q (.ref p) M'
section
variable {X : Cx}
theorem dc_low {ti : I3} {i : Nat} {tt : T3} {tk tv : E3} {vs : List Nat} {W2 W2b : WX} (hv : i ∈ vs) (hW : W2b = fun _ _ _ _ => False) {σ : L2.St} {H : Hp} {Q2 : VK} (h : lowE X.K W2 (e3DcT ti i tt tk tv vs) σ H Q2) :
    tDcG (fun D => .ext (RawN D [])) (pDcN X.K) (lowI X.K W2 ti) (gName i) (lowT X.K W2b tt) (lowE X.K W2b tk) (lowE X.K W2b tv) vs σ H Q2 := by
  subst hW
  obtain ⟨env, M, W, Q, s, a, l, q, g⟩ := h
  refine ⟨env, M, W, _, s, a, l, q, fun ds keep J H1 M1 t1 a1 q1 ok => ?_⟩
  intro Dd nD
  obtain ⟨Inv, h0, hst, hd⟩ := q1 Dd (a1.fresh nD)
  have sw := (s.mono t1).wipe vs
  refine ⟨fun k m H' => m = ds.length - k ∧ k ≤ ds.length ∧ ∃ acc M', Tps H1 H' ∧ Abs X.K M' H' ∧ Inv k acc M' ∧ M' Dd = some (.dT acc), ⟨ds.length, by simp, Nat.zero_le _, [], _, Tps.new nD, a1.dTN nD, h0, updM_same⟩, ?_⟩
  rintro k m H' ⟨rfl, hk, acc, M', t2, a', iv, hD⟩
  by_cases hlt : k < ds.length
  · have hx : ds[k]? = some ds[k] := List.getElem?_eq_getElem hlt
    obtain ⟨hkeep, hg⟩ := hst k _ acc M' hx iv hD
    obtain ⟨go, yl⟩ := ok.step k _ H' M' hx t2 a' hkeep
    refine .inr ⟨go, fun H2 => ∃ acc M2, Tps H1 H2 ∧ Abs X.K M2 H2 ∧ Inv (k + 1) acc M2 ∧ M2 Dd = some (.dT acc), fun H2 hn => ⟨ds.length - (k + 1), by omega, rfl, hlt, hn⟩, fun x H2 y => ?_⟩
    obtain ⟨t3, a3, r3⟩ := yl x H2 y
    have t23 := t2.trans t3
    refine ⟨?_, ?_⟩
    · rw [wipe_set hv, wipe_wipe fun _ h => h]
    · have s2 : SE X.K H2 ((L2.wipe σ vs).set i (some x)) ((wipe3 env vs).set i (some ds[k])) := (sw.mono t23).set i r3
      refine ⟨_, M', W0, _, s2, a3, LW0, hg, fun b H3 M3 t4 a4 q4 => ?_⟩
      cases b with
      | true =>
        rw [if_pos rfl]
        refine ⟨_, M3, W0, _, s2.mono t4, a4, LW0, q4.1 rfl, fun d v H4 M4 t5 a5 r5 q5 => ?_⟩
        refine ⟨_, M4, W0, _, (s2.mono t4).mono t5, a5, LW0, q5, fun e w H5 M5 t6 a6 r6 q6 => ?_⟩
        obtain ⟨acc', e1, hz, hk, iv'⟩ := q6
        obtain ⟨xs, hx, hzx, hp⟩ := a6.dT e1
        have r5' := r5.mono t6
        obtain ⟨b, rfl⟩ := key_ref hk r5'
        refine ⟨acc', xs, d, e, b, rfl, hx, hp, by rw [← paired_len hp]; exact hz, hk, r5', r6, fun ys hy hp' => ?_⟩
        exact ⟨storT acc' d e, _, (((t23.trans t4).trans t5).trans t6).trans (Tps.ext hx), a6.dTU hx hy hp', iv', updM_same⟩
      | false =>
        rw [if_neg Bool.false_ne_true]
        obtain ⟨acc', e1, iv'⟩ := q4.2 rfl
        exact ⟨acc', M3, t23.trans t4, a4, iv', e1⟩
  · have e : k = ds.length := by omega
    subst e
    obtain ⟨hkeep, hq⟩ := hd acc M' iv hD
    exact .inl ⟨ok.stop H' M' t2 a' hkeep, g _ _ H' M' (t1.trans t2) a' Rv.ref hq⟩
theorem put_dc {scope : Scope} (hu : X.A.units + 65 < cLine) (s0 : Shared) (H0 : Hp) (ce : Env) (fp : List Addr) (pn : List (Addr × Obj)) (σ : L2.St) (H : Hp) (s : Shared) (Dd : Addr) (y z : V) (u r : Value) (Y : Hp → Prop) (Ex : Value → Shared → Prop)
    (I : Inv (X.blk s0 H0 scope ce fp) pn σ H s) (ry : RelV y u) (rz : RelV z r) (h : pDcN X.K Dd y z H Y) :
      wpAny (model X.prog X.w) X.A (dictSet Dd u r) (fun _ s' => ∃ H', Inv (X.blk s0 H0 scope ce fp) pn σ H' s' ∧ Y H') Ex s := by
  obtain ⟨kvs, xs, d, e, b, rfl, hx, hp, hz, hk, rk, re, q⟩ := h
  cases (show u = Value.ref b from ry)
  obtain ⟨hm, dd⟩ := dict_N I hx hp
  refine wpAny_dictSet_heap (hsz := Nat.le_of_lt hz) (by show X.A.units + 8 < cLine; omega) (key_isN I hk rk) dd fun h' dd' hs => ?_
  have hp' := put_N hp hk rk re rz
  have he : ∃ q, h'.get? Dd = some q := let ⟨q, _, _, hq, _⟩ := dd'; ⟨q, hq⟩
  exact ⟨_, d_write I (by rw [hx]; exact True.intro) hs he (raw_ok hm dd' hp'), q _ (stored_len hz) hp'⟩
theorem d_dcT {kx vx iter : Expr} {ifs : List Expr} {scope : Scope} {x : Str} {i : Nat} {p' : Pos} {pos : Pos} {ti : I3} {tt : T3} {tk tv : E3} {n : Nat} (hr : Room n X.A) (own : List (Str × Nat)) (hc : X.calm = true) (hN : X.N.Nodup) (hi : DI X (.Name x p') iter ti) (ok : BlkOk X.N X.env.scope scope own) (hv : i ∈ own.map (·.2))
    (hg : ∀ (s : Shared) (H : Hp) (C : Addr) (cl : List (Str × Addr)) (fp : List Addr), PG (X.blk s H scope (compEnvC scope cl C X.env) fp) (.Name x p') (gName i))
    (ht : ∀ (s : Shared) (H : Hp) (C : Addr) (cl : List (Str × Addr)) (fp : List Addr), DTs (X.blk s H scope (compEnvC scope cl C X.env) fp) ifs tt)
    (hk : ∀ (s : Shared) (H : Hp) (C : Addr) (cl : List (Str × Addr)) (fp : List Addr), DE (X.blk s H scope (compEnvC scope cl C X.env) fp) kx tk)
    (he : ∀ (s : Shared) (H : Hp) (C : Addr) (cl : List (Str × Addr)) (fp : List Addr), DE (X.blk s H scope (compEnvC scope cl C X.env) fp) vx tv) (hs : ∀ x, foldedSetIterable iter X.env x = pure x := by intro _; rfl) :
    DE X (.DictComp kx vx [⟨.Name x p', iter, ifs, 0⟩] scope pos) (e3DcT ti i tt tk tv (own.map (·.2))) := fun W2 tks =>
  (pe_dcG (o := fun D => .ext (RawN D [])) (p := pDcN X.K) hc hN (fun H h hb => raw_new (K := X.K) h hb) (fun s0 H0 ce fp pn σ H s D y z u r Y Ex I ry rz h => put_dc (Room.u65 hr) s0 H0 ce fp pn σ H s D y z u r Y Ex I ry rz h) (hi W2 tks) ok hg (fun s H C cl fp => ht s H C cl fp _ takesF) (fun s H C cl fp => hk s H C cl fp _ takesF) (fun s H C cl fp => he s H C cl fp _ takesF) hs).imp fun σ H Q2 h => dc_low hv rfl h
/-- the dict of a list of keys, each once -/
theorem dcMap {ds : List D} {keep : MH → Prop} {i : Nat} {tk tv : E3} {env : En} {p : Addr} {M : MH} {Q : MH → Prop} (v : D) (hk : ∀ d ∈ ds, keyD d = true) (nd : (ds.map nk).Nodup) (hp : M p = none) (hkeep : ∀ M', Sub M M' → keep M')
    (hek : ∀ (k : Nat) (d : D) (M' : MH) (R : Q3), ds[k]? = some d → Sub M M' → R d M' → tk W0 (env.set i (some d)) M' R)
    (hev : ∀ (k : Nat) (d : D) (M' : MH) (R : Q3), ds[k]? = some d → Sub M M' → R v M' → tv W0 (env.set i (some d)) M' R) (hsz : ds.length < sizeLine)
    (hq : ∀ M', Sub M M' → M' p = some (.dT (ds.map fun d => (d, v))) → Q M') : LoopT ds keep i t3Yes tk tv env p M Q := by
  refine ⟨fun k acc M' => acc = (ds.take k).map (fun d => (d, v)) ∧ Sub M M', ⟨by simp, (Sub.refl M).new hp⟩, ?_, ?_⟩
  · rintro k d acc M' hd ⟨rfl, sub⟩ hM
    have hlt := (List.getElem?_eq_some_iff.mp hd).1
    refine ⟨hkeep M' sub, Br.tt (hek k d M' _ hd sub (hev k d M' _ hd sub ⟨_, hM, ?_, hk d (List.mem_of_getElem? hd), ?_, (sub.new hp)⟩))⟩
    · rw [List.length_map, List.length_take]
      omega
    · unfold storT
      have hn : valT ((ds.take k).map fun d => (d, v)) d = none := by
        unfold valT
        rw [Option.map_eq_none_iff, List.find?_eq_none]
        intro q hq e
        obtain ⟨d', hd', rfl⟩ := List.mem_map.mp hq
        obtain ⟨j, hj⟩ := List.getElem?_of_mem hd'
        have hjk : j < k := by
          have := (List.getElem?_eq_some_iff.mp hj).1
          rw [List.length_take] at this
          omega
        rw [List.getElem?_take_of_lt hjk] at hj
        have e' : nk d' = nk d := of_decide_eq_true e
        have h1 : (ds.map nk)[j]? = some (nk d) := by rw [List.getElem?_map, hj, ← e']; rfl
        have h2 : (ds.map nk)[k]? = some (nk d) := by rw [List.getElem?_map, hd]; rfl
        have hjl : j < (ds.map nk).length := (List.getElem?_eq_some_iff.mp h1).1
        have := (List.getElem?_inj hjl nd).mp (h1.trans h2.symm)
        omega
      rw [hn]
      show _ ++ [(d, v)] = _
      rw [List.take_add_one, hd, List.map_append]
      rfl
  · rintro acc M' ⟨rfl, sub⟩ hM
    rw [List.take_length] at hM
    exact ⟨hkeep M' sub, hq M' sub hM⟩
end
end L3

namespace L3
open PySem PySem.Spec PyProof.Rows L2
/-! ### sorted(t), t a tuple of ints -/
section
variable {prog : Program} {w : World} {A : Around} {E : Value → Shared → Prop} {s : Shared}
theorem gathered {t : Addr} {its : List Value} {Q : List Value → Shared → Prop} (ht : s.heap.IsTuple t its.toArray) (z : its.length ≤ sizeLine)
    (q : Q its { s with heap := (s.heap.push (seqObj "list" #[] 0)).update s.heap.objs.size (Obj.mapSeq (· ++ its.toArray)) }) : wpAny (model prog w) A (collect (.ref t)) Q E s := by
  obtain ⟨ob, got, cl, m, dt⟩ := ht
  have got2 : (s.heap.push (seqObj "list" #[] 0)).get? t = some ob := Heap.get?_push_of_some _ got
  have own : (s.heap.push (seqObj "list" #[] 0)).get? s.heap.objs.size = some (seqObj "list" #[] 0) := Heap.get?_push_size _ rfl
  have first : ∀ {B : Around} {R : Fin → Shared → Prop} {E' : Value → Shared → Prop}, R (.done (.ret (.ref s.heap.objs.size))) { s with heap := (s.heap.push (seqObj "list" #[] 0)).update s.heap.objs.size (Obj.mapSeq (· ++ its.toArray)) } →
      wpAny (model prog w) B (Builtin.List.listExtendWith (.ref s.heap.objs.size) (.ref t) (.ref s.heap.objs.size)) R E' { s with heap := s.heap.push (seqObj "list" #[] 0) } := fun {B R E'} r => by
    have isT : (Value.type "tuple" == Value.type "tuple") = true := rfl
    unfold Builtin.List.listExtendWith; refine wpAny_bind (wpAny_typeOf (T := "tuple") ⟨ob, got2, cl⟩ ?_); rw [if_pos (by rw [isT, Bool.or_true])]
    refine wpAny_bind (listItems_at got2 dt (wpAny_bind (listItems_at own rfl ?_))); rw [if_neg (by simp)]
    exact wpAny_bind (listUpdate_at own rfl (wpAny_pure r) (Nat.zero_le _) (by rw [Array.size_append, List.size_toArray]; show 0 + its.length ≤ _; omega))
  have e : ((#[] : Array Value) ++ its.toArray).toList = its := by simp
  unfold collect; refine wpAny_bind (wpAny_runValue (codeAny_builtin entry_proto_collect' (wpAny_bind (wpAny_newList (wpAny_pure ⟨Code.quiet_builtin _ (by decide +kernel), codeAny_builtin entry_list_iadd' (first ?_)⟩)))))
  show wpAny (model prog w) A (do let ob ← load s.heap.objs.size; match ob.data with | .seq ys _ => pure ys.toList | _ => unsupported "internal:collect") Q E _
  refine wpAny_bind (wpAny_load (get?_update_seq own _) ?_); show wpAny _ _ (pure ((#[] : Array Value) ++ its.toArray).toList) Q E _
  rw [e]
  exact wpAny_pure q
open SrtO in
theorem sortedT {t : Addr} {its : List Value} {ns : List Int} {Q : Value → Shared → Prop} (hi : IntsAre its ns) (ht : s.heap.IsTuple t its.toArray) (z : its.length ≤ sizeLine)
    (q : ∀ out : List Value, Srtd ltIv out → Stb ltIv out its → Q (.ref (s.heap.objs.size + 1)) { s with heap := sortedAll s.heap its out.toArray }) : wpAny (model prog w) A (call (.builtin "sorted") [.ref t]) Q E s := by
  generalize hm : (s.heap.push (seqObj "list" #[] 0)).update s.heap.objs.size (Obj.mapSeq (· ++ its.toArray)) = mid at *
  have many : mid.objs.size = s.heap.objs.size + 1 := by rw [← hm, Heap.size_update, size_push']
  have made : (mid.push (seqObj "list" its.toArray 0)).get? (s.heap.objs.size + 1) = some (seqObj "list" its.toArray 0) := many ▸ Heap.get?_push_size _ rfl
  refine Calls.call_function_entry kind_sorted plain_sorted entry_sorted (args_sorted1 _) ?_; unfold Builtin.«sorted»
  refine wpAny_bind (m := checkCount "sorted" 1 1 _) (wpAny_pure (wpAny_bind (gathered ht z (wpAny_bind (wpAny_newList ?_ z)))))
  rw [hm]; dsimp only; rw [many]
  refine wpAny_bind (wpAny_holding (wpAny_call_entry slot_list_sort ⟨_, made, rfl⟩ entry_list_sort (list_sort_ord swo_int made z (fun h2 => ints_sortable hi h2) fun out hs hb => ⟨_, rfl, wpAny_pure ⟨_, rfl, ?_⟩⟩) (args_list_sort _)))
  have := q out hs hb
  unfold sortedAll at this
  rw [hm] at this
  exact this
end
section
variable {X : Cx} {K : Fg} {e : Expr} {u : A3} {p pos : Pos}
def rSortT (K : Fg) : List V → Hp → VK → Prop := fun vs H Q => ∃ (a : Addr) (ns : List Int), vs = [V.ref a] ∧ SqT K H a (ns.map V.int) ∧ ∀ (ms : List Int) (q : Addr), ms.Perm ns → ms.Pairwise (· ≤ ·) → H q = none → Q (.ref q) (upd H q (.lst (ms.map V.int)))
theorem cr_sortT3 : CallR X (.builtin "sorted") (rSortT X.K) := by
  rintro pins s σ H vs us Q I r ⟨a, ns, rfl, hs, q⟩
  obtain ⟨its, rv, ht, hz⟩ := I.tuple hs
  have hi := rv.ints
  have z : its.length ≤ sizeLine := by rw [← rv.length]; exact hz
  rw [Vals.ref1 r]
  refine sortedT hi ht z fun out h1 h2 => ?_
  obtain ⟨k1, k2, k3⟩ := SrtO.ints_out hi h1 h2
  obtain ⟨ep, at_⟩ := PyProof.Rows.sortedAll_at s.heap its out.toArray
  have few : ((out.map SrtO.iv).map V.int).length ≤ sizeLine := by rw [List.length_map, k2.length_eq]; rwa [List.length_map] at hz
  exact ⟨.ref _, upd H (s.heap.objs.size + 1) (.lst ((out.map SrtO.iv).map V.int)), I.laid (t' := s.toks) (fun _ _ => PyProof.Rows.sortedAll_old) (Nat.le_succ _) ⟨few, out, ep, vals_of_ints k1, at_⟩, rfl, q _ _ k2 k3 (I.hok.fresh (Nat.le_succ _))⟩
def c3SortedX : List D → MH → Q3 → Prop
  | [.ref l], M, Q => ∃ ns : List Int, LstM M l (ns.map D.int) ∧ ∀ (ms : List Int) (q : Addr), ms.Perm ns → ms.Pairwise (· ≤ ·) → M q = none → Q (.ref q) (updM M q (.lst (ms.map D.int)))
  | [.tup ds], M, Q => ∃ ns : List Int, ds = ns.map D.int ∧ ∀ (ms : List Int) (q : Addr), ms.Perm ns → ms.Pairwise (· ≤ ·) → M q = none → Q (.ref q) (updM M q (.lst (ms.map D.int)))
  | _, _, _ => False
theorem rvs_ints {H : Hp} : ∀ ms : List Int, Rvs K H (ms.map D.int) (ms.map V.int)
  | [] => Rvs.nil
  | m :: ms => Rvs.cons Rv.int (rvs_ints ms)
theorem cl_sortedX : CallL K (fun vs H Q => rSortedI K vs H Q ∨ rSortT K vs H Q) c3SortedX := by
  intro ds vs H M Q Q2 r a q g
  unfold c3SortedX at q
  split at q
  · exact .inl (cl_sorted _ vs H M Q Q2 r a (by unfold c3Sorted; exact q) g)
  · obtain ⟨ns, rfl, q⟩ := q
    obtain ⟨v, rfl, rr⟩ := one_inv r
    obtain ⟨p, ws, rfl, hs, hv⟩ := rr.tup_inv
    rw [hv.intsV] at hs
    exact .inr ⟨p, ns, rfl, hs, fun ms q' h1 h2 nq => g _ _ _ _ (Tps.new nq) (a.lstN nq (rvs_ints ms)) Rv.ref (q ms q' h1 h2 (a.fresh nq))⟩
  · exact q.elim
theorem d_sortedX (hm : X.mg "sorted" = none) (ha : DA X [e] u) (hg : Gl X "sorted" := by rfl) (he : starEach (e :: []) X.env = (false, eval e X.env) :: starEach [] X.env := by rfl) (hpl : (backTo pos (starEach [] X.env)).any (·.1) = false := by rfl) : DE X (.Call (.Name "sorted" p) [e] [] pos) (e3CB c3SortedX u) :=
  d_cb (r := fun vs H Q => rSortedI X.K vs H Q ∨ rSortT X.K vs H Q) (fun pins s σ H xs us Q I r q => q.elim (cr_sortedI pins s σ H xs us Q I r) (cr_sortT3 pins s σ H xs us Q I r)) cl_sortedX hg hm boot_sorted' ha (by decide) (by decide) he hpl
/-! ### len, of a dict too -/
def c3LenX : List D → MH → Q3 → Prop := fun ds M Q => c3Len ds M Q ∨ ∃ a kvs, ds = [.ref a] ∧ M a = some (.dK kvs) ∧ Q (.int kvs.length) M
def rLenX (K : Fg) : List V → Hp → VK → Prop := fun xs H Q => (∃ p ys, xs = [V.ref p] ∧ (SqL K H p ys ∨ SqT K H p ys) ∧ Q (V.int ys.length) H) ∨ ((∃ z, xs = [V.str z] ∧ z.length ≤ sizeLine ∧ Q (V.int z.length) H) ∨ ∃ a kvs, xs = [V.ref a] ∧ H a = some (.dK kvs) ∧ Q (V.int kvs.length) H)
theorem cr_lenX : CallR X (.builtin "len") (rLenX X.K) := by
  intro pins s σ H xs us Q I r q
  rcases q with q | q | q
  · exact call_len_seq pins s σ H xs us Q I r q
  · exact call_len_str pins s σ H xs us Q I r q
  · exact call_lenD pins s σ H xs us Q I r q
theorem cl_lenX : CallL K (rLenX K) c3LenX := by
  intro ds vs H M Q Q2 r a q g
  rcases q with q | ⟨l, kvs, rfl, hm, q⟩
  · rcases cl_len ds vs H M Q Q2 r a q g with q | q
    · exact .inl q
    · exact .inr (.inl q)
  · obtain ⟨v, rfl, rr⟩ := one_inv r
    cases rr.ref_inv
    obtain ⟨ks, hk, hr⟩ := a.dK hm
    refine .inr (.inr ⟨l, ks, rfl, hk, ?_⟩)
    rw [hr.len]
    exact g _ _ H M (Tps.refl H) a Rv.int q
theorem d_lenX (hm : X.mg "len" = none) (ha : DA X [e] u) (hg : Gl X "len" := by rfl) (he : starEach (e :: []) X.env = (false, eval e X.env) :: starEach [] X.env := by rfl) (hpl : (backTo pos (starEach [] X.env)).any (·.1) = false := by rfl) : DE X (.Call (.Name "len" p) [e] [] pos) (e3CB c3LenX u) :=
  d_cb cr_lenX cl_lenX hg hm PySem.boot_len ha (by decide) (by decide) he hpl
end
/-! ### a call by two keywords, the other way round -/
def BindsR (K : Fg) (fd : FuncData) (x y : Str) : Prop := ∀ (s : Shared) (a b : Value), K.In s.heap → BindsTo s fd ⟨[], [(y, b), (x, a)]⟩ [(x, a), (y, b)]
def e3CallR (sp : Sp3) (u : A3) : E3 := fun W env M Q => u W env M fun ds M1 => match ds with
  | [b, a] => sp [a, b] M1 Q fun cls dd M' => W cls dd env M'
  | _ => False
section
variable {X : Cx} {kws : List Keyword} {u : A3} {p pos : Pos} {k j : Nat} {f : Addr} {fd : FuncData} {sp : Sp3} {n x y : Str}
theorem d_callKwR (C : Cal X.prog X.w X.K X.mg X.base k f fd n [x, y] sp) (bk : BindsR X.K fd x y) (hr : RoomG j X.A) (ha : DK X kws u) (hj : k ≤ j := by decide) (hg : Gl X n := by rfl) (hdb : (n == ("__debug__" : Str)) = false := by decide)
    (hall : (backToKw pos (keywordEach kws X.env)).all (·.1.isSome) = true := by rfl) (hks : (backToKw pos (keywordEach kws X.env)).filterMap (·.1) = [y, x] := by rfl)
    (hpl : ((backTo pos (starEach [] X.env)).any (·.1) || (backToKw pos (keywordEach kws X.env)).any (·.1.isNone)) = false := by rfl) : DE X (.Call (.Name n p) [] kws pos) (e3CallR sp u) := fun W2 tk => by
  refine ⟨fun pins s σ H Q2 I h => ?_⟩
  obtain ⟨env, M, W, Q, se, a, l, q, g⟩ := h
  refine wpAny_Call_Name_kw (ld_glob I hg C.m ?_ hdb)
  refine PySem.W.callWith_KW0 (h₀ := X.base) I.ok.mod.kin C.kp hall (thn ((ha W2 tk).run pos pins s σ H (fun vs H1 => ∃ v w, vs = [w, v] ∧ lowF X.K sp [v, w] H1 Q2 (WE W2 σ)) I ⟨env, M, W, _, se, a, l, q, fun ds vs H1 M1 t1 a1 r1 q1 => ?_⟩) fun ws s1 ⟨zs, H1, I1, rz, v, w, ez, q2⟩ => ⟨I1.kIn, ?_⟩) hpl
  · match ds, r1, q1 with
    | [b, c], r1, q1 =>
      obtain ⟨w, v, rfl, rb, rc⟩ := two_inv r1
      exact ⟨v, w, rfl, [c, b], M1, Q, _, Rvs.cons rc (Rvs.cons rb Rvs.nil), a1, q1, g.mono t1, fun cls dd H' M' t2 a2 w => l cls dd σ H' env M' (t1.trans t2) (se.mono (t1.trans t2)) a2 w⟩
    | [], _, q1 => exact q1.elim
    | [_], _, q1 => exact q1.elim
    | _ :: _ :: _ :: _, _, q1 => exact q1.elim
  · subst ez
    rw [hks]
    cases rz with
    | cons r1 rr =>
      cases rr with
      | cons r2 rr =>
        cases rr
        rename_i b c _
        have hb : BindsTo s1 fd ⟨[], [y, x].zip [b, c]⟩ ([x, y].zip [c, b]) := bk s1 c b I1.kIn
        have go := enter3 (ws := [c, b]) (zs := [v, w]) C.F (hr.mono hj) tk I1 hb (.cons r2 (.cons r1 .nil)) q2
        refine wpAny_call (codeAny_mono go fun r s' hq => ?_)
        match r, hq with
        | .ok (.ret _), hq => exact hq
        | .ok .next, hq => exact hq.elim
        | .ok .brk, hq => exact hq.elim
        | .ok .cont, hq => exact hq.elim
        | .error _, hq => exact hq
end
end L3

namespace L3
open PySem PySem.Spec PyProof.Rows L2
/-! ### a dict that is either one of ints and texts or one of tuples, as the call tells -/
section
variable {X : Cx} {e a b c o i : Expr} {es : List Expr} {pos p : Pos} {t ta tb tc : E3} {u : A3} {K : Fg}
def e3DNewX : E3 := fun W env M Q => e3DNew W env M Q ∨ e3DNewT W env M Q
theorem d_dnewX : DE X (.Dict [] [] pos) e3DNewX := fun W2 _ =>
  (show PE X (.Dict [] [] pos) (fun _ H Q => (∀ p, H p = none → Q (.ref p) (upd H p (.dK []))) ∨ (∀ p, H p = none → Q (.ref p) (upd H p (.ext (RawN p []))))) from
    ⟨fun pins s σ H Q I h => h.elim (fun h => pe_dnewK.run pins s σ H Q I h) fun h => pe_dnewN.run pins s σ H Q I h⟩).imp fun σ H Q2 ⟨env, M, W, Q, s, a, l, q, g⟩ =>
  q.elim (fun q => .inl fun p hp => g _ _ _ _ (Tps.new hp) (a.dKN hp DR.nil) Rv.ref (q p (a.fresh hp))) fun q => .inr fun p hp => g _ _ _ _ (Tps.new hp) (a.dTN hp) Rv.ref (q p (a.fresh hp))
/-! k in d -/
def r3InX (neg : Bool) : D → D → MH → Q3 → Prop := fun y x M Q => r3InD neg y x M Q ∨ r3InN neg y x M Q
theorem opl_inX {neg : Bool} : OpL K (fun y x H Q => rInDK neg y x H Q ∨ rInN K neg y x H Q) (r3InX neg) := by
  intro d e v u H M Q Q2 rd re a q g
  rcases q with q | q
  · exact .inl (opl_inD _ _ _ _ H M Q Q2 rd re a q g)
  · exact .inr (opl_inN _ _ _ _ H M Q Q2 rd re a q g)
theorem ho_inX {n : Nat} (hr : Room n X.A) : OpR X (compareOp .In) (fun y x H Q => rInDK false y x H Q ∨ rInN X.K false y x H Q) := (ho_inD hr).or (ho_inN hr)
theorem ho_notinX {n : Nat} (hr : Room n X.A) : OpR X (compareOp .NotIn) (fun y x H Q => rInDK true y x H Q ∨ rInN X.K true y x H Q) := (ho_notinD hr).or (ho_notinN hr)
/-! d[k] -/
def r3IxX : D → D → MH → Q3 → Prop := fun x y M Q => r3IxD x y M Q ∨ r3IxN x y M Q
theorem pe_ixX {td ty : TE} (hu : X.A.units + 65 < cLine) (ho : PE X o td) (hi : PE X i ty) (hs : NoSl i) : PE X (.Subscript o i pos) (tOp (fun x y H Q => (∃ a v, x = .ref a ∧ DGet H a y (some v) ∧ Q v H) ∨ rIxN X.K x y H Q) td ty) := by
  refine ⟨fun pins s σ H Q I h => ?_⟩
  refine subD_of PySem.F.slot_dict_getitem.lookup hs (thn (ho.run pins s σ H _ I h) fun u s1 ⟨x, H1, I1, rx, q1⟩ => thn (hi.run pins s1 σ H1 _ I1 q1) fun iv s2 ⟨y, H2, I2, ry, q2⟩ => ?_)
  rcases q2 with ⟨a, v, rfl, g, q2⟩ | ⟨a, kvs, xs, d, e, b, rfl, rfl, hx, hp, hk, rk, hv, q2⟩
  · obtain rfl : u = Value.ref a := rx
    exact ⟨dict_typeIs I2 g, d_getItem (by omega) I2 g ry fun w' s3 I3 rw' => ⟨v, H2, I3, rw', q2⟩⟩
  · obtain rfl : u = Value.ref a := rx
    obtain rfl : iv = Value.ref b := ry
    obtain ⟨hm, dd⟩ := dict_N I2 hx hp
    rcases find_N hp d with ⟨z, _⟩ | ⟨e', v, c, w, z1, z2, r1, r2⟩
    · rw [z] at hv; cases hv
    · rw [z1] at hv
      cases hv
      exact ⟨dd.typeIs, wpAny_getItem_heap (by show X.A.units + 1 + 8 < cLine; omega) (key_isN I2 hk rk) dd z2 ⟨v, H2, I2.tok _, r2, q2 v r1⟩⟩
theorem opl_ixX {X : Cx} : OpL X.K (fun x y H Q => (∃ a v, x = .ref a ∧ DGet H a y (some v) ∧ Q v H) ∨ rIxN X.K x y H Q) r3IxX := by
  intro d e v u H M Q Q2 rd re a q g
  rcases q with q | q
  · obtain ⟨p, kvs, k, v, h1, h2, h3, h4, h5⟩ := opl_ixD (X := X) d e v u H M Q Q2 rd re a q g
    exact .inl ⟨p, v, h1, h2 ▸ h4 ▸ DGet.k h3, h5⟩
  · exact .inr (opl_ixN _ _ _ _ H M Q Q2 rd re a q g)
theorem d_ixX {n : Nat} (hr : Room n X.A) (ha : DE X a ta) (hb : DE X b tb) (hs : NoSl b := by exact fun _ _ => rfl) : DE X (.Subscript a b pos) (e3Op r3IxX ta tb) := fun W2 tk =>
  (pe_ixX (Room.u65 hr) (ha W2 tk) (hb W2 tk) hs).imp fun σ H Q2 h => op_low opl_ixX h
/-! d[k] = v -/
def g3SubX (to ti : E3) : G3 := fun W d env M Q => to W env M fun od M1 => ti W env M1 fun i M2 => (∃ p kvs k, od = .ref p ∧ i = kD k ∧ M2 p = some (.dK kvs) ∧ kvs.length < sizeLine ∧ Q env (updM M2 p (.dK (putD kvs k d)))) ∨
  ∃ p kvs, od = .ref p ∧ M2 p = some (.dT kvs) ∧ keyD i = true ∧ kvs.length < sizeLine ∧ Q env (updM M2 p (.dT (storT kvs i d)))
theorem set_X (hu : X.A.units + 65 < cLine) : PSet X (fun o i v H Q => rSetD o i v H Q ∨ rSetN X.K o i v H Q) := fun pins s σ H o i v ov iv u Q I ro ri rv h =>
  h.elim (fun h => set_dict (by omega) pins s σ H o i v ov iv u Q I ro ri rv h) fun h => set_N hu pins s σ H o i v ov iv u Q I ro ri rv h
theorem dg_subX {n : Nat} (hr : Room n X.A) (ho : DE X o ta) (hi : DE X i tb) (ha : ∀ v, assign (.Subscript o i pos) X.env v = (do
      let ov ← holding [v] (eval o X.env)
      let iv ← holding [v, ov] (eval i X.env)
      standAt pos
      holding [v, ov, iv] (setItem ov iv v)
      release [v, ov, iv] []) := by intro _; rfl) : DG X (.Subscript o i pos) (g3SubX ta tb) := fun W2 tk => (pg_sub (ho W2 tk) (hi W2 tk) (set_X (Room.u65 hr)) ha).imp fun v σ H Q2 ⟨d, env, M, W, Q, r, s, a, l, q, n⟩ => by
    refine ⟨env, M, W, _, s, a, l, q, fun od ov H1 M1 t1 a1 r1 q1 => ?_⟩
    refine ⟨env, M1, W, _, s.mono t1, a1, l.mono t1, q1, fun i iv H2 M2 t2 a2 r2 q2 => ?_⟩
    have t12 := t1.trans t2
    rcases q2 with ⟨p, kvs, k, rfl, rfl, hm, hz, q2⟩ | ⟨p, kvs, rfl, hm, hk, hz, q2⟩
    · cases (r1.mono t2).ref_inv
      cases kD_inv r2
      obtain ⟨ks, hk, hr⟩ := a2.dK hm
      exact .inl ⟨p, _, rfl, DPut.k hk (by rw [hr.len]; exact hz), n σ _ env _ (t12.trans (Tps.dK hk)) (s.mono (t12.trans (Tps.dK hk))) (a2.dKU hk (hr.put (r.mono t12))) q2⟩
    · cases (r1.mono t2).ref_inv
      obtain ⟨b, rfl⟩ := key_ref hk r2
      obtain ⟨xs, hx, hzx, hp⟩ := a2.dT hm
      refine .inr ⟨p, kvs, xs, i, d, b, rfl, rfl, hx, hp, by rw [← paired_len hp]; exact hz, hk, r2, r.mono t12, fun ys hy hp' => ?_⟩
      exact n σ _ env _ (t12.trans (Tps.ext hx)) (s.mono (t12.trans (Tps.ext hx))) (a2.dTU hx hy hp') q2
end
/-! len(d) -/
section
variable {prg : Program} {wd : World} {Ar : Around} {s : Shared} {Dd : Addr}
theorem rawlen (far : (Dd == sysModules) = false) (xs : List (NestedKey × Addr × Value)) : MeetsIn prg wd (Builtin.«dict.__len__» ⟨[.ref Dd], []⟩) (fun _ R s => s.heap.DictOfH (nestedKind prg wd) Dd xs ∧ R (.ok (.ret (.int xs.length s.toks))) { s with toks := s.toks + 1 }) := .of_wp fun A R s ⟨⟨o, es, ep, ho, _, hd, he, _, _⟩, h⟩ => by
  show wpAny _ _ (dictSize Dd >>= _) _ _ s
  unfold dictSize
  refine wpAny_bind (wpAny_bind (wpAny_dictEntries ho hd (wpAny_pure (show wpAny _ _ (Builtin.Dict.pendingCount Dd >>= _) _ _ s from wpAny_bind (wpAny_pendingCount_other far (wpAny_ret_mkInt ?_))))))
  rw [size_of_entries he, Nat.add_zero]
  exact h
theorem call_lenH (far : (Dd == sysModules) = false) {xs : List (NestedKey × Addr × Value)} (d : s.heap.DictOfH (nestedKind prg wd) Dd xs) (few : (xs.length : Int) < 2 ^ 63) {Q : Value → Shared → Prop} {Er : Value → Shared → Prop} (h : Q (.int xs.length (s.toks + 1)) { s with toks := s.toks + 1 + 1 }) :
    wpAny (model prg wd) Ar (call (.builtin "len") [.ref Dd]) Q Er s := by
  refine Calls.call_function_entry PySem.kind_len PySem.plain_len PySem.entry_len (PySem.args_len1 _) ?_
  unfold Builtin.«len»
  refine wpAny_bind (m := oneArg "len" _) (wpAny_pure (wpAny_bind (m := callSpecial? (.ref Dd) (Str.ofString "__len__")) (wpAny_callSpecial?_slot (name := Str.ofString "__len__") d.typeIs F.slot_dict_len (call_meetsIn F.slot_dict_len d.typeIs F.entry_dict_len (F.args_dict_len_1 _) (rawlen far xs) ⟨d, ?_⟩))))
  show wpAny _ _ _ _ _ { s with toks := s.toks + 1 }
  refine wpAny_bind (wpAny_holding (wpAny_pure (wpAny_bind (wpAny_letGo ?_))))
  show wpAny _ _ (if ((xs.length : Nat) : Int) < 0 then _ else _) _ _ _
  rw [if_neg (show ¬ ((xs.length : Nat) : Int) < 0 by omega)]
  show wpAny _ _ (if ((xs.length : Nat) : Int) ≥ 2 ^ 63 then _ else _) _ _ _
  rw [if_neg (show ¬ ((xs.length : Nat) : Int) ≥ 2 ^ 63 by omega)]
  exact wpAny_bind (wpAny_mkInt (wpAny_pure ⟨_, rfl, h⟩))
end
section
variable {X : Cx} {e : Expr} {u : A3} {p pos : Pos} {K : Fg}
def c3LenD : List D → MH → Q3 → Prop := fun ds M Q => c3LenX ds M Q ∨ ∃ a kvs, ds = [.ref a] ∧ M a = some (.dT kvs) ∧ kvs.length ≤ 1000000 ∧ Q (.int kvs.length) M
def rLenD (K : Fg) : List V → Hp → VK → Prop := fun xs H Q => rLenX K xs H Q ∨ ∃ (a : Addr) (kvs : List (D × D)) (ys : List (NestedKey × Addr × Value)), xs = [V.ref a] ∧ H a = some (.ext (RawN a ys)) ∧ Paired (EntR K H) kvs ys ∧ ys.length ≤ 1000000 ∧ Q (V.int ys.length) H
theorem cr_lenD : CallR X (.builtin "len") (rLenD X.K) := by
  intro pins s σ H xs us Q I r q
  rcases q with q | ⟨a, kvs, ys, rfl, hx, hp, hz, q⟩
  · exact cr_lenX pins s σ H xs us Q I r q
  · obtain ⟨v, rfl, rv⟩ := vals1 r
    cases rv
    obtain ⟨far, d⟩ := dict_N I hx hp
    exact call_lenH far d (by omega) ⟨.int ys.length, H, I.tok _, ⟨_, rfl⟩, q⟩
theorem cl_lenD : CallL K (rLenD K) c3LenD := by
  intro ds vs H M Q Q2 r a q g
  rcases q with q | ⟨l, kvs, rfl, hm, hz, q⟩
  · exact .inl (cl_lenX ds vs H M Q Q2 r a q g)
  · obtain ⟨v, rfl, rr⟩ := one_inv r
    cases rr.ref_inv
    obtain ⟨ys, hy, _, hp⟩ := a.dT hm
    have e := paired_len hp
    exact .inr ⟨l, kvs, ys, rfl, hy, hp, by omega, by rw [← e]; exact g _ _ H M (Tps.refl H) a Rv.int q⟩
theorem d_lenD (hm : X.mg "len" = none) (ha : DA X [e] u) (hg : Gl X "len" := by rfl) (he : starEach (e :: []) X.env = (false, eval e X.env) :: starEach [] X.env := by rfl) (hpl : (backTo pos (starEach [] X.env)).any (·.1) = false := by rfl) : DE X (.Call (.Name "len" p) [e] [] pos) (e3CB c3LenD u) :=
  d_cb cr_lenD cl_lenD hg hm PySem.boot_len ha (by decide) (by decide) he hpl
end
end L3

namespace L3
open PySem PySem.Spec PyProof.Rows L2
/-! ### zip of a list or tuple with a list or tuple -/
/-- true: a tuple; false: a list -/
def ItB : Bool → Heap → Addr → Addr → Nat → Prop
  | true, h, it, l, i => h.IsTupleIter it l i
  | false, h, it, l, i => h.IsListIter it l i
def SeqB : Bool → Heap → Addr → Array Value → Prop
  | true, h, l, xs => h.IsTuple l xs
  | false, h, l, xs => h.IsList l xs
def obB : Bool → Addr → Obj
  | true, l => { cls := .type "tuple_iterator", data := .fields #[.ref l, .int 0 0] }
  | false, l => { cls := .type "list_iterator", data := .fields #[.ref l, .int 0 0] }
theorem ItB.at_ {b : Bool} {h h' : Heap} {it l : Addr} {i : Nat} (x : ItB b h it l i) (e : ∀ o, h.get? it = some o → h'.get? it = some o) : ItB b h' it l i := by
  cases b with
  | true => exact Heap.IsTupleIter.at x e
  | false => exact Heap.IsListIter.at x e
theorem ItB.obj {b : Bool} {h : Heap} {it l : Addr} {i : Nat} (x : ItB b h it l i) : ∃ o, h.get? it = some o ∧ ∀ v, o.data ≠ .cell v := by
  cases b with
  | true => obtain ⟨o, e, _, d⟩ := x; exact ⟨o, e, fun v z => by rw [d] at z; cases z⟩
  | false => obtain ⟨o, e, _, d⟩ := x; exact ⟨o, e, fun v z => by rw [d] at z; cases z⟩
theorem drawB {prg : Program} {wd : World} {Ar : Around} (calm : Ar.handled = none) (b : Bool) (it l : Addr) (ne : l ≠ it) (items : Array Value) :
    Draws prg wd Ar it [it, l] items.size (fun i v => items[i]? = some v) (fun i h => ItB b h it l i ∧ SeqB b h l items) := by
  cases b with
  | true => exact Draws.tuple calm it l ne items
  | false => exact Draws.list calm it l ne items
theorem beginB (b : Bool) (l : Addr) (items : Array Value) : Begins (.ref l) (obB b l) fun h => SeqB b h l items := by
  cases b with
  | true => exact begins_tuple l items
  | false => exact begins_list l items
theorem itB_new {b : Bool} {h : Heap} {it l : Addr} (e : h.get? it = some (obB b l)) : ItB b h it l 0 := by
  cases b with
  | true => exact ⟨_, e, rfl, rfl⟩
  | false => exact ⟨_, e, rfl, rfl⟩
/-- what stands at a -/
def SqB (K : Fg) : Bool → Hp → Addr → List V → Prop
  | true, H, a, xs => SqT K H a xs
  | false, H, a, xs => SqL K H a xs
section
variable {X : Cx} {e e2 : Expr} {pos p : Pos} {u : A3} {K : Fg}
theorem inv_seqB {pins : List (Addr × Obj)} {σ : L2.St} {H : Hp} {s : Shared} {b : Bool} {a : Addr} {xs : List V} (I : Inv X pins σ H s) (h : SqB X.K b H a xs) : ∃ its : List Value, Vals xs its ∧ SeqB b s.heap a its.toArray := by
  cases b with
  | true => obtain ⟨its, rv, q, _⟩ := I.tuple h; exact ⟨its, rv, q⟩
  | false => obtain ⟨its, rv, q, _⟩ := I.list h; exact ⟨its, rv, q.isList⟩
theorem inv_seqB_inj {pins : List (Addr × Obj)} {σ : L2.St} {H : Hp} {s : Shared} {b : Bool} {a : Addr} {xs ys : List V} (I : Inv X pins σ H s) (h : SqB X.K b H a xs) (h' : SqB X.K b H a ys) : xs = ys := by
  cases b with
  | true => exact I.tuple_inj h h'
  | false => exact I.list_inj h h'
theorem SeqB.lt {b : Bool} {h : Heap} {l : Addr} {xs : Array Value} (x : SeqB b h l xs) : l < h.objs.size := by
  cases b with
  | true => obtain ⟨o, e, _⟩ := x; exact Heap.lt_size e
  | false => obtain ⟨o, e, _⟩ := x; exact Heap.lt_size e
def IzB (K : Fg) (b1 b2 : Bool) (a b : Addr) : It :=
  ⟨fun i H => ∃ (xs ys : List V) (x y : V), SqB K b1 H a xs ∧ SqB K b2 H b ys ∧ xs[i]? = some x ∧ ys[i]? = some y,
   fun i H v H' => ∃ T x y ob, v = .ref T ∧ H T = none ∧ ob.dict = none ∧ H' = upd H T (.frz ob (.tup [x, y])) ∧ (∀ xs, SqB K b1 H a xs → xs[i]? = some x) ∧ ∀ ys, SqB K b2 H b ys → ys[i]? = some y,
   fun i H => ∃ xs ys : List V, SqB K b1 H a xs ∧ SqB K b2 H b ys ∧ i ≤ xs.length ∧ i ≤ ys.length ∧ (xs.length = i ∨ ys.length = i)⟩
theorem sepB {z TI TO i1 i2 a b : Addr} (D : ZipApart z TI TO i1 i2 a b) : ZipSep2 z TI TO i1 i2 [i1, a] [i2, b] where
  TIz := D.TIz
  TOz := D.TOz
  TITO := D.TITO
  TIi1 := D.TIi1
  mem1 := by simp
  zf1 := by simp [D.i1z.symm, D.l1z.symm]
  Tf1 := by simp [D.TOi1, D.l1TO.symm]
  TIi2 := D.TIi2
  mem2 := by simp
  zf2 := by simp [D.i2z.symm, D.l2z.symm]
  Tf2 := by simp [D.TOi2, D.l2TO.symm]
  sep1_2 := by simp [D.i12, D.l2i1.symm]
  sep2_1 := by simp [D.i12.symm, D.l1i2.symm]
theorem turn_zipB {P : Program} {w : World} {K : Fg} {elts : List Expr} {kk : Nat} {tpos : Pos} {b1 b2 : Bool} {a b z TI TO i1 i2 : Addr} (D : ZipApart z TI TO i1 i2 a b) :
    Turn P w K (.Tuple elts kk tpos) (IzB K b1 b2 a b) [z, TI, TO, i1, i2] z (fun i h => IsZip h z TI TO .none ∧ IsPair h TI (.ref i1) (.ref i2) ∧ (∃ x y, IsPair h TO x y) ∧ ItB b1 h i1 a i ∧ ItB b2 h i2 b i) where
  mem := List.mem_cons_self
  obj := fun i h ⟨hz, hTI, ⟨x, y, hTO⟩, h1, h2⟩ c hc => by
    simp only [List.mem_cons, List.not_mem_nil, or_false] at hc
    rcases hc with rfl | rfl | rfl | rfl | rfl
    · exact ⟨_, hz, fun v q => nomatch q⟩
    · exact ⟨_, hTI, fun v q => nomatch q⟩
    · exact ⟨_, hTO, fun v q => nomatch q⟩
    · exact h1.obj
    · exact h2.obj
  keep := fun i h h' ⟨hz, hTI, ⟨x, y, hTO⟩, h1, h2⟩ k => ⟨k z (by simp) _ hz, k TI (by simp) _ hTI, ⟨x, y, k TO (by simp) _ hTO⟩, h1.at_ (k i1 (by simp)), h2.at_ (k i2 (by simp))⟩
  item := by
    rintro X rfl rfl rfl calm i pins s σ H E I hf ⟨hz, hTI, ⟨x0, y0, hTO⟩, h1, h2⟩ ⟨xs, ys, x, y, hqx, hqy, hx, hy⟩
    obtain ⟨its, rv, p⟩ := inv_seqB I hqx
    obtain ⟨its2, rv2, p2⟩ := inv_seqB I hqy
    obtain ⟨v, hv, rx⟩ := rv.get hx
    obtain ⟨v2, hv2, ry⟩ := rv2.get hy
    have small : ∀ c ∈ [z, TI, TO, i1, i2], c < s.heap.objs.size := fun c hcm => by
      simp only [List.mem_cons, List.not_mem_nil, or_false] at hcm
      rcases hcm with rfl | rfl | rfl | rfl | rfl
      · exact Heap.lt_size hz
      · exact Heap.lt_size hTI
      · exact Heap.lt_size hTO
      · obtain ⟨o, e, _⟩ := h1.obj; exact Heap.lt_size e
      · obtain ⟨o, e, _⟩ := h2.obj; exact Heap.lt_size e
    have hd : X.A.in1.handled = none := by rw [show X.A.in1.handled = X.A.handled from rfl]; exact I.ok.hd calm
    refine wpAny_pyNext_zipD2_item (sepB D) (drawB hd b1 i1 a D.l1i1 its.toArray) (drawB hd b2 i2 b D.l2i2 its2.toArray) hz hTI hTO ⟨h1, p⟩ ⟨h2, p2⟩ (i := i) (by have := (List.getElem?_eq_some_iff.mp hv).1; simpa using this) (by have := (List.getElem?_eq_some_iff.mp hv2).1; simpa using this)
      fun u1 u2 h3 tk e1 e2 z3 TO3 st1 st2 hT hsz hk => ?_
    have f1 : u1 = v := by
      have e1 : its[i]? = some u1 := by simpa using e1
      rw [hv] at e1
      exact (Option.some.inj e1).symm
    have f2 : u2 = v2 := by
      have e2 : its2[i]? = some u2 := by simpa using e2
      rw [hv2] at e2
      exact (Option.some.inj e2).symm
    subst f1
    subst f2
    refine ⟨_, rfl, wpAny_letOwnedTupleGo_zip (s := { s with heap := h3, toks := tk }) z3 fun h4 z4 sb => ?_⟩
    have hT2 : IsPair h4 s.heap.objs.size u1 u2 := (sb.2 _ (Nat.ne_of_gt (small z (by simp)))).trans hT
    have kept : ∀ (c : Addr) (ob : Obj), c ∉ [z, TI, TO, i1, i2] → s.heap.get? c = some ob → h4.get? c = some ob := fun c ob hb q =>
      (sb.2 c (fun q' => hb (by simp [q']))).trans (hk c ob (fun q' => hb (by simp [q'])) (fun q' => hb (by simp [q'])) (fun q' => hb (by simp [q'])) (fun q' => hb (by simp [q'])) q)
    have I1 : Inv X pins σ (upd H s.heap.objs.size (.frz { cls := .type "tuple", data := .seq #[u1, u2] } (.tup [x, y]))) { s with heap := h4, toks := tk } :=
      I.turnedNew (t' := tk) (ch := [z, TI, TO, i1, i2]) kept hf (Nat.le_refl _) ⟨hT2, by show 2 ≤ sizeLine; decide, [u1, u2], .cons rx (.cons ry .nil), ⟨_, hT2, rfl, _, rfl⟩⟩
    refine ⟨.ref s.heap.objs.size, _, I1, rfl, ⟨_, x, y, _, rfl, I.hok.fresh (Nat.le_refl _), rfl, rfl, fun l hl => by rw [inv_seqB_inj I hl hqx]; exact hx, fun l hl => by rw [inv_seqB_inj I hl hqy]; exact hy⟩,
      ⟨z4, (sb.2 _ D.TIz).trans (hk _ _ D.TIz D.TITO D.TIi1 D.TIi2 hTI), ⟨u1, u2, (sb.2 _ D.TOz).trans TO3⟩, st1.1.at_ fun ob q => (sb.2 _ D.i1z).trans q, st2.1.at_ fun ob q => (sb.2 _ D.i2z).trans q⟩, fun c hcm => ?_⟩
    rw [upd_ne (Nat.ne_of_lt (small c hcm))]
    exact (hf c hcm).1
  done := by
    rintro X rfl rfl rfl calm i pins s σ H E I hf ⟨hz, hTI, ⟨x0, y0, hTO⟩, h1, h2⟩ ⟨xs, ys, hqx, hqy, le1, le2, ends⟩
    obtain ⟨its, rv, p⟩ := inv_seqB I hqx
    obtain ⟨its2, rv2, p2⟩ := inv_seqB I hqy
    have l1 := rv.length
    have l2 := rv2.length
    have hd : X.A.in1.handled = none := by rw [show X.A.in1.handled = X.A.handled from rfl]; exact I.ok.hd calm
    exact wpAny_pyNext_zipD2_end (sepB D) (drawB hd b1 i1 a D.l1i1 its.toArray) (drawB hd b2 i2 b D.l2i2 its2.toArray) hz hTI hTO ⟨h1, p⟩ ⟨h2, p2⟩ (i := i) (by simp; omega) (by simp; omega) (by simp; omega)
      fun h' tk hk => ⟨rfl, I.turnedL (t' := tk) (ch := [z, TI, TO, i1, i2]) (fun c o hb q => hk c o (fun q' => hb (by simp [q'])) (fun q' => hb (by simp [q'])) (fun q' => hb (by simp [q'])) (fun q' => hb (by simp [q'])) q) hf⟩
  self := fun A i s Q E st h => wpAny_pyIter_zip st.1 h
def iZipB (K : Fg) (ta : TA) : TI := fun σ H R => ta σ H fun vs H1 => ∃ b1 b2 a b xs ys, vs = [.ref a, .ref b] ∧ SqB K b1 H1 a xs ∧ SqB K b2 H1 b ys ∧ R (IzB K b1 b2 a b) H1
theorem pi_zipB {ta : TA} {tpos : Pos} {elts : List Expr} {kk : Nat} (hg : Gl X "zip") (hm : X.mg "zip" = none) (ha : PA X [e, e2] ta) (hs : starEach [e, e2] X.env = (false, eval e X.env) :: starEach [e2] X.env) (hpl : (backTo pos (starEach [e2] X.env)).any (·.1) = false) :
    PI X (.Tuple elts kk tpos) (.Call (.Name "zip" p) [e, e2] [] pos) (iZipB X.K ta) :=
  ⟨fun pins s σ H R I h => Call_ (ld_blt I hg hm PyProof.Rows.boot_zip (PyProof.Rows.callWith_type1 (thn (ha.run pos pins s σ H _ I h) fun us s1 ⟨vs, H1, I1, r1, b1, b2, a, b, xs, ys, ex, hqx, hqy, q⟩ => by
    subst ex
    obtain ⟨v, v2, rfl, rv, rv2⟩ := vals2 r1
    cases rv
    cases rv2
    obtain ⟨its, rt, p1⟩ := inv_seqB I1 hqx
    obtain ⟨its2, rt2, p2⟩ := inv_seqB I1 hqy
    refine zip_begins2 (beginB b1 a its.toArray) (beginB b2 b its2.toArray) p1 p2 fun h' hz hTI hTO h1 h2 hsz hk => wpAny_pyIter_zip hz ?_
    refine ⟨s1.heap.objs.size + 4, [s1.heap.objs.size + 4, s1.heap.objs.size + 2, s1.heap.objs.size + 3, s1.heap.objs.size, s1.heap.objs.size + 1], _, _, H1, rfl, I1.kept (t' := s1.toks) hk, turn_zipB (PySem.W.ktu_apart s1.heap.objs.size a b p1.lt p2.lt), ⟨hz, hTI, ⟨_, _, hTO⟩, itB_new h1, itB_new h2⟩, fun c hcm => ?_, q⟩
    have hle : s1.heap.objs.size ≤ c := by
      simp only [List.mem_cons, List.not_mem_nil, or_false] at hcm
      rcases hcm with rfl | rfl | rfl | rfl | rfl <;> first | exact Nat.le_add_right _ _ | exact Nat.le_refl _
    exact I1.fpOk hle (I1.hok.fresh hle)) hs hpl))⟩
theorem seqB_rd {H : Hp} {M : MH} {x : D} {v : V} {ds : List D} (r : Rv K H x v) (a : Abs K M H) (h : Seq3 M ds x) : ∃ (b : Bool) (p : Addr), v = .ref p ∧ (∃ vs, SqB K b H p vs ∧ Rvs K H ds vs) ∧
    ∀ (M' : MH) (H' : Hp), Tps H H' → Abs K M' H' → Seq3 M' ds x → ∃ vs, SqB K b H' p vs ∧ Rvs K H' ds vs := by
  cases x with
  | tup es =>
    obtain rfl : es = ds := h
    obtain ⟨p, ws, rfl, hs, hv⟩ := r.tup_inv
    exact ⟨true, p, rfl, ⟨ws, hs, hv⟩, fun M' H' t _ _ => ⟨ws, t.seq hs, hv.mono t⟩⟩
  | ref l =>
    obtain rfl := r.ref_inv
    exact ⟨false, l, rfl, a.rd h, fun M' H' _ a' h' => a'.rd h'⟩
  | _ => exact h.elim
theorem itok_zipB {H : Hp} {p q : Addr} {b1 b2 : Bool} {x y : D} {ds es : List D}
    (k1 : ∀ (M' : MH) (H' : Hp), Tps H H' → Abs K M' H' → Seq3 M' ds x → ∃ vs, SqB K b1 H' p vs ∧ Rvs K H' ds vs)
    (k2 : ∀ (M' : MH) (H' : Hp), Tps H H' → Abs K M' H' → Seq3 M' es y → ∃ vs, SqB K b2 H' q vs ∧ Rvs K H' es vs) : ItOk K H (zipD ds es) (fun M' => Seq3 M' ds x ∧ Seq3 M' es y) (IzB K b1 b2 p q) where
  step := fun i d H' M' hd t a ⟨g1, g2⟩ => by
    obtain ⟨u, v, hu, hv, rfl⟩ := zipD_get hd
    obtain ⟨vs, s1, r1⟩ := k1 M' H' t a g1
    obtain ⟨ws, s2, r2⟩ := k2 M' H' t a g2
    obtain ⟨u', h1, ru⟩ := r1.get hu
    obtain ⟨v', h2, rv⟩ := r2.get hv
    refine ⟨⟨vs, ws, u', v', s1, s2, h1, h2⟩, ?_⟩
    rintro z H2 ⟨T, z1, z2, ob, rfl, nT, dT, rfl, e1, e2⟩
    have e1 := e1 vs s1
    have e2 := e2 ws s2
    rw [h1] at e1
    rw [h2] at e2
    cases e1
    cases e2
    exact ⟨Tps.new nT, a.tupN nT, Rv.tup (SqD.of dT) (Rvs.cons (ru.mono (Tps.new nT)) (Rvs.cons (rv.mono (Tps.new nT)) Rvs.nil))⟩
  stop := fun H' M' t a ⟨g1, g2⟩ => by
    obtain ⟨vs, s1, r1⟩ := k1 M' H' t a g1
    obtain ⟨ws, s2, r2⟩ := k2 M' H' t a g2
    exact ⟨vs, ws, s1, s2, by rw [zipD_length, ← r1.length]; omega, by rw [zipD_length, ← r2.length]; omega, by rw [zipD_length, ← r1.length, ← r2.length]; omega⟩
/-- zip(x, y), lists or tuples -/
def i3ZipX (u : A3) : I3 := fun W env M Q => u W env M fun ds M1 => match ds with
  | [x, y] => ∃ xs ys, Seq3 M1 xs x ∧ Seq3 M1 ys y ∧ Q (zipD xs ys) (fun M' => Seq3 M' xs x ∧ Seq3 M' ys y) M1
  | _ => False
theorem di_zipX {elts : List Expr} {kk : Nat} {tpos : Pos} (hm : X.mg "zip" = none) (ha : DA X [e, e2] u) (hg : Gl X "zip" := by rfl) (hs : starEach [e, e2] X.env = (false, eval e X.env) :: starEach [e2] X.env := by rfl) (hpl : (backTo pos (starEach [e2] X.env)).any (·.1) = false := by rfl) :
    DI X (.Tuple elts kk tpos) (.Call (.Name "zip" p) [e, e2] [] pos) (i3ZipX u) := fun W2 tk =>
  (pi_zipB hg hm (ha W2 tk) hs hpl).imp fun σ H R ⟨env, M, W, Q, s, a, l, q, k⟩ => ⟨env, M, W, _, s, a, l, q, fun ds vs H1 M1 t1 a1 r1 q1 => by
    split at q1
    · obtain ⟨v, v2, rfl, ra, rb⟩ := two_inv r1
      obtain ⟨xs, ys, g1, g2, q1⟩ := q1
      obtain ⟨b1, p1, rfl, ⟨vs1, s1, _⟩, k1⟩ := seqB_rd ra a1 g1
      obtain ⟨b2, p2, rfl, ⟨vs2, s2, _⟩, k2⟩ := seqB_rd rb a1 g2
      exact ⟨b1, b2, p1, p2, vs1, vs2, rfl, s1, s2, k _ _ _ H1 M1 t1 a1 q1 (itok_zipB k1 k2)⟩
    · exact q1.elim⟩
end
end L3

namespace L3
open PySem PySem.Spec PyProof.Rows L2
section
variable {X : Cx} {e e2 : Expr} {pos p : Pos} {u : A3} {K : Fg}
/-! ### enumerate of a list or a tuple -/
def IteB (K : Fg) (bb : Bool) (a : Addr) : It :=
  ⟨fun i H => ∃ (xs : List V) (x : V), SqB K bb H a xs ∧ xs[i]? = some x, fun i H v H' => ∃ T x o, v = .ref T ∧ H T = none ∧ o.dict = none ∧ H' = upd H T (.frz o (.tup [.int (i : Nat), x])) ∧ ∀ xs, SqB K bb H a xs → xs[i]? = some x, fun i H => ∃ xs : List V, SqB K bb H a xs ∧ xs.length = i⟩
theorem turn_enumB {P : Program} {w : World} {K : Fg} {elts : List Expr} {kk : Nat} {tpos : Pos} {bb : Bool} (a e it : Addr) (n1 : e ≠ it) (n2 : a ≠ it) (n3 : e ≠ a) :
    Turn P w K (.Tuple elts kk tpos) (IteB K bb a) [e, it] e (fun i h => (∃ old, IsEnum h e it ((i : Nat) : Int) old) ∧ ItB bb h it a i) where
  mem := List.mem_cons_self
  obj := fun i h ⟨⟨old, he⟩, hi⟩ b hb => by
    rcases List.mem_cons.mp hb with rfl | hb
    · exact ⟨_, he, fun v q => nomatch q⟩
    · rw [List.mem_singleton.mp hb]
      exact hi.obj
  keep := fun i h h' ⟨⟨old, he⟩, hi⟩ k => ⟨⟨old, k e (by simp) _ he⟩, hi.at_ fun o q => k it (by simp) o q⟩
  item := by
    rintro X rfl rfl rfl hc i pins s σ H E I hf ⟨⟨old, he⟩, hit⟩ ⟨xs, x, hq, hx⟩
    obtain ⟨its, rv, p⟩ := inv_seqB I hq
    obtain ⟨u, hu, ru⟩ := rv.get hx
    have small : ∀ b ∈ [e, it], b < s.heap.objs.size := fun b hb => by
      rcases List.mem_cons.mp hb with rfl | hb
      · exact Heap.lt_size he
      · rw [List.mem_singleton.mp hb]
        obtain ⟨_, q, _⟩ := hit.obj
        exact Heap.lt_size q
    have hlt : i < its.toArray.size := by simpa using (List.getElem?_eq_some_iff.mp hu).1
    refine wpAny_pyNext_enum_itemD (drawB (Ar := X.A.in1) (I.ok.hd hc) bb it a n2 its.toArray) he ⟨hit, p⟩ hlt n1 (by simp [n1, n3]) fun y h1 tk hy out ⟨hit1, _⟩ hT hsz hk => ?_
    have hyu : y = u := by
      have e1 : its[i]? = some y := by simpa using hy
      rw [hu] at e1
      cases e1
      rfl
    subst hyu
    refine ⟨_, rfl, wpAny_letOwnedTupleGo_enum (s := { s with heap := h1, toks := tk + 1 }) out fun h2 he2 sb => ?_⟩
    have hT2 : h2.get? s.heap.objs.size = some { cls := .type "tuple", data := .seq #[.int i tk, y] } := (sb.2 _ (Nat.ne_of_gt (small e (by simp)))).trans hT
    have I1 : Inv X pins σ (upd H s.heap.objs.size (.frz { cls := .type "tuple", data := .seq #[.int i tk, y] } (.tup [.int (i : Nat), x]))) { s with heap := h2, toks := tk + 1 } :=
      I.turnedNew (ch := [e, it]) (fun b ob hb q => (sb.2 b (fun z => hb (by simp [z]))).trans (hk b ob (fun z => hb (by simp [z])) (fun z => hb (by simp [z])) q)) hf (Nat.le_refl _)
        ⟨hT2, by show 2 ≤ sizeLine; decide, [.int i tk, y], .cons ⟨_, rfl⟩ (.cons ru .nil), ⟨_, hT2, rfl, _, rfl⟩⟩
    refine ⟨.ref s.heap.objs.size, _, I1, rfl, ⟨_, x, _, rfl, I.hok.fresh (Nat.le_refl _), rfl, rfl, fun ys hy => by rw [inv_seqB_inj I hy hq]; exact hx⟩, ⟨⟨y, by rw [show ((i + 1 : Nat) : Int) = (i : Int) + 1 by omega]; exact he2⟩, hit1.at_ fun o q => (sb.2 it (Ne.symm n1)).trans q⟩, fun b hb => ?_⟩
    rw [upd_ne (Nat.ne_of_lt (small b hb))]
    exact (hf b hb).1
  done := by
    rintro X rfl rfl rfl hc i pins s σ H E I hf ⟨⟨old, he⟩, hit⟩ ⟨xs, hq, rfl⟩
    obtain ⟨its, rv, p⟩ := inv_seqB I hq
    obtain ⟨f0, f1, f2, f3, f4, f5⟩ := hf it (by simp)
    have hl : its.toArray.size = xs.length := List.size_toArray.trans rv.length.symm
    exact wpAny_pyNext_enum_endD (drawB (Ar := X.A.in1) (I.ok.hd hc) bb it a n2 its.toArray) he (by rw [hl]; exact ⟨hit, p⟩) fun h' eb => ⟨rfl, I.turned (t' := s.toks) (fun b o hb q => eb b o hb q) f0 f1 f3 f4 f5⟩
  self := fun A i s Q E ⟨⟨_, he⟩, _⟩ h => wpAny_pyIter_enum he h
theorem call_enumB {prog : Program} {w : World} {A : Around} {E : Value → Shared → Prop} {s : Shared} {bb : Bool} {l : Addr} {items : Array Value} {Q : Value → Shared → Prop} (hL : SeqB bb s.heap l items)
    (h : ∀ h', IsEnum h' (s.heap.objs.size + 1) s.heap.objs.size 0 .none → ItB bb h' s.heap.objs.size l 0 → (∀ b o, s.heap.get? b = some o → h'.get? b = some o) → Q (.ref (s.heap.objs.size + 1)) { s with heap := h' }) :
    wpAny (model prog w) A (call (.type "enumerate") [.ref l]) Q E s := by
  cases bb with
  | true => exact call_enumT hL h
  | false => exact call_enumerate_list hL fun h' he hit _ hk => h h' he hit hk
def iEnumB (K : Fg) (ta : TA) : TI := fun σ H R => ta σ H fun vs H1 => ∃ bb a xs, vs = [.ref a] ∧ SqB K bb H1 a xs ∧ R (IteB K bb a) H1
theorem pi_enumB {ta : TA} {tpos : Pos} {elts : List Expr} {kk : Nat} (hg : Gl X "enumerate") (hm : X.mg "enumerate" = none) (ha : PA X [e] ta) (hs : starEach [e] X.env = [(false, eval e X.env)]) :
    PI X (.Tuple elts kk tpos) (.Call (.Name "enumerate" p) [e] [] pos) (iEnumB X.K ta) :=
  ⟨fun pins s σ H R I h => Call_ (ld_blt I hg hm boot_enumerate (PyProof.Rows.callWith_type1 (thn (ha.run pos pins s σ H _ I h) fun us s1 ⟨vs, H1, I1, r1, bb, a, xs, ex, hq, q⟩ => by
    subst ex
    obtain ⟨v, rfl, rv⟩ := vals1 r1
    cases rv
    obtain ⟨its, rt, pl⟩ := inv_seqB I1 hq
    have ha := pl.lt
    refine call_enumB pl fun h' he hit hk => wpAny_pyIter_enum he ?_
    refine ⟨s1.heap.objs.size + 1, [s1.heap.objs.size + 1, s1.heap.objs.size], _, _, H1, rfl, I1.kept (t' := s1.toks) hk, turn_enumB a _ _ (Nat.succ_ne_self _) (Nat.ne_of_lt ha) (Nat.ne_of_gt (Nat.lt_succ_of_lt ha)), ⟨⟨.none, he⟩, hit⟩, fun b hb => ?_, q⟩
    have hle : s1.heap.objs.size ≤ b := by
      rcases List.mem_cons.mp hb with rfl | hb
      · exact Nat.le_add_right _ _
      · exact Nat.le_of_eq (List.mem_singleton.mp hb).symm
    exact I1.fpOk hle (I1.hok.fresh hle)) hs rfl))⟩
theorem itok_enumB {H : Hp} {p : Addr} {bb : Bool} {x : D} {ds : List D} (k1 : ∀ (M' : MH) (H' : Hp), Tps H H' → Abs K M' H' → Seq3 M' ds x → ∃ vs, SqB K bb H' p vs ∧ Rvs K H' ds vs) : ItOk K H (enumD 0 ds) (fun M' => Seq3 M' ds x) (IteB K bb p) where
  step := fun i d H' M' hd t a g1 => by
    obtain ⟨x, hx, rfl⟩ := enumD_get hd
    obtain ⟨vs, s1, r1⟩ := k1 M' H' t a g1
    obtain ⟨v, hv', r⟩ := r1.get hx
    refine ⟨⟨vs, v, s1, hv'⟩, ?_⟩
    rintro y H2 ⟨T, z, ob, rfl, nT, dT, rfl, hz⟩
    have e := hz vs s1
    rw [hv'] at e
    cases e
    rw [Nat.zero_add]
    exact ⟨Tps.new nT, a.tupN nT, Rv.tup (SqD.of dT) (Rvs.cons Rv.int (Rvs.cons (r.mono (Tps.new nT)) Rvs.nil))⟩
  stop := fun H' M' t a g1 => by
    obtain ⟨vs, s1, r1⟩ := k1 M' H' t a g1
    exact ⟨vs, s1, by rw [enumD_length]; exact r1.length.symm⟩
def i3EnumX (u : A3) : I3 := fun W env M Q => u W env M fun ds M1 => match ds with
  | [x] => ∃ xs, Seq3 M1 xs x ∧ Q (enumD 0 xs) (fun M' => Seq3 M' xs x) M1
  | _ => False
theorem di_enumX {elts : List Expr} {kk : Nat} {tpos : Pos} (hm : X.mg "enumerate" = none) (ha : DA X [e] u) (hg : Gl X "enumerate" := by rfl) (hs : starEach [e] X.env = [(false, eval e X.env)] := by rfl) : DI X (.Tuple elts kk tpos) (.Call (.Name "enumerate" p) [e] [] pos) (i3EnumX u) := fun W2 tk =>
  (pi_enumB hg hm (ha W2 tk) hs).imp fun σ H R ⟨env, M, W, Q, s, a, l, q, k⟩ => ⟨env, M, W, _, s, a, l, q, fun ds vs H1 M1 t1 a1 r1 q1 => by
    split at q1
    · obtain ⟨v, rfl, rr⟩ := one_inv r1
      obtain ⟨xs, g1, q1⟩ := q1
      obtain ⟨b1, p1, rfl, ⟨vs1, s1, _⟩, k1⟩ := seqB_rd rr a1 g1
      exact ⟨b1, p1, vs1, rfl, s1, k _ _ _ H1 M1 t1 a1 q1 (itok_enumB k1)⟩
    · exact q1.elim⟩
end
end L3

namespace L3
open PySem PySem.Spec PyProof.Rows L2
/-! ### max(a list or a tuple of ints) -/
section
variable {prog : Program} {w : World} {A : Around} {E : Value → Shared → Prop} {s : Shared} {t : Addr} {its : List Value} {ns : List Int} {Q : Value → Shared → Prop}
theorem max_rawT (hh : A.handled = none) (hl : s.heap.IsTuple t its.toArray) (hi : IntsAre its ns) (hne : 0 < ns.length)
    (h : ∀ h' tk M t', (∀ b o, s.heap.get? b = some o → h'.get? b = some o) → M ∈ ns → (∀ a, a ∈ ns → a ≤ M) → Q (.int M t') { s with heap := h', toks := tk }) : wpAny (model prog w) A (call (.builtin "max") [.ref t]) Q E s := by
  obtain ⟨xs, e⟩ := hi.allInts.items
  have hn : numsOf (intItems xs).toList = ns := by rw [← e]; exact hi.numsOf
  rw [nums_intItems] at hn
  subst hn
  rw [e] at hl
  have hsz : 0 < xs.size := by simpa using hne
  have hlt : t < s.heap.objs.size := by obtain ⟨_, e, _⟩ := hl; exact Heap.lt_size e
  refine call_max_walk (wpAny_pyIter_tuple hl ?_)
  refine ⟨_, [s.heap.objs.size, t], [s.heap.objs.size], _, _, _, _, rfl, Walks.tuple (A := A.in1) hh s.heap.objs.size t (Nat.ne_of_lt hlt) (intItems xs), ⟨⟨_, Heap.get?_push_size _ rfl, rfl, rfl⟩, hl.push _⟩, fun c hc => ?_, by simpa [intItems] using hsz, CmpOf.ints_gt (numAt xs) (fun _ _ => intItems_at), fun v h' tk hP hk => ?_⟩
  · show c < (s.heap.push _).objs.size
    rw [Heap.size_push]
    rcases List.mem_cons.mp hc with rfl | hc
    · exact Nat.lt_succ_self _
    · rcases List.mem_cons.mp hc with rfl | hc
      · exact Nat.lt_succ_of_lt hlt
      · cases hc
  · have hold : ∀ b o, s.heap.get? b = some o → h'.get? b = some o := fun b o e => hk b o (fun hm => by
      rcases List.mem_cons.mp hm with e1 | hm
      · exact absurd (e1 ▸ Heap.lt_size e) (Nat.lt_irrefl _)
      · cases hm) (Heap.get?_push_of_some _ e)
    have hv : (intItems xs)[argBest (fun i j => decide (numAt xs i > numAt xs j)) (xs.size - 1)]? = some v := by simpa [intItems] using hP
    obtain ⟨t', rfl⟩ := intItems_at hv
    obtain ⟨h1, h2⟩ := argBest_gt (numAt xs) (xs.size - 1)
    refine h h' tk _ t' hold ?_ fun a ha => ?_
    · rw [numAt_eq]; exact PySem.getD_mem (by rw [List.length_map, Array.length_toList]; omega)
    · obtain ⟨j, hj, rfl⟩ := mem_getD ha
      rw [List.length_map, Array.length_toList] at hj
      rw [← numAt_eq]; exact h2 j (by omega)
end
section
variable {X : Cx} {e o : Expr} {es : List Expr} {u : A3} {to : E3} {p pos : Pos} {K : Fg}
def rMaxT (K : Fg) : List V → Hp → VK → Prop := fun vs H Q => ∃ (a : Addr) (ns : List Int), vs = [V.ref a] ∧ SqT K H a (ns.map V.int) ∧ 0 < ns.length ∧ ∀ m, m ∈ ns → (∀ y, y ∈ ns → y ≤ m) → Q (.int m) H
theorem cr_maxT (hc : X.calm = true) : CallR X (.builtin "max") (rMaxT X.K) := by
  rintro pins s σ H vs us Q I r ⟨a, ns, rfl, hs, hne, q⟩
  obtain ⟨its, rv, ht, hz⟩ := I.tuple hs
  rw [Vals.ref1 r]
  exact max_rawT (I.ok.hd hc) ht rv.ints hne fun h' tk m t' hk h1 h2 => ⟨.int _, H, I.kept hk, ⟨_, rfl⟩, q m h1 h2⟩
def c3MaxL : List D → MH → Q3 → Prop
  | [.ref l], M, Q => ∃ ns : List Int, LstM M l (ns.map D.int) ∧ 0 < ns.length ∧ ∀ m, m ∈ ns → (∀ y, y ∈ ns → y ≤ m) → Q (.int m) M
  | [.tup ds], M, Q => ∃ ns : List Int, ds = ns.map D.int ∧ 0 < ns.length ∧ ∀ m, m ∈ ns → (∀ y, y ∈ ns → y ≤ m) → Q (.int m) M
  | _, _, _ => False
theorem cl_maxL : CallL K (fun vs H Q => rMax K vs H Q ∨ rMaxT K vs H Q) c3MaxL := by
  intro ds vs H M Q Q2 r a q g
  unfold c3MaxL at q
  split at q
  · obtain ⟨v, rfl, rr⟩ := one_inv r
    cases rr.ref_inv
    obtain ⟨ns, hl, hz, q⟩ := q
    obtain ⟨ws, hs, hw⟩ := a.rd hl
    rw [Rvs.intsV hw] at hs
    exact .inl ⟨_, ns, rfl, hs, hz, fun m h1 h2 => g _ _ _ _ (Tps.refl H) a Rv.int (q m h1 h2)⟩
  · obtain ⟨ns, rfl, hz, q⟩ := q
    obtain ⟨v, rfl, rr⟩ := one_inv r
    obtain ⟨p, ws, rfl, hs, hv⟩ := rr.tup_inv
    rw [hv.intsV] at hs
    exact .inr ⟨p, ns, rfl, hs, hz, fun m h1 h2 => g _ _ _ _ (Tps.refl H) a Rv.int (q m h1 h2)⟩
  · exact q.elim
theorem d_maxL (hc : X.calm = true) (hm : X.mg "max" = none) (ha : DA X [e] u) (hg : Gl X "max" := by rfl) (he : starEach (e :: []) X.env = (false, eval e X.env) :: starEach [] X.env := by rfl) (hpl : (backTo pos (starEach [] X.env)).any (·.1) = false := by rfl) : DE X (.Call (.Name "max" p) [e] [] pos) (e3CB c3MaxL u) :=
  d_cb (r := fun vs H Q => rMax X.K vs H Q ∨ rMaxT X.K vs H Q) (fun pins s σ H xs us Q I r q => q.elim (cr_max hc pins s σ H xs us Q I r) (cr_maxT hc pins s σ H xs us Q I r)) cl_maxL hg hm boot_max' ha (by decide) (by decide) he hpl
/-! ### l.index(x), any data -/
def m3LixX (l : Addr) : List D → MH → Q3 → Prop
  | [y], M, Q => ∃ (ds : List D) (ps : List PyData) (q : PyData) (j : Nat) (z : PyData), LstM M l ds ∧ Pys M ds ps ∧ Py M y q ∧ SeqAt.shaped (.list ps) = true ∧ SeqAt.shaped q = true ∧ ps[j]? = some z ∧ PyData.eqv z q = true ∧ (∀ (m : Nat) (z' : PyData), m < j → ps[m]? = some z' → PyData.eqv z' q = false) ∧ Q (.int (j : Nat)) M
  | _, _, _ => False
theorem ml_lixX : MtL K (rIndexD K) m3LixX := by
  intro l xs vs H M Q Q2 r a q g
  unfold m3LixX at q
  split at q
  · obtain ⟨ds, ps, qd, j, z, hl, hp, hy, s1, s2, h1, h2, h3, q⟩ := q
    obtain ⟨v, rfl, rr⟩ := one_inv r
    exact ⟨l, v, qd, ps, j, z, rfl, rfl, Py.dp a _ _ _ (.ref hl hp) Rv.ref, Py.dp a _ _ _ hy rr, s1, s2, h1, h2, h3, g _ _ H M (Tps.refl H) a Rv.int q⟩
  · exact q.elim
theorem d_lixX {n : Nat} (hr : Room n X.A) {apos cpos : Pos} (ho : DE X o to) (ha : DA X [e] u) (hbase : attributeBase o "index" X.env (eval o X.env) = eval o X.env := by rfl)
    (hfew : ((backTo cpos (starEach (e :: []) X.env)).all (fun x => !x.1) && (backToKw cpos (keywordEach [] X.env)).all (fun x => x.1.isSome)
      && decide ((e :: []).length + ([] : List Keyword).length + (if ([] : List Keyword).isEmpty then 0 else 1) < 30)) = true := by rfl)
    (hline : (apos.endLine == cpos.line) = true := by rfl) (hs : starEach (e :: []) X.env = (false, eval e X.env) :: starEach [] X.env := by rfl) (hplain : (backTo cpos (starEach [] X.env)).any (·.1) = false := by rfl) :
    DE X (.Call (.Attribute o "index" apos) [e] [] cpos) (e3Bm m3LixX to u) := d_bm PySem.F.slot_list_index PySem.F.type_list_index (mt_indexD (Room.u65 hr)) ml_lixX ho ha hbase hfew hline hs hplain
end
end L3

namespace L3
open PySem PySem.Spec PyProof.Rows L2
/-! ### {k: v for x in .. for y in ..}, keys ints or texts -/
section
variable {prg : Program} {wd : World} {Ar : Around} {Pst : Result → Shared → Prop} {s : Shared} {kx vx ta ia tb ib : Expr} {ca cb : List Expr} {sco : Scope} {ps : Pos} {src : Value} {Dd : Addr} {en : Env}
abbrev twoD (kx vx ta ia tb ib : Expr) (ca cb : List Expr) (sco : Scope) (ps : Pos) : Expr := .DictComp kx vx [⟨ta, ia, ca, 0⟩, ⟨tb, ib, cb, 0⟩] sco ps
theorem turnD_a : compTurn (twoD kx vx ta ia tb ib ca cb sco ps) 0 src (.ref Dd) en = (do
      standAt ia.pos
      match ← pyNext src with
      | none => pure (.done .next)
      | some item =>
        letOwnedTupleGo ta src item
        assign ta en item
        let mut fit := true
        for one in ca do
          if fit then fit ← isTrue one en (eval one en)
        if fit then
          let inner ← eval ib en
          standAt ib.pos
          let inner ← foldedSetIterable ib en inner
          let _ ← runOwn (.compStart (twoD kx vx ta ia tb ib ca cb sco ps) 1 (← holding [inner] (pyIter inner)) (.ref Dd) en) en
        again (.compLoop (twoD kx vx ta ia tb ib ca cb sco ps) 0 src (.ref Dd) en)) := by rfl
theorem turnD_b : compTurn (twoD kx vx ta ia tb ib ca cb sco ps) 1 src (.ref Dd) en = (do
      standAt ib.pos
      match ← pyNext src with
      | none => pure (.done .next)
      | some item =>
        letOwnedTupleGo tb src item
        assign tb en item
        let mut fit := true
        for one in cb do
          if fit then fit ← isTrue one en (eval one en)
        if fit then
          (do
            let key ← eval kx en
            let val ← holding [key] (eval vx en)
            standAt { kx.pos with endLine := vx.pos.endLine, endCol := vx.pos.endCol }
            holding [key, val] (dictSet Dd key val))
        again (.compLoop (twoD kx vx ta ia tb ib ca cb sco ps) 1 src (.ref Dd) en)) := by rfl
/-- what an error does here -/
abbrev Err (prg : Program) (wd : World) (Ar : Around) (Pst : Result → Shared → Prop) (en : Env) : Value → Shared → Prop := notedBy (model prg wd) Ar en fun e t => Pst (.error e) t
theorem loopD_a (plain : ∀ x, foldedSetIterable ib en x = pure x) (J : Nat → Shared → Prop)
    (turn : ∀ n s, J n s → wpAny (model prg wd) Ar (pyNext src) (fun r t1 => match r with
      | none => Pst (.ok .next) t1
      | some item => wpAny (model prg wd) Ar (letOwnedTupleGo ta src item) (fun _ t2 => wpAny (model prg wd) Ar (assign ta en item) (fun _ t3 =>
          wpAny (model prg wd) Ar (forIn ca true fun c r => if r = true then do let fit ← isTrue c en (eval c en); pure (ForInStep.yield fit) else pure (ForInStep.yield r)) (fun fit t4 =>
            if fit = true then wpAny (model prg wd) Ar (eval ib en) (fun x t5 => wpAny (model prg wd) Ar (pyIter x) (fun in1 t6 =>
              codeAny (model prg wd) Ar (.compStart (twoD kx vx ta ia tb ib ca cb sco ps) 1 in1 (.ref Dd) en) (fun r t => match r with
                | .ok _ => ∃ m, m < n ∧ J m t
                | .error _ => False) t6) (Err prg wd Ar Pst en) t5) (Err prg wd Ar Pst en) t4
            else ∃ m, m < n ∧ J m t4) (Err prg wd Ar Pst en) t3) (Err prg wd Ar Pst en) t2) (Err prg wd Ar Pst en) t1) (Err prg wd Ar Pst en) s)
    (n : Nat) (start : J n s) : codeAny (model prg wd) Ar (.compLoop (twoD kx vx ta ia tb ib ca cb sco ps) 0 src (.ref Dd) en) Pst s := by
  refine codeAny_loop rfl J (fun n s hJ => ?_) n start
  show wpAny _ Ar ((compTurn (twoD kx vx ta ia tb ib ca cb sco ps) 0 src (.ref Dd) en).onRaise (fun x => do noteFrame x en; theTreesLotGoes x)) _ _ s
  refine wpAny_noted ?_
  rw [turnD_a]
  refine wpAny_bind (wpAny_standAt (wpAny_bind (wpAny_mono (turn n s hJ) (fun r t1 k1 => ?_) fun _ _ z => z)))
  match r, k1 with
  | none, k1 => exact wpAny_pure k1
  | some item, k1 =>
    refine wpAny_bind (wpAny_mono k1 (fun _ t2 k2 => wpAny_bind (wpAny_mono k2 (fun _ t3 k3 => wpAny_bind (wpAny_mono k3 (fun fit t4 k4 => ?_) fun _ _ z => z)) fun _ _ z => z)) fun _ _ z => z)
    match fit, k4 with
    | false, k4 => exact wpAny_pure ⟨rfl, k4⟩
    | true, k4 =>
      refine wpAny_bind (wpAny_mono k4 (fun x t5 k5 => wpAny_bind (wpAny_standAt (wpAny_bind (wpAny_of_eq (plain x) (wpAny_bind (wpAny_holding (wpAny_mono k5 (fun in1 t6 k6 => wpAny_bind (wpAny_runOwn ?_)) fun _ _ z => z))))))) fun _ _ z => z)
      rw [Around.mark_none]
      refine codeAny_mono k6 fun r t kr => ?_
      match r, kr with
      | .ok _, kr => first | exact wpAny_pure ⟨rfl, kr⟩ | exact wpAny_bind (wpAny_pure (wpAny_pure ⟨rfl, kr⟩))
      | .error _, kr => exact kr.elim
theorem loopD_b (J : Nat → Shared → Prop)
    (turn : ∀ n s, J n s → wpAny (model prg wd) Ar (pyNext src) (fun r t1 => match r with
      | none => Pst (.ok .next) t1
      | some item => wpAny (model prg wd) Ar (letOwnedTupleGo tb src item) (fun _ t2 => wpAny (model prg wd) Ar (assign tb en item) (fun _ t3 =>
          wpAny (model prg wd) Ar (forIn cb true fun c r => if r = true then do let fit ← isTrue c en (eval c en); pure (ForInStep.yield fit) else pure (ForInStep.yield r)) (fun fit t4 =>
            if fit = true then wpAny (model prg wd) Ar (eval kx en) (fun key t5 => wpAny (model prg wd) Ar (eval vx en) (fun val t6 =>
              wpAny (model prg wd) Ar (dictSet Dd key val) (fun _ t7 => ∃ m, m < n ∧ J m t7) (Err prg wd Ar Pst en) t6) (Err prg wd Ar Pst en) t5) (Err prg wd Ar Pst en) t4
            else ∃ m, m < n ∧ J m t4) (Err prg wd Ar Pst en) t3) (Err prg wd Ar Pst en) t2) (Err prg wd Ar Pst en) t1) (Err prg wd Ar Pst en) s)
    (n : Nat) (start : J n s) : codeAny (model prg wd) Ar (.compLoop (twoD kx vx ta ia tb ib ca cb sco ps) 1 src (.ref Dd) en) Pst s := by
  refine codeAny_loop rfl J (fun n s hJ => ?_) n start
  show wpAny _ Ar ((compTurn (twoD kx vx ta ia tb ib ca cb sco ps) 1 src (.ref Dd) en).onRaise (fun x => do noteFrame x en; theTreesLotGoes x)) _ _ s
  refine wpAny_noted ?_
  rw [turnD_b]
  refine wpAny_bind (wpAny_standAt (wpAny_bind (wpAny_mono (turn n s hJ) (fun r t1 k1 => ?_) fun _ _ z => z)))
  match r, k1 with
  | none, k1 => exact wpAny_pure k1
  | some item, k1 =>
    refine wpAny_bind (wpAny_mono k1 (fun _ t2 k2 => wpAny_bind (wpAny_mono k2 (fun _ t3 k3 => wpAny_bind (wpAny_mono k3 (fun fit t4 k4 => ?_) fun _ _ z => z)) fun _ _ z => z)) fun _ _ z => z)
    match fit, k4 with
    | false, k4 => exact wpAny_pure ⟨rfl, k4⟩
    | true, k4 =>
      refine wpAny_bind (wpAny_bind (wpAny_mono k4 (fun key t5 k5 => wpAny_bind (wpAny_holding (wpAny_mono k5 (fun val t6 k6 => ?_) fun _ _ z => z))) fun _ _ z => z))
      exact wpAny_bind (wpAny_standAt (wpAny_holding (wpAny_mono k6 (fun _ t7 k7 => wpAny_pure ⟨rfl, k7⟩) fun _ _ z => z)))
theorem startD_b (self : codeAny (model prg wd) Ar (.compLoop (twoD kx vx ta ia tb ib ca cb sco ps) 1 src (.ref Dd) en) Pst s)
    (more : wpAny (model prg wd) Ar (pyIter src) (fun in1 t => codeAny (model prg wd) Ar (.compLoop (twoD kx vx ta ia tb ib ca cb sco ps) 1 in1 (.ref Dd) en) Pst t) (Err prg wd Ar Pst en) s) :
    codeAny (model prg wd) Ar (.compStart (twoD kx vx ta ia tb ib ca cb sco ps) 1 src (.ref Dd) en) Pst s := by
  refine codeAny_of_tree ?_
  show wpAny _ _ ((compStart (twoD kx vx ta ia tb ib ca cb sco ps) 1 src (.ref Dd) en).onRaise (fun x => do noteFrame x en; standAt theWindowsPlace)) _ _ s
  refine wpAny_notedAt ?_
  unfold compStart
  show wpAny _ _ (ask >>= _) _ _ s
  refine wpAny_bind (wpAny_askSetting (wpAny_ite ?_))
  split
  · first | exact wpAny_bind (wpAny_pure (wpAny_pure (And.intro rfl self))) | exact wpAny_pure (And.intro rfl self)
  · refine wpAny_bind (wpAny_rule ?_)
    first
      | exact wpAny_bind (wpAny_standAt (wpAny_bind (wpAny_mono more (fun in1 t k => wpAny_pure (And.intro rfl k)) fun _ _ z => z)))
      | (show wpAny _ _ (standAt ib.pos >>= _) _ _ s; exact wpAny_bind (wpAny_standAt (wpAny_bind (wpAny_mono more (fun in1 t k => wpAny_pure (And.intro rfl k)) fun _ _ z => z))))
end
/-- the turns of such a block: the dict at D as o tells, p one more pair -/
def tDcW (o : Addr → HO) (p : Addr → V → V → Hp → (Hp → Prop) → Prop) (wi : TI) (g : TG) (tt : TT) (wj : TI) (gj : TG) (uu : TT) (tk tv : TE) (vs vj : List Nat) : TE := fun σ H Q =>
  wi σ H fun J Ha => ∀ D, Ha D = none → ∃ Z : Nat → Nat → Hp → Prop, (∃ m, Z 0 m (upd Ha D (o D))) ∧ ∀ i m Hb, Z i m Hb →
    (J.stop i Hb ∧ Q (.ref D) Hb) ∨ (J.go i Hb ∧ ∃ Y : Hp → Prop, (∀ Hc, Y Hc → ∃ m', m' < m ∧ Z (i + 1) m' Hc) ∧
      ∀ x Hc, J.yld i Hb x Hc → g x (L2.wipe σ vs) Hc fun σd Hd => L2.wipe σd vs = L2.wipe σ vs ∧ tt σd Hd fun b He => if b = true then
        wj σd He fun L Hf => ∃ T : Nat → Nat → Hp → Prop, (∃ m, T 0 m Hf) ∧ ∀ j n Hg, T j n Hg →
          (L.stop j Hg ∧ Y Hg) ∨ (L.go j Hg ∧ ∃ U : Hp → Prop, (∀ Hh, U Hh → ∃ n', n' < n ∧ T (j + 1) n' Hh) ∧
            ∀ x1 Hh, L.yld j Hg x1 Hh → gj x1 (L2.wipe σd vj) Hh fun σe Hi => L2.wipe σe vj = L2.wipe σd vj ∧ uu σe Hi fun b1 Hj => if b1 = true then tk σe Hj fun y Hk => tv σe Hk fun z Hl => p D y z Hl U else U Hj)
      else Y He)
section
variable {X : Cx}
theorem pe_dcW {kx vx ta ia tb ib : Expr} {ca cb : List Expr} {scope : Scope} {own : List (Str × Nat)} {vj : List Nat} {pos : Pos} {wi wj : TI} {g gj : TG} {tt uu : TT} {tk tv : TE} {o : Addr → HO} {p : Addr → V → V → Hp → (Hp → Prop) → Prop}
    (calm : X.calm = true) (nd : X.N.Nodup)
    (onew : ∀ (H : Hp) (h : Heap), sysModules < h.objs.size → ObjOk X.prog X.w H (h.push { cls := .type "dict", data := .dict #[] }) h.objs.size (o h.objs.size))
    (oput : ∀ (s0 : Shared) (H0 : Hp) (ce : Env) (fp : List Addr) (pn : List (Addr × Obj)) (σ : L2.St) (H : Hp) (s : Shared) (D : Addr) (y z : V) (u r : Value) (Y : Hp → Prop) (Ex : Value → Shared → Prop), Inv (X.blk s0 H0 scope ce fp) pn σ H s → RelV y u → RelV z r → p D y z H Y →
      wpAny (model X.prog X.w) X.A (dictSet D u r) (fun _ s' => ∃ H', Inv (X.blk s0 H0 scope ce fp) pn σ H' s' ∧ Y H') Ex s)
    (di : PI X ta ia wi) (bok : BlkOk X.N X.env.scope scope own) (inn : ∀ i ∈ vj, i ∈ own.map (·.2))
    (dg : Blk X scope fun s H C cl fp => PG (X.blk s H scope (compEnvC scope cl C X.env) fp) ta g) (dt : Blk X scope fun s H C cl fp => PTs (X.blk s H scope (compEnvC scope cl C X.env) fp) ca tt)
    (dj : Blk X scope fun s H C cl fp => PI (X.blk s H scope (compEnvC scope cl C X.env) fp) tb ib wj)
    (dh : Blk X scope fun s H C cl fp => PG (X.blk s H scope (compEnvC scope cl C X.env) fp) tb gj) (du : Blk X scope fun s H C cl fp => PTs (X.blk s H scope (compEnvC scope cl C X.env) fp) cb uu)
    (dk : Blk X scope fun s H C cl fp => PE (X.blk s H scope (compEnvC scope cl C X.env) fp) kx tk) (dv : Blk X scope fun s H C cl fp => PE (X.blk s H scope (compEnvC scope cl C X.env) fp) vx tv)
    (unset : ∀ x, foldedSetIterable ia X.env x = pure x := by intro _; rfl) (unset1 : ∀ en x, foldedSetIterable ib en x = pure x := by intro _ _; rfl) : PE X (twoD kx vx ta ia tb ib ca cb scope pos) (tDcW o p wi g tt wj gj uu tk tv (own.map (·.2)) vj) := by
  refine ⟨fun pn s σ H Q inv0 want => ?_⟩
  rw [arm_eval_DictComp]
  have free : ∀ y ∈ scope.names, y.2 = .free → ∃ c, X.env.cells.lookup y.1 = some c := fun y hy e => (bok.free y hy e).elim (fun k => inv0.ok.has _ (.inl k)) fun k => inv0.ok.has _ (.inr k)
  refine wpAny_comprehension_free (use := none) rfl unset (closure_ok free) bok.kind (fun y hy e => by rw [bok.uniq y hy, e]) (thn (di.run pn s σ H _ inv0 want) fun _ sa ha => thn ha fun _ sb hb => ?_)
  obtain ⟨it, fp, tn, J, Hb, rfl, invb, turn, tn0, away, rest⟩ := hb
  refine wpAny_newObj_type (newEnv_comp ?_)
  generalize eD : sb.heap.objs.size = D
  have freeD : Hb D = none := invb.hok.fresh (Nat.le_of_eq eD)
  obtain ⟨Z, ⟨m0, z0⟩, step⟩ := rest D freeD
  generalize ec : ({ sb with heap := sb.heap.push { cls := .type "dict", data := .dict #[] } } : Shared) = sc
  have hc : sc.heap = sb.heap.push { cls := .type "dict", data := .dict #[] } := by rw [← ec]
  have invc : Inv X pn σ (upd Hb D (o D)) sc := by
    rw [← ec]
    refine invb.laid (t' := sb.toks) (fun b ob e => Heap.get?_push_of_some _ e) (Nat.le_of_eq eD) ?_
    have := onew (upd Hb sb.heap.objs.size (o sb.heap.objs.size)) sb.heap invb.big
    rw [eD] at this
    exact this
  have awayc : ∀ b ∈ fp, FpOk X pn (upd Hb D (o D)) b ∧ b < sc.heap.objs.size := fun b hb => by
    obtain ⟨ob, e, _⟩ := turn.obj _ _ tn0 b hb
    have lt := Heap.lt_size e
    refine ⟨⟨(upd_ne (by rw [← eD]; exact Nat.ne_of_lt lt)).trans (away b hb).1, (away b hb).2⟩, ?_⟩
    rw [hc, Heap.size_push]
    exact Nat.lt_succ_of_lt lt
  have tnc : tn 0 sc.heap := turn.keep _ _ _ tn0 fun b _ ob e => by rw [hc]; exact Heap.get?_push_of_some _ e
  have invd := block_start invc bok nd awayc
  have pg : PG (X.blk sc (upd Hb D (o D)) scope (compEnvC scope (cellsFrom (sc.heap.objs.size + 1) scope.names (cloFrom X.env.cells scope.names [])) sc.heap.objs.size X.env) fp) ta g := dg _ _ _ _ _
  have pt : PTs (X.blk sc (upd Hb D (o D)) scope (compEnvC scope (cellsFrom (sc.heap.objs.size + 1) scope.names (cloFrom X.env.cells scope.names [])) sc.heap.objs.size X.env) fp) ca tt := dt _ _ _ _ _
  have pj : PI (X.blk sc (upd Hb D (o D)) scope (compEnvC scope (cellsFrom (sc.heap.objs.size + 1) scope.names (cloFrom X.env.cells scope.names [])) sc.heap.objs.size X.env) fp) tb ib wj := dj _ _ _ _ _
  have ph : PG (X.blk sc (upd Hb D (o D)) scope (compEnvC scope (cellsFrom (sc.heap.objs.size + 1) scope.names (cloFrom X.env.cells scope.names [])) sc.heap.objs.size X.env) fp) tb gj := dh _ _ _ _ _
  have pu : PTs (X.blk sc (upd Hb D (o D)) scope (compEnvC scope (cellsFrom (sc.heap.objs.size + 1) scope.names (cloFrom X.env.cells scope.names [])) sc.heap.objs.size X.env) fp) cb uu := du _ _ _ _ _
  have pk : PE (X.blk sc (upd Hb D (o D)) scope (compEnvC scope (cellsFrom (sc.heap.objs.size + 1) scope.names (cloFrom X.env.cells scope.names [])) sc.heap.objs.size X.env) fp) kx tk := dk _ _ _ _ _
  have pv : PE (X.blk sc (upd Hb D (o D)) scope (compEnvC scope (cellsFrom (sc.heap.objs.size + 1) scope.names (cloFrom X.env.cells scope.names [])) sc.heap.objs.size X.env) fp) vx tv := dv _ _ _ _ _
  have bare : ∀ b ∈ fp, (upd Hb D (o D)) b = none := fun b hb => (awayc b hb).1.1
  show codeAny (model X.prog X.w) X.A (.compStart (twoD kx vx ta ia tb ib ca cb scope pos) 0 (.ref it) (.ref D) (compEnvC scope (cellsFrom (sc.heap.objs.size + 1) scope.names (cloFrom X.env.cells scope.names [])) sc.heap.objs.size X.env))
    (compPost (model X.prog X.w) X.A X.xe none (EP X pn σ Q) (.ref D) sc.heap.objs.size) { sc with heap := pushCells (sc.heap.push { cls := .type "dict", data := .dict #[] }) scope.names }
  generalize ece : compEnvC scope (cellsFrom (sc.heap.objs.size + 1) scope.names (cloFrom X.env.cells scope.names [])) sc.heap.objs.size X.env = ce at invd pg pt pj ph pu pk pv ⊢
  have loc : ce.locals = sc.heap.objs.size := by subst ece; rfl
  generalize upd Hb D (o D) = Hc at invc invd pg pt pj ph pu pk pv z0 bare awayc
  generalize ed : ({ sc with heap := pushCells (sc.heap.push { cls := .type "dict", data := .dict #[] }) scope.names } : Shared) = sd at invd ⊢
  have tnd : tn 0 sd.heap := turn.keep _ _ _ tnc fun b _ ob e => by rw [← ed]; exact pushCells_keeps _ _ _ _ (Heap.get?_push_of_some _ e)
  have outs : ∀ {σ' : L2.St} {H' : Hp} {s' : Shared}, Inv (X.blk sc Hc scope ce fp) [] σ' H' s' → (∀ b ∈ fp, H' b = none) → ∀ b ∈ fp, FpOk (X.blk sc Hc scope ce fp) [] H' b := fun {σ' H' s'} inv' hn b hb =>
    ⟨hn b hb, (inv'.ok.exf b hb).1, inv'.ok.exfs b hb, .inl hb, fun x c e => (inv'.ok.exf b hb).2 x c e, fun q hq => absurd (show q ∈ ([] : List (Addr × Obj)) ++ [] from hq) (by simp)⟩
  have loop : codeAny (model X.prog X.w) X.A (.compLoop (twoD kx vx ta ia tb ib ca cb scope pos) 0 (.ref it) (.ref D) ce) (compPost (model X.prog X.w) X.A X.xe none (EP X pn σ Q) (.ref D) sc.heap.objs.size) sd := by
    refine loopD_a (unset1 ce) (fun n t => ∃ i Hx, Inv (X.blk sc Hc scope ce fp) [] (L2.wipe σ (own.map (·.2))) Hx t ∧ tn i t.heap ∧ (∀ b ∈ fp, Hx b = none) ∧ Z i n Hx) ?_ m0 ⟨0, Hc, invd, tnd, bare, z0⟩
    rintro n t5 ⟨i, H5, inv5, tn5, bare5, z5⟩
    rcases step i n H5 z5 with ⟨stop, fin⟩ | ⟨go, Y, hY, one⟩
    · refine thnF (turn.done (X.blk sc Hc scope ce fp) rfl rfl rfl calm i [] t5 _ H5 (fun _ _ => False) inv5 (outs inv5 bare5) tn5 stop) fun r t6 ⟨er, inv6⟩ => ?_
      subst er
      have inv7 : Inv X pn σ H5 t6 := invc.call' (ch := fp) inv6.os inv6.base inv6.hok inv6.bare fun b hb => ⟨(awayc b hb).1.2.2.2.1, (awayc b hb).1.2.1, (awayc b hb).1.2.2.2.2.1, (awayc b hb).1.2.2.2.2.2⟩
      have nC : H5 sc.heap.objs.size = none := by have := inv6.free; rw [show (X.blk sc Hc scope ce fp).env.locals = sc.heap.objs.size from loc] at this; exact this
      obtain ⟨mm, hn, _⟩ := inv6.loc
      rw [show (X.blk sc Hc scope ce fp).env.locals = sc.heap.objs.size from loc] at hn
      obtain ⟨q0, q1, q2, q3, q4, q5⟩ := invc.fpOk (Nat.le_refl _) nC
      exact ⟨mm, hn, fun h2 sb2 => ⟨.ref D, H5, inv7.turned (t' := t6.toks) (fun b ob hb e => (sb2.2 b hb).trans e) q0 q1 q3 q4 q5, rfl, fin⟩⟩
    · refine thnF (turn.item (X.blk sc Hc scope ce fp) rfl rfl rfl calm i [] t5 _ H5 (fun _ _ => False) inv5 (outs inv5 bare5) tn5 go) fun r t6 ⟨u, er, h6⟩ => ?_
      subst er
      refine thnF h6 fun _ t7 ⟨x, H7, inv7, rx, yl, tn7, bare7⟩ => ?_
      refine thnF (pg.run _ t7 _ H7 x u _ (inv7.pinned (outs inv7 bare7) (turn.obj _ _ tn7)) rx (one x H7 yl)) fun _ t8 ⟨σ8, H8, inv8, wiped, h8⟩ => ?_
      refine thnF (pt.run _ t8 σ8 H8 _ inv8 h8) fun b t9 ⟨H9, inv9, h9⟩ => ?_
      -- a turn's end, whatever the slots of this block hold
      have ends : ∀ {σ9 : L2.St} {s' : Shared} {H' : Hp}, Inv (X.blk sc Hc scope ce fp) ([] ++ pinsAt fp t7.heap) σ9 H' s' → σ9.length = (L2.wipe σ (own.map (·.2))).length → (∀ (j : Nat) v, (L2.wipe σ (own.map (·.2)))[j]? = some (some v) → σ9[j]? = some (some v)) → Y H' →
          ∃ m, m < n ∧ ∃ i Hx, Inv (X.blk sc Hc scope ce fp) [] (L2.wipe σ (own.map (·.2))) Hx s' ∧ tn i s'.heap ∧ (∀ b ∈ fp, Hx b = none) ∧ Z i m Hx := fun {σ9 s' H'} inv' len9 know9 y' => by
        obtain ⟨m', lt, z'⟩ := hY H' y'
        have kept : ∀ b ∈ fp, ∀ ob, t7.heap.get? b = some ob → s'.heap.get? b = some ob ∧ H' b = none := fun b hb ob e =>
          ⟨(inv'.pin (b, ob) (List.mem_append_right _ (List.mem_append_right _ (mem_pinsAt hb e)))).1, (inv'.pin (b, ob) (List.mem_append_right _ (List.mem_append_right _ (mem_pinsAt hb e)))).2.1⟩
        refine ⟨m', lt, i + 1, H', (inv'.unpinned (pins := [])).weak len9.symm know9, turn.keep _ _ _ tn7 fun b hb ob e => (kept b hb ob e).1, fun b hb => ?_, z'⟩
        obtain ⟨ob, e, _⟩ := turn.obj _ _ tn7 b hb
        exact (kept b hb ob e).2
      have len8 : σ8.length = (L2.wipe σ (own.map (·.2))).length := by rw [← wiped, wipe_length]
      have know8 : ∀ (j : Nat) v, (L2.wipe σ (own.map (·.2)))[j]? = some (some v) → σ8[j]? = some (some v) := fun j v e => by
        rw [← wiped] at e
        exact (wipe_some e).1
      have knowW : ∀ (j : Nat) v, (L2.wipe σ (own.map (·.2)))[j]? = some (some v) → (L2.wipe σ8 vj)[j]? = some (some v) := fun j v e => by
        rw [← wiped] at e
        have := wipe_some e
        rw [wipe_out fun z => this.2 (inn j z)]
        exact this.1
      match b, h9 with
      | false, h9 =>
        simp only [Bool.false_eq_true, if_false] at h9 ⊢
        exact ends inv9 len8 know8 h9
      | true, h9 =>
        simp only [if_true] at h9 ⊢
        refine thnF (pj.run _ t9 σ8 H9 _ inv9 h9) fun _ ta' k1 => thnF k1 fun _ tb' k2 => ?_
        obtain ⟨it1, fp1, tn1, L, Hq, rfl, invq, turn1, tnq, away1, T, ⟨n0, s0⟩, step1⟩ := k2
        have outs1 : ∀ {H' : Hp}, (∀ b ∈ fp1, H' b = none) → ∀ b ∈ fp1, FpOk (X.blk sc Hc scope ce fp) ([] ++ pinsAt fp t7.heap) H' b := fun hn b hb => ⟨hn b hb, (away1 b hb).2⟩
        have inner : codeAny (model X.prog X.w) X.A (.compLoop (twoD kx vx ta ia tb ib ca cb scope pos) 1 (.ref it1) (.ref D) ce)
            (fun r s' => match r with
              | .ok _ => ∃ m, m < n ∧ ∃ i Hx, Inv (X.blk sc Hc scope ce fp) [] (L2.wipe σ (own.map (·.2))) Hx s' ∧ tn i s'.heap ∧ (∀ b ∈ fp, Hx b = none) ∧ Z i m Hx
              | .error _ => False) tb' := by
          refine loopD_b (fun k t => ∃ j Hx, Inv (X.blk sc Hc scope ce fp) ([] ++ pinsAt fp t7.heap) (L2.wipe σ8 vj) Hx t ∧ tn1 j t.heap ∧ (∀ b ∈ fp1, Hx b = none) ∧ T j k Hx) ?_ n0 ⟨0, Hq, invq.weak (wipe_length _ _) (fun j v e => (wipe_some e).1), tnq, fun b hb => (away1 b hb).1, s0⟩
          rintro k tc ⟨j, Hr, invr, tnr, barer, sr⟩
          rcases step1 j k Hr sr with ⟨stop1, y1⟩ | ⟨go1, U, hU, one1⟩
          · refine thnF (turn1.done (X.blk sc Hc scope ce fp) rfl rfl rfl calm j _ tc (L2.wipe σ8 vj) Hr (fun _ _ => False) invr (outs1 barer) tnr stop1) fun r td ⟨er, invs⟩ => ?_
            subst er
            exact ends invs ((wipe_length σ8 vj).trans len8) knowW y1
          · refine thnF (turn1.item (X.blk sc Hc scope ce fp) rfl rfl rfl calm j _ tc (L2.wipe σ8 vj) Hr (fun _ _ => False) invr (outs1 barer) tnr go1) fun r td ⟨u1, er, hd⟩ => ?_
            subst er
            refine thnF hd fun _ te ⟨x1, Hs, invs, rs, ys, tns, bares⟩ => ?_
            refine thnF (ph.run _ te (L2.wipe σ8 vj) Hs x1 u1 _ (invs.pinned (outs1 bares) (turn1.obj _ _ tns)) rs (one1 x1 Hs ys)) fun _ tf ⟨σ9, Ht, invt, wiped1, ht⟩ => ?_
            refine thnF (pu.run _ tf σ9 Ht _ invt ht) fun b1 tg ⟨Hu, invu, hu⟩ => ?_
            have ends1 : ∀ {s' : Shared} {H' : Hp}, Inv (X.blk sc Hc scope ce fp) (([] ++ pinsAt fp t7.heap) ++ pinsAt fp1 te.heap) σ9 H' s' → U H' → ∃ m, m < k ∧ ∃ j Hx, Inv (X.blk sc Hc scope ce fp) ([] ++ pinsAt fp t7.heap) (L2.wipe σ8 vj) Hx s' ∧ tn1 j s'.heap ∧ (∀ b ∈ fp1, Hx b = none) ∧ T j m Hx := fun {s' H'} inv' y' => by
              obtain ⟨m', lt, z'⟩ := hU H' y'
              have kept : ∀ b ∈ fp1, ∀ ob, te.heap.get? b = some ob → s'.heap.get? b = some ob ∧ H' b = none := fun b hb ob e =>
                ⟨(inv'.pin (b, ob) (List.mem_append_right _ (List.mem_append_right _ (mem_pinsAt hb e)))).1, (inv'.pin (b, ob) (List.mem_append_right _ (List.mem_append_right _ (mem_pinsAt hb e)))).2.1⟩
              refine ⟨m', lt, j + 1, H', inv'.unpinned.weak (by rw [← wiped1, wipe_length]) (fun j v e => ?_), turn1.keep _ _ _ tns fun b hb ob e => (kept b hb ob e).1, fun b hb => ?_, z'⟩
              · rw [← wiped1] at e
                exact (wipe_some e).1
              · obtain ⟨ob, e, _⟩ := turn1.obj _ _ tns b hb
                exact (kept b hb ob e).2
            match b1, hu with
            | false, hu =>
              simp only [Bool.false_eq_true, if_false] at hu ⊢
              exact ends1 invu hu
            | true, hu =>
              simp only [if_true] at hu ⊢
              exact thnF (pk.run _ tg σ9 Hu _ invu hu) fun _ t10 ⟨_, H10, inv10, r10, h10⟩ => thnF (pv.run _ t10 σ9 H10 _ inv10 h10) fun _ t11 ⟨_, H11, inv11, r11, h11⟩ =>
                wpAny_mono (oput sc Hc ce fp _ σ9 H11 t11 D _ _ _ _ U _ inv11 r10 r11 h11) (fun _ t12 ⟨H12, inv12, h12⟩ => ends1 inv12 h12) fun _ _ z => z
        exact startD_b inner (turn1.self X.A 0 _ _ _ tnq inner)
  exact codeAny_compStart_dict loop (turn.self X.A 0 _ _ _ tnd loop)
end
end L3

namespace L3
open PySem PySem.Spec PyProof.Rows L2
def pDcK (p : Addr) (y z : V) (H : Hp) (Y : Hp → Prop) : Prop := ∃ kvs k, y = kV k ∧ H p = some (.dK kvs) ∧ kvs.length < sizeLine ∧ Y (upd H p (.dK (putK kvs k z)))
def LoopIK (ds : List D) (keep : MH → Prop) (j : Nat) (tt : T3) (tk tv : E3) (env : En) (p : Addr) (M : MH) (done : List (Key × D) → MH → Prop) : Prop := ∃ Iv : Nat → List (Key × D) → MH → Prop, (∃ acc, M p = some (.dK acc) ∧ Iv 0 acc M) ∧
  (∀ k d acc M', ds[k]? = some d → Iv k acc M' → M' p = some (.dK acc) → keep M' ∧ tt W0 (env.set j (some d)) M' fun b M3 => Br b
    (tk W0 (env.set j (some d)) M3 fun y M4 => tv W0 (env.set j (some d)) M4 fun z M5 => ∃ acc' key, y = kD key ∧ M5 p = some (.dK acc') ∧ acc'.length < sizeLine ∧ Iv (k + 1) (putD acc' key z) (updM M5 p (.dK (putD acc' key z))))
    (∃ acc', M3 p = some (.dK acc') ∧ Iv (k + 1) acc' M3)) ∧
  ∀ acc M', Iv ds.length acc M' → M' p = some (.dK acc) → keep M' ∧ done acc M'
def Loop2K (ds : List D) (keep : MH → Prop) (i : Nat) (tt : T3) (ti1 : I3) (j : Nat) (tt1 : T3) (tk tv : E3) (vs1 : List Nat) (env : En) (p : Addr) (M : MH) (Q : MH → Prop) : Prop := ∃ Iv : Nat → List (Key × D) → MH → Prop, Iv 0 [] (updM M p (.dK [])) ∧
  (∀ k d acc M', ds[k]? = some d → Iv k acc M' → M' p = some (.dK acc) → keep M' ∧ tt W0 (env.set i (some d)) M' fun b M3 => Br b
    (ti1 W0 (env.set i (some d)) M3 fun ds1 keep1 M4 => LoopIK ds1 keep1 j tt1 tk tv (wipe3 (env.set i (some d)) vs1) p M4 (Iv (k + 1)))
    (∃ acc', M3 p = some (.dK acc') ∧ Iv (k + 1) acc' M3)) ∧
  ∀ acc M', Iv ds.length acc M' → M' p = some (.dK acc) → keep M' ∧ Q M'
def e3DcK2 (ti : I3) (i : Nat) (tt : T3) (ti1 : I3) (j : Nat) (tt1 : T3) (tk tv : E3) (vs vs1 : List Nat) : E3 := fun W env M Q => ti W env M fun ds keep M1 => ∀ p, M1 p = none → Loop2K ds keep i tt ti1 j tt1 tk tv vs1 (wipe3 env vs) p M1 fun M' => Q (.ref p) M'
section
variable {X : Cx}
theorem dck2_low {ti ti1 : I3} {i j : Nat} {tt tt1 : T3} {tk tv : E3} {vs vs1 : List Nat} {W2 W2b : WX} (hv : i ∈ vs) (hv1 : j ∈ vs1) (hW : W2b = fun _ _ _ _ => False) {σ : L2.St} {H : Hp} {Q2 : VK} (h : lowE X.K W2 (e3DcK2 ti i tt ti1 j tt1 tk tv vs vs1) σ H Q2) :
    tDcW (fun _ => .dK []) pDcK (lowI X.K W2 ti) (gName i) (lowT X.K W2b tt) (lowI X.K W2b ti1) (gName j) (lowT X.K W2b tt1) (lowE X.K W2b tk) (lowE X.K W2b tv) vs vs1 σ H Q2 := by
  subst hW
  obtain ⟨env, M, W, Q, s, a, l, q, g⟩ := h
  refine ⟨env, M, W, _, s, a, l, q, fun ds keep J H1 M1 t1 a1 q1 ok Dd nD => ?_⟩
  obtain ⟨Iv, h0, hst, hd⟩ := q1 Dd (a1.fresh nD)
  have sw := (s.mono t1).wipe vs
  refine ⟨fun k m H' => m = ds.length - k ∧ k ≤ ds.length ∧ ∃ acc M', Tps H1 H' ∧ Abs X.K M' H' ∧ Iv k acc M' ∧ M' Dd = some (.dK acc), ⟨ds.length, by simp, Nat.zero_le _, [], _, Tps.new nD, a1.dKN nD DR.nil, h0, updM_same⟩, ?_⟩
  rintro k m H' ⟨rfl, hk, acc, M', t2, a', iv, hD⟩
  by_cases hlt : k < ds.length
  · have hx : ds[k]? = some ds[k] := List.getElem?_eq_getElem hlt
    obtain ⟨hkeep, hg⟩ := hst k _ acc M' hx iv hD
    obtain ⟨go, yl⟩ := ok.step k _ H' M' hx t2 a' hkeep
    refine .inr ⟨go, fun H2 => ∃ acc M2, Tps H1 H2 ∧ Abs X.K M2 H2 ∧ Iv (k + 1) acc M2 ∧ M2 Dd = some (.dK acc), fun H2 hn => ⟨ds.length - (k + 1), by omega, rfl, hlt, hn⟩, fun x H2 y => ?_⟩
    obtain ⟨t3, a3, r3⟩ := yl x H2 y
    have t23 := t2.trans t3
    refine ⟨by rw [wipe_set hv, wipe_wipe fun _ h => h], ?_⟩
    have s2 : SE X.K H2 ((L2.wipe σ vs).set i (some x)) ((wipe3 env vs).set i (some ds[k])) := (sw.mono t23).set i r3
    refine ⟨_, M', W0, _, s2, a3, LW0, hg, fun b H3 M3 t4 a4 q4 => ?_⟩
    cases b with
    | false =>
      show if false = true then _ else _
      rw [if_neg Bool.false_ne_true]
      obtain ⟨acc', e1, iv'⟩ := q4.2 rfl
      exact ⟨acc', M3, t23.trans t4, a4, iv', e1⟩
    | true =>
      show if true = true then _ else _
      rw [if_pos rfl]
      refine ⟨_, M3, W0, _, s2.mono t4, a4, LW0, q4.1 rfl, fun ds1 keep1 J1 H4 M4 t5 a5 q5 ok1 => ?_⟩
      obtain ⟨Iv1, ⟨acc0, e0, i0⟩, hst1, hd1⟩ := q5
      have t45 := t4.trans t5
      have sw1 := (s2.mono t45).wipe vs1
      refine ⟨fun k1 m1 H' => m1 = ds1.length - k1 ∧ k1 ≤ ds1.length ∧ ∃ acc M', Tps H4 H' ∧ Abs X.K M' H' ∧ Iv1 k1 acc M' ∧ M' Dd = some (.dK acc), ⟨ds1.length, by simp, Nat.zero_le _, acc0, M4, Tps.refl _, a5, i0, e0⟩, ?_⟩
      rintro k1 m1 H5 ⟨rfl, hk1, acc1, M5, t6, a6, iv1, hD1⟩
      by_cases hlt1 : k1 < ds1.length
      · have hx1 : ds1[k1]? = some ds1[k1] := List.getElem?_eq_getElem hlt1
        obtain ⟨hkeep1, hg1⟩ := hst1 k1 _ acc1 M5 hx1 iv1 hD1
        obtain ⟨go1, yl1⟩ := ok1.step k1 _ H5 M5 hx1 t6 a6 hkeep1
        refine .inr ⟨go1, fun H2 => ∃ acc M2, Tps H4 H2 ∧ Abs X.K M2 H2 ∧ Iv1 (k1 + 1) acc M2 ∧ M2 Dd = some (.dK acc), fun H2 hn => ⟨ds1.length - (k1 + 1), by omega, rfl, hlt1, hn⟩, fun x1 H6 y1 => ?_⟩
        obtain ⟨t7, a7, r7⟩ := yl1 x1 H6 y1
        have t67 := t6.trans t7
        refine ⟨by rw [wipe_set hv1, wipe_wipe fun _ h => h], ?_⟩
        refine ⟨_, M5, W0, _, (sw1.mono t67).set j r7, a7, LW0, hg1, fun b H7 M7 t8 a8 q8 => ?_⟩
        cases b with
        | false =>
          show if false = true then _ else _
          rw [if_neg Bool.false_ne_true]
          obtain ⟨acc', e1, iv'⟩ := q8.2 rfl
          exact ⟨acc', M7, t67.trans t8, a8, iv', e1⟩
        | true =>
          show if true = true then _ else _
          rw [if_pos rfl]
          refine ⟨_, M7, W0, _, ((sw1.mono t67).set j r7).mono t8, a8, LW0, q8.1 rfl, fun d v H8 M8 t9 a9 r9 q9 => ?_⟩
          refine ⟨_, M8, W0, _, (((sw1.mono t67).set j r7).mono t8).mono t9, a9, LW0, q9, fun e u H9 M9 t10 a10 r10 q10 => ?_⟩
          obtain ⟨acc', key, rfl, e1, hz, iv'⟩ := q10
          obtain ⟨ws, hw, rw'⟩ := a10.dK e1
          cases kD_inv r9
          exact ⟨ws, key, rfl, hw, by rw [rw'.len]; exact hz, putD acc' key e, _, (((t67.trans t8).trans t9).trans t10).trans (Tps.dK hw), a10.dKU hw (rw'.put r10), iv', updM_same⟩
      · have e1 : k1 = ds1.length := by omega
        subst e1
        obtain ⟨hkeep1, hn⟩ := hd1 acc1 M5 iv1 hD1
        exact .inl ⟨ok1.stop H5 M5 t6 a6 hkeep1, acc1, M5, (t23.trans t45).trans t6, a6, hn, hD1⟩
  · have e : k = ds.length := by omega
    subst e
    obtain ⟨hkeep, hq⟩ := hd acc M' iv hD
    exact .inl ⟨ok.stop H' M' t2 a' hkeep, g _ _ H' M' (t1.trans t2) a' Rv.ref hq⟩
theorem put_dcK {scope : Scope} (s0 : Shared) (H0 : Hp) (ce : Env) (fp : List Addr) (pn : List (Addr × Obj)) (σ : L2.St) (H : Hp) (s : Shared) (Dd : Addr) (y z : V) (u r : Value) (Y : Hp → Prop) (Ex : Value → Shared → Prop)
    (I : Inv (X.blk s0 H0 scope ce fp) pn σ H s) (ry : RelV y u) (rz : RelV z r) (h : pDcK Dd y z H Y) :
      wpAny (model X.prog X.w) X.A (dictSet Dd u r) (fun _ s' => ∃ H', Inv (X.blk s0 H0 scope ce fp) pn σ H' s' ∧ Y H') Ex s := by
  obtain ⟨kvs, k, rfl, hx, hz, q⟩ := h
  exact d_dictSet (X := X.blk s0 H0 scope ce fp) I hx hz ry rz fun s' I' => ⟨_, I', q⟩
theorem d_dcK2 {kx vx iter iter1 : Expr} {ifs ifs1 : List Expr} {scope : Scope} {x y : Str} {i j : Nat} {p1 p2 pos : Pos} {ti ti1 : I3} {tt tt1 : T3} {tk tv : E3} (own : List (Str × Nat)) (hc : X.calm = true) (hN : X.N.Nodup) (hi : DI X (.Name x p1) iter ti) (ok : BlkOk X.N X.env.scope scope own) (hv : i ∈ own.map (·.2)) (hv1 : j ∈ own.map (·.2))
    (hg : Blk X scope fun s H C cl fp => PG (X.blk s H scope (compEnvC scope cl C X.env) fp) (.Name x p1) (gName i))
    (ht : Blk X scope fun s H C cl fp => DTs (X.blk s H scope (compEnvC scope cl C X.env) fp) ifs tt)
    (hi1 : Blk X scope fun s H C cl fp => DI (X.blk s H scope (compEnvC scope cl C X.env) fp) (.Name y p2) iter1 ti1)
    (hg1 : Blk X scope fun s H C cl fp => PG (X.blk s H scope (compEnvC scope cl C X.env) fp) (.Name y p2) (gName j))
    (ht1 : Blk X scope fun s H C cl fp => DTs (X.blk s H scope (compEnvC scope cl C X.env) fp) ifs1 tt1)
    (hk : Blk X scope fun s H C cl fp => DE (X.blk s H scope (compEnvC scope cl C X.env) fp) kx tk)
    (he : Blk X scope fun s H C cl fp => DE (X.blk s H scope (compEnvC scope cl C X.env) fp) vx tv) (hs : ∀ x, foldedSetIterable iter X.env x = pure x := by intro _; rfl) (hs1 : ∀ env x, foldedSetIterable iter1 env x = pure x := by intro _ _; rfl) :
    DE X (.DictComp kx vx [⟨.Name x p1, iter, ifs, 0⟩, ⟨.Name y p2, iter1, ifs1, 0⟩] scope pos) (e3DcK2 ti i tt ti1 j tt1 tk tv (own.map (·.2)) [j]) := fun W2 tks =>
  (pe_dcW (vj := [j]) (o := fun _ => .dK []) (p := pDcK) hc hN (fun H h hb => dk_empty h hb) put_dcK (hi W2 tks) ok (fun k hk => by rw [List.mem_singleton.mp hk]; exact hv1) hg (fun s H C cl fp => ht s H C cl fp _ takesF) (fun s H C cl fp => hi1 s H C cl fp _ takesF) hg1 (fun s H C cl fp => ht1 s H C cl fp _ takesF) (fun s H C cl fp => hk s H C cl fp _ takesF) (fun s H C cl fp => he s H C cl fp _ takesF) hs hs1).imp fun σ H Q2 h => dck2_low hv List.mem_cons_self rfl h
end
/-! ### sorted(a dict with int keys) -/
section
variable {X : Cx} {e : Expr} {u : A3} {p pos : Pos} {K : Fg}
def c3SortedD : List D → MH → Q3 → Prop
  | [.ref a], M, Q => ∃ (kvs : List (Key × D)) (ks : List Int), M a = some (.dK kvs) ∧ kvs.map (·.1) = ks.map Sum.inl ∧ ks.length < 64 ∧ ∀ (ys : List Int) (p : Addr), ys.Perm ks → ys.Pairwise (· ≤ ·) → M p = none → Q (.ref p) (updM M p (.lst (ys.map D.int)))
  | _, _, _ => False
theorem cl_sortedD : CallL K (fun xs H Q => ∃ (a : Addr) (kvs : List (Key × V)) (ks : List Int), xs = [.ref a] ∧ Rd H a (.dK kvs) ∧ kvs.map (·.1) = ks.map Sum.inl ∧ ks.length < 64 ∧
    ∀ (ys : List Int) (p : Addr), ys.Perm ks → ys.Pairwise (· ≤ ·) → H p = none → Q (.ref p) (upd H p (.lst (ys.map V.int)))) c3SortedD := by
  intro ds vs H M Q Q2 r a q g
  unfold c3SortedD at q
  split at q
  · obtain ⟨v, rfl, rr⟩ := one_inv r
    cases rr.ref_inv
    obtain ⟨kvs, ks, h1, h2, h3, q⟩ := q
    obtain ⟨ws, hw, rw'⟩ := a.dK h1
    exact ⟨_, ws, ks, rfl, .inl hw, rw'.1.trans h2, h3, fun ys q' hp hs' nq => g _ _ _ _ (Tps.new nq) (a.lstN nq Rvs.ints) Rv.ref (q ys q' hp hs' (a.fresh nq))⟩
  · exact q.elim
theorem d_sortedD (hc : X.calm = true) (hm : X.mg "sorted" = none) (ha : DA X [e] u) (hg : Gl X "sorted" := by rfl) (he : starEach (e :: []) X.env = (false, eval e X.env) :: starEach [] X.env := by rfl) (hpl : (backTo pos (starEach [] X.env)).any (·.1) = false := by rfl) : DE X (.Call (.Name "sorted" p) [e] [] pos) (e3CB c3SortedD u) :=
  d_cb (call_sortedDI hc) cl_sortedD hg hm boot_sorted' ha (by decide) (by decide) he hpl
/-! ### sum(list of ints) -/
def c3Sum : List D → MH → Q3 → Prop
  | [.ref l], M, Q => ∃ ns : List Int, LstM M l (ns.map D.int) ∧ Q (.int ns.sum) M
  | _, _, _ => False
theorem cl_sum : CallL K (rSum K) c3Sum := by
  intro ds vs H M Q Q2 r a q g
  unfold c3Sum at q
  split at q
  · obtain ⟨v, rfl, rr⟩ := one_inv r
    cases rr.ref_inv
    obtain ⟨ns, hl, q⟩ := q
    obtain ⟨ws, hs, hw⟩ := a.rd hl
    rw [Rvs.intsV hw] at hs
    exact ⟨_, ns, rfl, hs, g _ _ _ _ (Tps.refl H) a Rv.int q⟩
  · exact q.elim
theorem d_sum (hc : X.calm = true) (hm : X.mg "sum" = none) (ha : DA X [e] u) (hg : Gl X "sum" := by rfl) (he : starEach (e :: []) X.env = (false, eval e X.env) :: starEach [] X.env := by rfl) (hpl : (backTo pos (starEach [] X.env)).any (·.1) = false := by rfl) : DE X (.Call (.Name "sum" p) [e] [] pos) (e3CB c3Sum u) :=
  d_cb (cr_sum hc) cl_sum hg hm boot_sum' ha (by decide) (by decide) he hpl
end
end L3

namespace L3
open PySem PySem.Spec PyProof.Rows L2
/-! ### tuple * 0, tuple * 1 -/
theorem tuple_mul1 (l : Addr) (items : Array Value) (n : Nat) (dd : Option Addr) (sl : Array (Option Value)) (u : Tok) :
    Meets (Builtin.«tuple.__mul__» ⟨[.ref l, .int 1 u], []⟩) (fun _ R s => s.heap.get? l = some { cls := .type "tuple", dict := dd, data := .seq items n, slots := sl } ∧ R (.ok (.ret (Value.ref l))) s) :=
  .of_wp fun prog w A R s h => by
    obtain ⟨hp, g, d, tk, os⟩ := s
    obtain ⟨hl, h⟩ := h
    have f1 := AutoSeq1.idx_int
    wp_walk using wpAny_loadPart' hl
    exact ⟨_, rfl, h⟩
theorem tuple_mul0 (l : Addr) (items : Array Value) (n : Nat) (dd : Option Addr) (sl : Array (Option Value)) (u : Tok) (he : items.isEmpty = false) :
    Meets (Builtin.«tuple.__mul__» ⟨[.ref l, .int 0 u], []⟩) (fun _ R s => s.heap.get? l = some { cls := .type "tuple", dict := dd, data := .seq items n, slots := sl } ∧ R (.ok (.ret (Value.ref s.heap.objs.size))) { s with heap := s.heap.push { cls := Value.type "tuple", data := Data.seq #[] }, toks := s.toks }) :=
  .of_wp fun prog w A R s h => by
    obtain ⟨hp, g, d, tk, os⟩ := s
    obtain ⟨hl, h⟩ := h
    have f1 := AutoSeq1.idx_int
    have c1 : (items.isEmpty || (0 : Int) == 1) = false := by rw [he]; rfl
    wp_walk using wpAny_loadPart' hl
    repeat (first
      | (refine wpAny_ite_false (decide_eq_false (by rw [c1]; exact Bool.false_ne_true)) ?_; wp_walk using wpAny_loadPart' hl))
    exact ⟨_, rfl, h⟩
section
variable {X : Cx}
def rRep01 (K : Fg) : R2 := fun x y H Q => ∃ l k xs, x = .ref l ∧ y = .int k ∧ SqT K H l xs ∧ xs ≠ [] ∧ ((k = 1 ∧ Q (.ref l) H) ∨ (k = 0 ∧ NewT [] H Q))
theorem op_rep01 : OpR X (binaryOp .Mult) (rRep01 X.K) := by
  rintro pins s σ H x y v u Q I rx ry ⟨l, k, xs, rfl, rfl, hT, hne, q⟩
  cases rx
  obtain ⟨t, rfl⟩ := ry
  obtain ⟨its, r, ⟨⟨cls, dd, data, sl⟩, ho, hc, n, hd⟩, hs⟩ := I.tuple hT
  simp only at hc hd
  subst hc hd
  have some_ : its.toArray.isEmpty = false := by
    cases its with
    | nil => exact absurd (List.eq_nil_of_length_eq_zero r.length) hne
    | cons _ _ => rfl
  have times : wpAny (model X.prog X.w) X.A (call (.builtin "tuple.__mul__") [.ref l, .int k t]) (EP X pins σ Q) X.xe s := by
    rcases q with ⟨rfl, q⟩ | ⟨rfl, q⟩
    · exact call_meets PySem.F.slot_tuple_mul ⟨_, ho, rfl⟩ PySem.F.entry_tuple_mul (PySem.F.args_tuple_mul_2 _ _) (tuple_mul1 l its.toArray n dd sl t) ⟨ho, .ref l, H, I, rfl, q⟩
    · exact call_meets PySem.F.slot_tuple_mul ⟨_, ho, rfl⟩ PySem.F.entry_tuple_mul (PySem.F.args_tuple_mul_2 _ _) (tuple_mul0 l its.toArray n dd sl t some_) ⟨ho, tup_pushed I (its := []) (by constructor) (by decide) q⟩
  exact wpAny_binaryOp_repeat_ref (T := "tuple") (U := "int") (by decide) ⟨_, ho, rfl⟩ (fun s' => typeIs_int s' k t) noFill_tuple_mul PySem.F.fills_int_mul PySem.F.slot_int_rmul repeat_tuple PySem.F.slot_int_index.lookup
    (call_meets PySem.F.slot_int_rmul (typeIs_int s k t) PySem.F.entry_int_rmul (PySem.F.args_int_rmul_2 _ _) (int_rmul_tuple k t l its.toArray n dd sl) ⟨ho, rfl, ⟨_, ho, rfl⟩, times⟩)
variable {K : Fg} {a b : Expr} {pos : Pos} {ta tb : E3}
/-- * of ints, of a tuple and an int from 0 on, of a list and an int -/
def r3MulT : D → D → MH → Q3 → Prop
  | .int i, .int j, M, Q => CMul i j ∧ Q (.int (i * j)) M
  | .tup xs, .int k, M, Q => xs ≠ [] ∧ 0 ≤ k ∧ k ≤ 1000 ∧ xs.length ≤ 1000 ∧ Q (.tup (List.replicate k.toNat xs).flatten) M
  | .ref l, .int k, M, Q => ∃ xs, M l = some (.lst xs) ∧ 0 ≤ k ∧ k < 2 ^ 63 ∧ xs.length * k.toNat ≤ sizeLine ∧ ∀ p, M p = none → Q (.ref p) (updM M p (.lst (List.replicate k.toNat xs).flatten))
  | _, _, _, _ => False
theorem opl_mulT : OpL K (fun x y H Q => rRep01 K x y H Q ∨ (rI CMul (fun i j => .int (i * j)) x y H Q ∨ (rRepD K x y H Q ∨ rRep x y H Q))) r3MulT := by
  intro d e v u H M Q Q2 rd re a q g
  unfold r3MulT at q
  split at q
  · exact .inr (opl_mul _ _ v u H M Q Q2 rd re a (by unfold r3Mul; exact q) g)
  · rename_i xs k
    obtain ⟨n0, k0, k1, hz, q⟩ := q
    by_cases k2 : 2 ≤ k
    · exact .inr (opl_mul _ _ v u H M Q Q2 rd re a (by unfold r3Mul; exact ⟨n0, k2, k1, hz, q⟩) g)
    · cases re.int_inv
      obtain ⟨p, vs, rfl, hs, hv⟩ := rd.tup_inv
      have hl := hv.length
      refine .inl ⟨p, _, vs, rfl, rfl, hs, fun z => ?_, ?_⟩
      · subst z
        exact n0 (List.eq_nil_of_length_eq_zero (by simpa using hl))
      · by_cases k1' : k = 1
        · subst k1'
          refine .inl ⟨rfl, ?_⟩
          have e : (List.replicate (1 : Int).toNat xs).flatten = xs := by simp
          rw [e] at q
          exact g _ _ H M (Tps.refl H) a rd q
        · have k0' : k = 0 := by omega
          subst k0'
          refine .inr ⟨rfl, fun t ot nt dt => ?_⟩
          have e : (List.replicate (0 : Int).toNat xs).flatten = [] := by simp
          rw [e] at q
          exact g _ _ _ M (Tps.new nt) (a.tupN nt) (Rv.tup (SqD.of dt) Rvs.nil) q
  · exact .inr (opl_mul _ _ v u H M Q Q2 rd re a (by unfold r3Mul; exact q) g)
  · exact q.elim
theorem d_mulT (ha : DE X a ta) (hb : DE X b tb) : DE X (.BinOp a .Mult b pos) (e3Op r3MulT ta tb) := d_op (op_rep01.or (op_mul.or (op_repD.or op_rep))) opl_mulT ha hb
end
end L3

namespace L3
open PySem PySem.Spec PyProof.Rows L2
/-! ### networks by themselves -/
structure Gd (N : Net) (c : Nat) : Prop where
  g : Good N c
  c2 : 2 ≤ c
  w4 : ∀ x ∈ N.wh, 0 ≤ x ∧ x < 4
  b4 : ∀ x ∈ N.bl, 0 ≤ x ∧ x < 4
theorem Gd.rows {N : Net} {c : Nat} (h : Gd N c) : rowsOk (N.many : Int) (.tup (N.links.map rowD)) = true := by
  have c4 := h.g.c4
  have c2 := h.c2
  show (decide (2 ≤ (N.links.map rowD).length) && decide ((N.links.map rowD).length ≤ 4) && (N.links.map rowD).all (rowOk (N.many : Int))) = true
  rw [List.length_map, h.g.l, decide_eq_true c2, decide_eq_true c4, Bool.true_and, Bool.true_and, List.all_eq_true]
  intro x hx
  obtain ⟨l, hl, rfl⟩ := List.mem_map.mp hx
  exact (h.g.o l hl).ok
theorem Gd.ok {N : Net} {c : Nat} (h : Gd N c) : netOk (netD N) = true := by
  have m1 := h.g.m1
  have m2 := h.g.m2
  show (decide (("network" : Str) = "network") && isNum (.int (N.many : Int)) 1 400 && rowsOk (N.many : Int) (.tup (N.links.map rowD)) && insOk (N.many : Int) 4 (rowD N.wh) && insOk (N.many : Int) 4 (rowD N.bl)) = true
  rw [h.rows, ints_ok h.g.w h.w4, ints_ok h.g.b h.b4, decide_eq_true rfl]
  show (decide ((1 : Int) ≤ (N.many : Int)) && decide ((N.many : Int) ≤ 400) && true && true && true) = true
  rw [decide_eq_true (by omega), decide_eq_true (by omega)]
  rfl
theorem vk_net {M : MH} {N : Net} : Vk M (netD N) := vk_tup fun x hx => by
  simp only [List.mem_cons, List.not_mem_nil, or_false] at hx
  rcases hx with rfl | rfl | rfl | rfl | rfl
  · simp only [Vk]
  · simp only [Vk]
  · exact vk_tup fun y hy => by
      obtain ⟨l, _, rfl⟩ := List.mem_map.mp hy
      exact vk_row
  · exact vk_row
  · exact vk_row
/-- a tuple of five begins with a text -/
def W5 (d : D) : Prop := ∀ w zs, d = .tup (w :: zs) → zs.length = 4 → ∃ s, w = .str s
theorem w5_net {N : Net} : W5 (netD N) := fun w zs e _ => by
  injection e with e
  injection e with e _
  exact ⟨_, e.symm⟩
theorem nodup_inj {l : List Int} (nd : l.Nodup) {i j : Nat} (hi : i < l.length) (hj : j < l.length) (e : l[i] = l[j]) : i = j := by
  have h := List.pairwise_iff_getElem.mp nd
  by_cases h1 : i < j
  · exact absurd e (h i j hi hj h1)
  · by_cases h2 : j < i
    · exact absurd e.symm (h j i hj hi h2)
    · omega
/-! ### the law's likeness -/
def Pl0 (d : D) : Prop := d = .non ∨ (∃ i, d = .int i) ∨ ∃ x, d = .str x
def Pl : Nat → D → Prop
  | 0, d => Pl0 d
  | n + 1, d => Pl0 d ∨ ∃ ds, d = .tup ds ∧ ds.length ≤ 1000 ∧ ∀ x ∈ ds, Pl n x
theorem Pl.up : ∀ {n : Nat} {d : D}, Pl n d → Pl (n + 1) d
  | 0, d, h => .inl h
  | n + 1, d, h => by
    rcases h with h | ⟨ds, rfl, hl, h⟩
    · exact .inl h
    · exact .inr ⟨ds, rfl, hl, fun x hx => (h x hx).up⟩
theorem Pl.mono {n m : Nat} {d : D} (h : Pl n d) (hm : n ≤ m) : Pl m d := by
  induction hm with
  | refl => exact h
  | step _ ih => exact ih.up
theorem pl_row {l : List Int} (h : l.length ≤ 1000) : Pl 1 (rowD l) := .inr ⟨_, rfl, by rw [List.length_map]; exact h, fun x hx => by
  obtain ⟨i, _, rfl⟩ := List.mem_map.mp hx
  exact .inr (.inl ⟨i, rfl⟩)⟩
theorem pl_net {N : Net} {c : Nat} (g : Good N c) : Pl 3 (netD N) := by
  have m2 := g.m2
  have c4 := g.c4
  refine .inr ⟨_, rfl, Nat.le_of_ble_eq_true rfl, fun x hx => ?_⟩
  simp only [List.mem_cons, List.not_mem_nil, or_false] at hx
  rcases hx with rfl | rfl | rfl | rfl | rfl
  · exact .inl (.inr (.inr ⟨_, rfl⟩))
  · exact .inl (.inr (.inl ⟨_, rfl⟩))
  · refine .inr ⟨_, rfl, by rw [List.length_map, g.l]; omega, fun y hy => ?_⟩
    obtain ⟨l, hl, rfl⟩ := List.mem_map.mp hy
    exact pl_row (by rw [(g.o l hl).len]; omega)
  · exact (pl_row (by rw [g.w]; omega)).up
  · exact (pl_row (by rw [g.b]; omega)).up
/-! ### turns -/
def turnsD (T : List (List (List Int))) : D := .tup (T.map fun row => .tup (row.map rowD))
structure Tn (T : List (List (List Int))) (c m s : Nat) : Prop where
  c : T.length = c
  m : ∀ row ∈ T, row.length = m
  s : ∀ row ∈ T, ∀ one ∈ row, Ord s one
theorem getD_el {α : Type} {l : List α} {i : Nat} {d : α} (h : i < l.length) : l.getD i d = l[i] := by
  rw [List.getD_eq_getElem?_getD, List.getElem?_eq_getElem h]
  rfl
theorem getD_in {α : Type} {l : List α} {i : Nat} {d : α} (h : i < l.length) : l.getD i d ∈ l := by
  rw [getD_el h]
  exact List.getElem_mem h
theorem nodup_range_map {f : Nat → Int} {n : Nat} (h : ∀ i j, i < n → j < n → f i = f j → i = j) : ((List.range n).map f).Nodup := by
  refine List.pairwise_map.mpr (List.Pairwise.imp_of_mem (fun {a b} ha hb hab e => ?_) List.nodup_range)
  exact hab (h a b (List.mem_range.mp ha) (List.mem_range.mp hb) e)
/-- copies -/
def cLink (N : Net) (T : List (List (List Int))) (s c j : Nat) : Int := (N.links.getD c []).getD (j / s) 0 * (s : Int) + ((T.getD c []).getD (j / s) []).getD (j % s) 0
def rowC (N : Net) (T : List (List (List Int))) (s c : Nat) : List Int := (List.range (N.many * s)).map (cLink N T s c)
def sideC (l : List Int) (m s : Nat) : List Int := (List.range (m * s)).map fun j => l.getD (j / s) 0
def coverN (N : Net) (T : List (List (List Int))) (s c : Nat) : Net := ⟨N.many * s, (List.range c).map (rowC N T s), sideC N.wh N.many s, sideC N.bl N.many s⟩
section
variable {N : Net} {T : List (List (List Int))} {s c : Nat}
theorem div_in {j m : Nat} (h : j < m * s) : j / s < m := Nat.div_lt_of_lt_mul (by rw [Nat.mul_comm]; exact h)
theorem link_in (g : Good N c) {i k : Nat} (hi : i < c) (hk : k < N.many) : k < (N.links.getD i []).length ∧ 0 ≤ (N.links.getD i []).getD k 0 ∧ (N.links.getD i []).getD k 0 < N.many := by
  obtain ⟨_, o, _⟩ := g.link hi
  have hl : k < (N.links.getD i []).length := by rw [o.len]; exact hk
  exact ⟨hl, o.mem.mp (getD_in hl)⟩
theorem turn_in {m : Nat} (t : Tn T c m s) {i k j : Nat} (hi : i < c) (hk : k < m) (hj : j < s) : i < T.length ∧ k < (T.getD i []).length ∧ Ord s ((T.getD i []).getD k []) ∧ j < ((T.getD i []).getD k []).length ∧ 0 ≤ ((T.getD i []).getD k []).getD j 0 ∧ ((T.getD i []).getD k []).getD j 0 < s := by
  have h1 : i < T.length := by rw [t.c]; exact hi
  have m1 := getD_in (d := []) h1
  have h2 : k < (T.getD i []).length := by rw [t.m _ m1]; exact hk
  have o := t.s _ m1 _ (getD_in (d := []) h2)
  have h3 : j < ((T.getD i []).getD k []).length := by rw [o.len]; exact hj
  exact ⟨h1, h2, o, h3, o.mem.mp (getD_in h3)⟩
theorem two_parts {a b x y S : Int} (x0 : 0 ≤ x) (xS : x < S) (y0 : 0 ≤ y) (yS : y < S) (e : a * S + x = b * S + y) : a = b ∧ x = y := by
  have lt : ∀ {a b x y : Int}, 0 ≤ y → x < S → 0 < S → a < b → a * S + x = b * S + y → False := fun {a b x y} y0 xS S0 h e => by
    have := Int.mul_le_mul_of_nonneg_right (show a + 1 ≤ b by omega) (show 0 ≤ S by omega)
    rw [Int.add_mul, Int.one_mul] at this
    omega
  have hab : a = b := by
    by_cases h1 : a < b
    · exact (lt y0 xS (by omega) h1 e).elim
    · by_cases h2 : b < a
      · exact (lt x0 yS (by omega) h2 e.symm).elim
      · omega
  subst hab
  exact ⟨rfl, by omega⟩
theorem cover_ord (g : Good N c) (t : Tn T c N.many s) (s1 : 1 ≤ s) {i : Nat} (hi : i < c) : Ord (N.many * s) (rowC N T s i) := by
  have inb : ∀ {j : Nat}, j < N.many * s → j / s < N.many ∧ j % s < s := fun {j} h => ⟨div_in h, Nat.mod_lt _ s1⟩
  refine ord_of (by unfold rowC; simp) (fun x hx => ?_) (nodup_range_map fun j1 j2 h1 h2 e => ?_)
  · obtain ⟨j, hj, rfl⟩ := List.mem_map.mp hx
    obtain ⟨a, b⟩ := inb (List.mem_range.mp hj)
    obtain ⟨_, l0, l1⟩ := link_in g hi a
    obtain ⟨_, _, _, _, t0, t1⟩ := turn_in t hi a b
    unfold cLink
    generalize (N.links.getD i []).getD (j / s) 0 = x at l0 l1
    have p0 := Int.mul_nonneg l0 (show (0 : Int) ≤ (s : Int) by omega)
    have p1 := Int.mul_le_mul_of_nonneg_right (show x + 1 ≤ (N.many : Int) by omega) (show (0 : Int) ≤ (s : Int) by omega)
    rw [Int.add_mul, Int.one_mul] at p1
    rw [Int.natCast_mul]
    omega
  · obtain ⟨a1, b1⟩ := inb h1
    obtain ⟨a2, b2⟩ := inb h2
    obtain ⟨l1, _, _⟩ := link_in g hi a1
    obtain ⟨l2, _, _⟩ := link_in g hi a2
    obtain ⟨_, _, o1, k1, t10, t11⟩ := turn_in t hi a1 b1
    obtain ⟨_, _, o2, k2, t20, t21⟩ := turn_in t hi a2 b2
    obtain ⟨e1, e2⟩ := two_parts t10 t11 t20 t21 e
    rw [getD_el l1, getD_el l2] at e1
    have d := nodup_inj (g.link hi).2.1.nodup l1 l2 e1
    rw [getD_el k1, getD_el k2] at e2
    have m : j1 % s = j2 % s := by
      generalize hA : (T.getD i []).getD (j1 / s) [] = A at o1 k1 e2
      have hB : (T.getD i []).getD (j2 / s) [] = A := by rw [← d, hA]
      generalize (T.getD i []).getD (j2 / s) [] = B at hB k2 e2
      subst hB
      exact nodup_inj o1.nodup k1 k2 e2
    rw [← Nat.div_add_mod j1 s, ← Nat.div_add_mod j2 s, d, m]
theorem side_in {l : List Int} {m : Nat} {P : Int → Prop} (hl : l.length = m) (h : ∀ x ∈ l, P x) : ∀ x ∈ sideC l m s, P x := fun x hx => by
  obtain ⟨j, hj, rfl⟩ := List.mem_map.mp hx
  exact h _ (getD_in (by rw [hl]; exact div_in (List.mem_range.mp hj)))
theorem cover_gd (gd : Gd N c) (t : Tn T c N.many s) (s1 : 1 ≤ s) (h : N.many * s ≤ 400) : Gd (coverN N T s c) c := by
  have g := gd.g
  have m1 := g.m1
  refine ⟨⟨Nat.le_trans m1 (Nat.le_mul_of_pos_right _ s1), h, g.c4, by unfold coverN; simp, fun l hl => ?_, by unfold coverN sideC; simp, by unfold coverN sideC; simp, side_in g.w g.iw, side_in g.b g.ib⟩, gd.c2, side_in g.w gd.w4, side_in g.b gd.b4⟩
  obtain ⟨i, hi, rfl⟩ := List.mem_map.mp hl
  exact cover_ord g t s1 (List.mem_range.mp hi)
end
/-! ### copies: views, and lists of parts -/
theorem flat_range {α : Type} (g : Nat → α) (s : Nat) : ∀ m : Nat, ((List.range m).map fun i => (List.range s).map fun t => g (i * s + t)).flatten = (List.range (m * s)).map g
  | 0 => by simp
  | m + 1 => by
    rw [List.range_succ, List.map_append, List.flatten_append, flat_range g s m, Nat.add_mul, Nat.one_mul, List.range_add, List.map_append, List.map_map]
    simp [Function.comp_def]
section
variable {N : Net} {T : List (List (List Int))} {s c : Nat}
theorem getD_rng {α : Type} {f : Nat → α} {n k : Nat} {d : α} (h : k < n) : ((List.range n).map f).getD k d = f k := by
  rw [List.getD_eq_getElem?_getD, List.getElem?_map, List.getElem?_range h]
  rfl
end
/-- exchanged -/
def mixR (L W B : List Int) (m : Nat) : List Int := (List.range m).map fun i => (B.idxOf (L.getD (W.getD i 0).toNat 0) : Nat)
def mixN (N : Net) (W B : List Int) : Net := ⟨N.many, N.links.map fun L => mixR L W B N.many, (List.range N.many).map fun i => N.wh.getD (W.getD i 0).toNat 0, (List.range N.many).map fun i => N.bl.getD (B.getD i 0).toNat 0⟩
theorem ord_at {m : Nat} {W : List Int} (o : Ord m W) {i : Nat} (hi : i < m) : i < W.length ∧ (W.getD i 0).toNat < m ∧ ((W.getD i 0).toNat : Int) = W.getD i 0 := by
  have h : i < W.length := by rw [o.len]; exact hi
  have := o.mem.mp (getD_in (d := 0) h)
  exact ⟨h, by omega, by omega⟩
theorem mix_ord {m : Nat} {L W B : List Int} (l : Ord m L) (w : Ord m W) (b : Ord m B) : Ord m (mixR L W B m) := by
  refine ord_of (by unfold mixR; simp) (fun x hx => ?_) (nodup_range_map fun i j hi hj e => ?_)
  · obtain ⟨i, hi, rfl⟩ := List.mem_map.mp hx
    obtain ⟨_, h2, _⟩ := ord_at w (List.mem_range.mp hi)
    have hm : L.getD (W.getD i 0).toNat 0 ∈ B := b.mem.mpr (l.mem.mp (getD_in (by rw [l.len]; exact h2)))
    have := List.idxOf_lt_length_iff.mpr hm
    rw [b.len] at this
    omega
  · obtain ⟨h1, h2, h3⟩ := ord_at w hi
    obtain ⟨g1, g2, g3⟩ := ord_at w hj
    have hl1 : (W.getD i 0).toNat < L.length := by rw [l.len]; exact h2
    have hl2 : (W.getD j 0).toNat < L.length := by rw [l.len]; exact g2
    have hm1 : L.getD (W.getD i 0).toNat 0 ∈ B := b.mem.mpr (l.mem.mp (getD_in hl1))
    have hm2 : L.getD (W.getD j 0).toNat 0 ∈ B := b.mem.mpr (l.mem.mp (getD_in hl2))
    have e' : B.idxOf (L.getD (W.getD i 0).toNat 0) = B.idxOf (L.getD (W.getD j 0).toNat 0) := by
      have : ((B.idxOf (L.getD (W.getD i 0).toNat 0) : Nat) : Int) = ((B.idxOf (L.getD (W.getD j 0).toNat 0) : Nat) : Int) := e
      omega
    have x1 := List.getElem_idxOf (List.idxOf_lt_length_iff.mpr hm1)
    have x2 := List.getElem_idxOf (List.idxOf_lt_length_iff.mpr hm2)
    have ex : L.getD (W.getD i 0).toNat 0 = L.getD (W.getD j 0).toNat 0 := by
      rw [← x1, ← x2]
      congr 1
    rw [getD_el hl1, getD_el hl2] at ex
    have ew := nodup_inj l.nodup hl1 hl2 ex
    have : W.getD i 0 = W.getD j 0 := by omega
    rw [getD_el h1, getD_el g1] at this
    exact nodup_inj w.nodup h1 g1 this
theorem mix_side {m : Nat} {l W : List Int} (w : Ord m W) (hl : l.length = m) {P : Int → Prop} (h : ∀ x ∈ l, P x) : ∀ x ∈ (List.range m).map (fun i => l.getD (W.getD i 0).toNat 0), P x := fun x hx => by
  obtain ⟨i, hi, rfl⟩ := List.mem_map.mp hx
  exact h _ (getD_in (by rw [hl]; exact (ord_at w (List.mem_range.mp hi)).2.1))
theorem mix_gd {N : Net} {c : Nat} {W B : List Int} (gd : Gd N c) (w : Ord N.many W) (b : Ord N.many B) : Gd (mixN N W B) c := by
  have g := gd.g
  refine ⟨⟨g.m1, g.m2, g.c4, by unfold mixN; simp [g.l], fun l hl => ?_, by unfold mixN; simp, by unfold mixN; simp, mix_side w g.w g.iw, mix_side b g.b g.ib⟩, gd.c2, mix_side w g.w gd.w4, mix_side b g.b gd.b4⟩
  obtain ⟨L, hL, rfl⟩ := List.mem_map.mp hl
  exact mix_ord (g.o L hL) w b
/-! ### the same twice -/
mutual
theorem eqv_refl : ∀ p : PyData, p.canLay0 = true → PyData.eqv p p = true
  | .none, _ => by simp [PyData.eqv]
  | .bool b, _ => by simp [PyData.eqv]
  | .int i, _ => by simp [PyData.eqv]
  | .str x, _ => by simp [PyData.eqv]
  | .list xs, h => by
    simp only [PyData.eqv]
    exact eqvs_refl xs (by simpa [PyData.canLay0] using h)
  | .tuple xs, h => by
    simp only [PyData.eqv]
    exact eqvs_refl xs (by simpa [PyData.canLay0] using h)
  | .dict _, h => by simp [PyData.canLay0] at h
theorem eqvs_refl : ∀ ps : List PyData, PyData.canLayAll0 ps = true → PyData.eqvAll ps ps = true
  | [], _ => by simp [PyData.eqvAll]
  | p :: ps, h => by
    have h' : p.canLay0 = true ∧ PyData.canLayAll0 ps = true := by simpa [PyData.canLayAll0] using h
    simp [PyData.eqvAll, eqv_refl p h'.1, eqvs_refl ps h'.2]
end
theorem eq_same {M : MH} {Q : Q3} {ds : List D} {k : Nat} (h : Pc k M (.tup ds)) (hk : k ≤ 64) (q : Q (.bl true) M) : r3Eq (.tup ds) (.tup ds) M Q := by
  obtain ⟨p, a, b, c⟩ := h
  unfold r3Eq
  exact ⟨p, p, a, a, shaped_of b (by omega), shaped_of b (by omega), by rw [eqv_refl p b]; exact q⟩
theorem ne_same {M : MH} {Q : Q3} {ds : List D} {k : Nat} (h : Pc k M (.tup ds)) (hk : k ≤ 64) (q : Q (.bl false) M) : r3Ne (.tup ds) (.tup ds) M Q := by
  obtain ⟨p, a, b, c⟩ := h
  unfold r3Ne
  exact ⟨p, p, a, a, shaped_of b (by omega), shaped_of b (by omega), by rw [eqv_refl p b]; exact q⟩
theorem pc_strN {M : MH} {x : Str} (h : (PyData.str x).canLay0 = true) : Pc 0 M (.str x) := ⟨.str x, .str x, h, by simp [PyData.depth]⟩
theorem pc_net {M : MH} {N : Net} : Pc 3 M (netD N) := pc_tup fun x hx => by
  simp only [List.mem_cons, List.not_mem_nil, or_false] at hx
  rcases hx with rfl | rfl | rfl | rfl | rfl
  · exact (pc_strN (by decide +kernel)).mono (Sub.refl _) (by decide)
  · exact pc_int
  · exact pc_tup fun y hy => by
      obtain ⟨l, _, rfl⟩ := List.mem_map.mp hy
      exact pc_row
  · exact pc_row.mono (Sub.refl _) (by decide)
  · exact pc_row.mono (Sub.refl _) (by decide)
theorem pc_view {M : MH} {N : Net} : ∀ (r : Nat) (b : Bool) (k back : Int), Pc (2 * r + 1) M (viewD N r b k back)
  | 0, b, k, back => pc_tup fun x hx => by
    rw [List.mem_singleton] at hx
    subst hx
    exact pc_int
  | r + 1, b, k, back => pc_tup (k := 2 * r + 2) fun x hx => by
    simp only [List.mem_cons, List.not_mem_nil, or_false] at hx
    rcases hx with rfl | rfl
    · exact pc_int
    · refine pc_tup fun y hy => ?_
      obtain ⟨i, _, rfl⟩ := List.mem_map.mp hy
      split
      · exact pc_non
      · exact pc_view r (!b) _ _
theorem view_tup {N : Net} {r : Nat} {b : Bool} {k back : Int} : ∃ ds, viewD N r b k back = .tup ds := by
  cases r with
  | zero => exact ⟨_, rfl⟩
  | succ r => exact ⟨_, viewD_succ⟩
theorem pc_turns {M : MH} {T : List (List (List Int))} : Pc 3 M (turnsD T) := pc_tup fun x hx => by
  obtain ⟨r, _, rfl⟩ := List.mem_map.mp hx
  exact pc_tup fun y hy => by
    obtain ⟨l, _, rfl⟩ := List.mem_map.mp hy
    exact pc_row
/-! ### the other side's links, sides -/
def backL (N : Net) (i : Nat) : List D := (List.range N.many).map fun k : Nat => .int (behind N false (k : Int) i)
def sideI (b : Bool) : D := .int (if b then 0 else 1)
def spView2 (n : Nat) : Sp3 := fun ds M Q _ => ∃ (N : Net) (c r : Nat) (b : Bool) (k back : Int), ds = [netD N, sideI b, .int k, .int (r : Int), .int back] ∧ Good N c ∧ 0 ≤ k ∧ k < N.many ∧ r ≤ n ∧ Q (viewD N r b k back) M
end L3

namespace L3
open PySem PySem.Spec PyProof.Rows L2
/-! ### numbers for things, alike for alike ones, in the order in which they come first -/
section
variable {α β : Type} [DecidableEq α] [DecidableEq β]
def add1 (u : List α) (x : α) : List α := if x ∈ u then u else u ++ [x]
def uniq (xs : List α) : List α := xs.foldl add1 []
def num (xs : List α) : List Nat := xs.map fun x => (uniq xs).idxOf x
def kn (xs : List α) : Nat := (uniq xs).length
theorem uniq_snoc {xs : List α} {x : α} : uniq (xs ++ [x]) = add1 (uniq xs) x := by unfold uniq; rw [List.foldl_append]; rfl
theorem snoc_ind {P : List α → Prop} (h0 : P []) (h1 : ∀ xs x, P xs → P (xs ++ [x])) (xs : List α) : P xs := by
  have : ∀ ys : List α, P ys.reverse := fun ys => by
    induction ys with
    | nil => exact h0
    | cons y ys ih => rw [List.reverse_cons]; exact h1 _ _ ih
  have := this xs.reverse
  rwa [List.reverse_reverse] at this
theorem mem_add1 {u : List α} {x y : α} : y ∈ add1 u x ↔ y ∈ u ∨ y = x := by
  unfold add1
  split
  · constructor
    · exact .inl
    · rintro (h | rfl)
      · exact h
      · assumption
  · simp
theorem mem_uniq {xs : List α} {y : α} : y ∈ uniq xs ↔ y ∈ xs := by
  induction xs using snoc_ind with
  | h0 => simp [uniq]
  | h1 xs x ih => rw [uniq_snoc, mem_add1, ih]; simp
theorem nodup_uniq (xs : List α) : (uniq xs).Nodup := by
  induction xs using snoc_ind with
  | h0 => exact List.nodup_nil
  | h1 xs x ih =>
    rw [uniq_snoc]
    unfold add1
    split
    · exact ih
    · rename_i h
      refine List.nodup_append.mpr ⟨ih, by simp, fun a ha b hb e => ?_⟩
      rw [List.mem_singleton] at hb
      subst hb
      subst e
      exact h ha
theorem uniq_nodup {xs : List α} : xs.Nodup → uniq xs = xs := by
  induction xs using snoc_ind with
  | h0 => exact fun _ => rfl
  | h1 xs x ih =>
    intro h
    obtain ⟨h1, _, h3⟩ := List.nodup_append.mp h
    rw [uniq_snoc, ih h1]
    unfold add1
    rw [if_neg fun hx => h3 x hx x (by simp) rfl]
theorem kn_le_len (xs : List α) : kn xs ≤ xs.length := by
  induction xs using snoc_ind with
  | h0 => exact Nat.le_refl _
  | h1 xs x ih =>
    unfold kn at ih ⊢
    rw [uniq_snoc]
    unfold add1
    split <;> simp <;> omega
theorem nodup_of_kn {xs : List α} : kn xs = xs.length → xs.Nodup := by
  induction xs using snoc_ind with
  | h0 => exact fun _ => List.nodup_nil
  | h1 xs x ih =>
    intro h
    have hl := kn_le_len xs
    unfold kn at ih h hl
    rw [uniq_snoc] at h
    unfold add1 at h
    split at h
    · simp at h
      omega
    · rename_i hx
      simp at h
      refine List.nodup_append.mpr ⟨ih h, by simp, fun a ha b hb e => ?_⟩
      rw [List.mem_singleton] at hb
      subst hb
      subst e
      exact hx (mem_uniq.mpr ha)
theorem uniq_map (f : α → β) (xs : List α) : uniq (xs.map f) = uniq ((uniq xs).map f) := by
  induction xs using snoc_ind with
  | h0 => rfl
  | h1 xs x ih =>
    rw [List.map_append, List.map_singleton, uniq_snoc, ih, uniq_snoc (xs := xs)]
    by_cases hx : x ∈ uniq xs
    · rw [show add1 (uniq xs) x = uniq xs from if_pos hx]
      exact if_pos (mem_uniq.mpr (List.mem_map.mpr ⟨x, hx, rfl⟩))
    · rw [show add1 (uniq xs) x = uniq xs ++ [x] from if_neg hx, List.map_append, List.map_singleton, uniq_snoc]
theorem kn_map_le (f : α → β) (xs : List α) : kn (xs.map f) ≤ kn xs := by
  show (uniq (xs.map f)).length ≤ _
  rw [uniq_map]
  have := kn_le_len ((uniq xs).map f)
  rwa [List.length_map] at this
theorem idx_map {f : α → β} {u : List α} (hn : (u.map f).Nodup) {x : α} (hx : x ∈ u) : (u.map f).idxOf (f x) = u.idxOf x := by
  have hi := List.idxOf_lt_length_iff.mpr hx
  have e : (u.map f)[u.idxOf x]'(by rw [List.length_map]; exact hi) = f x := by rw [List.getElem_map, List.getElem_idxOf]
  rw [← e]
  exact hn.idxOf_getElem _ _
/-- where nothing is told apart any more, the numbers stay -/
theorem num_map {f : α → β} {xs : List α} (h : kn (xs.map f) = kn xs) : num (xs.map f) = num xs := by
  have hn : ((uniq xs).map f).Nodup := nodup_of_kn (by
    have e : kn ((uniq xs).map f) = kn (xs.map f) := by unfold kn; rw [uniq_map f xs]
    rw [e, h, List.length_map]
    rfl)
  unfold num
  rw [uniq_map, uniq_nodup hn, List.map_map]
  exact List.map_congr_left fun x hx => idx_map hn (mem_uniq.mpr hx)
theorem nodup_map_on {f : α → β} {u : List α} (hu : u.Nodup) (h : ∀ x ∈ u, ∀ y ∈ u, f x = f y → x = y) : (u.map f).Nodup := by
  induction u with
  | nil => exact List.nodup_nil
  | cons a u ih =>
    obtain ⟨h1, h2⟩ := List.nodup_cons.mp hu
    refine List.nodup_cons.mpr ⟨fun hm => ?_, ih h2 fun x hx y hy => h x (List.mem_cons_of_mem _ hx) y (List.mem_cons_of_mem _ hy)⟩
    obtain ⟨y, hy, e⟩ := List.mem_map.mp hm
    have := h y (List.mem_cons_of_mem _ hy) a List.mem_cons_self e
    subst this
    exact h1 hy
theorem kn_inj {f : α → β} {xs : List α} (h : ∀ x ∈ xs, ∀ y ∈ xs, f x = f y → x = y) : kn (xs.map f) = kn xs := by
  have hn : ((uniq xs).map f).Nodup := nodup_map_on (nodup_uniq xs) fun x hx y hy => h x (mem_uniq.mp hx) y (mem_uniq.mp hy)
  unfold kn
  rw [uniq_map, uniq_nodup hn, List.length_map]
theorem num_injL {f : α → β} {xs : List α} (h : ∀ x ∈ xs, ∀ y ∈ xs, f x = f y → x = y) : num (xs.map f) = num xs := num_map (kn_inj h)
theorem idx_inj {u : List α} {x y : α} (hx : x ∈ u) (hy : y ∈ u) (e : u.idxOf x = u.idxOf y) : x = y := by
  have e1 := List.getElem_idxOf (List.idxOf_lt_length_iff.mpr hx)
  have e2 := List.getElem_idxOf (List.idxOf_lt_length_iff.mpr hy)
  rw [← e1, ← e2]
  congr 1
theorem num_num (xs : List α) : num (num xs) = num xs := num_injL fun x hx y hy => idx_inj (mem_uniq.mpr hx) (mem_uniq.mpr hy)
theorem kn_num (xs : List α) : kn (num xs) = kn xs := kn_inj fun x hx y hy => idx_inj (mem_uniq.mpr hx) (mem_uniq.mpr hy)
theorem num_len (xs : List α) : (num xs).length = xs.length := List.length_map _
theorem uniq_idx {u : List α} (hu : u.Nodup) : u.map (fun x => u.idxOf x) = List.range u.length := by
  refine List.ext_getElem (by simp) fun i h1 h2 => ?_
  rw [List.getElem_map, List.getElem_range]
  exact hu.idxOf_getElem _ _
theorem uniq_num (xs : List α) : uniq (num xs) = List.range (kn xs) := by
  unfold num
  rw [uniq_map, uniq_idx (nodup_uniq xs), uniq_nodup List.nodup_range]
  rfl
theorem num_lt {xs : List α} {k : Nat} : k ∈ num xs ↔ k < kn xs := by rw [← mem_uniq, uniq_num, List.mem_range]
theorem num_get {xs : List α} {i : Nat} {x : α} (h : xs[i]? = some x) : (num xs)[i]? = some ((uniq xs).idxOf x) := by
  unfold num
  rw [List.getElem?_map, h]
  rfl
theorem num_snoc {xs : List α} {x : α} : num (xs ++ [x]) = num xs ++ [(add1 (uniq xs) x).idxOf x] := by
  unfold num
  rw [List.map_append, List.map_singleton, uniq_snoc]
  congr 1
  refine List.map_congr_left fun y hy => ?_
  unfold add1
  split
  · rfl
  · rw [List.idxOf_append, if_pos (mem_uniq.mpr hy)]
/-- numbers by numbers -/
theorem num_by {q : List Nat} {f : Nat → β} {K : Nat} (hq : uniq q = List.range K) : num (q.map f) = q.map fun k => (num ((List.range K).map f)).getD k 0 := by
  have hu : uniq (q.map f) = uniq ((List.range K).map f) := by rw [uniq_map, hq]
  unfold num
  rw [List.map_map, hu]
  refine List.map_congr_left fun k hk => ?_
  have hk' : k < K := by
    have := mem_uniq.mpr hk
    rw [hq] at this
    exact List.mem_range.mp this
  rw [List.getD_eq_getElem?_getD, List.getElem?_map, List.getElem?_map, List.getElem?_range hk']
  rfl
theorem few_le {xs : List Nat} {n : Nat} (h : ∀ x ∈ xs, x < n) : kn xs ≤ n := by
  by_cases hl : kn xs ≤ n
  · exact hl
  have p := perm_of_sub (l := (uniq xs).map fun k : Nat => (k : Int)) (r := rngI n) (nodup_map_on (nodup_uniq xs) fun x _ y _ e => Int.ofNat.inj e) (fun x hx => by
    obtain ⟨k, hk, rfl⟩ := List.mem_map.mp hx
    have := h k (mem_uniq.mp hk)
    exact mem_rngI.mpr ⟨by omega, by omega⟩) (by rw [rngI_length, List.length_map]; exact Nat.le_of_lt (by unfold kn at hl; omega))
  have := p.length_eq
  rw [rngI_length, List.length_map] at this
  unfold kn
  omega
theorem kn_pos {xs : List α} (h : xs ≠ []) : 1 ≤ kn xs := by
  cases xs with
  | nil => exact absurd rfl h
  | cons x xs =>
    have hm : x ∈ uniq (x :: xs) := mem_uniq.mpr List.mem_cons_self
    unfold kn
    exact List.length_pos_of_mem hm
/-- the greatest number -/
theorem num_max {xs : List α} {m : Nat} (hm : m ∈ num xs) (h : ∀ y ∈ num xs, y ≤ m) : m + 1 = kn xs := by
  have h1 := num_lt.mp hm
  have h2 := h (kn xs - 1) (num_lt.mpr (by omega))
  omega
end
end L3

namespace L3
open PySem PySem.Spec PyProof.Rows L2
/-! ### kinds of the nodes of a network -/
def behN (N : Net) (b : Bool) (i c : Nat) : Nat := (behind N b (i : Int) c).toNat
def inpS (N : Net) (b : Bool) : List Int := if b then N.wh else N.bl
def mkOf (N : Net) (s : Bool → List Nat) (b : Bool) (i : Nat) : List Nat := (s b).getD i 0 :: (List.range N.links.length).map fun c => (s (!b)).getD (behN N b i c) 0
def finS (N : Net) (s : Bool → List Nat) (b : Bool) : List Nat := num ((List.range N.many).map (mkOf N s b))
def stN (N : Net) : Nat → Bool → List Nat
  | 0 => fun b => num (inpS N b)
  | t + 1 => finS N (stN N t)
def kdN (N : Net) : Bool → List Nat := stN N (2 * N.many)
section
variable {N : Net} {c : Nat}
theorem beh_nat (g : Good N c) {b : Bool} {i k : Nat} (hi : i < N.many) (hk : k < c) : behind N b (i : Int) k = (behN N b i k : Int) ∧ behN N b i k < N.many := by
  obtain ⟨h0, h1⟩ := g.behind (b := b) hk (show (0 : Int) ≤ (i : Int) by omega) (by omega)
  unfold behN
  omega
theorem beh_back (g : Good N c) {b : Bool} {i k : Nat} (hi : i < N.many) (hk : k < c) : behN N (!b) (behN N b i k) k = i := by
  obtain ⟨_, o, _⟩ := g.link hk
  obtain ⟨e, h⟩ := beh_nat g (b := b) hi hk
  obtain ⟨e2, h2⟩ := beh_nat g (b := !b) h hk
  have goal : behind N (!b) (behN N b i k : Int) k = (i : Int) := by
    cases b with
    | true =>
      have hl : i < (N.links.getD k []).length := by rw [o.len]; exact hi
      have e' : (N.links.getD k []).getD i 0 = (behN N true i k : Int) := e
      show (((N.links.getD k []).idxOf (behN N true i k : Int) : Nat) : Int) = (i : Int)
      rw [← e', getD_el hl, o.nodup.idxOf_getElem]
    | false =>
      have hm : (i : Int) ∈ N.links.getD k [] := o.mem.mpr ⟨by omega, by omega⟩
      have hidx := List.idxOf_lt_length_iff.mpr hm
      have e' : (((N.links.getD k []).idxOf (i : Int) : Nat) : Int) = (behN N false i k : Int) := e
      show (N.links.getD k []).getD (behN N false i k : Int).toNat 0 = (i : Int)
      rw [Int.toNat_natCast, ← Int.ofNat.inj e', getD_el hidx, List.getElem_idxOf]
  omega
theorem inp_len (g : Good N c) (b : Bool) : (inpS N b).length = N.many := by
  cases b
  · exact g.b
  · exact g.w
theorem st_len (g : Good N c) (t : Nat) (b : Bool) : (stN N t b).length = N.many := by
  cases t with
  | zero => show (num (inpS N b)).length = _; rw [num_len, inp_len g]
  | succ t => show (num _).length = _; rw [num_len, List.length_map, List.length_range]
theorem st_num (t : Nat) (b : Bool) : num (stN N t b) = stN N t b := by
  cases t with
  | zero => exact num_num _
  | succ t => exact num_num _
theorem heads (g : Good N c) (t : Nat) (b : Bool) : ((List.range N.many).map (mkOf N (stN N t) b)).map (fun l => l.headD 0) = stN N t b := by
  refine List.ext_getElem (by simp [st_len g]) fun i h1 h2 => ?_
  rw [List.getElem_map, List.getElem_map, List.getElem_range]
  show (stN N t b).getD i 0 = _
  exact getD_el h2
theorem kn_up (g : Good N c) (t : Nat) (b : Bool) : kn (stN N t b) ≤ kn (stN N (t + 1) b) := by
  show _ ≤ kn (num _)
  rw [kn_num, ← heads g t b]
  exact kn_map_le _ _
theorem st_stay (g : Good N c) {t : Nat} {b : Bool} (h : kn (stN N (t + 1) b) = kn (stN N t b)) : stN N (t + 1) b = stN N t b := by
  have e : kn (stN N (t + 1) b) = kn ((List.range N.many).map (mkOf N (stN N t) b)) := kn_num _
  rw [← st_num t b, ← heads g t b]
  refine (num_map ?_).symm
  rw [heads g t b, ← h, e]
theorem kn_le (g : Good N c) (t : Nat) (b : Bool) : 1 ≤ kn (stN N t b) ∧ kn (stN N t b) ≤ N.many := by
  have h := kn_le_len (stN N t b)
  rw [st_len g] at h
  refine ⟨kn_pos fun e => ?_, h⟩
  have := st_len g t b
  rw [e] at this
  have m1 := g.m1
  simp at this
  omega
theorem st_same (g : Good N c) {t : Nat} (h : kn (stN N (t + 1) true) + kn (stN N (t + 1) false) ≤ kn (stN N t true) + kn (stN N t false)) : stN N (t + 1) = stN N t := by
  have h1 := kn_up g t true
  have h2 := kn_up g t false
  funext b
  cases b
  · exact st_stay g (by omega)
  · exact st_stay g (by omega)
theorem st_on {t : Nat} (h : stN N (t + 1) = stN N t) : ∀ {s : Nat}, t ≤ s → stN N s = stN N t := fun {s} hs => by
  induction hs with
  | refl => rfl
  | step _ ih =>
    show finS N (stN N _) = _
    rw [ih]
    exact h
theorem st_grow (g : Good N c) : ∀ t, stN N (t + 1) = stN N t ∨ t + 2 ≤ kn (stN N t true) + kn (stN N t false)
  | 0 => .inr (by have := kn_le g 0 true; have := kn_le g 0 false; omega)
  | t + 1 => by
    rcases st_grow g t with h | h
    · exact .inl (by show finS N (stN N (t + 1)) = _; rw [h]; exact h)
    · by_cases e : kn (stN N (t + 1) true) + kn (stN N (t + 1) false) ≤ kn (stN N t true) + kn (stN N t false)
      · have h := st_same g e
        exact .inl (by show finS N (stN N (t + 1)) = _; rw [h]; exact h)
      · exact .inr (by omega)
theorem kd_fix (g : Good N c) : finS N (kdN N) = kdN N := by
  rcases st_grow g (2 * N.many) with h | h
  · exact h
  · have := kn_le g (2 * N.many) true
    have := kn_le g (2 * N.many) false
    omega
theorem st_late (g : Good N c) {t : Nat} (h : 2 * N.many ≤ t) : stN N t = kdN N := st_on (kd_fix g) h
theorem st_end (g : Good N c) {t : Nat} (h : stN N (t + 1) = stN N t) : stN N t = kdN N := by
  rw [← st_on h (Nat.le_max_left t (2 * N.many)), st_late g (Nat.le_max_right _ _)]
/-- alike nodes have alike marks -/
theorem kd_len (g : Good N c) (b : Bool) : (kdN N b).length = N.many := st_len g _ b
theorem kd_num (b : Bool) : num (kdN N b) = kdN N b := st_num _ b
theorem num_eq {α : Type} [DecidableEq α] {xs : List α} {i j : Nat} (hi : i < xs.length) (hj : j < xs.length) : (num xs).getD i 0 = (num xs).getD j 0 ↔ xs[i] = xs[j] := by
  have h : ∀ {k : Nat} (hk : k < xs.length), (num xs).getD k 0 = (uniq xs).idxOf xs[k] := fun hk => by
    rw [List.getD_eq_getElem?_getD, num_get (List.getElem?_eq_getElem hk)]
    rfl
  rw [h hi, h hj]
  exact ⟨idx_inj (mem_uniq.mpr (List.getElem_mem hi)) (mem_uniq.mpr (List.getElem_mem hj)), fun e => by rw [e]⟩
theorem fin_eq {s : Bool → List Nat} {b : Bool} {i j : Nat} (hi : i < N.many) (hj : j < N.many) : (finS N s b).getD i 0 = (finS N s b).getD j 0 ↔ mkOf N s b i = mkOf N s b j := by
  have h := num_eq (xs := (List.range N.many).map (mkOf N s b)) (i := i) (j := j) (by simpa using hi) (by simpa using hj)
  rw [List.getElem_map, List.getElem_map, List.getElem_range, List.getElem_range] at h
  exact h
theorem kd_eq (g : Good N c) {b : Bool} {i j : Nat} (hi : i < N.many) (hj : j < N.many) (e : (kdN N b).getD i 0 = (kdN N b).getD j 0) {k : Nat} (hk : k < c) :
    (kdN N (!b)).getD (behN N b i k) 0 = (kdN N (!b)).getD (behN N b j k) 0 := by
  rw [← kd_fix g, fin_eq hi hj] at e
  injection e with _ e
  exact List.map_inj_left.mp e k (List.mem_range.mpr (by rw [g.l]; exact hk))
theorem kd_back (g : Good N c) {b : Bool} {i j : Nat} (hi : i < N.many) (hj : j < N.many) {k : Nat} (hk : k < c) (e : (kdN N (!b)).getD (behN N b i k) 0 = (kdN N (!b)).getD (behN N b j k) 0) : (kdN N b).getD i 0 = (kdN N b).getD j 0 := by
  have := kd_eq g (beh_nat g hi hk).2 (beh_nat g hj hk).2 e hk
  rw [Bool.not_not, beh_back g hi hk, beh_back g hj hk] at this
  exact this
theorem st_inp (g : Good N c) : ∀ (t : Nat) {b : Bool} {i j : Nat}, i < N.many → j < N.many → (stN N t b).getD i 0 = (stN N t b).getD j 0 → (inpS N b).getD i 0 = (inpS N b).getD j 0
  | 0, b, i, j, hi, hj, e => by
    rw [← inp_len g b] at hi hj
    rw [getD_el hi, getD_el hj]
    exact (num_eq hi hj).mp e
  | t + 1, b, i, j, hi, hj, e => by
    have e2 := (fin_eq (N := N) (s := stN N t) (b := b) hi hj).mp e
    injection e2 with e2 _
    exact st_inp g t hi hj e2
theorem inp_get {b : Bool} {i : Nat} : inp N b (i : Int) = (inpS N b).getD i 0 := by
  unfold inp inpS
  rw [Int.toNat_natCast]
theorem kd_inp (g : Good N c) {b : Bool} {i j : Nat} (hi : i < N.many) (hj : j < N.many) (e : (kdN N b).getD i 0 = (kdN N b).getD j 0) : inp N b (i : Int) = inp N b (j : Int) := by
  rw [inp_get, inp_get]
  exact st_inp g _ hi hj e
theorem kd_view (g : Good N c) : ∀ (r : Nat) (b : Bool) (i j : Nat) (back : Int), i < N.many → j < N.many → (kdN N b).getD i 0 = (kdN N b).getD j 0 → viewD N r b (i : Int) back = viewD N r b (j : Int) back
  | 0, b, i, j, back, hi, hj, e => by
    show D.tup [.int _] = D.tup [.int _]
    rw [kd_inp g hi hj e]
  | r + 1, b, i, j, back, hi, hj, e => by
    rw [viewD_succ, viewD_succ, kd_inp g hi hj e]
    refine congrArg (fun ys => D.tup [.int (inp N b (j : Int)), .tup ys]) (List.map_congr_left fun k hk => ?_)
    have hk' : k < c := by rw [← g.l]; exact List.mem_range.mp hk
    obtain ⟨e1, h1⟩ := beh_nat g (b := b) hi hk'
    obtain ⟨e2, h2⟩ := beh_nat g (b := b) hj hk'
    unfold partD
    split
    · rfl
    · rw [e1, e2]
      exact kd_view g r (!b) _ _ _ h1 h2 (kd_eq g hi hj e hk')
/-! ### the network of the kinds -/
def firN (N : Net) (b : Bool) (k : Nat) : Nat := (kdN N b).idxOf k
def baseK (N : Net) : Nat := kn (kdN N true)
def baseN (N : Net) : Net := ⟨baseK N, (List.range N.links.length).map fun c => (List.range (baseK N)).map fun k => ((kdN N false).getD (behN N true (firN N true k) c) 0 : Int),
  (List.range (baseK N)).map fun k => (inpS N true).getD (firN N true k) 0, (List.range (baseK N)).map fun k => (inpS N false).getD (firN N false k) 0⟩
theorem kn_side (g : Good N c) (c1 : 1 ≤ c) (b : Bool) : kn (kdN N b) ≤ kn (kdN N (!b)) := by
  let xs := (List.range N.many).map fun i => ((kdN N b).getD i 0, (kdN N (!b)).getD (behN N b i 0) 0)
  have e1 : xs.map Prod.fst = kdN N b := by
    refine List.ext_getElem (by simp [xs, kd_len g]) fun i h1 h2 => ?_
    simp only [xs, List.getElem_map, List.getElem_range]
    exact getD_el h2
  have h1 : kn (xs.map Prod.snd) = kn xs := kn_inj fun x hx y hy e => by
    obtain ⟨i, hi, rfl⟩ := List.mem_map.mp hx
    obtain ⟨j, hj, rfl⟩ := List.mem_map.mp hy
    exact Prod.ext (kd_back g (List.mem_range.mp hi) (List.mem_range.mp hj) c1 e) e
  rw [← e1]
  refine Nat.le_trans (kn_map_le _ _) (h1 ▸ few_le fun x hx => ?_)
  obtain ⟨y, hy, rfl⟩ := List.mem_map.mp hx
  obtain ⟨i, hi, rfl⟩ := List.mem_map.mp hy
  show (kdN N (!b)).getD (behN N b i 0) 0 < _
  have hb := (beh_nat g (b := b) (List.mem_range.mp hi) c1).2
  rw [← kd_len g (!b)] at hb
  have := getD_in (d := 0) hb
  rw [← kd_num, num_lt] at this
  rw [kd_num] at this
  exact this
theorem kn_both (g : Good N c) (c1 : 1 ≤ c) (b : Bool) : kn (kdN N b) = baseK N := by
  cases b with
  | true => rfl
  | false => exact Nat.le_antisymm (kn_side g c1 false) (kn_side g c1 true)
theorem kd_lt (g : Good N c) (c1 : 1 ≤ c) {b : Bool} {i : Nat} (hi : i < N.many) : (kdN N b).getD i 0 < baseK N := by
  rw [← kd_len g b] at hi
  have := getD_in (d := 0) hi
  rw [← kd_num, num_lt, kn_both g c1] at this
  rw [kd_num] at this
  exact this
theorem fir_lt (g : Good N c) (c1 : 1 ≤ c) {b : Bool} {k : Nat} (hk : k < baseK N) : firN N b k < N.many ∧ (kdN N b).getD (firN N b k) 0 = k := by
  have hm : k ∈ kdN N b := by
    rw [← kd_num, num_lt, kn_both g c1]
    exact hk
  have hi := List.idxOf_lt_length_iff.mpr hm
  refine ⟨by rw [← kd_len g b]; exact hi, ?_⟩
  show (kdN N b).getD ((kdN N b).idxOf k) 0 = k
  rw [getD_el hi, List.getElem_idxOf]
theorem base_row (g : Good N c) (c1 : 1 ≤ c) {k : Nat} (hk : k < c) : Ord (baseK N) ((List.range (baseK N)).map fun i => ((kdN N false).getD (behN N true (firN N true i) k) 0 : Int)) := by
  refine ord_of (by simp) (fun x hx => ?_) (nodup_range_map fun i j hi hj e => ?_)
  · obtain ⟨i, hi, rfl⟩ := List.mem_map.mp hx
    have := kd_lt g c1 (b := false) (beh_nat g (b := true) (fir_lt g c1 (b := true) (List.mem_range.mp hi)).1 hk).2
    omega
  · obtain ⟨h1, e1⟩ := fir_lt g c1 (b := true) hi
    obtain ⟨h2, e2⟩ := fir_lt g c1 (b := true) hj
    have := kd_back g (b := true) h1 h2 hk (Int.ofNat.inj e)
    rw [e1, e2] at this
    exact this
theorem baseK_le (g : Good N c) : 1 ≤ baseK N ∧ baseK N ≤ N.many := kn_le g _ true
theorem base_gd (gd : Gd N c) : Gd (baseN N) c := by
  have g := gd.g
  have c1 : 1 ≤ c := by have := gd.c2; omega
  obtain ⟨k1, k2⟩ := baseK_le g
  have m2 := g.m2
  have sd : ∀ (b : Bool) {P : Int → Prop}, (∀ x ∈ inpS N b, P x) → ∀ x ∈ (List.range (baseK N)).map (fun k => (inpS N b).getD (firN N b k) 0), P x := fun b P h x hx => by
    obtain ⟨k, hk, rfl⟩ := List.mem_map.mp hx
    exact h _ (getD_in (by rw [inp_len g]; exact (fir_lt g c1 (List.mem_range.mp hk)).1))
  refine ⟨⟨k1, Nat.le_trans k2 m2, g.c4, by simp [baseN, g.l], fun l hl => ?_, by simp [baseN], by simp [baseN], sd true g.iw, sd false g.ib⟩, gd.c2, sd true gd.w4, sd false gd.b4⟩
  obtain ⟨k, hk, rfl⟩ := List.mem_map.mp hl
  exact base_row g c1 (by rw [← g.l]; exact List.mem_range.mp hk)
theorem base_link (g : Good N c) {k : Nat} (hk : k < c) : (baseN N).links.getD k [] = (List.range (baseK N)).map fun i => ((kdN N false).getD (behN N true (firN N true i) k) 0 : Int) := getD_rng (by rw [g.l]; exact hk)
theorem base_beh (gd : Gd N c) {b : Bool} {i k : Nat} (hi : i < N.many) (hk : k < c) : behN (baseN N) b ((kdN N b).getD i 0) k = (kdN N (!b)).getD (behN N b i k) 0 := by
  have g := gd.g
  have c1 : 1 ≤ c := by have := gd.c2; omega
  have fwd : ∀ {i : Nat}, i < N.many → behN (baseN N) true ((kdN N true).getD i 0) k = (kdN N false).getD (behN N true i k) 0 := fun {i} hi => by
    have hlt := kd_lt g c1 (b := true) hi
    obtain ⟨h1, e1⟩ := fir_lt g c1 (b := true) hlt
    show (((baseN N).links.getD k []).getD ((kdN N true).getD i 0 : Int).toNat 0).toNat = _
    rw [base_link g hk, Int.toNat_natCast, getD_rng hlt, Int.toNat_natCast]
    exact kd_eq g (b := true) h1 hi e1 hk
  cases b with
  | true => exact fwd hi
  | false =>
    obtain ⟨_, h⟩ := beh_nat g (b := false) hi hk
    have e := fwd h
    have hb : behN N true (behN N false i k) k = i := beh_back g (b := false) hi hk
    rw [hb] at e
    rw [← e]
    exact beh_back (base_gd gd).g (b := true) (kd_lt g c1 h) hk
theorem kd_uniq (g : Good N c) (c1 : 1 ≤ c) (b : Bool) : uniq (kdN N b) = List.range (baseK N) := by
  rw [← kd_num, uniq_num, kn_both g c1]
theorem st_base (gd : Gd N c) : ∀ (t : Nat) (b : Bool), stN N t b = (kdN N b).map fun k => (stN (baseN N) t b).getD k 0 := by
  have g := gd.g
  have c1 : 1 ≤ c := by have := gd.c2; omega
  intro t
  induction t with
  | zero =>
    intro b
    have e1 : inpS N b = (kdN N b).map fun k => (inpS N b).getD (firN N b k) 0 := by
      refine List.ext_getElem (by simp [inp_len g, kd_len g]) fun i h1 h2 => ?_
      have hi : i < N.many := by rw [← inp_len g b]; exact h1
      have hk : i < (kdN N b).length := by rw [kd_len g]; exact hi
      rw [List.getElem_map]
      have e := getD_el (d := 0) hk
      obtain ⟨f1, f2⟩ := fir_lt g c1 (b := b) (kd_lt g c1 (b := b) hi)
      have := kd_inp g (b := b) f1 hi f2
      rw [inp_get, inp_get] at this
      rw [← e, this, getD_el h1]
    have e2 : inpS (baseN N) b = (List.range (baseK N)).map fun k => (inpS N b).getD (firN N b k) 0 := by cases b <;> rfl
    show num (inpS N b) = (kdN N b).map fun k => (num (inpS (baseN N) b)).getD k 0
    rw [e2]
    conv => lhs; rw [e1]
    exact num_by (kd_uniq g c1 b)
  | succ t ih =>
    intro b
    have lb : (baseN N).links.length = N.links.length := by simp [baseN]
    have get : ∀ (b : Bool) {i : Nat}, i < N.many → (stN N t b).getD i 0 = (stN (baseN N) t b).getD ((kdN N b).getD i 0) 0 := fun b {i} hi => by
      have hk : i < (kdN N b).length := by rw [kd_len g]; exact hi
      rw [ih b, List.getD_eq_getElem?_getD, List.getElem?_map, List.getElem?_eq_getElem hk, getD_el hk]
      rfl
    have e1 : (List.range N.many).map (mkOf N (stN N t) b) = (kdN N b).map (mkOf (baseN N) (stN (baseN N) t) b) := by
      refine List.ext_getElem (by simp [kd_len g]) fun i h1 h2 => ?_
      have hi : i < N.many := by simpa using h1
      have hk : i < (kdN N b).length := by rw [kd_len g]; exact hi
      rw [List.getElem_map, List.getElem_map, List.getElem_range, ← getD_el (d := 0) hk]
      unfold mkOf
      rw [get b hi, lb]
      refine congrArg _ (List.map_congr_left fun k hk => ?_)
      have hk' : k < c := by rw [← g.l]; exact List.mem_range.mp hk
      rw [get (!b) (beh_nat g (b := b) hi hk').2, base_beh gd hi hk']
    show num _ = (kdN N b).map fun k => (num ((List.range (baseK N)).map (mkOf (baseN N) (stN (baseN N) t) b))).getD k 0
    rw [e1]
    exact num_by (kd_uniq g c1 b)
/-- the kinds of the network of the kinds are all unlike -/
theorem base_kd (gd : Gd N c) (b : Bool) : kdN (baseN N) b = List.range (baseK N) := by
  have g := gd.g
  have c1 : 1 ≤ c := by have := gd.c2; omega
  have gb := (base_gd gd).g
  have e := st_base gd (2 * N.many) b
  have hl : 2 * (baseN N).many ≤ 2 * N.many := Nat.mul_le_mul_left 2 (baseK_le g).2
  rw [st_late gb hl] at e
  refine List.ext_getElem (by rw [kd_len gb]; simp [baseN]) fun k h1 h2 => ?_
  have hk : k < baseK N := by simpa using h2
  rw [List.getElem_range]
  obtain ⟨f1, f2⟩ := fir_lt g c1 (b := b) hk
  have hf : firN N b k < (kdN N b).length := by rw [kd_len g]; exact f1
  have e2 := congrArg (fun l => l.getD (firN N b k) 0) e
  rw [List.getD_eq_getElem?_getD (l := List.map _ _), List.getElem?_map, List.getElem?_eq_getElem hf, ← getD_el (d := 0) hf, f2] at e2
  have e3 : (kdN N b).getD (firN N b k) 0 = (kdN (baseN N) b).getD k 0 := e2
  rw [f2, getD_el h1] at e3
  exact e3.symm
theorem base_base (gd : Gd N c) : baseN (baseN N) = baseN N := by
  have g := gd.g
  have gb := base_gd gd
  have hK : baseK (baseN N) = baseK N := by
    unfold baseK
    rw [base_kd gd, kn, uniq_nodup List.nodup_range, List.length_range]
    rfl
  have hf : ∀ (b : Bool) {k : Nat}, k < baseK N → firN (baseN N) b k = k := fun b {k} hk => by
    unfold firN
    rw [base_kd gd]
    have := (List.nodup_range (n := baseK N)).idxOf_getElem k (by simpa using hk)
    rwa [List.getElem_range] at this
  have side : ∀ (b : Bool), ((List.range (baseK (baseN N))).map fun k => (inpS (baseN N) b).getD (firN (baseN N) b k) 0) = inpS (baseN N) b := fun b => by
    refine List.ext_getElem (by rw [inp_len gb.g, List.length_map, List.length_range, hK]; rfl) fun i h1 h2 => ?_
    have hi : i < baseK N := by rw [← hK]; simpa using h1
    rw [List.getElem_map, List.getElem_range, hf b hi, getD_el h2]
  have lk : ((List.range (baseN N).links.length).map fun c => (List.range (baseK (baseN N))).map fun k => ((kdN (baseN N) false).getD (behN (baseN N) true (firN (baseN N) true k) c) 0 : Int)) = (baseN N).links := by
    refine List.ext_getElem (by simp) fun i h1 h2 => ?_
    have hi : i < c := by rw [← gb.g.l]; exact h2
    rw [List.getElem_map, List.getElem_range]
    obtain ⟨hin, o, _⟩ := gb.g.link hi
    have e := getD_el (d := []) h2
    rw [← e]
    refine List.ext_getElem (by rw [o.len, List.length_map, List.length_range, hK]; rfl) fun k h3 h4 => ?_
    have hk : k < baseK N := by rw [← hK]; simpa using h3
    rw [List.getElem_map, List.getElem_range, hf true hk, base_kd gd]
    obtain ⟨e5, h5⟩ := beh_nat gb.g (b := true) (i := k) hk hi
    have e6 : (List.range (baseK N)).getD (behN (baseN N) true k i) 0 = behN (baseN N) true k i := by
      rw [getD_el (by rw [List.length_range]; exact h5), List.getElem_range]
    rw [e6, ← e5]
    show ((baseN N).links.getD i []).getD (k : Int).toNat 0 = _
    rw [Int.toNat_natCast, getD_el h4]
  have e : baseN (baseN N) = ⟨baseK (baseN N), (List.range (baseN N).links.length).map fun c => (List.range (baseK (baseN N))).map fun k => ((kdN (baseN N) false).getD (behN (baseN N) true (firN (baseN N) true k) c) 0 : Int),
    (List.range (baseK (baseN N))).map fun k => (inpS (baseN N) true).getD (firN (baseN N) true k) 0, (List.range (baseK (baseN N))).map fun k => (inpS (baseN N) false).getD (firN (baseN N) false k) 0⟩ := rfl
  rw [e, lk, side true, side false, hK]
  rfl
end
end L3

namespace L3
open PySem PySem.Spec PyProof.Rows L2
/-! ### a, b = x, y: two names, stored from the right -/
section
variable {X : Cx} {a b : Expr} {pos px py pt : Pos} {u : A3}
def s3Par (i j : Nat) (u : A3) : S3 := fun W D env M => u W env M fun ds M1 => match ds with
  | [d, e] => D.nx ((env.set i (some d)).set j (some e)) M1
  | _ => False
theorem ds_par {i j : Nat} {x y : Str} {kt k2 : Nat} {pt2 : Pos} (hc : X.calm = true) (hN : X.N.Nodup) (ha : DA X [a, b] u) (hi : X.N[i]? = some x := by rfl) (hj : X.N[j]? = some y := by rfl) (hij : i ≠ j := by decide)
    (hx : X.env.scope.names.lookup x = some .local := by rfl) (hy : X.env.scope.names.lookup y = some .local := by rfl)
    (hw : swappedStores [.Tuple [.Name x px, .Name y py] kt pt] (.Tuple [a, b] k2 pt2) X.env = pure (some [x, y]) := by rfl)
    (hs : swapsWithSole [.Tuple [.Name x px, .Name y py] kt pt] (.Tuple [a, b] k2 pt2) pos.line X.env = pure false := by rfl) :
    DS X (.Assign [.Tuple [.Name x px, .Name y py] kt pt] (.Tuple [a, b] k2 pt2) pos) (s3Par i j u) := fun W2 tk hp => (ps_par hc hN hi hj hij hx hy (ha W2 tk) hw hs).imp fun D2 σ H ⟨env, M, W, D3, s, a, l, q, le⟩ =>
  ⟨env, M, W, _, s, a, l, q, fun ds vs H1 M1 t1 a1 r1 q1 => by
    split at q1
    · obtain ⟨v, w', rfl, r2, r3⟩ := r1.cons_inv
      obtain ⟨w, r', rfl, r4, r5⟩ := r3.cons_inv
      cases r5.nil_inv
      exact ⟨v, w, rfl, le.nx _ H1 _ M1 t1 (((s.mono t1).set i r2).set j r4) a1 q1⟩
    · exact q1.elim⟩
end
end L3

namespace My
open PySem PySem.Spec PyProof.Rows L2 L3
def nums (l : List Nat) : List D := l.map fun n : Nat => .int (n : Int)
def natT (l : List Nat) : D := .tup (nums l)
def mkD (p : Nat × List Nat) : D := .tup [.int (p.1 : Int), .tup (nums p.2)]
def kdD (N : Net) : D := .tup [.tup (nums (kdN N true)), .tup (nums (kdN N false))]
def backNs (N : Net) (b : Bool) (k : Nat) : List D := (List.range N.many).map fun i : Nat => .int (behN N b i k : Int)
def sp_is_number (G : Gm) : Sp3 := spIsNumber
def sp_are_inputs (G : Gm) : Sp3 := fun ds M Q _ => ∃ (d : D) (n b : Int), ds = [d, .int n, .int b] ∧ Vk M d ∧ Q (.bl (insOk n b d)) M
def sp_are_links (G : Gm) : Sp3 := fun ds M Q _ => ∃ (d : D) (n : Int), ds = [d, .int n] ∧ Vk M d ∧ n ≤ 1000 ∧ Q (.bl (rowOk n d)) M
def sp_check_plain (G : Gm) : Sp3 := fun ds M Q E => ∃ d, ds = [d] ∧ Vk M d ∧ W5 d ∧ (netOk d = true → Q .non M) ∧ (netOk d = false → E (.ref G.BadNetwork) none M)
def sp_back_links (G : Gm) : Sp3 := fun ds M Q _ => ∃ (N : Net) (c : Nat), ds = [netD N] ∧ Gd N c ∧
  ∀ (p : Addr) (qs : List Addr) (M' : MH), Sub M M' → M' p = some (.lst (qs.map D.ref)) → qs.length = c → (∀ (i : Nat) (q : Addr), qs[i]? = some q → M' q = some (.lst (backL N i))) → Q (.ref p) M'
def sp_numbered (G : Gm) : Sp3 := fun ds M Q _ => ∃ (x : D) (es : List D), ds = [x] ∧ Seq3 M es x ∧ es.length ≤ 1000 ∧
  ((∃ xs : List Int, es = xs.map D.int ∧ ∀ p, M p = none → Q (.ref p) (updM M p (.lst (nums (num xs))))) ∨ ∃ xs : List (List Nat), es = xs.map natT ∧ ∀ p, M p = none → Q (.ref p) (updM M p (.lst (nums (num xs)))))
def sp_finer (G : Gm) : Sp3 := fun ds M Q _ => ∃ (N : Net) (c : Nat) (b : Bool) (s : Bool → List Nat) (pw pb : Addr) (x : D) (rs : List D), ds = [.ref pw, .ref pb, x] ∧ Good N c ∧ (∀ b, (s b).length = N.many) ∧ LstM M pw (nums (s b)) ∧ LstM M pb (nums (s (!b))) ∧
  Seq3 M rs x ∧ rs.length = c ∧ (∀ k r, rs[k]? = some r → Seq3 M (backNs N b k) r) ∧ ∀ p, M p = none → Q (.ref p) (updM M p (.lst (nums (finS N s b))))
def sp_kinds (G : Gm) : Sp3 := fun ds M Q E => ∃ d, ds = [d] ∧ Vk M d ∧ W5 d ∧ (netOk d = false → E (.ref G.BadNetwork) none M) ∧ (netOk d = true → ∃ N c, d = netD N ∧ Gd N c ∧ Q (kdD N) M)
def sp_first_of (G : Gm) : Sp3 := fun ds M Q _ => ∃ (N : Net) (c : Nat) (b : Bool), ds = [.tup (nums (kdN N b))] ∧ Gd N c ∧ ∀ p, M p = none → Q (.ref p) (updM M p (.lst (nums ((List.range (baseK N)).map (firN N b)))))
def sp_base_of (G : Gm) : Sp3 := fun ds M Q E => ∃ d, ds = [d] ∧ Vk M d ∧ W5 d ∧ (netOk d = false → E (.ref G.BadNetwork) none M) ∧ (netOk d = true → ∃ N c, d = netD N ∧ Gd N c ∧ Q (netD (baseN N)) M)
def sp_law_draws (G : Gm) : Sp3 := spDraws
def sp_law_take (G : Gm) : Sp3 := spTakeD
def sp_law_whole (G : Gm) : Sp3 := spWhole
def sp_law_behind (G : Gm) : Sp3 := fun ds M Q _ => ∃ (N : Net) (c : Nat) (b : Bool) (k : Int) (i : Nat), ds = [netD N, sideI b, .int k, .int ((i : Int) + 1)] ∧ Good N c ∧ 0 ≤ k ∧ k < N.many ∧ i < c ∧ Q (.int (behind N b k i)) M
def sp_law_branch (G : Gm) : Sp3 := spView2 4
def spLk (n : Nat) : Sp3 := fun ds M Q _ => ∃ d, ds = [d, d] ∧ Pl n d ∧ Q (.bl true) M
def sp_law_like (G : Gm) : Sp3 := spLk 4
def sp_law_order (G : Gm) : Sp3 := spOrder
def sp_law_network (G : Gm) : Sp3 := fun ds M Q _ => ∃ (h d : Addr) (n : Int) (c m : Nat) (p q : Int), ds = [.ref h, .int (c : Int), .int (m : Int), .int p, .int q] ∧ HandD M h d n ∧ 2 ≤ c ∧ c ≤ 4 ∧ 1 ≤ m ∧ m ≤ 400 ∧ 1 ≤ p ∧ p ≤ 4 ∧ 1 ≤ q ∧ q ≤ 4 ∧ ∀ N n', Gd N c → N.many = m → 0 ≤ n' → Q (netD N) (setH M h d n')
def sp_law_turns (G : Gm) : Sp3 := fun ds M Q _ => ∃ (h d : Addr) (n : Int) (N : Net) (c s : Nat), ds = [.ref h, netD N, .int (s : Int)] ∧ HandD M h d n ∧ Good N c ∧ 1 ≤ s ∧ s ≤ 1000 ∧ ∀ T n', Tn T c N.many s → 0 ≤ n' → Q (turnsD T) (setH M h d n')
def sp_law_cover (G : Gm) : Sp3 := fun ds M Q _ => ∃ (N : Net) (c s : Nat) (T : List (List (List Int))), ds = [netD N, turnsD T] ∧ Gd N c ∧ Tn T c N.many s ∧ 1 ≤ s ∧ N.many * s ≤ 400 ∧ ∀ N', Gd N' c → N'.many = N.many * s → Q (netD N') M
def sp_law_mixed_up (G : Gm) : Sp3 := fun ds M Q _ => ∃ (h d : Addr) (n : Int) (N : Net) (c : Nat), ds = [.ref h, netD N] ∧ HandD M h d n ∧ Gd N c ∧ ∀ N' n', Gd N' c → N'.many = N.many → 0 ≤ n' → Q (netD N') (setH M h d n')
def sp_law_copies (G : Gm) : Sp3 := fun ds M Q _ => ∃ (h d : Addr) (n p q : Int) (c : Nat), ds = [.ref h, .int (c : Int), .int p, .int q, .int 3] ∧ HandD M h d n ∧ 2 ≤ c ∧ c ≤ 4 ∧ 1 ≤ p ∧ p ≤ 4 ∧ 1 ≤ q ∧ q ≤ 4 ∧ ∀ N n', Gd N c → N.many ≤ 9 → 0 ≤ n' → Q (netD N) (setH M h d n')
def sp_law_wrong_network (G : Gm) : Sp3 := fun ds M Q _ => ∃ (h d : Addr) (n : Int) (N : Net) (c : Nat), ds = [.ref h, netD N] ∧ HandD M h d n ∧ Gd N c ∧ N.many ≤ 100 ∧ ∀ x M' n', Sub (setH M h d n') M' → 0 ≤ n' → Vk M' x → W5 x → netOk x = false → Q x M'
def sp_law_counted (G : Gm) : Sp3 := fun ds M Q _ => ∃ (p : Addr) (es : List D), ds = [.ref p] ∧ LstM M p es ∧ es.length ≤ 1000 ∧
  ((∃ xs : List Int, es = xs.map D.int ∧ ∀ q, M q = none → Q (.ref q) (updM M q (.lst (nums (num xs))))) ∨ ∃ xs : List (Nat × List Nat), es = xs.map mkD ∧ ∀ q, M q = none → Q (.ref q) (updM M q (.lst (nums (num xs)))))
def sp_law_kinds (G : Gm) : Sp3 := fun ds M Q _ => ∃ (N : Net) (c : Nat), ds = [netD N] ∧ Gd N c ∧ N.many ≤ 100 ∧ Q (kdD N) M
def sp_law_base (G : Gm) : Sp3 := fun ds M Q _ => ∃ (N : Net) (c : Nat), ds = [netD N] ∧ Gd N c ∧ N.many ≤ 100 ∧ Q (netD (baseN N)) M
def sp_law_refused (G : Gm) : Sp3 := fun ds M Q _ => ∃ (d : D) (v : Bool), ds = [d, .bl v] ∧ Vk M d ∧ W5 d ∧ netOk d = false ∧ Q (.bl true) M
def sp_law_alike_views (G : Gm) : Sp3 := fun ds M Q _ => ∃ (N : Net) (c : Nat), ds = [netD N, kdD N] ∧ Gd N c ∧ N.many ≤ 100 ∧ Q (.bl true) M
def sp_law_right (G : Gm) : Sp3 := fun ds M Q _ => ∃ (N : Net) (c : Nat), ds = [netD N] ∧ Gd N c ∧ N.many ≤ 100 ∧ Q (.bl true) M
def sp_law_asked (G : Gm) : Sp3 := spLaw3 63
def sp_law (G : Gm) : Sp3 := spLaw3 63
end My

namespace My
open PySem PySem.Spec PyProof.Rows L2 L3

variable {P : Program} {w : World} {G : Gm} {mg : Str → Option Value} {base : Heap}
def t_is_number (G : Gm) : S3 :=
    (s3Ret (e3And (e3CB c3Isi (a3Cons (e3Var 0) (a3Cons (e3C (.ty "int")) a3Nil))) (e3And (e3Not (e3CB c3Isi (a3Cons (e3Var 0) (a3Cons (e3C (.ty "bool")) a3Nil)))) (e3Chain r3Le r3Le (e3Var 1) (e3Var 0) (e3Var 2)))))
theorem der_is_number (T : Txt G mg) (f : Addr) (cdv : Value) (A : Around) (outer : List Env) (s : Shared) (H : Hp) (E : XK) (hr : RoomG 0 (A.deeper (envOfC "is_number" (defScope s_is_number) s.heap.objs.size f cdv))) :
    DSs (cxOf (L2.CX P w) P w G.K mg base N_is_number "is_number" (defScope s_is_number) f cdv A outer s H E) (defBody s_is_number) (t_is_number G) :=
    (dss_one (ds_ret (d_and (d_isi T.n_isinstance (da_cons (dv 0) (da_cons (d_ty (n := "int") rfl T.n_int (by decide +kernel)) da_nil))) (d_and (d_not (d_isi T.n_isinstance (da_cons (dv 0) (da_cons (d_ty (n := "bool") rfl T.n_bool (by decide +kernel)) da_nil)))) (d_one (d_chain op_le opl_Le op_le opl_Le (dv 1) (dv 0) (dv 2)))))))
def t_back_links (G : Gm) : S3 :=
    (s3Seq (s3Asg (e3Lst a3Nil) 1)
    (s3Seq (s3For (i3Seq (e3Op r3Ix (e3Var 0) (e3C (.int 2)))) (g3Name 2) (s3Seq (s3Asg (e3Op r3Mul (e3Lst (a3Cons (e3C (.int 0)) a3Nil)) (e3Op r3Ix (e3Var 0) (e3C (.int 1)))) 3)
    (s3Seq (s3For (i3Enum (a3Cons (e3Var 2) a3Nil)) (g3Tup 2 (g3sCons (g3Name 4) (g3sCons (g3Name 5) g3sNil))) (s3AsgG (e3Var 4) (g3SubL (e3Var 3) (e3Var 5))))
    (s3Expr (e3Bm m3App (e3Var 1) (a3Cons (e3Var 3) a3Nil))))))
    (s3Ret (e3Var 1))))
theorem der_back_links (T : Txt G mg) (f : Addr) (cdv : Value) (A : Around) (outer : List Env) (s : Shared) (H : Hp) (E : XK) (hr : RoomG 0 (A.deeper (envOfC "back_links" (defScope s_back_links) s.heap.objs.size f cdv))) :
    DSs (cxOf (L2.CX P w) P w G.K mg base N_back_links "back_links" (defScope s_back_links) f cdv A outer s H E) (defBody s_back_links) (t_back_links G) :=
    (dss_cons (ds_set (i := 1) sc_back_links.nd (d_lst da_nil))
    (dss_cons (ds_for rfl (di_seq (d_ix (dv 0) d_int)) (dg_name (i := 2) sc_back_links.nd) (dss_cons (ds_set (i := 3) sc_back_links.nd (d_mul (d_lst (da_cons d_int da_nil)) (d_ix (dv 0) d_int)))
    (dss_cons (ds_for rfl (di_enumerate T.n_enumerate (da_cons (dv 2) da_nil)) (dg_tup rfl (dgs_cons (dg_name (i := 4) sc_back_links.nd) (dgs_cons (dg_name (i := 5) sc_back_links.nd) dgs_nil))) (dss_one (ds_asg (dv 4) (dg_subL (dv 3) (dv 5)))))
    (dss_one (ds_expr (d_append (dv 1) (da_cons (dv 3) da_nil)))))))
    (dss_one (ds_ret (dv 1)))))
def t_numbered (G : Gm) : S3 :=
    (s3Seq (s3Asg e3DNewX 1)
    (s3Seq (s3Asg (e3Lst a3Nil) 2)
    (s3Seq (s3For (i3Seq (e3Var 0)) (g3Name 3) (s3Seq (s3If (t3Test (e3Op (r3InX true) (e3Var 3) (e3Var 1))) (s3AsgG (e3CB c3LenD (a3Cons (e3Var 1) a3Nil)) (g3SubX (e3Var 1) (e3Var 3))) s3Nil)
    (s3Expr (e3Bm m3App (e3Var 2) (a3Cons (e3Op r3IxX (e3Var 1) (e3Var 3)) a3Nil)))))
    (s3Ret (e3Var 2)))))
theorem der_numbered (T : Txt G mg) (f : Addr) (cdv : Value) (A : Around) (outer : List Env) (s : Shared) (H : Hp) (E : XK) (hr : RoomG 0 (A.deeper (envOfC "numbered" (defScope s_numbered) s.heap.objs.size f cdv))) :
    DSs (cxOf (L2.CX P w) P w G.K mg base N_numbered "numbered" (defScope s_numbered) f cdv A outer s H E) (defBody s_numbered) (t_numbered G) :=
    (dss_cons (ds_set (i := 1) sc_numbered.nd d_dnewX)
    (dss_cons (ds_set (i := 2) sc_numbered.nd (d_lst da_nil))
    (dss_cons (ds_for rfl (di_seq (dv 0)) (dg_name (i := 3) sc_numbered.nd) (dss_cons (ds_if (t_cmp (ho_notinX hr.r) opl_inX (dv 3) (dv 1)) (dss_one (ds_asg (d_lenD T.n_len (da_cons (dv 1) da_nil)) (dg_subX hr.r (dv 1) (dv 3)))) dss_nil)
    (dss_one (ds_expr (d_append (dv 2) (da_cons (d_ixX hr.r (dv 1) (dv 3)) da_nil))))))
    (dss_one (ds_ret (dv 2))))))
def t_first_of (G : Gm) : S3 :=
    (s3Ret (e3Lc (i3Rng1 (a3Cons (e3Op r3Add (e3CB c3MaxL (a3Cons (e3Var 0) a3Nil)) (e3C (.int 1))) a3Nil)) 1 t3Yes (e3Tm m3Tix (e3Var 0) (a3Cons (e3Var 1) a3Nil)) [1]))
theorem der_first_of (T : Txt G mg) (f : Addr) (cdv : Value) (A : Around) (outer : List Env) (s : Shared) (H : Hp) (E : XK) (hr : RoomG 0 (A.deeper (envOfC "first_of" (defScope s_first_of) s.heap.objs.size f cdv))) :
    DSs (cxOf (L2.CX P w) P w G.K mg base N_first_of "first_of" (defScope s_first_of) f cdv A outer s H E) (defBody s_first_of) (t_first_of G) :=
    (dss_one (ds_ret (d_lc [("kind", 1)] rfl sc_first_of.nd (di_rng1 T.n_range (da_cons (d_add (d_maxL rfl T.n_max (da_cons (dv 0) da_nil)) d_int) da_nil)) (blkOk_by (own := [("kind", 1)]) (N := N_first_of) (sc := defScope s_first_of) (by decide +kernel)) (by decide) (fun _ _ _ _ _ => pg_name (i := 1) sc_first_of.nd rfl (by first | exact Or.inl rfl | exact Or.inr rfl) (by first | exact .inl rfl | exact .inr rfl)) (fun _ _ _ _ _ => dts_nil) (fun _ _ _ _ _ => (d_tix (dv 0) (da_cons (dv 1) da_nil))))))
def t_law_draws (G : Gm) : S3 :=
    (s3Seq (s3Asg (e3Lc (i3Seq (e3Var 0)) 5 t3Yes (e3CB c3Abs (a3Cons (e3CB c3Int (a3Cons (e3Var 5) a3Nil)) a3Nil)) [5]) 2)
    (s3Seq (s3Asg (e3Lst a3Nil) 3)
    (s3Seq (s3For (i3Rng1 (a3Cons (e3Var 1) a3Nil)) (g3Name 4) (s3Seq (s3Asg (e3Var 4) 5)
    (s3Seq (s3If (t3Test (e3Op r3Gt (e3CB c3Len (a3Cons (e3Var 0) a3Nil)) (e3C (.int 0)))) (s3Seq (s3Asg (e3Op r3Mod (e3Var 4) (e3CB c3Len (a3Cons (e3Var 0) a3Nil))) 7)
    (s3Seq (s3Asg (e3CB c3Int (a3Cons (e3Op r3Ix (e3Var 0) (e3Var 7)) a3Nil)) 5)
    (s3If (t3And (t3Test (e3Op r3Ge (e3Var 5) (e3Op r3Pow (e3C (.int 10)) (e3C (.int 18))))) (t3Test (e3Op r3Gt (e3Op r3Ix (e3Var 2) (e3Var 7)) (e3C (.int 0))))) (s3Seq (s3Expr (e3Bm m3App (e3Var 3) (a3Cons (e3Op r3Mod (e3CB c3Int (a3Cons (e3Op r3Ix (e3Var 2) (e3Var 7)) a3Nil)) (e3C (.int 1000003))) a3Nil)))
    (s3Seq (s3AsgG (e3Op r3Div (e3CB c3Int (a3Cons (e3Op r3Ix (e3Var 2) (e3Var 7)) a3Nil)) (e3C (.int 1000003))) (g3SubL (e3Var 2) (e3Var 7)))
    s3Cont)) s3Nil))) s3Nil)
    (s3Seq (s3Asg (e3Op r3Mod (e3CB c3Int (a3Cons (e3Op r3Add (e3Op r3Add (e3Op r3Mul (e3Var 5) (e3C (.int 48271))) (e3Op r3Mul (e3Var 4) (e3C (.int 69621)))) (e3C (.int 11))) a3Nil)) (e3C (.int 2147483647))) 6)
    (s3Seq (s3Asg (e3Op r3Mod (e3CB c3Int (a3Cons (e3Op r3Add (e3Op r3Div (e3Op r3Mul (e3Var 6) (e3Var 6)) (e3C (.int 4096))) (e3Var 6)) a3Nil)) (e3C (.int 2147483629))) 6)
    (s3Expr (e3Bm m3App (e3Var 3) (a3Cons (e3Op r3Mod (e3CB c3Int (a3Cons (e3Op r3Add (e3Op r3Div (e3Op r3Mul (e3Var 6) (e3Var 6)) (e3C (.int 4096))) (e3Op r3Mul (e3Var 4) (e3C (.int 7919)))) a3Nil)) (e3C (.int 2147483629))) a3Nil))))))))
    (s3Ret (e3Var 3)))))
theorem der_law_draws (T : Txt G mg) (f : Addr) (cdv : Value) (A : Around) (outer : List Env) (s : Shared) (H : Hp) (E : XK) (hr : RoomG 0 (A.deeper (envOfC "_law_draws" (defScope s_law_draws) s.heap.objs.size f cdv))) :
    DSs (cxOf (L2.CX P w) P w G.K mg base N_law_draws "_law_draws" (defScope s_law_draws) f cdv A outer s H E) (defBody s_law_draws) (t_law_draws G) :=
    (dss_cons (by first | exact ds_setLc (j := 2) [("cell", 5)] rfl sc_law_draws.nd (di_seq (dv 0)) (blkOk_by (own := [("cell", 5)]) (N := N_law_draws) (sc := defScope s_law_draws) (by decide +kernel)) (by decide) (fun _ _ _ _ _ => pg_name (i := 5) sc_law_draws.nd rfl (by first | exact Or.inl rfl | exact Or.inr rfl) (by first | exact .inl rfl | exact .inr rfl)) (fun _ _ _ _ _ => dts_nil) (fun _ _ _ _ _ => (d_abs T.n_abs (da_cons (d_intc T.n_int (da_cons (dv 5) da_nil)) da_nil))) | exact ds_set (i := 2) sc_law_draws.nd (d_lc [("cell", 5)] rfl sc_law_draws.nd (di_seq (dv 0)) (blkOk_by (own := [("cell", 5)]) (N := N_law_draws) (sc := defScope s_law_draws) (by decide +kernel)) (by decide) (fun _ _ _ _ _ => pg_name (i := 5) sc_law_draws.nd rfl (by first | exact Or.inl rfl | exact Or.inr rfl) (by first | exact .inl rfl | exact .inr rfl)) (fun _ _ _ _ _ => dts_nil) (fun _ _ _ _ _ => (d_abs T.n_abs (da_cons (d_intc T.n_int (da_cons (dv 5) da_nil)) da_nil)))))
    (dss_cons (ds_set (i := 3) sc_law_draws.nd (d_lst da_nil))
    (dss_cons (ds_for rfl (di_rng1 T.n_range (da_cons (dv 1) da_nil)) (dg_name (i := 4) sc_law_draws.nd) (dss_cons (ds_set (i := 5) sc_law_draws.nd (dv 4))
    (dss_cons (ds_if (t_cmp op_gt opl_Gt (d_len T.n_len (da_cons (dv 0) da_nil)) d_int) (dss_cons (ds_set (i := 7) sc_law_draws.nd (d_mod (dv 4) (d_len T.n_len (da_cons (dv 0) da_nil))))
    (dss_cons (ds_set (i := 5) sc_law_draws.nd (d_intc T.n_int (da_cons (d_ix (dv 0) (dv 7)) da_nil)))
    (dss_one (ds_if (t_w (w_and (t_cmp op_ge opl_Ge (dv 5) (d_pow d_int d_int)) (w_one (t_cmp op_gt opl_Gt (d_ix (dv 2) (dv 7)) d_int)))) (dss_cons (ds_expr (d_append (dv 3) (da_cons (d_mod (d_intc T.n_int (da_cons (d_ix (dv 2) (dv 7)) da_nil)) d_int) da_nil)))
    (dss_cons (ds_asg (d_fdiv (d_intc T.n_int (da_cons (d_ix (dv 2) (dv 7)) da_nil)) d_int) (dg_subL (dv 2) (dv 7)))
    (dss_one ds_continue))) dss_nil)))) dss_nil)
    (dss_cons (ds_set (i := 6) sc_law_draws.nd (d_mod (d_intc T.n_int (da_cons (d_add (d_add (d_mul (dv 5) d_int) (d_mul (dv 4) d_int)) d_int) da_nil)) d_int))
    (dss_cons (ds_set (i := 6) sc_law_draws.nd (d_mod (d_intc T.n_int (da_cons (d_add (d_fdiv (d_mul (dv 6) (dv 6)) d_int) (dv 6)) da_nil)) d_int))
    (dss_one (ds_expr (d_append (dv 3) (da_cons (d_mod (d_intc T.n_int (da_cons (d_add (d_fdiv (d_mul (dv 6) (dv 6)) d_int) (d_mul (dv 4) d_int)) da_nil)) d_int) da_nil)))))))))
    (dss_one (ds_ret (dv 3))))))
def t_law_take (G : Gm) : S3 :=
    (s3Seq (s3Asg (e3Op r3Ix (e3Var 0) (e3C (.int 1))) 2)
    (s3Seq (s3AsgG (e3Op r3Add (e3Var 2) (e3C (.int 1))) (g3SubL (e3Var 0) (e3C (.int 1))))
    (s3Seq (s3Asg (e3Op r3Ix (e3Var 0) (e3C (.int 0))) 3)
    (s3Seq (s3If (t3Test (e3Op r3Ge (e3Var 2) (e3CB c3Len (a3Cons (e3Var 3) a3Nil)))) (s3Ret (e3C (.int 0))) s3Nil)
    (s3Ret (e3Op r3Mod (e3Op r3Div (e3CB c3Int (a3Cons (e3Op r3Ix (e3Var 3) (e3Var 2)) a3Nil)) (e3C (.int 7))) (e3Var 1)))))))
theorem der_law_take (T : Txt G mg) (f : Addr) (cdv : Value) (A : Around) (outer : List Env) (s : Shared) (H : Hp) (E : XK) (hr : RoomG 0 (A.deeper (envOfC "_law_take" (defScope s_law_take) s.heap.objs.size f cdv))) :
    DSs (cxOf (L2.CX P w) P w G.K mg base N_law_take "_law_take" (defScope s_law_take) f cdv A outer s H E) (defBody s_law_take) (t_law_take G) :=
    (dss_cons (ds_set (i := 2) sc_law_take.nd (d_ix (dv 0) d_int))
    (dss_cons (ds_asg (d_add (dv 2) d_int) (dg_subL (dv 0) d_int))
    (dss_cons (ds_set (i := 3) sc_law_take.nd (d_ix (dv 0) d_int))
    (dss_cons (ds_if (t_cmp op_ge opl_Ge (dv 2) (d_len T.n_len (da_cons (dv 3) da_nil))) (dss_one (ds_ret d_int)) dss_nil)
    (dss_one (ds_ret (d_mod (d_fdiv (d_intc T.n_int (da_cons (d_ix (dv 3) (dv 2)) da_nil)) d_int) (dv 1))))))))
def t_law_whole (G : Gm) : S3 :=
    (s3Ret (e3And (e3CB c3Isi (a3Cons (e3Var 0) (a3Cons (e3C (.ty "int")) a3Nil))) (e3Not (e3CB c3Isi (a3Cons (e3Var 0) (a3Cons (e3C (.ty "bool")) a3Nil))))))
theorem der_law_whole (T : Txt G mg) (f : Addr) (cdv : Value) (A : Around) (outer : List Env) (s : Shared) (H : Hp) (E : XK) (hr : RoomG 0 (A.deeper (envOfC "_law_whole" (defScope s_law_whole) s.heap.objs.size f cdv))) :
    DSs (cxOf (L2.CX P w) P w G.K mg base N_law_whole "_law_whole" (defScope s_law_whole) f cdv A outer s H E) (defBody s_law_whole) (t_law_whole G) :=
    (dss_one (ds_ret (d_and (d_isi T.n_isinstance (da_cons (dv 0) (da_cons (d_ty (n := "int") rfl T.n_int (by decide +kernel)) da_nil))) (d_one (d_not (d_isi T.n_isinstance (da_cons (dv 0) (da_cons (d_ty (n := "bool") rfl T.n_bool (by decide +kernel)) da_nil))))))))
def t_law_behind (G : Gm) : S3 :=
    (s3Seq (s3If (t3Test (e3Op r3Eq (e3Var 1) (e3C (.int 0)))) (s3Ret (e3Op r3Ix (e3Op r3Ix (e3Op r3Ix (e3Var 0) (e3C (.int 2))) (e3Op r3Sub (e3Var 3) (e3C (.int 1)))) (e3Var 2))) s3Nil)
    (s3Ret (e3Tm m3Tix (e3Op r3Ix (e3Op r3Ix (e3Var 0) (e3C (.int 2))) (e3Op r3Sub (e3Var 3) (e3C (.int 1)))) (a3Cons (e3Var 2) a3Nil))))
theorem der_law_behind (T : Txt G mg) (f : Addr) (cdv : Value) (A : Around) (outer : List Env) (s : Shared) (H : Hp) (E : XK) (hr : RoomG 0 (A.deeper (envOfC "_law_behind" (defScope s_law_behind) s.heap.objs.size f cdv))) :
    DSs (cxOf (L2.CX P w) P w G.K mg base N_law_behind "_law_behind" (defScope s_law_behind) f cdv A outer s H E) (defBody s_law_behind) (t_law_behind G) :=
    (dss_cons (ds_if (t_cmp (ho_eq hr.r) opl_eq (dv 1) d_int) (dss_one (ds_ret (d_ix (d_ix (d_ix (dv 0) d_int) (d_sub (dv 3) d_int)) (dv 2)))) dss_nil)
    (dss_one (ds_ret (d_tix (d_ix (d_ix (dv 0) d_int) (d_sub (dv 3) d_int)) (da_cons (dv 2) da_nil)))))
def t_law_counted (G : Gm) : S3 :=
    (s3Seq (s3Asg (e3Lst a3Nil) 1)
    (s3Seq (s3For (i3Seq (e3Var 0)) (g3Name 2) (s3If (t3Test (e3Op (r3In true) (e3Var 2) (e3Var 1))) (s3Expr (e3Bm m3App (e3Var 1) (a3Cons (e3Var 2) a3Nil))) s3Nil))
    (s3Ret (e3Lc (i3Seq (e3Var 0)) 2 t3Yes (e3Bm m3LixX (e3Var 1) (a3Cons (e3Var 2) a3Nil)) [2]))))
theorem der_law_counted (T : Txt G mg) (f : Addr) (cdv : Value) (A : Around) (outer : List Env) (s : Shared) (H : Hp) (E : XK) (hr : RoomG 0 (A.deeper (envOfC "_law_counted" (defScope s_law_counted) s.heap.objs.size f cdv))) :
    DSs (cxOf (L2.CX P w) P w G.K mg base N_law_counted "_law_counted" (defScope s_law_counted) f cdv A outer s H E) (defBody s_law_counted) (t_law_counted G) :=
    (dss_cons (ds_set (i := 1) sc_law_counted.nd (d_lst da_nil))
    (dss_cons (ds_for rfl (di_seq (dv 0)) (dg_name (i := 2) sc_law_counted.nd) (dss_one (ds_if (t_cmp (ho_notin hr.r) opl_notin (dv 2) (dv 1)) (dss_one (ds_expr (d_append (dv 1) (da_cons (dv 2) da_nil)))) dss_nil)))
    (dss_one (ds_ret (d_lc [("mark", 2)] rfl sc_law_counted.nd (di_seq (dv 0)) (blkOk_by (own := [("mark", 2)]) (N := N_law_counted) (sc := defScope s_law_counted) (by decide +kernel)) (by decide) (fun _ _ _ _ _ => pg_name (i := 2) sc_law_counted.nd rfl (by first | exact Or.inl rfl | exact Or.inr rfl) (by first | exact .inl rfl | exact .inr rfl)) (fun _ _ _ _ _ => dts_nil) (fun _ _ _ _ _ => (d_lixX hr.r (dv 1) (da_cons (dv 2) da_nil))))))))
def t_law_cover (G : Gm) : S3 :=
    (s3Seq (s3Asg (e3CB c3Len (a3Cons (e3Op r3Ix (e3Op r3Ix (e3Var 1) (e3C (.int 0))) (e3C (.int 0))) a3Nil)) 2)
    (s3Seq (s3Asg (e3Lst a3Nil) 3)
    (s3Seq (s3For (i3Rng1 (a3Cons (e3CB c3Len (a3Cons (e3Var 1) a3Nil)) a3Nil)) (g3Name 4) (s3Seq (s3Asg (e3Lst a3Nil) 7)
    (s3Seq (s3For (i3Rng1 (a3Cons (e3Op r3Ix (e3Var 0) (e3C (.int 1))) a3Nil)) (g3Name 8) (s3For (i3Rng1 (a3Cons (e3Var 2) a3Nil)) (g3Name 9) (s3Expr (e3Bm m3App (e3Var 7) (a3Cons (e3Op r3Add (e3Op r3Mul (e3Op r3Ix (e3Op r3Ix (e3Op r3Ix (e3Var 0) (e3C (.int 2))) (e3Var 4)) (e3Var 8)) (e3Var 2)) (e3Op r3Ix (e3Op r3Ix (e3Op r3Ix (e3Var 1) (e3Var 4)) (e3Var 8)) (e3Var 9))) a3Nil)))))
    (s3Expr (e3Bm m3App (e3Var 3) (a3Cons (e3TupOf (e3Var 7)) a3Nil))))))
    (s3Seq (s3Asg (e3Lst a3Nil) 5)
    (s3Seq (s3For (i3Seq (e3Tup (a3Cons (e3Op r3Ix (e3Var 0) (e3C (.int 3))) (a3Cons (e3Op r3Ix (e3Var 0) (e3C (.int 4))) a3Nil)))) (g3Name 6) (s3Expr (e3Bm m3App (e3Var 5) (a3Cons (e3TupOf (e3Lc (i3Rng1 (a3Cons (e3Op r3Mul (e3Op r3Ix (e3Var 0) (e3C (.int 1))) (e3Var 2)) a3Nil)) 10 t3Yes (e3Op r3Ix (e3Var 6) (e3Op r3Div (e3Var 10) (e3Var 2))) [10])) a3Nil))))
    (s3Ret (e3Tup (a3Cons (e3C (.str "network")) (a3Cons (e3Op r3Mul (e3Op r3Ix (e3Var 0) (e3C (.int 1))) (e3Var 2)) (a3Cons (e3TupOf (e3Var 3)) (a3Cons (e3Op r3Ix (e3Var 5) (e3C (.int 0))) (a3Cons (e3Op r3Ix (e3Var 5) (e3C (.int 1))) a3Nil))))))))))))
theorem der_law_cover (T : Txt G mg) (f : Addr) (cdv : Value) (A : Around) (outer : List Env) (s : Shared) (H : Hp) (E : XK) (hr : RoomG 0 (A.deeper (envOfC "_law_cover" (defScope s_law_cover) s.heap.objs.size f cdv))) :
    DSs (cxOf (L2.CX P w) P w G.K mg base N_law_cover "_law_cover" (defScope s_law_cover) f cdv A outer s H E) (defBody s_law_cover) (t_law_cover G) :=
    (dss_cons (ds_set (i := 2) sc_law_cover.nd (d_len T.n_len (da_cons (d_ix (d_ix (dv 1) d_int) d_int) da_nil)))
    (dss_cons (ds_set (i := 3) sc_law_cover.nd (d_lst da_nil))
    (dss_cons (ds_for rfl (di_rng1 T.n_range (da_cons (d_len T.n_len (da_cons (dv 1) da_nil)) da_nil)) (dg_name (i := 4) sc_law_cover.nd) (dss_cons (ds_set (i := 7) sc_law_cover.nd (d_lst da_nil))
    (dss_cons (ds_for rfl (di_rng1 T.n_range (da_cons (d_ix (dv 0) d_int) da_nil)) (dg_name (i := 8) sc_law_cover.nd) (dss_one (ds_for rfl (di_rng1 T.n_range (da_cons (dv 2) da_nil)) (dg_name (i := 9) sc_law_cover.nd) (dss_one (ds_expr (d_append (dv 7) (da_cons (d_add (d_mul (d_ix (d_ix (d_ix (dv 0) d_int) (dv 4)) (dv 8)) (dv 2)) (d_ix (d_ix (d_ix (dv 1) (dv 4)) (dv 8)) (dv 9))) da_nil)))))))
    (dss_one (ds_expr (d_append (dv 3) (da_cons (d_tuple T.n_tuple (dv 7)) da_nil)))))))
    (dss_cons (ds_set (i := 5) sc_law_cover.nd (d_lst da_nil))
    (dss_cons (ds_for rfl (di_seq (d_tup (da_cons (d_ix (dv 0) d_int) (da_cons (d_ix (dv 0) d_int) da_nil)))) (dg_name (i := 6) sc_law_cover.nd) (dss_one (ds_expr (d_append (dv 5) (da_cons (d_tuple T.n_tuple (d_lc [("k", 10)] rfl sc_law_cover.nd (di_rng1 T.n_range (da_cons (d_mul (d_ix (dv 0) d_int) (dv 2)) da_nil)) (blkOk_by (own := [("k", 10)]) (N := N_law_cover) (sc := defScope s_law_cover) (by decide +kernel)) (by decide) (fun _ _ _ _ _ => pg_name (i := 10) sc_law_cover.nd rfl (by first | exact Or.inl rfl | exact Or.inr rfl) (by first | exact .inl rfl | exact .inr rfl)) (fun _ _ _ _ _ => dts_nil) (fun _ _ _ _ _ => (d_ix (dv 6) (d_fdiv (dv 10) (dv 2)))))) da_nil)))))
    (dss_one (ds_ret (d_tup (da_cons d_str (da_cons (d_mul (d_ix (dv 0) d_int) (dv 2)) (da_cons (d_tuple T.n_tuple (dv 3)) (da_cons (d_ix (dv 5) d_int) (da_cons (d_ix (dv 5) d_int) da_nil)))))))))))))
def t_are_inputs (G : Gm) : S3 :=
    (s3Seq (s3If (t3Or (t3Not (t3Test (e3CB c3Isi (a3Cons (e3Var 0) (a3Cons (e3C (.ty "tuple")) a3Nil))))) (t3Test (e3Op r3Ne (e3CB c3Len (a3Cons (e3Var 0) a3Nil)) (e3Var 1)))) (s3Ret (e3C (.bl false))) s3Nil)
    (s3Seq (s3For (i3Seq (e3Var 0)) (g3Name 3) (s3If (t3Not (t3Test (e3Call (sp_is_number G) (a3Cons (e3Var 3) (a3Cons (e3C (.int 0)) (a3Cons (e3Op r3Sub (e3Var 2) (e3C (.int 1))) a3Nil)))))) (s3Ret (e3C (.bl false))) s3Nil))
    (s3Ret (e3C (.bl true)))))
theorem der_are_inputs (T : Txt G mg) {f_is_number : Addr} {fd_is_number : FuncData} (C_is_number : Cal P w G.K mg base 1 f_is_number fd_is_number "is_number" ["value", "least", "most"] (sp_is_number G)) (f : Addr) (cdv : Value) (A : Around) (outer : List Env) (s : Shared) (H : Hp) (E : XK) (hr : RoomG 1 (A.deeper (envOfC "are_inputs" (defScope s_are_inputs) s.heap.objs.size f cdv))) :
    DSs (cxOf (L2.CX P w) P w G.K mg base N_are_inputs "are_inputs" (defScope s_are_inputs) f cdv A outer s H E) (defBody s_are_inputs) (t_are_inputs G) :=
    (dss_cons (ds_if (t_w (w_or (t_not (t_val (d_isi T.n_isinstance (da_cons (dv 0) (da_cons (d_ty (n := "tuple") rfl T.n_tuple (by decide +kernel)) da_nil))))) (w_one (t_cmp (ho_ne hr.r) opl_ne (d_len T.n_len (da_cons (dv 0) da_nil)) (dv 1))))) (dss_one (ds_ret d_bl)) dss_nil)
    (dss_cons (ds_for rfl (di_seq (dv 0)) (dg_name (i := 3) sc_are_inputs.nd) (dss_one (ds_if (t_not (t_val (d_callC C_is_number hr (da_cons (dv 3) (da_cons d_int (da_cons (d_sub (dv 2) d_int) da_nil)))))) (dss_one (ds_ret d_bl)) dss_nil)))
    (dss_one (ds_ret d_bl))))
def t_are_links (G : Gm) : S3 :=
    (s3Seq (s3If (t3Or (t3Not (t3Test (e3CB c3Isi (a3Cons (e3Var 0) (a3Cons (e3C (.ty "tuple")) a3Nil))))) (t3Test (e3Op r3Ne (e3CB c3Len (a3Cons (e3Var 0) a3Nil)) (e3Var 1)))) (s3Ret (e3C (.bl false))) s3Nil)
    (s3Seq (s3Asg e3DNew 2)
    (s3Seq (s3For (i3Seq (e3Var 0)) (g3Name 3) (s3Seq (s3If (t3Or (t3Not (t3Test (e3Call (sp_is_number G) (a3Cons (e3Var 3) (a3Cons (e3C (.int 0)) (a3Cons (e3Op r3Sub (e3Var 1) (e3C (.int 1))) a3Nil)))))) (t3Test (e3Op (r3InD false) (e3Var 3) (e3Var 2)))) (s3Ret (e3C (.bl false))) s3Nil)
    (s3AsgG (e3C (.bl true)) (g3SubD (e3Var 2) (e3Var 3)))))
    (s3Ret (e3C (.bl true))))))
theorem der_are_links (T : Txt G mg) {f_is_number : Addr} {fd_is_number : FuncData} (C_is_number : Cal P w G.K mg base 1 f_is_number fd_is_number "is_number" ["value", "least", "most"] (sp_is_number G)) (f : Addr) (cdv : Value) (A : Around) (outer : List Env) (s : Shared) (H : Hp) (E : XK) (hr : RoomG 1 (A.deeper (envOfC "are_links" (defScope s_are_links) s.heap.objs.size f cdv))) :
    DSs (cxOf (L2.CX P w) P w G.K mg base N_are_links "are_links" (defScope s_are_links) f cdv A outer s H E) (defBody s_are_links) (t_are_links G) :=
    (dss_cons (ds_if (t_w (w_or (t_not (t_val (d_isi T.n_isinstance (da_cons (dv 0) (da_cons (d_ty (n := "tuple") rfl T.n_tuple (by decide +kernel)) da_nil))))) (w_one (t_cmp (ho_ne hr.r) opl_ne (d_len T.n_len (da_cons (dv 0) da_nil)) (dv 1))))) (dss_one (ds_ret d_bl)) dss_nil)
    (dss_cons (ds_set (i := 2) sc_are_links.nd d_dnew)
    (dss_cons (ds_for rfl (di_seq (dv 0)) (dg_name (i := 3) sc_are_links.nd) (dss_cons (ds_if (t_w (w_or (t_not (t_val (d_callC C_is_number hr (da_cons (dv 3) (da_cons d_int (da_cons (d_sub (dv 1) d_int) da_nil)))))) (w_one (t_cmp (ho_inD hr.r) opl_inD (dv 3) (dv 2))))) (dss_one (ds_ret d_bl)) dss_nil)
    (dss_one (ds_asg d_bl (dg_subD hr.r (dv 2) (dv 3))))))
    (dss_one (ds_ret d_bl)))))
def t_finer (G : Gm) : S3 :=
    (s3Seq (s3Asg (e3Lst a3Nil) 3)
    (s3Seq (s3For (i3EnumX (a3Cons (e3Var 0) a3Nil)) (g3Tup 2 (g3sCons (g3Name 4) (g3sCons (g3Name 5) g3sNil))) (s3Expr (e3Bm m3App (e3Var 3) (a3Cons (e3Op r3Add (e3Tup (a3Cons (e3Var 5) a3Nil)) (e3TupOf (e3Lc (i3Seq (e3Var 2)) 6 t3Yes (e3Op r3Ix (e3Var 1) (e3Op r3Ix (e3Var 6) (e3Var 4))) [6]))) a3Nil))))
    (s3Ret (e3Call (sp_numbered G) (a3Cons (e3Var 3) a3Nil)))))
theorem der_finer (T : Txt G mg) {f_numbered : Addr} {fd_numbered : FuncData} (C_numbered : Cal P w G.K mg base 1 f_numbered fd_numbered "numbered" ["marks"] (sp_numbered G)) (f : Addr) (cdv : Value) (A : Around) (outer : List Env) (s : Shared) (H : Hp) (E : XK) (hr : RoomG 1 (A.deeper (envOfC "finer" (defScope s_finer) s.heap.objs.size f cdv))) :
    DSs (cxOf (L2.CX P w) P w G.K mg base N_finer "finer" (defScope s_finer) f cdv A outer s H E) (defBody s_finer) (t_finer G) :=
    (dss_cons (ds_set (i := 3) sc_finer.nd (d_lst da_nil))
    (dss_cons (ds_for rfl (di_enumX T.n_enumerate (da_cons (dv 0) da_nil)) (dg_tup rfl (dgs_cons (dg_name (i := 4) sc_finer.nd) (dgs_cons (dg_name (i := 5) sc_finer.nd) dgs_nil))) (dss_one (ds_expr (d_append (dv 3) (da_cons (d_add (d_tup (da_cons (dv 5) da_nil)) (d_tuple T.n_tuple (d_lc [("row", 6)] rfl sc_finer.nd (di_seq (dv 2)) (blkOk_by (own := [("row", 6)]) (N := N_finer) (sc := defScope s_finer) (by decide +kernel)) (by decide) (fun _ _ _ _ _ => pg_name (i := 6) sc_finer.nd rfl (by first | exact Or.inl rfl | exact Or.inr rfl) (by first | exact .inl rfl | exact .inr rfl)) (fun _ _ _ _ _ => dts_nil) (fun _ _ _ _ _ => (d_ix (dv 1) (d_ix (dv 6) (dv 4))))))) da_nil)))))
    (dss_one (ds_ret (d_callC C_numbered hr (da_cons (dv 3) da_nil))))))
def t_law_order (G : Gm) : S3 :=
    (s3Seq (s3Asg (e3Lc (i3Rng1 (a3Cons (e3Var 1) a3Nil)) 4 t3Yes (e3Var 4) [4]) 2)
    (s3Seq (s3Asg (e3Lst a3Nil) 3)
    (s3Seq (s3For (i3Rng1 (a3Cons (e3Var 1) a3Nil)) (g3Name 4) (s3Expr (e3Bm m3App (e3Var 3) (a3Cons (e3Bm m3PopAt (e3Var 2) (a3Cons (e3Call (sp_law_take G) (a3Cons (e3Var 0) (a3Cons (e3CB c3Len (a3Cons (e3Var 2) a3Nil)) a3Nil))) a3Nil)) a3Nil))))
    (s3Ret (e3TupOf (e3Var 3))))))
theorem der_law_order (T : Txt G mg) {f_law_take : Addr} {fd_law_take : FuncData} (C_law_take : Cal P w G.K mg base 1 f_law_take fd_law_take "_law_take" ["hand", "many"] (sp_law_take G)) (f : Addr) (cdv : Value) (A : Around) (outer : List Env) (s : Shared) (H : Hp) (E : XK) (hr : RoomG 1 (A.deeper (envOfC "_law_order" (defScope s_law_order) s.heap.objs.size f cdv))) :
    DSs (cxOf (L2.CX P w) P w G.K mg base N_law_order "_law_order" (defScope s_law_order) f cdv A outer s H E) (defBody s_law_order) (t_law_order G) :=
    (dss_cons (by first | exact ds_setLc (j := 2) [("k", 4)] rfl sc_law_order.nd (di_rng1 T.n_range (da_cons (dv 1) da_nil)) (blkOk_by (own := [("k", 4)]) (N := N_law_order) (sc := defScope s_law_order) (by decide +kernel)) (by decide) (fun _ _ _ _ _ => pg_name (i := 4) sc_law_order.nd rfl (by first | exact Or.inl rfl | exact Or.inr rfl) (by first | exact .inl rfl | exact .inr rfl)) (fun _ _ _ _ _ => dts_nil) (fun _ _ _ _ _ => (dv 4)) | exact ds_set (i := 2) sc_law_order.nd (d_lc [("k", 4)] rfl sc_law_order.nd (di_rng1 T.n_range (da_cons (dv 1) da_nil)) (blkOk_by (own := [("k", 4)]) (N := N_law_order) (sc := defScope s_law_order) (by decide +kernel)) (by decide) (fun _ _ _ _ _ => pg_name (i := 4) sc_law_order.nd rfl (by first | exact Or.inl rfl | exact Or.inr rfl) (by first | exact .inl rfl | exact .inr rfl)) (fun _ _ _ _ _ => dts_nil) (fun _ _ _ _ _ => (dv 4))))
    (dss_cons (ds_set (i := 3) sc_law_order.nd (d_lst da_nil))
    (dss_cons (ds_for rfl (di_rng1 T.n_range (da_cons (dv 1) da_nil)) (dg_name (i := 4) sc_law_order.nd) (dss_one (ds_expr (d_append (dv 3) (da_cons (d_popAt (dv 2) (da_cons (d_callC C_law_take hr (da_cons (dv 0) (da_cons (d_len T.n_len (da_cons (dv 2) da_nil)) da_nil))) da_nil)) da_nil)))))
    (dss_one (ds_ret (d_tuple T.n_tuple (dv 3)))))))
def t_law_wrong_network (G : Gm) : S3 :=
    (s3Seq (s3AsgG (e3Var 1) (g3Tup 5 (g3sCons (g3Name 9) (g3sCons (g3Name 10) (g3sCons (g3Name 11) (g3sCons (g3Name 12) (g3sCons (g3Name 13) g3sNil)))))))
    (s3Seq (s3Asg (e3Op r3Add (e3Op r3MulT (e3Tup (a3Cons (e3Op r3Ix (e3Op r3Ix (e3Var 11) (e3C (.int 0))) (e3C (.int 0))) a3Nil)) (e3Var 10)) (e3Op r3MulT (e3Tup (a3Cons (e3C (.int 0)) a3Nil)) (e3CB c3Int (a3Cons (e3Op r3Eq (e3Var 10) (e3C (.int 1))) a3Nil)))) 2)
    (s3Seq (s3Asg (e3Lst (a3Cons (e3CB c3List (a3Cons (e3Var 1) a3Nil)) (a3Cons (e3Sl (e3Var 1) o3None (o3Some (e3C (.int 4)))) (a3Cons (e3Op r3Add (e3Var 1) (e3Tup (a3Cons (e3C (.int 0)) a3Nil))) (a3Cons (e3Op r3Add (e3Tup (a3Cons (e3C (.str "Network")) a3Nil)) (e3Sl (e3Var 1) (o3Some (e3C (.int 1))) o3None)) (a3Cons (e3C .non) (a3Cons (e3C (.int 5)) (a3Cons (e3C (.str "network")) (a3Cons (e3Tup a3Nil) a3Nil))))))))) 3)
    (s3Seq (s3For (i3Seq (e3Tup (a3Cons (e3Op r3Add (e3Var 10) (e3C (.int 1))) (a3Cons (e3C (.int 0)) (a3Cons (e3C (.int 401)) (a3Cons (e3C (.bl true)) (a3Cons (e3C .non) a3Nil))))))) (g3Name 4) (s3Expr (e3Bm m3App (e3Var 3) (a3Cons (e3Tup (a3Cons (e3Var 9) (a3Cons (e3Var 4) (a3Cons (e3Var 11) (a3Cons (e3Var 12) (a3Cons (e3Var 13) a3Nil)))))) a3Nil))))
    (s3Seq (s3For (i3Seq (e3Tup (a3Cons (e3Sl (e3Var 11) o3None (o3Some (e3C (.int 1)))) (a3Cons (e3Op r3MulT (e3Var 11) (e3C (.int 3))) (a3Cons (e3CB c3List (a3Cons (e3Var 11) a3Nil)) (a3Cons (e3Op r3Add (e3Tup (a3Cons (e3CB c3List (a3Cons (e3Op r3Ix (e3Var 11) (e3C (.int 0))) a3Nil)) a3Nil)) (e3Sl (e3Var 11) (o3Some (e3C (.int 1))) o3None)) (a3Cons (e3Op r3Add (e3Tup (a3Cons (e3Var 2) a3Nil)) (e3Sl (e3Var 11) (o3Some (e3C (.int 1))) o3None)) a3Nil))))))) (g3Name 5) (s3Expr (e3Bm m3App (e3Var 3) (a3Cons (e3Tup (a3Cons (e3Var 9) (a3Cons (e3Var 10) (a3Cons (e3Var 5) (a3Cons (e3Var 12) (a3Cons (e3Var 13) a3Nil)))))) a3Nil))))
    (s3Seq (s3For (i3Seq (e3Tup (a3Cons (e3Tup (a3Cons (e3Var 10) a3Nil)) (a3Cons (e3Tup (a3Cons (e3Neg (e3C (.int 1))) a3Nil)) (a3Cons (e3Tup (a3Cons (e3C .non) a3Nil)) a3Nil))))) (g3Name 6) (s3Expr (e3Bm m3App (e3Var 3) (a3Cons (e3Tup (a3Cons (e3Var 9) (a3Cons (e3Var 10) (a3Cons (e3Op r3Add (e3Tup (a3Cons (e3Op r3Add (e3Var 6) (e3Sl (e3Op r3Ix (e3Var 11) (e3C (.int 0))) (o3Some (e3C (.int 1))) o3None)) a3Nil)) (e3Sl (e3Var 11) (o3Some (e3C (.int 1))) o3None)) (a3Cons (e3Var 12) (a3Cons (e3Var 13) a3Nil)))))) a3Nil))))
    (s3Seq (s3Asg (e3Lst (a3Cons (e3CB c3List (a3Cons (e3Var 12) a3Nil)) (a3Cons (e3Op r3Add (e3Var 12) (e3Tup (a3Cons (e3C (.int 0)) a3Nil))) (a3Cons (e3Sl (e3Var 12) (o3Some (e3C (.int 1))) o3None) (a3Cons (e3C .non) a3Nil))))) 7)
    (s3Seq (s3For (i3Seq (e3Op r3Add (e3Var 7) (e3Lst (a3Cons (e3Op r3Add (e3Tup (a3Cons (e3C (.int 4)) a3Nil)) (e3Sl (e3Var 12) (o3Some (e3C (.int 1))) o3None)) (a3Cons (e3Op r3Add (e3Tup (a3Cons (e3Neg (e3C (.int 1))) a3Nil)) (e3Sl (e3Var 12) (o3Some (e3C (.int 1))) o3None)) (a3Cons (e3Op r3Add (e3Tup (a3Cons (e3C (.bl true)) a3Nil)) (e3Sl (e3Var 12) (o3Some (e3C (.int 1))) o3None)) a3Nil)))))) (g3Name 8) (s3Seq (s3Expr (e3Bm m3App (e3Var 3) (a3Cons (e3Tup (a3Cons (e3Var 9) (a3Cons (e3Var 10) (a3Cons (e3Var 11) (a3Cons (e3Var 8) (a3Cons (e3Var 13) a3Nil)))))) a3Nil)))
    (s3Expr (e3Bm m3App (e3Var 3) (a3Cons (e3Tup (a3Cons (e3Var 9) (a3Cons (e3Var 10) (a3Cons (e3Var 11) (a3Cons (e3Var 12) (a3Cons (e3Var 8) a3Nil)))))) a3Nil)))))
    (s3Ret (e3Op r3Ix (e3Var 3) (e3Call (sp_law_take G) (a3Cons (e3Var 0) (a3Cons (e3CB c3Len (a3Cons (e3Var 3) a3Nil)) a3Nil)))))))))))))
theorem der_law_wrong_network (T : Txt G mg) {f_law_take : Addr} {fd_law_take : FuncData} (C_law_take : Cal P w G.K mg base 1 f_law_take fd_law_take "_law_take" ["hand", "many"] (sp_law_take G)) (f : Addr) (cdv : Value) (A : Around) (outer : List Env) (s : Shared) (H : Hp) (E : XK) (hr : RoomG 1 (A.deeper (envOfC "_law_wrong_network" (defScope s_law_wrong_network) s.heap.objs.size f cdv))) :
    DSs (cxOf (L2.CX P w) P w G.K mg base N_law_wrong_network "_law_wrong_network" (defScope s_law_wrong_network) f cdv A outer s H E) (defBody s_law_wrong_network) (t_law_wrong_network G) :=
    (dss_cons (ds_asg (dv 1) (dg_tup rfl (dgs_cons (dg_name (i := 9) sc_law_wrong_network.nd) (dgs_cons (dg_name (i := 10) sc_law_wrong_network.nd) (dgs_cons (dg_name (i := 11) sc_law_wrong_network.nd) (dgs_cons (dg_name (i := 12) sc_law_wrong_network.nd) (dgs_cons (dg_name (i := 13) sc_law_wrong_network.nd) dgs_nil)))))))
    (dss_cons (ds_set (i := 2) sc_law_wrong_network.nd (d_add (d_mulT (d_tup (da_cons (d_ix (d_ix (dv 11) d_int) d_int) da_nil)) (dv 10)) (d_mulT (d_tup (da_cons d_int da_nil)) (d_intc T.n_int (da_cons (d_cmp (ho_eq hr.r) opl_eq (dv 10) d_int) da_nil)))))
    (dss_cons (ds_set (i := 3) sc_law_wrong_network.nd (d_lst (da_cons (d_list T.n_list (da_cons (dv 1) da_nil)) (da_cons (d_sl (dv 1) do_none (do_some d_int)) (da_cons (d_add (dv 1) (d_tup (da_cons d_int da_nil))) (da_cons (d_add (d_tup (da_cons d_str da_nil)) (d_sl (dv 1) (do_some d_int) do_none)) (da_cons d_non (da_cons d_int (da_cons d_str (da_cons (d_tup da_nil) da_nil))))))))))
    (dss_cons (ds_for rfl (di_seq (d_tup (da_cons (d_add (dv 10) d_int) (da_cons d_int (da_cons d_int (da_cons d_bl (da_cons d_non da_nil))))))) (dg_name (i := 4) sc_law_wrong_network.nd) (dss_one (ds_expr (d_append (dv 3) (da_cons (d_tup (da_cons (dv 9) (da_cons (dv 4) (da_cons (dv 11) (da_cons (dv 12) (da_cons (dv 13) da_nil)))))) da_nil)))))
    (dss_cons (ds_for rfl (di_seq (d_tup (da_cons (d_sl (dv 11) do_none (do_some d_int)) (da_cons (d_mulT (dv 11) d_int) (da_cons (d_list T.n_list (da_cons (dv 11) da_nil)) (da_cons (d_add (d_tup (da_cons (d_list T.n_list (da_cons (d_ix (dv 11) d_int) da_nil)) da_nil)) (d_sl (dv 11) (do_some d_int) do_none)) (da_cons (d_add (d_tup (da_cons (dv 2) da_nil)) (d_sl (dv 11) (do_some d_int) do_none)) da_nil))))))) (dg_name (i := 5) sc_law_wrong_network.nd) (dss_one (ds_expr (d_append (dv 3) (da_cons (d_tup (da_cons (dv 9) (da_cons (dv 10) (da_cons (dv 5) (da_cons (dv 12) (da_cons (dv 13) da_nil)))))) da_nil)))))
    (dss_cons (ds_for rfl (di_seq (d_tup (da_cons (d_tup (da_cons (dv 10) da_nil)) (da_cons (d_tup (da_cons (d_neg d_int) da_nil)) (da_cons (d_tup (da_cons d_non da_nil)) da_nil))))) (dg_name (i := 6) sc_law_wrong_network.nd) (dss_one (ds_expr (d_append (dv 3) (da_cons (d_tup (da_cons (dv 9) (da_cons (dv 10) (da_cons (d_add (d_tup (da_cons (d_add (dv 6) (d_sl (d_ix (dv 11) d_int) (do_some d_int) do_none)) da_nil)) (d_sl (dv 11) (do_some d_int) do_none)) (da_cons (dv 12) (da_cons (dv 13) da_nil)))))) da_nil)))))
    (dss_cons (ds_set (i := 7) sc_law_wrong_network.nd (d_lst (da_cons (d_list T.n_list (da_cons (dv 12) da_nil)) (da_cons (d_add (dv 12) (d_tup (da_cons d_int da_nil))) (da_cons (d_sl (dv 12) (do_some d_int) do_none) (da_cons d_non da_nil))))))
    (dss_cons (ds_for rfl (di_seq (d_add (dv 7) (d_lst (da_cons (d_add (d_tup (da_cons d_int da_nil)) (d_sl (dv 12) (do_some d_int) do_none)) (da_cons (d_add (d_tup (da_cons (d_neg d_int) da_nil)) (d_sl (dv 12) (do_some d_int) do_none)) (da_cons (d_add (d_tup (da_cons d_bl da_nil)) (d_sl (dv 12) (do_some d_int) do_none)) da_nil)))))) (dg_name (i := 8) sc_law_wrong_network.nd) (dss_cons (ds_expr (d_append (dv 3) (da_cons (d_tup (da_cons (dv 9) (da_cons (dv 10) (da_cons (dv 11) (da_cons (dv 8) (da_cons (dv 13) da_nil)))))) da_nil)))
    (dss_one (ds_expr (d_append (dv 3) (da_cons (d_tup (da_cons (dv 9) (da_cons (dv 10) (da_cons (dv 11) (da_cons (dv 12) (da_cons (dv 8) da_nil)))))) da_nil))))))
    (dss_one (ds_ret (d_ix (dv 3) (d_callC C_law_take hr (da_cons (dv 0) (da_cons (d_len T.n_len (da_cons (dv 3) da_nil)) da_nil))))))))))))))
def t_law_kinds (G : Gm) : S3 :=
    (s3Seq (s3Asg (e3Lst (a3Cons (e3Call (sp_law_counted G) (a3Cons (e3CB c3List (a3Cons (e3Op r3Ix (e3Var 0) (e3C (.int 3))) a3Nil)) a3Nil)) (a3Cons (e3Call (sp_law_counted G) (a3Cons (e3CB c3List (a3Cons (e3Op r3Ix (e3Var 0) (e3C (.int 4))) a3Nil)) a3Nil)) a3Nil))) 1)
    (s3Seq (s3For (i3Rng1 (a3Cons (e3Op r3Mul (e3C (.int 2)) (e3Op r3Ix (e3Var 0) (e3C (.int 1)))) a3Nil)) (g3Name 2) (s3Seq (s3Asg (e3Lst a3Nil) 3)
    (s3Seq (s3For (i3Rng1 (a3Cons (e3C (.int 2)) a3Nil)) (g3Name 4) (s3Seq (s3Asg (e3Lst a3Nil) 5)
    (s3Seq (s3For (i3Rng1 (a3Cons (e3Op r3Ix (e3Var 0) (e3C (.int 1))) a3Nil)) (g3Name 6) (s3Seq (s3Asg (e3Lc (i3Rng1 (a3Cons (e3CB c3Len (a3Cons (e3Op r3Ix (e3Var 0) (e3C (.int 2))) a3Nil)) a3Nil)) 8 t3Yes (e3Op r3Ix (e3Op r3Ix (e3Var 1) (e3Op r3Sub (e3C (.int 1)) (e3Var 4))) (e3Call (sp_law_behind G) (a3Cons (e3Var 0) (a3Cons (e3Var 4) (a3Cons (e3Var 6) (a3Cons (e3Op r3Add (e3Var 8) (e3C (.int 1))) a3Nil)))))) [8]) 7)
    (s3Expr (e3Bm m3App (e3Var 5) (a3Cons (e3Tup (a3Cons (e3Op r3Ix (e3Op r3Ix (e3Var 1) (e3Var 4)) (e3Var 6)) (a3Cons (e3TupOf (e3Var 7)) a3Nil))) a3Nil)))))
    (s3Expr (e3Bm m3App (e3Var 3) (a3Cons (e3Call (sp_law_counted G) (a3Cons (e3Var 5) a3Nil)) a3Nil))))))
    (s3Asg (e3Var 3) 1))))
    (s3Ret (e3Tup (a3Cons (e3TupOf (e3Op r3Ix (e3Var 1) (e3C (.int 0)))) (a3Cons (e3TupOf (e3Op r3Ix (e3Var 1) (e3C (.int 1)))) a3Nil))))))
theorem der_law_kinds (T : Txt G mg) {f_law_counted : Addr} {fd_law_counted : FuncData} (C_law_counted : Cal P w G.K mg base 1 f_law_counted fd_law_counted "_law_counted" ["marks"] (sp_law_counted G)) {f_law_behind : Addr} {fd_law_behind : FuncData} (C_law_behind : Cal P w G.K mg base 1 f_law_behind fd_law_behind "_law_behind" ["network", "side", "node", "colour"] (sp_law_behind G)) (f : Addr) (cdv : Value) (A : Around) (outer : List Env) (s : Shared) (H : Hp) (E : XK) (hr : RoomG 1 (A.deeper (envOfC "_law_kinds" (defScope s_law_kinds) s.heap.objs.size f cdv))) :
    DSs (cxOf (L2.CX P w) P w G.K mg base N_law_kinds "_law_kinds" (defScope s_law_kinds) f cdv A outer s H E) (defBody s_law_kinds) (t_law_kinds G) :=
    (dss_cons (ds_set (i := 1) sc_law_kinds.nd (d_lst (da_cons (d_callC C_law_counted hr (da_cons (d_list T.n_list (da_cons (d_ix (dv 0) d_int) da_nil)) da_nil)) (da_cons (d_callC C_law_counted hr (da_cons (d_list T.n_list (da_cons (d_ix (dv 0) d_int) da_nil)) da_nil)) da_nil))))
    (dss_cons (ds_for rfl (di_rng1 T.n_range (da_cons (d_mul d_int (d_ix (dv 0) d_int)) da_nil)) (dg_name (i := 2) sc_law_kinds.nd) (dss_cons (ds_set (i := 3) sc_law_kinds.nd (d_lst da_nil))
    (dss_cons (ds_for rfl (di_rng1 T.n_range (da_cons d_int da_nil)) (dg_name (i := 4) sc_law_kinds.nd) (dss_cons (ds_set (i := 5) sc_law_kinds.nd (d_lst da_nil))
    (dss_cons (ds_for rfl (di_rng1 T.n_range (da_cons (d_ix (dv 0) d_int) da_nil)) (dg_name (i := 6) sc_law_kinds.nd) (dss_cons (by first | exact ds_setLc (j := 7) [("c", 8)] rfl sc_law_kinds.nd (di_rng1 T.n_range (da_cons (d_len T.n_len (da_cons (d_ix (dv 0) d_int) da_nil)) da_nil)) (blkOk_by (own := [("c", 8)]) (N := N_law_kinds) (sc := defScope s_law_kinds) (by decide +kernel)) (by decide) (fun _ _ _ _ _ => pg_name (i := 8) sc_law_kinds.nd rfl (by first | exact Or.inl rfl | exact Or.inr rfl) (by first | exact .inl rfl | exact .inr rfl)) (fun _ _ _ _ _ => dts_nil) (fun _ _ _ _ _ => (d_ix (d_ix (dv 1) (d_sub d_int (dv 4))) (d_callC C_law_behind hr (da_cons (dv 0) (da_cons (dv 4) (da_cons (dv 6) (da_cons (d_add (dv 8) d_int) da_nil))))))) | exact ds_set (i := 7) sc_law_kinds.nd (d_lc [("c", 8)] rfl sc_law_kinds.nd (di_rng1 T.n_range (da_cons (d_len T.n_len (da_cons (d_ix (dv 0) d_int) da_nil)) da_nil)) (blkOk_by (own := [("c", 8)]) (N := N_law_kinds) (sc := defScope s_law_kinds) (by decide +kernel)) (by decide) (fun _ _ _ _ _ => pg_name (i := 8) sc_law_kinds.nd rfl (by first | exact Or.inl rfl | exact Or.inr rfl) (by first | exact .inl rfl | exact .inr rfl)) (fun _ _ _ _ _ => dts_nil) (fun _ _ _ _ _ => (d_ix (d_ix (dv 1) (d_sub d_int (dv 4))) (d_callC C_law_behind hr (da_cons (dv 0) (da_cons (dv 4) (da_cons (dv 6) (da_cons (d_add (dv 8) d_int) da_nil)))))))))
    (dss_one (ds_expr (d_append (dv 5) (da_cons (d_tup (da_cons (d_ix (d_ix (dv 1) (dv 4)) (dv 6)) (da_cons (d_tuple T.n_tuple (dv 7)) da_nil))) da_nil))))))
    (dss_one (ds_expr (d_append (dv 3) (da_cons (d_callC C_law_counted hr (da_cons (dv 5) da_nil)) da_nil)))))))
    (dss_one (ds_set (i := 1) sc_law_kinds.nd (dv 3))))))
    (dss_one (ds_ret (d_tup (da_cons (d_tuple T.n_tuple (d_ix (dv 1) d_int)) (da_cons (d_tuple T.n_tuple (d_ix (dv 1) d_int)) da_nil)))))))
def t_check_plain (G : Gm) : S3 :=
    (s3Seq (s3If (t3Or (t3Not (t3Test (e3CB c3Isi (a3Cons (e3Var 0) (a3Cons (e3C (.ty "tuple")) a3Nil))))) (t3Or (t3Test (e3Op r3Ne (e3CB c3Len (a3Cons (e3Var 0) a3Nil)) (e3C (.int 5)))) (t3Test (e3Op r3Ne (e3Op r3Ix (e3Var 0) (e3C (.int 0))) (e3C (.str "network")))))) (s3Raise G.BadNetwork) s3Nil)
    (s3Seq (s3AsgG (e3Sl (e3Var 0) (o3Some (e3C (.int 1))) (o3Some (e3C (.int 3)))) (g3Tup 2 (g3sCons (g3Name 1) (g3sCons (g3Name 2) g3sNil))))
    (s3Seq (s3If (t3Not (t3Test (e3Call (sp_is_number G) (a3Cons (e3Var 1) (a3Cons (e3C (.int 1)) (a3Cons (e3C (.int 400)) a3Nil)))))) (s3Raise G.BadNetwork) s3Nil)
    (s3Seq (s3If (t3Or (t3Not (t3Test (e3CB c3Isi (a3Cons (e3Var 2) (a3Cons (e3C (.ty "tuple")) a3Nil))))) (t3Or (t3Not (t3Test (e3Chain r3Le r3Le (e3C (.int 2)) (e3CB c3Len (a3Cons (e3Var 2) a3Nil)) (e3C (.int 4))))) (t3Not (t3Test (e3CB c3All (a3Cons (e3Lc (i3Seq (e3Var 2)) 3 t3Yes (e3Call (sp_are_links G) (a3Cons (e3Var 3) (a3Cons (e3Var 1) a3Nil))) [3]) a3Nil)))))) (s3Raise G.BadNetwork) s3Nil)
    (s3If (t3Or (t3Not (t3Test (e3Call (sp_are_inputs G) (a3Cons (e3Op r3Ix (e3Var 0) (e3C (.int 3))) (a3Cons (e3Var 1) (a3Cons (e3C (.int 4)) a3Nil)))))) (t3Not (t3Test (e3Call (sp_are_inputs G) (a3Cons (e3Op r3Ix (e3Var 0) (e3C (.int 4))) (a3Cons (e3Var 1) (a3Cons (e3C (.int 4)) a3Nil))))))) (s3Raise G.BadNetwork) s3Nil)))))
theorem der_check_plain (T : Txt G mg) {f_is_number : Addr} {fd_is_number : FuncData} (C_is_number : Cal P w G.K mg base 1 f_is_number fd_is_number "is_number" ["value", "least", "most"] (sp_is_number G)) {f_are_links : Addr} {fd_are_links : FuncData} (C_are_links : Cal P w G.K mg base 2 f_are_links fd_are_links "are_links" ["links", "many"] (sp_are_links G)) {f_are_inputs : Addr} {fd_are_inputs : FuncData} (C_are_inputs : Cal P w G.K mg base 2 f_are_inputs fd_are_inputs "are_inputs" ["inputs", "many", "bound"] (sp_are_inputs G)) (f : Addr) (cdv : Value) (A : Around) (outer : List Env) (s : Shared) (H : Hp) (E : XK) (hr : RoomG 2 (A.deeper (envOfC "check_plain" (defScope s_check_plain) s.heap.objs.size f cdv))) :
    DSs (cxOf (L2.CX P w) P w G.K mg base N_check_plain "check_plain" (defScope s_check_plain) f cdv A outer s H E) (defBody s_check_plain) (t_check_plain G) :=
    (dss_cons (ds_if (t_w (w_or (t_not (t_val (d_isi T.n_isinstance (da_cons (dv 0) (da_cons (d_ty (n := "tuple") rfl T.n_tuple (by decide +kernel)) da_nil))))) (w_or (t_cmp (ho_ne hr.r) opl_ne (d_len T.n_len (da_cons (dv 0) da_nil)) d_int) (w_one (t_cmp (ho_ne hr.r) opl_ne (d_ix (dv 0) d_int) d_str))))) (dss_one (ds_raiseT T.x_BadNetwork)) dss_nil)
    (dss_cons (ds_asg (d_sl (dv 0) (do_some d_int) (do_some d_int)) (dg_tup rfl (dgs_cons (dg_name (i := 1) sc_check_plain.nd) (dgs_cons (dg_name (i := 2) sc_check_plain.nd) dgs_nil))))
    (dss_cons (ds_if (t_not (t_val (d_callC C_is_number hr (da_cons (dv 1) (da_cons d_int (da_cons (d_cst T.c_MOST_NODES) da_nil)))))) (dss_one (ds_raiseT T.x_BadNetwork)) dss_nil)
    (dss_cons (ds_if (t_w (w_or (t_not (t_val (d_isi T.n_isinstance (da_cons (dv 2) (da_cons (d_ty (n := "tuple") rfl T.n_tuple (by decide +kernel)) da_nil))))) (w_or (t_not (t_chain op_le opl_Le op_le opl_Le d_int (d_len T.n_len (da_cons (dv 2) da_nil)) d_int)) (w_one (t_not (t_val (d_all rfl T.n_all (da_cons (d_lc [("row", 3)] rfl sc_check_plain.nd (di_seq (dv 2)) (blkOk_by (own := [("row", 3)]) (N := N_check_plain) (sc := defScope s_check_plain) (by decide +kernel)) (by decide) (fun _ _ _ _ _ => pg_name (i := 3) sc_check_plain.nd rfl (by first | exact Or.inl rfl | exact Or.inr rfl) (by first | exact .inl rfl | exact .inr rfl)) (fun _ _ _ _ _ => dts_nil) (fun _ _ _ _ _ => (d_callC C_are_links hr (da_cons (dv 3) (da_cons (dv 1) da_nil))))) da_nil)))))))) (dss_one (ds_raiseT T.x_BadNetwork)) dss_nil)
    (dss_one (ds_if (t_w (w_or (t_not (t_val (d_callC C_are_inputs hr (da_cons (d_ix (dv 0) d_int) (da_cons (dv 1) (da_cons (d_cst T.c_MOST_INPUTS) da_nil)))))) (w_one (t_not (t_val (d_callC C_are_inputs hr (da_cons (d_ix (dv 0) d_int) (da_cons (dv 1) (da_cons (d_cst T.c_MOST_INPUTS) da_nil))))))))) (dss_one (ds_raiseT T.x_BadNetwork)) dss_nil))))))
def t_law_network (G : Gm) : S3 :=
    (s3Seq (s3Asg (e3TupOf (e3Lc (i3Rng1 (a3Cons (e3Var 1) a3Nil)) 7 t3Yes (e3Call (sp_law_order G) (a3Cons (e3Var 0) (a3Cons (e3Var 2) a3Nil))) [7])) 5)
    (s3Seq (s3Asg (e3TupOf (e3Lc (i3Rng1 (a3Cons (e3Var 2) a3Nil)) 8 t3Yes (e3Call (sp_law_take G) (a3Cons (e3Var 0) (a3Cons (e3Var 3) a3Nil))) [8])) 6)
    (s3Ret (e3Tup (a3Cons (e3C (.str "network")) (a3Cons (e3Var 2) (a3Cons (e3Var 5) (a3Cons (e3Var 6) (a3Cons (e3TupOf (e3Lc (i3Rng1 (a3Cons (e3Var 2) a3Nil)) 8 t3Yes (e3Call (sp_law_take G) (a3Cons (e3Var 0) (a3Cons (e3Var 4) a3Nil))) [8])) a3Nil)))))))))
theorem der_law_network (T : Txt G mg) {f_law_order : Addr} {fd_law_order : FuncData} (C_law_order : Cal P w G.K mg base 2 f_law_order fd_law_order "_law_order" ["hand", "many"] (sp_law_order G)) {f_law_take : Addr} {fd_law_take : FuncData} (C_law_take : Cal P w G.K mg base 1 f_law_take fd_law_take "_law_take" ["hand", "many"] (sp_law_take G)) (f : Addr) (cdv : Value) (A : Around) (outer : List Env) (s : Shared) (H : Hp) (E : XK) (hr : RoomG 2 (A.deeper (envOfC "_law_network" (defScope s_law_network) s.heap.objs.size f cdv))) :
    DSs (cxOf (L2.CX P w) P w G.K mg base N_law_network "_law_network" (defScope s_law_network) f cdv A outer s H E) (defBody s_law_network) (t_law_network G) :=
    (dss_cons (ds_set (i := 5) sc_law_network.nd (d_tuple T.n_tuple (d_lc [("c", 7)] rfl sc_law_network.nd (di_rng1 T.n_range (da_cons (dv 1) da_nil)) (blkOk_by (own := [("c", 7)]) (N := N_law_network) (sc := defScope s_law_network) (by decide +kernel)) (by decide) (fun _ _ _ _ _ => pg_name (i := 7) sc_law_network.nd rfl (by first | exact Or.inl rfl | exact Or.inr rfl) (by first | exact .inl rfl | exact .inr rfl)) (fun _ _ _ _ _ => dts_nil) (fun _ _ _ _ _ => (d_callC C_law_order hr (da_cons (dv 0) (da_cons (dv 2) da_nil)))))))
    (dss_cons (ds_set (i := 6) sc_law_network.nd (d_tuple T.n_tuple (d_lc [("i", 8)] rfl sc_law_network.nd (di_rng1 T.n_range (da_cons (dv 2) da_nil)) (blkOk_by (own := [("i", 8)]) (N := N_law_network) (sc := defScope s_law_network) (by decide +kernel)) (by decide) (fun _ _ _ _ _ => pg_name (i := 8) sc_law_network.nd rfl (by first | exact Or.inl rfl | exact Or.inr rfl) (by first | exact .inl rfl | exact .inr rfl)) (fun _ _ _ _ _ => dts_nil) (fun _ _ _ _ _ => (d_callC C_law_take hr (da_cons (dv 0) (da_cons (dv 3) da_nil)))))))
    (dss_one (ds_ret (d_tup (da_cons d_str (da_cons (dv 2) (da_cons (dv 5) (da_cons (dv 6) (da_cons (d_tuple T.n_tuple (d_lc [("i", 8)] rfl sc_law_network.nd (di_rng1 T.n_range (da_cons (dv 2) da_nil)) (blkOk_by (own := [("i", 8)]) (N := N_law_network) (sc := defScope s_law_network) (by decide +kernel)) (by decide) (fun _ _ _ _ _ => pg_name (i := 8) sc_law_network.nd rfl (by first | exact Or.inl rfl | exact Or.inr rfl) (by first | exact .inl rfl | exact .inr rfl)) (fun _ _ _ _ _ => dts_nil) (fun _ _ _ _ _ => (d_callC C_law_take hr (da_cons (dv 0) (da_cons (dv 4) da_nil)))))) da_nil))))))))))
def t_law_base (G : Gm) : S3 :=
    (s3Seq (s3AsgG (e3Call (sp_law_kinds G) (a3Cons (e3Var 0) a3Nil)) (g3Tup 2 (g3sCons (g3Name 6) (g3sCons (g3Name 7) g3sNil))))
    (s3Seq (s3Asg (e3CB c3Sum (a3Cons (e3Lc (i3Rng1 (a3Cons (e3CB c3Len (a3Cons (e3Var 6) a3Nil)) a3Nil)) 9 t3Yes (e3CB c3Int (a3Cons (e3Op (r3In true) (e3Op r3Ix (e3Var 6) (e3Var 9)) (e3Sl (e3Var 6) o3None (o3Some (e3Var 9)))) a3Nil)) [9]) a3Nil)) 1)
    (s3Seq (s3Asg (e3Lc (i3Rng1 (a3Cons (e3Var 1) a3Nil)) 8 t3Yes (e3Tm m3Tix (e3Var 6) (a3Cons (e3Var 8) a3Nil)) [8]) 2)
    (s3Seq (s3Asg (e3Lst a3Nil) 3)
    (s3Seq (s3For (i3Seq (e3Op r3Ix (e3Var 0) (e3C (.int 2)))) (g3Name 4) (s3Expr (e3Bm m3App (e3Var 3) (a3Cons (e3TupOf (e3Lc (i3Seq (e3Var 2)) 10 t3Yes (e3Op r3Ix (e3Var 7) (e3Op r3Ix (e3Var 4) (e3Var 10))) [10])) a3Nil))))
    (s3Seq (s3Asg (e3TupOf (e3Lc (i3Seq (e3Var 2)) 10 t3Yes (e3Op r3Ix (e3Op r3Ix (e3Var 0) (e3C (.int 3))) (e3Var 10)) [10])) 5)
    (s3Ret (e3Tup (a3Cons (e3C (.str "network")) (a3Cons (e3Var 1) (a3Cons (e3TupOf (e3Var 3)) (a3Cons (e3Var 5) (a3Cons (e3TupOf (e3Lc (i3Rng1 (a3Cons (e3Var 1) a3Nil)) 8 t3Yes (e3Op r3Ix (e3Op r3Ix (e3Var 0) (e3C (.int 4))) (e3Tm m3Tix (e3Var 7) (a3Cons (e3Var 8) a3Nil))) [8])) a3Nil)))))))))))))
theorem der_law_base (T : Txt G mg) {f_law_kinds : Addr} {fd_law_kinds : FuncData} (C_law_kinds : Cal P w G.K mg base 2 f_law_kinds fd_law_kinds "_law_kinds" ["network"] (sp_law_kinds G)) (f : Addr) (cdv : Value) (A : Around) (outer : List Env) (s : Shared) (H : Hp) (E : XK) (hr : RoomG 2 (A.deeper (envOfC "_law_base" (defScope s_law_base) s.heap.objs.size f cdv))) :
    DSs (cxOf (L2.CX P w) P w G.K mg base N_law_base "_law_base" (defScope s_law_base) f cdv A outer s H E) (defBody s_law_base) (t_law_base G) :=
    (dss_cons (ds_asg (d_callC C_law_kinds hr (da_cons (dv 0) da_nil)) (dg_tup rfl (dgs_cons (dg_name (i := 6) sc_law_base.nd) (dgs_cons (dg_name (i := 7) sc_law_base.nd) dgs_nil))))
    (dss_cons (ds_set (i := 1) sc_law_base.nd (d_sum rfl T.n_sum (da_cons (d_lc [("at", 9)] rfl sc_law_base.nd (di_rng1 T.n_range (da_cons (d_len T.n_len (da_cons (dv 6) da_nil)) da_nil)) (blkOk_by (own := [("at", 9)]) (N := N_law_base) (sc := defScope s_law_base) (by decide +kernel)) (by decide) (fun _ _ _ _ _ => pg_name (i := 9) sc_law_base.nd rfl (by first | exact Or.inl rfl | exact Or.inr rfl) (by first | exact .inl rfl | exact .inr rfl)) (fun _ _ _ _ _ => dts_nil) (fun _ _ _ _ _ => (d_intc T.n_int (da_cons (d_cmp (ho_notin hr.r) opl_notin (d_ix (dv 6) (dv 9)) (d_sl (dv 6) do_none (do_some (dv 9)))) da_nil)))) da_nil)))
    (dss_cons (by first | exact ds_setLc (j := 2) [("kind", 8)] rfl sc_law_base.nd (di_rng1 T.n_range (da_cons (dv 1) da_nil)) (blkOk_by (own := [("kind", 8)]) (N := N_law_base) (sc := defScope s_law_base) (by decide +kernel)) (by decide) (fun _ _ _ _ _ => pg_name (i := 8) sc_law_base.nd rfl (by first | exact Or.inl rfl | exact Or.inr rfl) (by first | exact .inl rfl | exact .inr rfl)) (fun _ _ _ _ _ => dts_nil) (fun _ _ _ _ _ => (d_tix (dv 6) (da_cons (dv 8) da_nil))) | exact ds_set (i := 2) sc_law_base.nd (d_lc [("kind", 8)] rfl sc_law_base.nd (di_rng1 T.n_range (da_cons (dv 1) da_nil)) (blkOk_by (own := [("kind", 8)]) (N := N_law_base) (sc := defScope s_law_base) (by decide +kernel)) (by decide) (fun _ _ _ _ _ => pg_name (i := 8) sc_law_base.nd rfl (by first | exact Or.inl rfl | exact Or.inr rfl) (by first | exact .inl rfl | exact .inr rfl)) (fun _ _ _ _ _ => dts_nil) (fun _ _ _ _ _ => (d_tix (dv 6) (da_cons (dv 8) da_nil)))))
    (dss_cons (ds_set (i := 3) sc_law_base.nd (d_lst da_nil))
    (dss_cons (ds_for rfl (di_seq (d_ix (dv 0) d_int)) (dg_name (i := 4) sc_law_base.nd) (dss_one (ds_expr (d_append (dv 3) (da_cons (d_tuple T.n_tuple (d_lc [("node", 10)] rfl sc_law_base.nd (di_seq (dv 2)) (blkOk_by (own := [("node", 10)]) (N := N_law_base) (sc := defScope s_law_base) (by decide +kernel)) (by decide) (fun _ _ _ _ _ => pg_name (i := 10) sc_law_base.nd rfl (by first | exact Or.inl rfl | exact Or.inr rfl) (by first | exact .inl rfl | exact .inr rfl)) (fun _ _ _ _ _ => dts_nil) (fun _ _ _ _ _ => (d_ix (dv 7) (d_ix (dv 4) (dv 10)))))) da_nil)))))
    (dss_cons (ds_set (i := 5) sc_law_base.nd (d_tuple T.n_tuple (d_lc [("node", 10)] rfl sc_law_base.nd (di_seq (dv 2)) (blkOk_by (own := [("node", 10)]) (N := N_law_base) (sc := defScope s_law_base) (by decide +kernel)) (by decide) (fun _ _ _ _ _ => pg_name (i := 10) sc_law_base.nd rfl (by first | exact Or.inl rfl | exact Or.inr rfl) (by first | exact .inl rfl | exact .inr rfl)) (fun _ _ _ _ _ => dts_nil) (fun _ _ _ _ _ => (d_ix (d_ix (dv 0) d_int) (dv 10))))))
    (dss_one (ds_ret (d_tup (da_cons d_str (da_cons (dv 1) (da_cons (d_tuple T.n_tuple (dv 3)) (da_cons (dv 5) (da_cons (d_tuple T.n_tuple (d_lc [("kind", 8)] rfl sc_law_base.nd (di_rng1 T.n_range (da_cons (dv 1) da_nil)) (blkOk_by (own := [("kind", 8)]) (N := N_law_base) (sc := defScope s_law_base) (by decide +kernel)) (by decide) (fun _ _ _ _ _ => pg_name (i := 8) sc_law_base.nd rfl (by first | exact Or.inl rfl | exact Or.inr rfl) (by first | exact .inl rfl | exact .inr rfl)) (fun _ _ _ _ _ => dts_nil) (fun _ _ _ _ _ => (d_ix (d_ix (dv 0) d_int) (d_tix (dv 7) (da_cons (dv 8) da_nil)))))) da_nil))))))))))))))
def t_law_turns (G : Gm) : S3 :=
    (s3Seq (s3Asg (e3Lst a3Nil) 3)
    (s3Seq (s3For (i3Rng1 (a3Cons (e3CB c3Len (a3Cons (e3Op r3Ix (e3Var 1) (e3C (.int 2))) a3Nil)) a3Nil)) (g3Name 4) (s3Expr (e3Bm m3App (e3Var 3) (a3Cons (e3TupOf (e3Lc (i3Rng1 (a3Cons (e3Op r3Ix (e3Var 1) (e3C (.int 1))) a3Nil)) 5 t3Yes (e3Call (sp_law_order G) (a3Cons (e3Var 0) (a3Cons (e3Var 2) a3Nil))) [5])) a3Nil))))
    (s3Ret (e3TupOf (e3Var 3)))))
theorem der_law_turns (T : Txt G mg) {f_law_order : Addr} {fd_law_order : FuncData} (C_law_order : Cal P w G.K mg base 2 f_law_order fd_law_order "_law_order" ["hand", "many"] (sp_law_order G)) (f : Addr) (cdv : Value) (A : Around) (outer : List Env) (s : Shared) (H : Hp) (E : XK) (hr : RoomG 2 (A.deeper (envOfC "_law_turns" (defScope s_law_turns) s.heap.objs.size f cdv))) :
    DSs (cxOf (L2.CX P w) P w G.K mg base N_law_turns "_law_turns" (defScope s_law_turns) f cdv A outer s H E) (defBody s_law_turns) (t_law_turns G) :=
    (dss_cons (ds_set (i := 3) sc_law_turns.nd (d_lst da_nil))
    (dss_cons (ds_for rfl (di_rng1 T.n_range (da_cons (d_len T.n_len (da_cons (d_ix (dv 1) d_int) da_nil)) da_nil)) (dg_name (i := 4) sc_law_turns.nd) (dss_one (ds_expr (d_append (dv 3) (da_cons (d_tuple T.n_tuple (d_lc [("i", 5)] rfl sc_law_turns.nd (di_rng1 T.n_range (da_cons (d_ix (dv 1) d_int) da_nil)) (blkOk_by (own := [("i", 5)]) (N := N_law_turns) (sc := defScope s_law_turns) (by decide +kernel)) (by decide) (fun _ _ _ _ _ => pg_name (i := 5) sc_law_turns.nd rfl (by first | exact Or.inl rfl | exact Or.inr rfl) (by first | exact .inl rfl | exact .inr rfl)) (fun _ _ _ _ _ => dts_nil) (fun _ _ _ _ _ => (d_callC C_law_order hr (da_cons (dv 0) (da_cons (dv 2) da_nil)))))) da_nil)))))
    (dss_one (ds_ret (d_tuple T.n_tuple (dv 3))))))
def t_law_mixed_up (G : Gm) : S3 :=
    (s3Seq (s3Asg (e3Call (sp_law_order G) (a3Cons (e3Var 0) (a3Cons (e3Op r3Ix (e3Var 1) (e3C (.int 1))) a3Nil))) 2)
    (s3Seq (s3Asg (e3Call (sp_law_order G) (a3Cons (e3Var 0) (a3Cons (e3Op r3Ix (e3Var 1) (e3C (.int 1))) a3Nil))) 3)
    (s3Seq (s3Asg (e3Lst a3Nil) 4)
    (s3Seq (s3For (i3Seq (e3Op r3Ix (e3Var 1) (e3C (.int 2)))) (g3Name 5) (s3Expr (e3Bm m3App (e3Var 4) (a3Cons (e3TupOf (e3Lc (i3Rng1 (a3Cons (e3Op r3Ix (e3Var 1) (e3C (.int 1))) a3Nil)) 7 t3Yes (e3Tm m3Tix (e3Var 3) (a3Cons (e3Op r3Ix (e3Var 5) (e3Op r3Ix (e3Var 2) (e3Var 7))) a3Nil)) [7])) a3Nil))))
    (s3Seq (s3Asg (e3TupOf (e3Lc (i3Rng1 (a3Cons (e3Op r3Ix (e3Var 1) (e3C (.int 1))) a3Nil)) 7 t3Yes (e3Op r3Ix (e3Op r3Ix (e3Var 1) (e3C (.int 3))) (e3Op r3Ix (e3Var 2) (e3Var 7))) [7])) 6)
    (s3Ret (e3Tup (a3Cons (e3C (.str "network")) (a3Cons (e3Op r3Ix (e3Var 1) (e3C (.int 1))) (a3Cons (e3TupOf (e3Var 4)) (a3Cons (e3Var 6) (a3Cons (e3TupOf (e3Lc (i3Rng1 (a3Cons (e3Op r3Ix (e3Var 1) (e3C (.int 1))) a3Nil)) 7 t3Yes (e3Op r3Ix (e3Op r3Ix (e3Var 1) (e3C (.int 4))) (e3Op r3Ix (e3Var 3) (e3Var 7))) [7])) a3Nil))))))))))))
theorem der_law_mixed_up (T : Txt G mg) {f_law_order : Addr} {fd_law_order : FuncData} (C_law_order : Cal P w G.K mg base 2 f_law_order fd_law_order "_law_order" ["hand", "many"] (sp_law_order G)) (f : Addr) (cdv : Value) (A : Around) (outer : List Env) (s : Shared) (H : Hp) (E : XK) (hr : RoomG 2 (A.deeper (envOfC "_law_mixed_up" (defScope s_law_mixed_up) s.heap.objs.size f cdv))) :
    DSs (cxOf (L2.CX P w) P w G.K mg base N_law_mixed_up "_law_mixed_up" (defScope s_law_mixed_up) f cdv A outer s H E) (defBody s_law_mixed_up) (t_law_mixed_up G) :=
    (dss_cons (ds_set (i := 2) sc_law_mixed_up.nd (d_callC C_law_order hr (da_cons (dv 0) (da_cons (d_ix (dv 1) d_int) da_nil))))
    (dss_cons (ds_set (i := 3) sc_law_mixed_up.nd (d_callC C_law_order hr (da_cons (dv 0) (da_cons (d_ix (dv 1) d_int) da_nil))))
    (dss_cons (ds_set (i := 4) sc_law_mixed_up.nd (d_lst da_nil))
    (dss_cons (ds_for rfl (di_seq (d_ix (dv 1) d_int)) (dg_name (i := 5) sc_law_mixed_up.nd) (dss_one (ds_expr (d_append (dv 4) (da_cons (d_tuple T.n_tuple (d_lc [("i", 7)] rfl sc_law_mixed_up.nd (di_rng1 T.n_range (da_cons (d_ix (dv 1) d_int) da_nil)) (blkOk_by (own := [("i", 7)]) (N := N_law_mixed_up) (sc := defScope s_law_mixed_up) (by decide +kernel)) (by decide) (fun _ _ _ _ _ => pg_name (i := 7) sc_law_mixed_up.nd rfl (by first | exact Or.inl rfl | exact Or.inr rfl) (by first | exact .inl rfl | exact .inr rfl)) (fun _ _ _ _ _ => dts_nil) (fun _ _ _ _ _ => (d_tix (dv 3) (da_cons (d_ix (dv 5) (d_ix (dv 2) (dv 7))) da_nil))))) da_nil)))))
    (dss_cons (ds_set (i := 6) sc_law_mixed_up.nd (d_tuple T.n_tuple (d_lc [("i", 7)] rfl sc_law_mixed_up.nd (di_rng1 T.n_range (da_cons (d_ix (dv 1) d_int) da_nil)) (blkOk_by (own := [("i", 7)]) (N := N_law_mixed_up) (sc := defScope s_law_mixed_up) (by decide +kernel)) (by decide) (fun _ _ _ _ _ => pg_name (i := 7) sc_law_mixed_up.nd rfl (by first | exact Or.inl rfl | exact Or.inr rfl) (by first | exact .inl rfl | exact .inr rfl)) (fun _ _ _ _ _ => dts_nil) (fun _ _ _ _ _ => (d_ix (d_ix (dv 1) d_int) (d_ix (dv 2) (dv 7)))))))
    (dss_one (ds_ret (d_tup (da_cons d_str (da_cons (d_ix (dv 1) d_int) (da_cons (d_tuple T.n_tuple (dv 4)) (da_cons (dv 6) (da_cons (d_tuple T.n_tuple (d_lc [("i", 7)] rfl sc_law_mixed_up.nd (di_rng1 T.n_range (da_cons (d_ix (dv 1) d_int) da_nil)) (blkOk_by (own := [("i", 7)]) (N := N_law_mixed_up) (sc := defScope s_law_mixed_up) (by decide +kernel)) (by decide) (fun _ _ _ _ _ => pg_name (i := 7) sc_law_mixed_up.nd rfl (by first | exact Or.inl rfl | exact Or.inr rfl) (by first | exact .inl rfl | exact .inr rfl)) (fun _ _ _ _ _ => dts_nil) (fun _ _ _ _ _ => (d_ix (d_ix (dv 1) d_int) (d_ix (dv 3) (dv 7)))))) da_nil)))))))))))))
def t_kinds (G : Gm) : S3 :=
    (s3Seq (s3Expr (e3Call (sp_check_plain G) (a3Cons (e3Var 0) a3Nil)))
    (s3Seq (s3Asg (e3Call (sp_back_links G) (a3Cons (e3Var 0) a3Nil)) 1)
    (s3Seq (s3Par 3 4 (a3Cons (e3Call (sp_numbered G) (a3Cons (e3Op r3Ix (e3Var 0) (e3C (.int 3))) a3Nil)) (a3Cons (e3Call (sp_numbered G) (a3Cons (e3Op r3Ix (e3Var 0) (e3C (.int 4))) a3Nil)) a3Nil)))
    (s3Seq (s3Asg (e3Neg (e3C (.int 1))) 2)
    (s3Seq (s3While (t3Test (e3Op r3Lt (e3Var 2) (e3Op r3Add (e3CB c3MaxL (a3Cons (e3Var 3) a3Nil)) (e3CB c3MaxL (a3Cons (e3Var 4) a3Nil))))) (s3Seq (s3Asg (e3Op r3Add (e3CB c3MaxL (a3Cons (e3Var 3) a3Nil)) (e3CB c3MaxL (a3Cons (e3Var 4) a3Nil))) 2)
    (s3Par 3 4 (a3Cons (e3Call (sp_finer G) (a3Cons (e3Var 3) (a3Cons (e3Var 4) (a3Cons (e3Op r3Ix (e3Var 0) (e3C (.int 2))) a3Nil)))) (a3Cons (e3Call (sp_finer G) (a3Cons (e3Var 4) (a3Cons (e3Var 3) (a3Cons (e3Var 1) a3Nil)))) a3Nil)))))
    (s3Ret (e3Tup (a3Cons (e3TupOf (e3Var 3)) (a3Cons (e3TupOf (e3Var 4)) a3Nil)))))))))
theorem der_kinds (T : Txt G mg) {f_check_plain : Addr} {fd_check_plain : FuncData} (C_check_plain : Cal P w G.K mg base 3 f_check_plain fd_check_plain "check_plain" ["network"] (sp_check_plain G)) {f_back_links : Addr} {fd_back_links : FuncData} (C_back_links : Cal P w G.K mg base 1 f_back_links fd_back_links "back_links" ["network"] (sp_back_links G)) {f_numbered : Addr} {fd_numbered : FuncData} (C_numbered : Cal P w G.K mg base 1 f_numbered fd_numbered "numbered" ["marks"] (sp_numbered G)) {f_finer : Addr} {fd_finer : FuncData} (C_finer : Cal P w G.K mg base 2 f_finer fd_finer "finer" ["own", "other", "links"] (sp_finer G)) (f : Addr) (cdv : Value) (A : Around) (outer : List Env) (s : Shared) (H : Hp) (E : XK) (hr : RoomG 3 (A.deeper (envOfC "kinds" (defScope s_kinds) s.heap.objs.size f cdv))) :
    DSs (cxOf (L2.CX P w) P w G.K mg base N_kinds "kinds" (defScope s_kinds) f cdv A outer s H E) (defBody s_kinds) (t_kinds G) :=
    (dss_cons (ds_expr (d_callC C_check_plain hr (da_cons (dv 0) da_nil)))
    (dss_cons (ds_set (i := 1) sc_kinds.nd (d_callC C_back_links hr (da_cons (dv 0) da_nil)))
    (dss_cons (ds_par rfl sc_kinds.nd (da_cons (d_callC C_numbered hr (da_cons (d_ix (dv 0) d_int) da_nil)) (da_cons (d_callC C_numbered hr (da_cons (d_ix (dv 0) d_int) da_nil)) da_nil)) (i := 3) (j := 4))
    (dss_cons (ds_set (i := 2) sc_kinds.nd (d_neg d_int))
    (dss_cons (ds_while (t_cmp op_lt opl_Lt (dv 2) (d_add (d_maxL rfl T.n_max (da_cons (dv 3) da_nil)) (d_maxL rfl T.n_max (da_cons (dv 4) da_nil)))) (dss_cons (ds_set (i := 2) sc_kinds.nd (d_add (d_maxL rfl T.n_max (da_cons (dv 3) da_nil)) (d_maxL rfl T.n_max (da_cons (dv 4) da_nil))))
    (dss_one (ds_par rfl sc_kinds.nd (da_cons (d_callC C_finer hr (da_cons (dv 3) (da_cons (dv 4) (da_cons (d_ix (dv 0) d_int) da_nil)))) (da_cons (d_callC C_finer hr (da_cons (dv 4) (da_cons (dv 3) (da_cons (dv 1) da_nil)))) da_nil)) (i := 3) (j := 4)))))
    (dss_one (ds_ret (d_tup (da_cons (d_tuple T.n_tuple (dv 3)) (da_cons (d_tuple T.n_tuple (dv 4)) da_nil))))))))))
def t_law_copies (G : Gm) : S3 :=
    (s3Seq (s3Asg (e3Call (sp_law_network G) (a3Cons (e3Var 0) (a3Cons (e3Var 1) (a3Cons (e3Op r3Add (e3C (.int 1)) (e3Call (sp_law_take G) (a3Cons (e3Var 0) (a3Cons (e3C (.int 3)) a3Nil)))) (a3Cons (e3Var 2) (a3Cons (e3Var 3) a3Nil)))))) 5)
    (s3Seq (s3Asg (e3Op r3Add (e3C (.int 1)) (e3Call (sp_law_take G) (a3Cons (e3Var 0) (a3Cons (e3Var 4) a3Nil)))) 6)
    (s3Ret (e3Call (sp_law_mixed_up G) (a3Cons (e3Var 0) (a3Cons (e3Call (sp_law_cover G) (a3Cons (e3Var 5) (a3Cons (e3Call (sp_law_turns G) (a3Cons (e3Var 0) (a3Cons (e3Var 5) (a3Cons (e3Var 6) a3Nil)))) a3Nil))) a3Nil))))))
theorem der_law_copies (T : Txt G mg) {f_law_network : Addr} {fd_law_network : FuncData} (C_law_network : Cal P w G.K mg base 3 f_law_network fd_law_network "_law_network" ["hand", "colours", "many", "p", "q"] (sp_law_network G)) {f_law_take : Addr} {fd_law_take : FuncData} (C_law_take : Cal P w G.K mg base 1 f_law_take fd_law_take "_law_take" ["hand", "many"] (sp_law_take G)) {f_law_mixed_up : Addr} {fd_law_mixed_up : FuncData} (C_law_mixed_up : Cal P w G.K mg base 3 f_law_mixed_up fd_law_mixed_up "_law_mixed_up" ["hand", "network"] (sp_law_mixed_up G)) {f_law_cover : Addr} {fd_law_cover : FuncData} (C_law_cover : Cal P w G.K mg base 1 f_law_cover fd_law_cover "_law_cover" ["network", "turns"] (sp_law_cover G)) {f_law_turns : Addr} {fd_law_turns : FuncData} (C_law_turns : Cal P w G.K mg base 3 f_law_turns fd_law_turns "_law_turns" ["hand", "network", "copies"] (sp_law_turns G)) (f : Addr) (cdv : Value) (A : Around) (outer : List Env) (s : Shared) (H : Hp) (E : XK) (hr : RoomG 3 (A.deeper (envOfC "_law_copies" (defScope s_law_copies) s.heap.objs.size f cdv))) :
    DSs (cxOf (L2.CX P w) P w G.K mg base N_law_copies "_law_copies" (defScope s_law_copies) f cdv A outer s H E) (defBody s_law_copies) (t_law_copies G) :=
    (dss_cons (ds_set (i := 5) sc_law_copies.nd (d_callC C_law_network hr (da_cons (dv 0) (da_cons (dv 1) (da_cons (d_add d_int (d_callC C_law_take hr (da_cons (dv 0) (da_cons d_int da_nil)))) (da_cons (dv 2) (da_cons (dv 3) da_nil)))))))
    (dss_cons (ds_set (i := 6) sc_law_copies.nd (d_add d_int (d_callC C_law_take hr (da_cons (dv 0) (da_cons (dv 4) da_nil)))))
    (dss_one (ds_ret (d_callC C_law_mixed_up hr (da_cons (dv 0) (da_cons (d_callC C_law_cover hr (da_cons (dv 5) (da_cons (d_callC C_law_turns hr (da_cons (dv 0) (da_cons (dv 5) (da_cons (dv 6) da_nil)))) da_nil))) da_nil)))))))
def t_base_of (G : Gm) : S3 :=
    (s3Seq (s3AsgG (e3Call (sp_kinds G) (a3Cons (e3Var 0) a3Nil)) (g3Tup 2 (g3sCons (g3Name 3) (g3sCons (g3Name 4) g3sNil))))
    (s3Seq (s3AsgG (e3Tup (a3Cons (e3Call (sp_first_of G) (a3Cons (e3Var 3) a3Nil)) (a3Cons (e3Call (sp_first_of G) (a3Cons (e3Var 4) a3Nil)) a3Nil))) (g3Tup 2 (g3sCons (g3Name 5) (g3sCons (g3Name 6) g3sNil))))
    (s3Seq (s3Asg (e3TupOf (e3Lc (i3Seq (e3Op r3Ix (e3Var 0) (e3C (.int 2)))) 7 t3Yes (e3TupOf (e3Lc (i3Seq (e3Var 5)) 8 t3Yes (e3Op r3Ix (e3Var 4) (e3Op r3Ix (e3Var 7) (e3Var 8))) [8])) [7])) 1)
    (s3Seq (s3Asg (e3Tup (a3Cons (e3TupOf (e3Lc (i3Seq (e3Var 5)) 8 t3Yes (e3Op r3Ix (e3Op r3Ix (e3Var 0) (e3C (.int 3))) (e3Var 8)) [8])) (a3Cons (e3TupOf (e3Lc (i3Seq (e3Var 6)) 8 t3Yes (e3Op r3Ix (e3Op r3Ix (e3Var 0) (e3C (.int 4))) (e3Var 8)) [8])) a3Nil))) 2)
    (s3Ret (e3Tup (a3Cons (e3C (.str "network")) (a3Cons (e3CB c3Len (a3Cons (e3Var 5) a3Nil)) (a3Cons (e3Var 1) (a3Cons (e3Op r3Ix (e3Var 2) (e3C (.int 0))) (a3Cons (e3Op r3Ix (e3Var 2) (e3C (.int 1))) a3Nil)))))))))))
theorem der_base_of (T : Txt G mg) {f_kinds : Addr} {fd_kinds : FuncData} (C_kinds : Cal P w G.K mg base 4 f_kinds fd_kinds "kinds" ["network"] (sp_kinds G)) {f_first_of : Addr} {fd_first_of : FuncData} (C_first_of : Cal P w G.K mg base 1 f_first_of fd_first_of "first_of" ["numbers"] (sp_first_of G)) (f : Addr) (cdv : Value) (A : Around) (outer : List Env) (s : Shared) (H : Hp) (E : XK) (hr : RoomG 4 (A.deeper (envOfC "base_of" (defScope s_base_of) s.heap.objs.size f cdv))) :
    DSs (cxOf (L2.CX P w) P w G.K mg base N_base_of "base_of" (defScope s_base_of) f cdv A outer s H E) (defBody s_base_of) (t_base_of G) :=
    (dss_cons (ds_asg (d_callC C_kinds hr (da_cons (dv 0) da_nil)) (dg_tup rfl (dgs_cons (dg_name (i := 3) sc_base_of.nd) (dgs_cons (dg_name (i := 4) sc_base_of.nd) dgs_nil))))
    (dss_cons (ds_asg (d_tup (da_cons (d_callC C_first_of hr (da_cons (dv 3) da_nil)) (da_cons (d_callC C_first_of hr (da_cons (dv 4) da_nil)) da_nil))) (dg_tup rfl (dgs_cons (dg_name (i := 5) sc_base_of.nd) (dgs_cons (dg_name (i := 6) sc_base_of.nd) dgs_nil))))
    (dss_cons (ds_set (i := 1) sc_base_of.nd (d_tuple T.n_tuple (d_lc [("row", 7)] rfl sc_base_of.nd (di_seq (d_ix (dv 0) d_int)) (blkOk_by (own := [("row", 7)]) (N := N_base_of) (sc := defScope s_base_of) (by decide +kernel)) (by decide) (fun _ _ _ _ _ => pg_name (i := 7) sc_base_of.nd rfl (by first | exact Or.inl rfl | exact Or.inr rfl) (by first | exact .inl rfl | exact .inr rfl)) (fun _ _ _ _ _ => dts_nil) (fun _ _ _ _ _ => (d_tuple T.n_tuple (d_lc [("node", 8)] rfl sc_base_of.nd (di_seq (dv 5)) (blkOk_by (own := [("node", 8)]) (N := N_base_of) (by rfl)) (by decide) (fun _ _ _ _ _ => pg_name (i := 8) sc_base_of.nd rfl (by first | exact Or.inl rfl | exact Or.inr rfl) (by first | exact .inl rfl | exact .inr rfl)) (fun _ _ _ _ _ => dts_nil) (fun _ _ _ _ _ => (d_ix (dv 4) (d_ix (dv 7) (dv 8))))))))))
    (dss_cons (ds_set (i := 2) sc_base_of.nd (d_tup (da_cons (d_tuple T.n_tuple (d_lc [("node", 8)] rfl sc_base_of.nd (di_seq (dv 5)) (blkOk_by (own := [("node", 8)]) (N := N_base_of) (sc := defScope s_base_of) (by decide +kernel)) (by decide) (fun _ _ _ _ _ => pg_name (i := 8) sc_base_of.nd rfl (by first | exact Or.inl rfl | exact Or.inr rfl) (by first | exact .inl rfl | exact .inr rfl)) (fun _ _ _ _ _ => dts_nil) (fun _ _ _ _ _ => (d_ix (d_ix (dv 0) d_int) (dv 8))))) (da_cons (d_tuple T.n_tuple (d_lc [("node", 8)] rfl sc_base_of.nd (di_seq (dv 6)) (blkOk_by (own := [("node", 8)]) (N := N_base_of) (sc := defScope s_base_of) (by decide +kernel)) (by decide) (fun _ _ _ _ _ => pg_name (i := 8) sc_base_of.nd rfl (by first | exact Or.inl rfl | exact Or.inr rfl) (by first | exact .inl rfl | exact .inr rfl)) (fun _ _ _ _ _ => dts_nil) (fun _ _ _ _ _ => (d_ix (d_ix (dv 0) d_int) (dv 8))))) da_nil))))
    (dss_one (ds_ret (d_tup (da_cons d_str (da_cons (d_len T.n_len (da_cons (dv 5) da_nil)) (da_cons (dv 1) (da_cons (d_ix (dv 2) d_int) (da_cons (d_ix (dv 2) d_int) da_nil))))))))))))
def t_law_refused (G : Gm) : S3 :=
    (s3Seq (s3Try G.K (.ref G.BadNetwork) (s3If (t3Test (e3Var 1)) (s3Expr (e3Call (sp_kinds G) (a3Cons (e3Var 0) a3Nil))) (s3Expr (e3Call (sp_base_of G) (a3Cons (e3Var 0) a3Nil)))) (s3Ret (e3C (.bl true))))
    (s3Ret (e3C (.bl false))))
theorem der_law_refused (T : Txt G mg) {f_kinds : Addr} {fd_kinds : FuncData} (C_kinds : Cal P w G.K mg base 4 f_kinds fd_kinds "kinds" ["network"] (sp_kinds G)) {f_base_of : Addr} {fd_base_of : FuncData} (C_base_of : Cal P w G.K mg base 5 f_base_of fd_base_of "base_of" ["network"] (sp_base_of G)) (f : Addr) (cdv : Value) (A : Around) (outer : List Env) (s : Shared) (H : Hp) (E : XK) (hr : RoomG 5 (A.deeper (envOfC "_law_refused" (defScope s_law_refused) s.heap.objs.size f cdv))) :
    DSs (cxOf (L2.CX P w) P w G.K mg base N_law_refused "_law_refused" (defScope s_law_refused) f cdv A outer s H E) (defBody s_law_refused) (t_law_refused G) :=
    (dss_cons (ds_try rfl rfl ⟨rfl, by decide, .inl T.x_BadNetwork.g⟩ (fun _ _ => (dss_one (ds_if (t_val (dv 1)) (dss_one (ds_expr (d_callC C_kinds hr (da_cons (dv 0) da_nil)))) (dss_one (ds_expr (d_callC C_base_of hr (da_cons (dv 0) da_nil))))))) (fun _ _ _ => (dss_one (ds_ret d_bl))))
    (dss_one (ds_ret d_bl)))
def t_law_like (G : Gm) (sf : Sp3) : S3 :=
    (s3Seq (s3If (t3Test (e3CB c3Isi (a3Cons (e3Var 1) (a3Cons (e3C (.ty "tuple")) a3Nil)))) (s3Seq (s3If (t3Or (t3Not (t3Test (e3CB c3Isi (a3Cons (e3Var 0) (a3Cons (e3C (.ty "tuple")) a3Nil))))) (t3Test (e3Op r3Ne (e3CB c3Len (a3Cons (e3Var 0) a3Nil)) (e3CB c3Len (a3Cons (e3Var 1) a3Nil))))) (s3Ret (e3C (.bl false))) s3Nil)
    (s3Ret (e3CB c3All (a3Cons (e3Lc (i3Rng1 (a3Cons (e3CB c3Len (a3Cons (e3Var 1) a3Nil)) a3Nil)) 2 t3Yes (e3Call sf (a3Cons (e3Op r3Ix (e3Var 0) (e3Var 2)) (a3Cons (e3Op r3Ix (e3Var 1) (e3Var 2)) a3Nil))) [2]) a3Nil)))) s3Nil)
    (s3Seq (s3If (t3Test (e3Op r3Is (e3Var 1) (e3C .non))) (s3Ret (e3Op r3Is (e3Var 0) (e3C .non))) s3Nil)
    (s3Seq (s3If (t3Test (e3CB c3Isi (a3Cons (e3Var 1) (a3Cons (e3C (.ty "int")) a3Nil)))) (s3Ret (e3And (e3Call (sp_law_whole G) (a3Cons (e3Var 0) a3Nil)) (e3Op r3Eq (e3Var 0) (e3Var 1)))) s3Nil)
    (s3Ret (e3And (e3CB c3Isi (a3Cons (e3Var 0) (a3Cons (e3C (.ty "str")) a3Nil))) (e3Op r3Eq (e3Var 0) (e3Var 1)))))))
theorem der_law_like (T : Txt G mg) {f_law_whole : Addr} {fd_law_whole : FuncData} (C_law_whole : Cal P w G.K mg base 1 f_law_whole fd_law_whole "_law_whole" ["found"] (sp_law_whole G)) {kk : Nat} {sf : Sp3} {f_law_like : Addr} {fd_law_like : FuncData} (C_law_like : Cal P w G.K mg base kk f_law_like fd_law_like "_law_like" ["found", "due"] sf) (hkk : 1 ≤ kk) (f : Addr) (cdv : Value) (A : Around) (outer : List Env) (s : Shared) (H : Hp) (E : XK) (hr : RoomG kk (A.deeper (envOfC "_law_like" (defScope s_law_like) s.heap.objs.size f cdv))) :
    DSs (cxOf (L2.CX P w) P w G.K mg base N_law_like "_law_like" (defScope s_law_like) f cdv A outer s H E) (defBody s_law_like) (t_law_like G sf) :=
    (dss_cons (ds_if (t_val (d_isi T.n_isinstance (da_cons (dv 1) (da_cons (d_ty (n := "tuple") rfl T.n_tuple (by decide +kernel)) da_nil)))) (dss_cons (ds_if (t_w (w_or (t_not (t_val (d_isi T.n_isinstance (da_cons (dv 0) (da_cons (d_ty (n := "tuple") rfl T.n_tuple (by decide +kernel)) da_nil))))) (w_one (t_cmp (ho_ne hr.r) opl_ne (d_len T.n_len (da_cons (dv 0) da_nil)) (d_len T.n_len (da_cons (dv 1) da_nil)))))) (dss_one (ds_ret d_bl)) dss_nil)
    (dss_one (ds_ret (d_all rfl T.n_all (da_cons (d_lc [("k", 2)] rfl sc_law_like.nd (di_rng1 T.n_range (da_cons (d_len T.n_len (da_cons (dv 1) da_nil)) da_nil)) (blkOk_by (own := [("k", 2)]) (N := N_law_like) (sc := defScope s_law_like) (by decide +kernel)) (by decide) (fun _ _ _ _ _ => pg_name (i := 2) sc_law_like.nd rfl (by first | exact Or.inl rfl | exact Or.inr rfl) (by first | exact .inl rfl | exact .inr rfl)) (fun _ _ _ _ _ => dts_nil) (fun _ _ _ _ _ => (d_callC (hj := Nat.le_refl _) C_law_like hr (da_cons (d_ix (dv 0) (dv 2)) (da_cons (d_ix (dv 1) (dv 2)) da_nil))))) da_nil))))) dss_nil)
    (dss_cons (ds_if (t_cmp op_isN opl_is (dv 1) d_non) (dss_one (ds_ret (d_cmp op_isN opl_is (dv 0) d_non))) dss_nil)
    (dss_cons (ds_if (t_val (d_isi T.n_isinstance (da_cons (dv 1) (da_cons (d_ty (n := "int") rfl T.n_int (by decide +kernel)) da_nil)))) (dss_one (ds_ret (d_and (d_callC (hj := Nat.le_trans (by decide) hkk) C_law_whole hr (da_cons (dv 0) da_nil)) (d_one (d_cmp (ho_eq hr.r) opl_eq (dv 0) (dv 1)))))) dss_nil)
    (dss_one (ds_ret (d_and (d_isi T.n_isinstance (da_cons (dv 0) (da_cons (d_ty (n := "str") rfl T.n_str (by decide +kernel)) da_nil))) (d_one (d_cmp (ho_eq hr.r) opl_eq (dv 0) (dv 1)))))))))
def t_law_branch (G : Gm) (sf : Sp3) : S3 :=
    (s3Seq (s3Asg (e3Op r3Ix (e3Op r3Ix (e3Var 0) (e3Op r3Add (e3C (.int 3)) (e3Var 1))) (e3Var 2)) 5)
    (s3Seq (s3If (t3Test (e3Op r3Eq (e3Var 3) (e3C (.int 0)))) (s3Ret (e3Tup (a3Cons (e3Var 5) a3Nil))) s3Nil)
    (s3Seq (s3Asg (e3Lst a3Nil) 6)
    (s3Seq (s3For (i3Rng2 (a3Cons (e3C (.int 1)) (a3Cons (e3Op r3Add (e3CB c3Len (a3Cons (e3Op r3Ix (e3Var 0) (e3C (.int 2))) a3Nil)) (e3C (.int 1))) a3Nil))) (g3Name 7) (s3If (t3Test (e3Op r3Eq (e3Var 7) (e3Var 4))) (s3Expr (e3Bm m3App (e3Var 6) (a3Cons (e3C .non) a3Nil))) (s3Expr (e3Bm m3App (e3Var 6) (a3Cons (e3Call sf (a3Cons (e3Var 0) (a3Cons (e3Op r3Sub (e3C (.int 1)) (e3Var 1)) (a3Cons (e3Call (sp_law_behind G) (a3Cons (e3Var 0) (a3Cons (e3Var 1) (a3Cons (e3Var 2) (a3Cons (e3Var 7) a3Nil))))) (a3Cons (e3Op r3Sub (e3Var 3) (e3C (.int 1))) (a3Cons (e3Var 7) a3Nil)))))) a3Nil)))))
    (s3Ret (e3Tup (a3Cons (e3Var 5) (a3Cons (e3TupOf (e3Var 6)) a3Nil))))))))
theorem der_law_branch (T : Txt G mg) {f_law_behind : Addr} {fd_law_behind : FuncData} (C_law_behind : Cal P w G.K mg base 1 f_law_behind fd_law_behind "_law_behind" ["network", "side", "node", "colour"] (sp_law_behind G)) {kk : Nat} {sf : Sp3} {f_law_branch : Addr} {fd_law_branch : FuncData} (C_law_branch : Cal P w G.K mg base kk f_law_branch fd_law_branch "_law_branch" ["network", "side", "node", "reach", "colour"] sf) (hkk : 1 ≤ kk) (f : Addr) (cdv : Value) (A : Around) (outer : List Env) (s : Shared) (H : Hp) (E : XK) (hr : RoomG kk (A.deeper (envOfC "_law_branch" (defScope s_law_branch) s.heap.objs.size f cdv))) :
    DSs (cxOf (L2.CX P w) P w G.K mg base N_law_branch "_law_branch" (defScope s_law_branch) f cdv A outer s H E) (defBody s_law_branch) (t_law_branch G sf) :=
    (dss_cons (ds_set (i := 5) sc_law_branch.nd (d_ix (d_ix (dv 0) (d_add d_int (dv 1))) (dv 2)))
    (dss_cons (ds_if (t_cmp (ho_eq hr.r) opl_eq (dv 3) d_int) (dss_one (ds_ret (d_tup (da_cons (dv 5) da_nil)))) dss_nil)
    (dss_cons (ds_set (i := 6) sc_law_branch.nd (d_lst da_nil))
    (dss_cons (ds_for rfl (di_rng2 T.n_range (da_cons d_int (da_cons (d_add (d_len T.n_len (da_cons (d_ix (dv 0) d_int) da_nil)) d_int) da_nil))) (dg_name (i := 7) sc_law_branch.nd) (dss_one (ds_if (t_cmp (ho_eq hr.r) opl_eq (dv 7) (dv 4)) (dss_one (ds_expr (d_append (dv 6) (da_cons d_non da_nil)))) (dss_one (ds_expr (d_append (dv 6) (da_cons (d_callC (hj := Nat.le_refl _) C_law_branch hr (da_cons (dv 0) (da_cons (d_sub d_int (dv 1)) (da_cons (d_callC (hj := Nat.le_trans (by decide) hkk) C_law_behind hr (da_cons (dv 0) (da_cons (dv 1) (da_cons (dv 2) (da_cons (dv 7) da_nil))))) (da_cons (d_sub (dv 3) d_int) (da_cons (dv 7) da_nil)))))) da_nil)))))))
    (dss_one (ds_ret (d_tup (da_cons (dv 5) (da_cons (d_tuple T.n_tuple (dv 6)) da_nil)))))))))
def t_law_alike_views (G : Gm) : S3 :=
    (s3Seq (s3Asg (e3Op r3Sub (e3C (.int 5)) (e3CB c3Len (a3Cons (e3Op r3Ix (e3Var 0) (e3C (.int 2))) a3Nil))) 2)
    (s3Seq (s3For (i3Rng1 (a3Cons (e3C (.int 2)) a3Nil)) (g3Name 3) (s3For (i3Rng1 (a3Cons (e3Op r3Ix (e3Var 0) (e3C (.int 1))) a3Nil)) (g3Name 4) (s3Seq (s3Asg (e3Tm m3Tix (e3Op r3Ix (e3Var 1) (e3Var 3)) (a3Cons (e3Op r3Ix (e3Op r3Ix (e3Var 1) (e3Var 3)) (e3Var 4)) a3Nil)) 5)
    (s3If (t3Test (e3Op r3Ne (e3Var 5) (e3Var 4))) (s3If (t3Test (e3Op r3Ne (e3Call (sp_law_branch G) (a3Cons (e3Var 0) (a3Cons (e3Var 3) (a3Cons (e3Var 4) (a3Cons (e3Var 2) (a3Cons (e3C (.int 0)) a3Nil)))))) (e3Call (sp_law_branch G) (a3Cons (e3Var 0) (a3Cons (e3Var 3) (a3Cons (e3Var 5) (a3Cons (e3Var 2) (a3Cons (e3C (.int 0)) a3Nil)))))))) (s3Ret (e3C (.bl false))) s3Nil) s3Nil))))
    (s3Ret (e3C (.bl true)))))
theorem der_law_alike_views (T : Txt G mg) {f_law_branch : Addr} {fd_law_branch : FuncData} (C_law_branch : Cal P w G.K mg base 7 f_law_branch fd_law_branch "_law_branch" ["network", "side", "node", "reach", "colour"] (sp_law_branch G)) (f : Addr) (cdv : Value) (A : Around) (outer : List Env) (s : Shared) (H : Hp) (E : XK) (hr : RoomG 7 (A.deeper (envOfC "_law_alike_views" (defScope s_law_alike_views) s.heap.objs.size f cdv))) :
    DSs (cxOf (L2.CX P w) P w G.K mg base N_law_alike_views "_law_alike_views" (defScope s_law_alike_views) f cdv A outer s H E) (defBody s_law_alike_views) (t_law_alike_views G) :=
    (dss_cons (ds_set (i := 2) sc_law_alike_views.nd (d_sub d_int (d_len T.n_len (da_cons (d_ix (dv 0) d_int) da_nil))))
    (dss_cons (ds_for rfl (di_rng1 T.n_range (da_cons d_int da_nil)) (dg_name (i := 3) sc_law_alike_views.nd) (dss_one (ds_for rfl (di_rng1 T.n_range (da_cons (d_ix (dv 0) d_int) da_nil)) (dg_name (i := 4) sc_law_alike_views.nd) (dss_cons (ds_set (i := 5) sc_law_alike_views.nd (d_tix (d_ix (dv 1) (dv 3)) (da_cons (d_ix (d_ix (dv 1) (dv 3)) (dv 4)) da_nil)))
    (dss_one (ds_if (t_cmp (ho_ne hr.r) opl_ne (dv 5) (dv 4)) (dss_one (ds_if (t_cmp (ho_ne hr.r) opl_ne (d_callC C_law_branch hr (da_cons (dv 0) (da_cons (dv 3) (da_cons (dv 4) (da_cons (dv 2) (da_cons d_int da_nil)))))) (d_callC C_law_branch hr (da_cons (dv 0) (da_cons (dv 3) (da_cons (dv 5) (da_cons (dv 2) (da_cons d_int da_nil))))))) (dss_one (ds_ret d_bl)) dss_nil)) dss_nil))))))
    (dss_one (ds_ret d_bl))))
def t_law_right (G : Gm) : S3 :=
    (s3Seq (s3Asg (e3Call (sp_law_kinds G) (a3Cons (e3Var 0) a3Nil)) 1)
    (s3Seq (s3If (t3Or (t3Not (t3Test (e3Call (sp_law_alike_views G) (a3Cons (e3Var 0) (a3Cons (e3Var 1) a3Nil))))) (t3Not (t3Test (e3Call (sp_law_like G) (a3Cons (e3Call (sp_kinds G) (a3Cons (e3Var 0) a3Nil)) (a3Cons (e3Var 1) a3Nil)))))) (s3Ret (e3C (.bl false))) s3Nil)
    (s3Seq (s3Asg (e3Call (sp_law_base G) (a3Cons (e3Var 0) a3Nil)) 2)
    (s3Seq (s3If (t3Not (t3Test (e3Call (sp_law_like G) (a3Cons (e3Call (sp_base_of G) (a3Cons (e3Var 0) a3Nil)) (a3Cons (e3Var 2) a3Nil))))) (s3Ret (e3C (.bl false))) s3Nil)
    (s3Seq (s3Asg (e3TupRg1 (e3Op r3Ix (e3Var 2) (e3C (.int 1)))) 3)
    (s3Ret (e3And (e3Call (sp_law_like G) (a3Cons (e3Call (sp_kinds G) (a3Cons (e3Var 2) a3Nil)) (a3Cons (e3Tup (a3Cons (e3Var 3) (a3Cons (e3Var 3) a3Nil))) a3Nil))) (e3Call (sp_law_like G) (a3Cons (e3Call (sp_base_of G) (a3Cons (e3Var 2) a3Nil)) (a3Cons (e3Var 2) a3Nil))))))))))
theorem der_law_right (T : Txt G mg) {f_law_kinds : Addr} {fd_law_kinds : FuncData} (C_law_kinds : Cal P w G.K mg base 2 f_law_kinds fd_law_kinds "_law_kinds" ["network"] (sp_law_kinds G)) {f_law_alike_views : Addr} {fd_law_alike_views : FuncData} (C_law_alike_views : Cal P w G.K mg base 8 f_law_alike_views fd_law_alike_views "_law_alike_views" ["network", "numbers"] (sp_law_alike_views G)) {f_law_like : Addr} {fd_law_like : FuncData} (C_law_like : Cal P w G.K mg base 7 f_law_like fd_law_like "_law_like" ["found", "due"] (sp_law_like G)) {f_kinds : Addr} {fd_kinds : FuncData} (C_kinds : Cal P w G.K mg base 4 f_kinds fd_kinds "kinds" ["network"] (sp_kinds G)) {f_law_base : Addr} {fd_law_base : FuncData} (C_law_base : Cal P w G.K mg base 3 f_law_base fd_law_base "_law_base" ["network"] (sp_law_base G)) {f_base_of : Addr} {fd_base_of : FuncData} (C_base_of : Cal P w G.K mg base 5 f_base_of fd_base_of "base_of" ["network"] (sp_base_of G)) (f : Addr) (cdv : Value) (A : Around) (outer : List Env) (s : Shared) (H : Hp) (E : XK) (hr : RoomG 8 (A.deeper (envOfC "_law_right" (defScope s_law_right) s.heap.objs.size f cdv))) :
    DSs (cxOf (L2.CX P w) P w G.K mg base N_law_right "_law_right" (defScope s_law_right) f cdv A outer s H E) (defBody s_law_right) (t_law_right G) :=
    (dss_cons (ds_set (i := 1) sc_law_right.nd (d_callC C_law_kinds hr (da_cons (dv 0) da_nil)))
    (dss_cons (ds_if (t_w (w_or (t_not (t_val (d_callC C_law_alike_views hr (da_cons (dv 0) (da_cons (dv 1) da_nil))))) (w_one (t_not (t_val (d_callC C_law_like hr (da_cons (d_callC C_kinds hr (da_cons (dv 0) da_nil)) (da_cons (dv 1) da_nil)))))))) (dss_one (ds_ret d_bl)) dss_nil)
    (dss_cons (ds_set (i := 2) sc_law_right.nd (d_callC C_law_base hr (da_cons (dv 0) da_nil)))
    (dss_cons (ds_if (t_not (t_val (d_callC C_law_like hr (da_cons (d_callC C_base_of hr (da_cons (dv 0) da_nil)) (da_cons (dv 2) da_nil))))) (dss_one (ds_ret d_bl)) dss_nil)
    (dss_cons (ds_set (i := 3) sc_law_right.nd (d_tupleRg1 rfl T.n_tuple T.n_range (d_ix (dv 2) d_int)))
    (dss_one (ds_ret (d_and (d_callC C_law_like hr (da_cons (d_callC C_kinds hr (da_cons (dv 2) da_nil)) (da_cons (d_tup (da_cons (dv 3) (da_cons (dv 3) da_nil))) da_nil))) (d_one (d_callC C_law_like hr (da_cons (d_callC C_base_of hr (da_cons (dv 2) da_nil)) (da_cons (dv 2) da_nil))))))))))))
def t_law_asked (G : Gm) : S3 :=
    (s3Seq (s3Asg (e3Lst (a3Cons (e3Call (sp_law_draws G) (a3Cons (e3Var 0) (a3Cons (e3C (.int 500)) a3Nil))) (a3Cons (e3C (.int 0)) a3Nil))) 1)
    (s3Seq (s3Asg (e3Op r3Ix (e3Tup (a3Cons (e3C (.int 2)) (a3Cons (e3C (.int 2)) (a3Cons (e3C (.int 3)) (a3Cons (e3C (.int 4)) a3Nil))))) (e3Call (sp_law_take G) (a3Cons (e3Var 1) (a3Cons (e3C (.int 4)) a3Nil)))) 2)
    (s3Seq (s3Asg (e3Op r3Add (e3C (.int 1)) (e3Call (sp_law_take G) (a3Cons (e3Var 1) (a3Cons (e3C (.int 2)) a3Nil)))) 3)
    (s3Seq (s3Asg (e3Op r3Add (e3C (.int 1)) (e3Call (sp_law_take G) (a3Cons (e3Var 1) (a3Cons (e3C (.int 2)) a3Nil)))) 4)
    (s3Seq (s3Asg (e3Call (sp_law_copies G) (a3Cons (e3Var 1) (a3Cons (e3Var 2) (a3Cons (e3Var 3) (a3Cons (e3Var 4) (a3Cons (e3C (.int 3)) a3Nil)))))) 5)
    (s3Seq (s3Asg (e3Call (sp_law_network G) (a3Cons (e3Var 1) (a3Cons (e3Var 2) (a3Cons (e3Op r3Add (e3C (.int 1)) (e3Call (sp_law_take G) (a3Cons (e3Var 1) (a3Cons (e3C (.int 6)) a3Nil)))) (a3Cons (e3Var 3) (a3Cons (e3Var 4) a3Nil)))))) 6)
    (s3Seq (s3If (t3Or (t3Not (t3Test (e3Call (sp_law_right G) (a3Cons (e3Var 5) a3Nil)))) (t3Not (t3Test (e3Call (sp_law_right G) (a3Cons (e3Var 6) a3Nil))))) (s3Ret (e3C (.bl false))) s3Nil)
    (s3Seq (s3Asg (e3Call (sp_law_wrong_network G) (a3Cons (e3Var 1) (a3Cons (e3Var 5) a3Nil))) 7)
    (s3Seq (s3If (t3Or (t3Not (t3Test (e3Call (sp_law_refused G) (a3Cons (e3Var 7) (a3Cons (e3C (.bl true)) a3Nil))))) (t3Not (t3Test (e3Call (sp_law_refused G) (a3Cons (e3Var 7) (a3Cons (e3C (.bl false)) a3Nil)))))) (s3Ret (e3C (.bl false))) s3Nil)
    (s3Ret (e3And (e3Call (sp_law_like G) (a3Cons (e3Call (sp_kinds G) (a3Cons (e3Var 5) a3Nil)) (a3Cons (e3Call (sp_law_kinds G) (a3Cons (e3Var 5) a3Nil)) a3Nil))) (e3Call (sp_law_like G) (a3Cons (e3Call (sp_base_of G) (a3Cons (e3Var 5) a3Nil)) (a3Cons (e3Call (sp_law_base G) (a3Cons (e3Var 5) a3Nil)) a3Nil))))))))))))))
theorem der_law_asked (T : Txt G mg) {f_law_draws : Addr} {fd_law_draws : FuncData} (C_law_draws : Cal P w G.K mg base 1 f_law_draws fd_law_draws "_law_draws" ["script", "many"] (sp_law_draws G)) {f_law_take : Addr} {fd_law_take : FuncData} (C_law_take : Cal P w G.K mg base 1 f_law_take fd_law_take "_law_take" ["hand", "many"] (sp_law_take G)) {f_law_copies : Addr} {fd_law_copies : FuncData} (C_law_copies : Cal P w G.K mg base 4 f_law_copies fd_law_copies "_law_copies" ["hand", "colours", "p", "q", "most"] (sp_law_copies G)) {f_law_network : Addr} {fd_law_network : FuncData} (C_law_network : Cal P w G.K mg base 3 f_law_network fd_law_network "_law_network" ["hand", "colours", "many", "p", "q"] (sp_law_network G)) {f_law_right : Addr} {fd_law_right : FuncData} (C_law_right : Cal P w G.K mg base 9 f_law_right fd_law_right "_law_right" ["network"] (sp_law_right G)) {f_law_wrong_network : Addr} {fd_law_wrong_network : FuncData} (C_law_wrong_network : Cal P w G.K mg base 2 f_law_wrong_network fd_law_wrong_network "_law_wrong_network" ["hand", "network"] (sp_law_wrong_network G)) {f_law_refused : Addr} {fd_law_refused : FuncData} (C_law_refused : Cal P w G.K mg base 6 f_law_refused fd_law_refused "_law_refused" ["network", "first"] (sp_law_refused G)) {f_law_like : Addr} {fd_law_like : FuncData} (C_law_like : Cal P w G.K mg base 7 f_law_like fd_law_like "_law_like" ["found", "due"] (sp_law_like G)) {f_kinds : Addr} {fd_kinds : FuncData} (C_kinds : Cal P w G.K mg base 4 f_kinds fd_kinds "kinds" ["network"] (sp_kinds G)) (K_kinds : BindsK G.K fd_kinds ["network"]) {f_law_kinds : Addr} {fd_law_kinds : FuncData} (C_law_kinds : Cal P w G.K mg base 2 f_law_kinds fd_law_kinds "_law_kinds" ["network"] (sp_law_kinds G)) {f_base_of : Addr} {fd_base_of : FuncData} (C_base_of : Cal P w G.K mg base 5 f_base_of fd_base_of "base_of" ["network"] (sp_base_of G)) (K_base_of : BindsK G.K fd_base_of ["network"]) {f_law_base : Addr} {fd_law_base : FuncData} (C_law_base : Cal P w G.K mg base 3 f_law_base fd_law_base "_law_base" ["network"] (sp_law_base G)) (f : Addr) (cdv : Value) (A : Around) (outer : List Env) (s : Shared) (H : Hp) (E : XK) (hr : RoomG 9 (A.deeper (envOfC "_law_asked" (defScope s_law_asked) s.heap.objs.size f cdv))) :
    DSs (cxOf (L2.CX P w) P w G.K mg base N_law_asked "_law_asked" (defScope s_law_asked) f cdv A outer s H E) (defBody s_law_asked) (t_law_asked G) :=
    (dss_cons (ds_set (i := 1) sc_law_asked.nd (d_lst (da_cons (d_callC C_law_draws hr (da_cons (dv 0) (da_cons d_int da_nil))) (da_cons d_int da_nil))))
    (dss_cons (ds_set (i := 2) sc_law_asked.nd (d_ix (d_tup (da_cons d_int (da_cons d_int (da_cons d_int (da_cons d_int da_nil))))) (d_callC C_law_take hr (da_cons (dv 1) (da_cons d_int da_nil)))))
    (dss_cons (ds_set (i := 3) sc_law_asked.nd (d_add d_int (d_callC C_law_take hr (da_cons (dv 1) (da_cons d_int da_nil)))))
    (dss_cons (ds_set (i := 4) sc_law_asked.nd (d_add d_int (d_callC C_law_take hr (da_cons (dv 1) (da_cons d_int da_nil)))))
    (dss_cons (ds_set (i := 5) sc_law_asked.nd (d_callC C_law_copies hr (da_cons (dv 1) (da_cons (dv 2) (da_cons (dv 3) (da_cons (dv 4) (da_cons d_int da_nil)))))))
    (dss_cons (ds_set (i := 6) sc_law_asked.nd (d_callC C_law_network hr (da_cons (dv 1) (da_cons (dv 2) (da_cons (d_add d_int (d_callC C_law_take hr (da_cons (dv 1) (da_cons d_int da_nil)))) (da_cons (dv 3) (da_cons (dv 4) da_nil)))))))
    (dss_cons (ds_if (t_w (w_or (t_not (t_val (d_callC C_law_right hr (da_cons (dv 5) da_nil)))) (w_one (t_not (t_val (d_callC C_law_right hr (da_cons (dv 6) da_nil))))))) (dss_one (ds_ret d_bl)) dss_nil)
    (dss_cons (ds_set (i := 7) sc_law_asked.nd (d_callC C_law_wrong_network hr (da_cons (dv 1) (da_cons (dv 5) da_nil))))
    (dss_cons (ds_if (t_w (w_or (t_not (t_val (d_callC C_law_refused hr (da_cons (dv 7) (da_cons d_bl da_nil))))) (w_one (t_not (t_val (d_callC C_law_refused hr (da_cons (dv 7) (da_cons d_bl da_nil)))))))) (dss_one (ds_ret d_bl)) dss_nil)
    (dss_one (ds_ret (d_and (d_callC C_law_like hr (da_cons (d_callKw C_kinds K_kinds hr (dk_cons (dv 5) dk_nil)) (da_cons (d_callC C_law_kinds hr (da_cons (dv 5) da_nil)) da_nil))) (d_one (d_callC C_law_like hr (da_cons (d_callKw C_base_of K_base_of hr (dk_cons (dv 5) dk_nil)) (da_cons (d_callC C_law_base hr (da_cons (dv 5) da_nil)) da_nil))))))))))))))))
def t_law (G : Gm) : S3 :=
    (s3Try G.K (.ref G.LookError) (s3Ret (e3Call (sp_law_asked G) (a3Cons (e3Var 0) a3Nil))) (s3Ret (e3C (.bl false))))
theorem der_law (T : Txt G mg) {f_law_asked : Addr} {fd_law_asked : FuncData} (C_law_asked : Cal P w G.K mg base 10 f_law_asked fd_law_asked "_law_asked" ["script"] (sp_law_asked G)) (f : Addr) (cdv : Value) (A : Around) (outer : List Env) (s : Shared) (H : Hp) (E : XK) (hr : RoomG 10 (A.deeper (envOfC "law" (defScope s_law) s.heap.objs.size f cdv))) :
    DSs (cxOf (L2.CX P w) P w G.K mg base N_law "law" (defScope s_law) f cdv A outer s H E) (defBody s_law) (t_law G) :=
    (dss_one (ds_try rfl rfl ⟨rfl, by decide, .inl T.x_LookError.g⟩ (fun _ _ => (dss_one (ds_ret (d_callC C_law_asked hr (da_cons (dv 0) da_nil))))) (fun _ _ _ => (dss_one (ds_ret d_bl)))))
end My

namespace My
open PySem PySem.Spec PyProof.Rows L2 L3
variable {P : Program} {w : World} {G : Gm} {mg : Str → Option Value}
theorem rd_is_number (T : Txt G mg) : Rd3 N_is_number (t_is_number G) (sp_is_number G) := rdIsNumber
theorem rd_law_draws (T : Txt G mg) : Rd3 N_law_draws (t_law_draws G) (sp_law_draws G) := rdDraws
theorem rd_law_take (T : Txt G mg) : Rd3 N_law_take (t_law_take G) (sp_law_take G) := rdTakeD
theorem rd_law_whole (T : Txt G mg) : Rd3 N_law_whole (t_law_whole G) (sp_law_whole G) := rdWhole
theorem rows_of {α : Type} {f : α → D} {P : α → Prop} : ∀ {acc : List D}, (∀ y ∈ acc, ∃ l, y = f l ∧ P l) → ∃ ls : List α, acc = ls.map f ∧ ∀ l ∈ ls, P l
  | [], _ => ⟨[], rfl, by simp⟩
  | y :: acc, h => by
    obtain ⟨l, rfl, hl⟩ := h y List.mem_cons_self
    obtain ⟨ls, rfl, hs⟩ := rows_of fun z hz => h z (List.mem_cons_of_mem _ hz)
    refine ⟨l :: ls, rfl, fun x hx => ?_⟩
    rcases List.mem_cons.mp hx with rfl | hx
    · exact hl
    · exact hs x hx
theorem rd_are_inputs (T : Txt G mg) : Rd3 N_are_inputs (t_are_inputs G) (sp_are_inputs G) := by
  rintro ds M Q E ⟨d, n, b, rfl, hv, q⟩
  have no : insOk n b d = false → ∃ M'', Sub M'' M ∧ Q (.bl false) M'' := fun h => ⟨M, Sub.refl _, by rw [h] at q; exact q⟩
  conv => whnf
  refine isi_tuple (vk_ty hv) (fun zs e => ?_) fun nt => ?_
  · subst e
    refine Br.ff ?_
    conv => whnf
    refine ne_int ⟨fun e => no ?_, fun e => ?_⟩
    · show (decide ((zs.length : Int) = n) && _) = false
      rw [decide_eq_false (by simpa using e), Bool.false_and]
    have hl : (zs.length : Int) = n := by simpa using e
    have hvs : Vks M zs := by simpa only [Vk] using hv
    refine ⟨fun k env' M' => ∃ s3, env' = [some (.tup zs), some (.int n), some (.int b), s3] ∧ M' = M ∧ ∀ (j : Nat) (x : D), j < k → zs[j]? = some x → isNum x 0 (b - 1) = true, ⟨none, rfl, rfl, fun j x h => absurd h (Nat.not_lt_zero j)⟩, ?_, ?_⟩
    · rintro k x env' M' hd ⟨s3, rfl, rfl, hj⟩
      refine ⟨trivial, x, 0, b - 1, rfl, vk_ty (vks_get hvs hd), ?_⟩
      cases hb : isNum x 0 (b - 1) with
      | true =>
        refine Br.ff ⟨_, rfl, rfl, fun j y hlt hy => ?_⟩
        by_cases e : j = k
        · subst e
          rw [hd] at hy
          cases hy
          exact hb
        · exact hj j y (by omega) hy
      | false =>
        refine Br.tt (no ?_)
        show (decide ((zs.length : Int) = n) && zs.all fun x => isNum x 0 (b - 1)) = false
        rw [Bool.and_eq_false_iff]
        refine .inr ?_
        rw [List.all_eq_false]
        exact ⟨x, List.mem_of_getElem? hd, by rw [hb]; decide⟩
    · rintro env' M' ⟨s3, rfl, rfl, hj⟩
      refine ⟨trivial, M', Sub.refl _, ?_⟩
      have : insOk n b (.tup zs) = true := by
        show (decide ((zs.length : Int) = n) && zs.all fun x => isNum x 0 (b - 1)) = true
        rw [decide_eq_true hl, Bool.true_and, List.all_eq_true]
        intro x hx
        obtain ⟨j, hj'⟩ := List.getElem?_of_mem hx
        exact hj j x (List.getElem?_eq_some_iff.mp hj').1 hj'
      rw [this] at q
      exact q
  · refine Br.tt (Br.tt (no ?_))
    cases d <;> first | rfl | exact absurd rfl (nt _)
def metD (seen : List Int) : List (Key × D) := seen.reverse.map fun v => (Sum.inl v, D.bl true)
theorem met_val {seen : List Int} {v : Int} : (valD (metD seen) (.inl v)).isSome = seen.contains v := by
  unfold valD metD
  rw [Option.isSome_map]
  have : ∀ l : List Int, (List.find? (fun kv : Key × D => decide (kv.1 = Sum.inl v)) (l.map fun v => (Sum.inl v, D.bl true))).isSome = l.contains v := by
    intro l
    induction l with
    | nil => rfl
    | cons a l ih =>
      rw [List.map_cons, List.find?_cons]
      by_cases e : a = v
      · subst e
        simp
      · have e2 : decide ((Sum.inl a : Key) = Sum.inl v) = false := decide_eq_false fun z => e (by injection z)
        rw [show decide (((Sum.inl a, D.bl true) : Key × D).1 = Sum.inl v) = false from e2]
        rw [ih, List.contains_cons]
        have e3 : (v == a) = false := by simpa using fun z => e z.symm
        rw [e3, Bool.false_or]
  rw [this, Bool.eq_iff_iff]
  simp
theorem met_put {seen : List Int} {v : Int} (h : seen.contains v = false) : putD (metD seen) (.inl v) (.bl true) = metD (v :: seen) := by
  have hv := met_val (seen := seen) (v := v)
  rw [h] at hv
  have hany : ((metD seen).any fun kv => decide (kv.1 = Sum.inl v)) = false := by
    rw [Bool.eq_false_iff]
    intro z
    obtain ⟨kv, hkv, e⟩ := List.any_eq_true.mp z
    have : (List.find? (fun kv : Key × D => decide (kv.1 = Sum.inl v)) (metD seen)).isSome = true := List.find?_isSome.mpr ⟨kv, hkv, e⟩
    unfold valD at hv
    rw [Option.isSome_map, this] at hv
    cases hv
  unfold putD
  rw [hany]
  show metD seen ++ [(Sum.inl v, D.bl true)] = metD (v :: seen)
  unfold metD
  simp
theorem rd_are_links (T : Txt G mg) : Rd3 N_are_links (t_are_links G) (sp_are_links G) := by
  rintro ds M Q E ⟨d, n, rfl, hv, hn, q⟩
  have no : ∀ M', Sub M M' → rowOk n d = false → ∃ M'', Sub M'' M' ∧ Q (.bl false) M'' := fun M' s h => ⟨M, s, by rw [h] at q; exact q⟩
  conv => whnf
  refine isi_tuple (vk_ty hv) (fun zs e => ?_) fun nt => ?_
  · subst e
    refine Br.ff ?_
    conv => whnf
    refine ne_int ⟨fun e => no M (Sub.refl _) ?_, fun e => ?_⟩
    · show (decide ((zs.length : Int) = n) && _) = false
      rw [decide_eq_false (by simpa using e), Bool.false_and]
    have hl : (zs.length : Int) = n := by simpa using e
    have hvs : Vks M zs := by simpa only [Vk] using hv
    have e0 : rowOk n (.tup zs) = lkOk n [] zs := by
      show (decide ((zs.length : Int) = n) && lkOk n [] zs) = _
      rw [decide_eq_true hl, Bool.true_and]
    refine fun m nm => ⟨fun k env' M' => ∃ s3 seen, env' = [some (.tup zs), some (.int n), some (.ref m), s3] ∧ Sub M M' ∧ M' m = some (.dK (metD seen)) ∧ seen.length = k ∧ rowOk n (.tup zs) = lkOk n seen (zs.drop k), ⟨none, [], rfl, (Sub.refl M).new nm, updM_same, rfl, e0⟩, ?_, ?_⟩
    · rintro k x env' M' hd ⟨s3, seen, rfl, sub, hm, hk, he⟩
      have hlt := (List.getElem?_eq_some_iff.mp hd).1
      have hdrop : zs.drop k = x :: zs.drop (k + 1) := by
        rw [List.drop_eq_getElem_cons hlt, (List.getElem?_eq_some_iff.mp hd).2]
      rw [hdrop] at he
      refine ⟨trivial, x, 0, n - 1, rfl, vk_ty (vk_mono sub x (vks_get hvs hd)), ?_⟩
      cases hb : isNum x 0 (n - 1) with
      | false =>
        refine Br.tt (Br.tt (no M' sub ?_))
        rw [he]
        cases x with
        | int v =>
          have hb' : (decide (0 ≤ v) && decide (v ≤ n - 1)) = false := hb
          show (decide (0 ≤ v) && decide (v ≤ n - 1) && _ && _) = false
          rw [hb', Bool.false_and, Bool.false_and]
        | _ => rfl
      | true =>
        refine Br.ff ?_
        cases x with
        | int v =>
          have hb' : (decide (0 ≤ v) && decide (v ≤ n - 1)) = true := hb
          have he' : rowOk n (.tup zs) = (decide (0 ≤ v) && decide (v ≤ n - 1) && !(seen.contains v) && lkOk n (v :: seen) (zs.drop (k + 1))) := he
          rw [hb', Bool.true_and] at he'
          refine ⟨m, metD seen, .inl v, rfl, rfl, hm, ?_⟩
          rw [met_val]
          cases hc : seen.contains v with
          | true =>
            rw [hc] at he'
            exact Br.tt (no M' sub he')
          | false =>
            rw [hc] at he'
            refine Br.ff ?_
            refine ⟨m, metD seen, .inl v, rfl, rfl, hm, ?_, none.orElse fun _ => some (.int v), v :: seen, rfl, sub.new nm, ?_, by simp [hk], he'⟩
            · unfold metD
              exact szLt (by simp; omega)
            · rw [updM_same, met_put hc]
        | _ => cases hb
    · rintro env' M' ⟨s3, seen, rfl, sub, hm, hk, he⟩
      refine ⟨trivial, M, sub, ?_⟩
      rw [List.drop_length] at he
      rw [he] at q
      exact q
  · refine Br.tt (Br.tt (no M (Sub.refl _) ?_))
    cases d <;> first | rfl | exact absurd rfl (nt _)
def restOk (l a b : D) : D → Bool
  | .int n => rowsOk n l && (insOk n 4 a && insOk n 4 b)
  | _ => false
theorem net5 {s : Str} {m l a b : D} : netOk (.tup [.str s, m, l, a, b]) = (decide (s = "network") && (isNum m 1 400 && restOk l a b m)) := by
  cases m with
  | int n =>
    show (decide (s = "network") && isNum (.int n) 1 400 && rowsOk n l && insOk n 4 a && insOk n 4 b) = (decide (s = "network") && (isNum (.int n) 1 400 && (rowsOk n l && (insOk n 4 a && insOk n 4 b))))
    simp only [Bool.and_assoc]
  | _ => simp [netOk, isNum]
theorem bls_rows {zs : List D} {n : Int} : zs.map (fun x => D.bl (rowOk n x)) = bls (zs.map (rowOk n)) := by
  unfold bls
  rw [List.map_map]
  rfl
theorem rd_check_plain (T : Txt G mg) : Rd3 N_check_plain (t_check_plain G) (sp_check_plain G) := by
  rintro ds M Q E ⟨d, rfl, hv, w5, q, qe⟩
  have err : ∀ {env : En} M', Sub M M' → netOk d = false → rtX E (.ref G.BadNetwork) none env M' := fun M' s h => ⟨M, s, qe h⟩
  conv => whnf
  refine isi_tuple (vk_ty hv) (fun zs e => ?_) fun nt => ?_
  · subst e
    refine Br.ff ?_
    conv => whnf
    refine ne_int ⟨fun e => Br.tt (err M (Sub.refl _) ?_), fun e => ?_⟩
    · match zs, e with
      | [], _ => rfl
      | [x1], _ => cases x1 <;> rfl
      | [x1, x2], _ => cases x1 <;> cases x2 <;> rfl
      | [x1, x2, x3], _ => cases x1 <;> cases x2 <;> rfl
      | [x1, x2, x3, x4], _ => cases x1 <;> cases x2 <;> rfl
      | [x1, x2, x3, x4, x5], e => simp at e
      | x1 :: x2 :: x3 :: x4 :: x5 :: x6 :: zs, _ => cases x1 <;> cases x2 <;> rfl
    obtain ⟨x, m, l, a, b, rfl⟩ : ∃ x m l a b, zs = [x, m, l, a, b] := by
      match zs, e with
      | [], e => simp at e
      | [x1], e => simp at e
      | [x1, x2], e => simp at e
      | [x1, x2, x3], e => simp at e
      | [x1, x2, x3, x4], e => simp at e
      | [x1, x2, x3, x4, x5], e => exact ⟨_, _, _, _, _, rfl⟩
      | x1 :: x2 :: x3 :: x4 :: x5 :: x6 :: zs, e => simp at e; omega
    obtain ⟨s, rfl⟩ := w5 x [m, l, a, b] rfl rfl
    have hvs : Vks M [.str s, m, l, a, b] := by simpa only [Vk] using hv
    have vm : Vk M m := vks_get (i := 1) hvs rfl
    have vl : Vk M l := vks_get (i := 2) hvs rfl
    have va : Vk M a := vks_get (i := 3) hvs rfl
    have vb : Vk M b := vks_get (i := 4) hvs rfl
    rw [net5] at q qe
    have err : ∀ {env : En} M', Sub M M' → (decide (s = "network") && (isNum m 1 400 && restOk l a b m)) = false → rtX E (.ref G.BadNetwork) none env M' := fun M' s h => ⟨M, s, qe h⟩
    refine ⟨_, rfl, ne_str ⟨fun e => err M (Sub.refl _) ?_, fun e => ?_⟩⟩
    · rw [decide_eq_false (by simpa using e), Bool.false_and]
    have es : decide (s = "network") = true := decide_eq_true (by simpa using e)
    rw [es, Bool.true_and] at q
    simp only [es, Bool.true_and] at err
    refine ⟨rfl, ?_⟩
    conv => whnf
    refine ⟨rfl, ?_⟩
    conv => whnf
    refine ⟨m, 1, 400, rfl, vk_ty vm, ?_⟩
    cases hm : isNum m 1 400 with
    | false => exact Br.tt (err M (Sub.refl _) (by rw [hm, Bool.false_and]))
    | true =>
      refine Br.ff ?_
      rw [hm, Bool.true_and] at q
      simp only [hm, Bool.true_and] at err
      cases m with
      | int n =>
        have hn : (decide (1 ≤ n) && decide (n ≤ 400)) = true := hm
        rw [Bool.and_eq_true, decide_eq_true_eq, decide_eq_true_eq] at hn
        have q : (rowsOk n l && (insOk n 4 a && insOk n 4 b)) = true → Q .non M := q
        have err : ∀ {env : En} M', Sub M M' → (rowsOk n l && (insOk n 4 a && insOk n 4 b)) = false → rtX E (.ref G.BadNetwork) none env M' := err
        conv => whnf
        refine isi_tuple (vk_ty vl) (fun ls e => ?_) fun nt => ?_
        · subst e
          have hls : Vks M ls := by simpa only [Vk] using vl
          have rows : rowsOk n (.tup ls) = (decide (2 ≤ ls.length) && decide (ls.length ≤ 4) && ls.all (rowOk n)) := rfl
          refine Br.ff ?_
          conv => whnf
          have bad : ((decide ((2 : Int) ≤ (ls.length : Int)) && decide ((ls.length : Int) ≤ 4))) = false → rowsOk n (.tup ls) = false := fun h => by
            rw [rows]
            have : (decide (2 ≤ ls.length) && decide (ls.length ≤ 4)) = false := by
              rw [← h]
              congr 1 <;> exact decide_eq_decide.mpr (by omega)
            rw [this, Bool.false_and]
          refine ⟨fun e1 => ⟨fun e2 => ?_, fun e2 => ?_⟩, fun e1 => ?_⟩
          · exact Br.tt (err M (Sub.refl _) (by rw [bad (by rw [e1, Bool.true_and]; simpa using e2), Bool.false_and]))
          · have e2' : decide ((ls.length : Int) ≤ 4) = true := by simpa using e2
            refine fun p np => lcMap (fun x => .bl (rowOk n x)) np (fun _ _ => trivial) (fun k x M' R hd s k2 => ⟨x, n, rfl, vk_mono s x (vks_get hls hd), by omega, k2 M' (Sub.refl _)⟩) (szLt (by have := of_decide_eq_true e2'; omega)) fun M1 s1 h1 => ?_
            rw [bls_rows] at h1
            refine ⟨_, .inl h1, ?_⟩
            have hrows : rowsOk n (.tup ls) = (ls.map (rowOk n)).all id := by
              rw [rows, List.all_map]
              have : (decide (2 ≤ ls.length) && decide (ls.length ≤ 4)) = true := by
                have a1 := of_decide_eq_true e1
                have a2 := of_decide_eq_true e2'
                rw [decide_eq_true (by omega), decide_eq_true (by omega)]
                rfl
              rw [this, Bool.true_and]
              rfl
            rw [← hrows]
            cases hr : rowsOk n (.tup ls) with
            | false => exact Br.tt (err M1 s1 (by rw [hr, Bool.false_and]))
            | true =>
              rw [hr, Bool.true_and] at q
              simp only [hr, Bool.true_and] at err
              refine Br.ff ⟨_, rfl, a, n, 4, rfl, vk_mono s1 a va, ?_⟩
              cases ha : insOk n 4 a with
              | false => exact Br.tt (Br.tt (err M1 s1 (by rw [ha, Bool.false_and])))
              | true =>
                rw [ha, Bool.true_and] at q
                simp only [ha, Bool.true_and] at err
                refine Br.ff ⟨_, rfl, b, n, 4, rfl, vk_mono s1 b vb, ?_⟩
                cases hb : insOk n 4 b with
                | false => exact Br.tt (err M1 s1 hb)
                | true => exact Br.ff ⟨M, s1, q hb⟩
          · exact Br.tt (Br.tt (err M (Sub.refl _) (by rw [bad (by rw [e1, Bool.false_and]), Bool.false_and])))
        · refine Br.tt (Br.tt (err M (Sub.refl _) ?_))
          have : rowsOk n l = false := by cases l <;> first | rfl | exact absurd rfl (nt _)
          rw [this, Bool.false_and]
      | _ => cases hm
  · refine Br.tt (Br.tt (err M (Sub.refl _) ?_))
    cases d <;> first | rfl | exact absurd rfl (nt _)
theorem rd_back_links (T : Txt G mg) : Rd3 N_back_links (t_back_links G) (sp_back_links G) := by
  rintro ds M Q E ⟨N, c, rfl, gd, q⟩
  have g := gd.g
  have c4 := g.c4
  have m1 := g.m1
  have m2 := g.m2
  refine ⟨szLe (by simp), fun p np => ⟨_, rfl, ?_⟩⟩
  refine ⟨fun i env' M' => ∃ s2 s3 s4 s5, ∃ qs : List Addr, env' = [some (netD N), some (.ref p), s2, s3, s4, s5] ∧ Sub M M' ∧ M' p = some (.lst (qs.map D.ref)) ∧ qs.length = i ∧ ∀ (j : Nat) (q : Addr), qs[j]? = some q → q ≠ p ∧ M' q = some (.lst (backL N j)), ⟨none, none, none, none, [], rfl, (Sub.refl M).new np, updM_same, rfl, fun j q e => by simp at e⟩, ?_, ?_⟩
  · rintro i d env' M' hd ⟨s2, s3, s4, s5, qs, rfl, sub, hp, hl, hq⟩
    have hi : i < c := by
      have := (List.getElem?_eq_some_iff.mp hd).1
      rw [List.length_map, g.l] at this
      exact this
    obtain ⟨_, o, hat⟩ := g.link hi
    rw [hat] at hd
    injection hd with hd
    subst hd
    generalize hrow : N.links.getD i [] = row at o
    refine ⟨trivial, szLe (by show 1 ≤ 1000000; decide), fun b1 nb1 => ⟨_, rfl, _, updM_same, by omega, by omega, by rw [Int.toNat_natCast]; exact szLe (by show 1 * N.many ≤ 1000000; omega), fun b nb => ?_⟩⟩
    have nb' : M' b = none := ((Sub.refl M').new nb1).free nb
    have bp : b ≠ p := fun e => by subst e; rw [hp] at nb'; cases nb'
    have rep0 : (List.replicate (N.many : Int).toNat [D.int 0]).flatten = (List.replicate N.many (0 : Int)).map D.int := by
      rw [Int.toNat_natCast, List.map_replicate]
      generalize N.many = m
      induction m with
      | zero => rfl
      | succ m ih => rw [List.replicate_succ, List.flatten_cons, ih]; rfl
    rw [rep0]
    refine ⟨fun k env' M3 => ∃ s4 s5, ∃ bs : List Int, env' = [some (netD N), some (.ref p), some (rowD row), some (.ref b), s4, s5] ∧ Sub M' M3 ∧ M3 b = some (.lst (bs.map D.int)) ∧ bs.length = N.many ∧ ∀ (j : Nat) (v : Int), j < k → row[j]? = some v → bs[v.toNat]? = some (j : Int), ⟨s4, s5, List.replicate N.many 0, ?_, ((Sub.refl M').new nb1).new nb', updM_same, by simp, fun j v h => absurd h (Nat.not_lt_zero j)⟩, ?_, ?_⟩
    · rfl
    · rintro k d env' M3 hd ⟨s4, s5, bs, rfl, sub3, hb, hbl, hbs⟩
      obtain ⟨x, hx, rfl⟩ := enumD_get hd
      obtain ⟨v, hv, rfl⟩ := get_ints hx
      have hvm := o.mem.mp (List.mem_of_getElem? hv)
      obtain ⟨u, rfl⟩ := Int.eq_ofNat_of_zero_le hvm.1
      rw [Nat.zero_add]
      refine ⟨trivial, rfl, rfl, ?_⟩
      conv => whnf
      refine ⟨bs.map D.int, u, hb, by rw [List.length_map]; exact ixN_nat (by omega), ?_⟩
      rw [← List.map_set]
      refine ⟨_, _, bs.set u (k : Int), rfl, sub3.new nb', updM_same, by rw [List.length_set]; exact hbl, fun j w hj hw => ?_⟩
      by_cases e : j = k
      · subst e
        rw [hv] at hw
        injection hw with hw
        subst hw
        rw [Int.toNat_natCast, List.getElem?_set_self (by omega)]
      · have hne : w.toNat ≠ u := fun z => by
          have hwm := o.mem.mp (List.mem_of_getElem? hw)
          have ew : w = (u : Int) := by omega
          subst ew
          have h1 := List.getElem?_eq_some_iff.mp hw
          have h2 := List.getElem?_eq_some_iff.mp hv
          obtain ⟨l1, g1⟩ := h1
          obtain ⟨l2, g2⟩ := h2
          exact e (nodup_inj o.nodup l1 l2 (g1.trans g2.symm))
        rw [List.getElem?_set_ne (fun z => hne z.symm)]
        exact hbs j w (by omega) hw
    · rintro env' M3 ⟨s4, s5, bs, rfl, sub3, hb, hbl, hbs⟩
      rw [enumD_length, List.length_map, o.len] at hbs
      have e : bs.map D.int = backL N i := by
        unfold backL
        refine List.ext_getElem? fun k => ?_
        by_cases hk : k < N.many
        · rw [List.getElem?_map, List.getElem?_map, List.getElem?_range hk]
          have hmem : ((k : Nat) : Int) ∈ row := o.mem.mpr ⟨by omega, by omega⟩
          have hidx := List.idxOf_lt_length_iff.mpr hmem
          have hget : row[row.idxOf (k : Int)]? = some (k : Int) := by
            rw [List.getElem?_eq_getElem hidx, List.getElem_idxOf hidx]
          have := hbs _ _ (by rw [← o.len]; exact hidx) hget
          rw [Int.toNat_natCast] at this
          rw [this]
          show some (D.int _) = some (D.int (behind N false (k : Int) i))
          unfold behind
          rw [hrow]
          rfl
        · rw [List.getElem?_eq_none (by rw [List.length_map]; omega), List.getElem?_eq_none (by rw [List.length_map, List.length_range]; omega)]
      rw [e] at hb
      refine ⟨trivial, ⟨_, .inl (sub3 _ _ hp)⟩, _, sub3 _ _ hp, by rw [List.length_map]; exact szLt (by omega), _, _, _, _, qs ++ [b], rfl, (sub.trans sub3).new np, by rw [updM_same, List.map_append]; rfl, by simp [hl], fun j q' hj => ?_⟩
      by_cases hjl : j < qs.length
      · rw [List.getElem?_append_left hjl] at hj
        obtain ⟨h1, h2⟩ := hq j q' hj
        exact ⟨h1, (updM_ne h1).trans (sub3 _ _ h2)⟩
      · rw [List.getElem?_append_right (by omega)] at hj
        have hj0 : j = qs.length := by
          have := (List.getElem?_eq_some_iff.mp hj).1
          simp at this
          omega
        subst hj0
        simp at hj
        subst hj
        rw [hl]
        exact ⟨bp, (updM_ne bp).trans hb⟩
  · rintro env' M' ⟨s2, s3, s4, s5, qs, rfl, sub, hp, hl, hq⟩
    rw [List.length_map, g.l] at hl
    exact ⟨trivial, M', Sub.refl _, q p qs M' sub hp hl fun i q' e => (hq i q' e).2⟩
theorem qs_at {qs : List Addr} {i : Nat} (h : i < qs.length) : ∃ q, qs[i]? = some q ∧ atI (qs.map D.ref) (i : Int) = some (.ref q) :=
  ⟨qs[i], List.getElem?_eq_getElem h, atI_nat (by rw [List.getElem?_map, List.getElem?_eq_getElem h]; rfl)⟩
theorem rng_nat {n k : Nat} {d : D} (h : (rngD 0 (n : Int).toNat)[k]? = some d) : k < n ∧ d = .int (k : Int) := by
  obtain ⟨h1, h2⟩ := rngD_get h
  rw [Int.toNat_natCast] at h1
  rw [Int.zero_add] at h2
  exact ⟨h1, h2⟩
theorem inp_at {N : Net} {c : Nat} (g : Good N c) {b : Bool} {k : Nat} (h : k < N.many) : atI ((if b then N.wh else N.bl).map D.int) (k : Int) = some (.int (inp N b (k : Int))) := by
  cases b with
  | true => exact (getD_at (xs := N.wh) (by omega) (by rw [g.w]; omega)).2
  | false => exact (getD_at (xs := N.bl) (by omega) (by rw [g.b]; omega)).2
theorem rd_law_behind (T : Txt G mg) : Rd3 N_law_behind (t_law_behind G) (sp_law_behind G) := by
  rintro ds M Q E ⟨N, c, b, k, i, rfl, g, k0, k1, hi, q⟩
  obtain ⟨_, o, hat⟩ := g.link hi
  have h2 : atI (N.links.map rowD) ((i : Int) + 1 - 1) = some (rowD (N.links.getD i [])) := by
    rw [Int.add_sub_cancel]
    exact atI_nat hat
  cases b with
  | true => exact eq_int ⟨fun _ => ⟨_, rfl, _, h2, _, (getD_at k0 (by rw [o.len]; exact k1)).2, M, Sub.refl _, q⟩, fun e => absurd rfl (of_decide_eq_false e)⟩
  | false => exact eq_int ⟨fun e => absurd (of_decide_eq_true e) (by decide), fun _ => ⟨_, rfl, _, h2, _, rfl, o.mem.mpr ⟨k0, k1⟩, M, Sub.refl _, q⟩⟩
theorem rd_law_branch (T : Txt G mg) {n : Nat} {sf : Sp3} (hf : n = 0 ∨ ∃ j, n = j + 1 ∧ sf = spView2 j) : Rd3 N_law_branch (t_law_branch G sf) (spView2 n) := by
  rintro ds M Q E ⟨N, c, r, b, k, back, rfl, g, k0, k1, hr, q⟩
  have num : atI [.str "network", .int (N.many : Int), .tup (N.links.map rowD), rowD N.wh, rowD N.bl] (3 + if b = true then 0 else 1) = some (rowD (if b then N.wh else N.bl)) := by cases b <;> rfl
  have sd : D.int (1 - if b = true then 0 else 1) = sideI (!b) := by cases b <;> rfl
  refine ⟨_, num, .int (inp N b k), ?_, ?_⟩
  · exact (getD_at k0 (by cases b <;> first | exact (by rw [show (if true = true then N.wh else N.bl) = N.wh from rfl, g.w]; exact k1) | exact (by rw [show (if false = true then N.wh else N.bl) = N.bl from rfl, g.b]; exact k1))).2
  conv => whnf
  refine eq_int ⟨fun e => ?_, fun e => ?_⟩
  · have r0 : r = 0 := by have := of_decide_eq_true e; omega
    subst r0
    exact ⟨szLe (by show 1 ≤ 1000000; decide), M, Sub.refl _, q⟩
  have rp : r ≠ 0 := fun z => by subst z; exact of_decide_eq_false e rfl
  obtain ⟨r, rfl⟩ := Nat.exists_eq_succ_of_ne_zero rp
  obtain ⟨j, rfl, rfl⟩ : ∃ j, n = j + 1 ∧ sf = spView2 j := by
    rcases hf with h | h
    · omega
    · exact h
  refine ⟨szLe (by simp), fun w nw => ?_⟩
  refine ⟨_, rfl, ?_⟩
  have lc : (N.links.map rowD).length = c := by rw [List.length_map, g.l]
  have c4 := g.c4
  conv => whnf
  rw [lc]
  refine ⟨⟨by decide, by decide, by omega, by omega⟩, ?_⟩
  rw [show ((c : Int) + 1 - 1).toNat = c by omega]
  refine ⟨fun i env' M' => ∃ s7, env' = [some (netD N), some (sideI b), some (.int k), some (.int ((r + 1 : Nat) : Int)), some (.int back), some (.int (inp N b k)), some (.ref w), s7] ∧ Sub M M' ∧ M' w = some (.lst ((List.range i).map (partD N r b k back))), ⟨none, rfl, (Sub.refl M).new nw, updM_same⟩, ?_, ?_⟩
  · rintro i d env' M' hd ⟨s7, rfl, sub, hw⟩
    obtain ⟨hi, rfl⟩ := rngD_get hd
    have e1 : (1 : Int) + (i : Int) = (i : Int) + 1 := Int.add_comm 1 _
    rw [e1]
    have hz : ((List.range i).map (partD N r b k back)).length < sizeLine := szLt (by rw [List.length_map, List.length_range]; omega)
    refine ⟨trivial, eq_int ⟨fun e => ?_, fun e => ?_⟩⟩
    · refine ⟨⟨_, .inl hw⟩, _, hw, hz, _, rfl, sub.new nw, ?_⟩
      rw [updM_same, parts_step]
      unfold partD
      rw [if_pos (of_decide_eq_true e)]
    · obtain ⟨b0, b1⟩ := g.behind (b := b) hi k0 k1
      refine ⟨⟨_, .inl hw⟩, ?_⟩
      conv => whnf
      refine ⟨N, c, b, k, i, rfl, g, k0, k1, hi, N, c, r, !b, behind N b k i, (i : Int) + 1, ?_, g, b0, b1, by omega, _, hw, hz, _, rfl, sub.new nw, ?_⟩
      · rw [show ((r + 1 : Nat) : Int) - 1 = (r : Int) by omega, sd]
      · rw [updM_same, parts_step]
        unfold partD
        rw [if_neg (of_decide_eq_false e)]
  · rintro env' M' ⟨s7, rfl, sub, hw⟩
    rw [rngD_length] at hw
    refine ⟨trivial, _, .inl hw, szLe (by show 2 ≤ 1000000; decide), M, sub, ?_⟩
    have q' := q
    rw [show r.succ = r + 1 from rfl, viewD_succ, g.l] at q'
    exact q'
theorem rd_law_like (T : Txt G mg) {n : Nat} {sf : Sp3} (hf : n = 0 ∨ ∃ j, n = j + 1 ∧ sf = spLk j) : Rd3 N_law_like (t_law_like G sf) (spLk n) := by
  rintro ds M Q E ⟨d, rfl, hp, q⟩
  have simple : Pl0 d → t_law_like G sf (rtX E) (rtD Q) (startE N_law_like [d, d]) M := fun h => by
    conv => whnf
    rcases h with rfl | ⟨i, rfl⟩ | ⟨x, rfl⟩
    · refine isi_tuple (own_known trivial) (fun _ e => nomatch e) fun _ => Br.ff ?_
      conv => whnf
      exact Br.tt ⟨M, Sub.refl _, q⟩
    · refine isi_tuple (own_known trivial) (fun _ e => nomatch e) fun _ => Br.ff ?_
      conv => whnf
      refine Br.ff ?_
      conv => whnf
      refine isi_int (own_known trivial) (fun _ _ => ?_) (fun _ e => nomatch e) fun h _ => absurd rfl (h i)
      refine Br.tt ⟨_, rfl, own_known trivial, ?_⟩
      refine Br.tt (eq_int ?_)
      rw [decide_eq_true rfl]
      exact ⟨M, Sub.refl _, q⟩
    · refine isi_tuple (own_known trivial) (fun _ e => nomatch e) fun _ => Br.ff ?_
      conv => whnf
      refine Br.ff ?_
      conv => whnf
      refine isi_int (own_known trivial) (fun _ e => nomatch e) (fun _ e => nomatch e) fun _ _ => Br.ff ?_
      conv => whnf
      refine isi_str (own_known trivial) (fun _ _ => Br.tt (eq_str ?_)) fun h => absurd rfl (h x)
      rw [decide_eq_true rfl]
      exact ⟨M, Sub.refl _, q⟩
  cases n with
  | zero => exact simple hp
  | succ n =>
    rcases hp with h | ⟨ds, rfl, hl, hx⟩
    · exact simple h
    obtain ⟨j, e, rfl⟩ : ∃ j, n + 1 = j + 1 ∧ sf = spLk j := by
      rcases hf with h | h
      · omega
      · exact h
    have e' : n = j := by omega
    subst e'
    conv => whnf
    refine isi_tuple (own_known trivial) (fun _ _ => Br.tt ?_) fun h => absurd rfl (h ds)
    conv => whnf
    refine isi_tuple (own_known trivial) (fun _ _ => Br.ff ?_) fun h => absurd rfl (h ds)
    conv => whnf
    refine ne_int ⟨fun e => (by simp at e), fun _ => ?_⟩
    refine ⟨by omega, by omega, fun p np => lcMap (fun _ => .bl true) np (fun _ _ => trivial) (fun k x M' R hd s k2 => ?_) (szLt (by rw [rngD_length, Int.toNat_natCast]; omega)) fun M1 s1 h1 => ?_⟩
    · obtain ⟨hk, rfl⟩ := rng_nat hd
      have hx' : ds[k]? = some ds[k] := List.getElem?_eq_getElem hk
      exact ⟨_, atI_nat hx', _, atI_nat hx', ds[k], rfl, hx _ (List.getElem_mem hk), k2 M' (Sub.refl _)⟩
    · have eb : (rngD 0 (ds.length : Int).toNat).map (fun _ => D.bl true) = bls (List.replicate ds.length true) := by
        unfold bls
        rw [List.map_replicate, List.map_const', rngD_length, Int.toNat_natCast]
      rw [eb] at h1
      refine ⟨_, .inl h1, M, s1, ?_⟩
      have : (List.replicate ds.length true).all id = true := by
        rw [List.all_eq_true]
        intro x hx
        exact (List.mem_replicate.mp hx).2
      rw [this]
      exact q
theorem perm_out {L : List Int} {k : Nat} (h : k < L.length) : (L[k] :: L.eraseIdx k).Perm L := by
  rw [List.eraseIdx_eq_take_drop_succ]
  have e : L = L.take k ++ L[k] :: L.drop (k + 1) := by
    rw [← List.drop_eq_getElem_cons h, List.take_append_drop]
  exact List.perm_middle.symm.trans (by rw [← e])
theorem erase_map {f : Int → D} {L : List Int} {k : Nat} : (L.map f).eraseIdx k = (L.eraseIdx k).map f := by
  rw [List.eraseIdx_eq_take_drop_succ, List.eraseIdx_eq_take_drop_succ, List.map_append, List.map_take, List.map_drop]
theorem rd_law_order (T : Txt G mg) : Rd3 N_law_order (t_law_order G) (sp_law_order G) := by
  rintro ds M Q E ⟨h, d, n, m, rfl, z, m1, m2, q⟩
  refine ⟨by omega, by omega, fun p np => lcMap id np (fun _ _ => trivial) (fun k x M' R hd s k2 => k2 M' (Sub.refl _)) (szLt (by rw [rngD_length]; omega)) fun M1 s1 h1 => ?_⟩
  rw [List.map_id, Int.toNat_natCast, rngI_D] at h1
  refine ⟨szLe (by simp), fun o no => ?_⟩
  have ph : p ≠ h := (neM z.own np).symm
  have po : p ≠ o := fun e => by subst e; rw [h1] at no; cases no
  have oh : o ≠ h := fun e => by subst e; rw [s1 _ _ z.own] at no; cases no
  have noM : M o = none := s1.free no
  refine ⟨by omega, by omega, fun i env' M' => ∃ s4, ∃ A L : List Int, ∃ n' : Int, env' = [some (.ref h), some (.int (m : Int)), some (.ref p), some (.ref o), s4] ∧ 0 ≤ n' ∧ Sub (setH M h d n') M' ∧ M' p = some (.lst (L.map D.int)) ∧ M' o = some (.lst (A.map D.int)) ∧ A.length = i ∧ (A ++ L).Perm (rngI m), ⟨none, [], rngI m, n, rfl, z.n0, by rw [z.self]; exact s1.new noM, (updM_ne po).trans h1, updM_same, rfl, List.Perm.refl _⟩, ?_, ?_⟩
  · rintro i x env' M' hd ⟨s4, A, L, n', rfl, n0, sub, hp, ho, hA, perm⟩
    obtain ⟨hi, rfl⟩ := rngD_get hd
    rw [Int.toNat_natCast] at hi
    have hlen : A.length + L.length = m := by
      have := perm.length_eq
      rw [List.length_append, rngI_length] at this
      exact this
    refine ⟨trivial, ⟨_, .inl ho⟩, ⟨_, .inl hp⟩, _, .inl hp, h, d, n', L.length, by rw [List.length_map], z.at_ sub n0, by omega, fun v v0 v1 => ?_⟩
    obtain ⟨k, rfl⟩ := Int.eq_ofNat_of_zero_le v0
    have hk : k < L.length := by omega
    have f1 : setH M' h d (n' + 1) p = some (.lst (L.map D.int)) := (setH_ne ph).trans hp
    have f2 : setH M' h d (n' + 1) o = some (.lst (A.map D.int)) := (setH_ne oh).trans ho
    refine ⟨L.map D.int, .int L[k], k, f1, by omega, by omega, by rw [List.length_map]; exact ixN_nat hk, get_map hk, ?_⟩
    refine ⟨A.map D.int, (updM_ne (fun e => po e.symm)).trans f2, by rw [List.length_map]; exact szLt (by omega), ?_⟩
    have sp : setH M h d (n' + 1) p = none := (setH_ne ph).trans np
    have so : setH M h d (n' + 1) o = none := (setH_ne oh).trans noM
    refine ⟨_, A ++ [L[k]], L.eraseIdx k, n' + 1, rfl, by omega, ((subH sub).new sp).new so, ?_, ?_, by simp [hA], ?_⟩
    · rw [updM_ne po, updM_same, erase_map]
    · rw [updM_same, List.map_append]
      rfl
    · rw [List.append_assoc]
      exact ((perm_out hk).append_left A).trans perm
  · rintro env' M' ⟨s4, A, L, n', rfl, n0, sub, hp, ho, hA, perm⟩
    rw [rngD_length, Int.toNat_natCast] at hA
    have hL : L = [] := by
      have := perm.length_eq
      rw [List.length_append, rngI_length, hA] at this
      exact List.length_eq_zero_iff.mp (by omega)
    subst hL
    rw [List.append_nil] at perm
    exact ⟨trivial, _, .inl ho, _, sub, q A n' perm n0⟩
theorem rd_law_network (T : Txt G mg) : Rd3 N_law_network (t_law_network G) (sp_law_network G) := by
  rintro ds M Q E ⟨h, d, n, c, m, p, qq, rfl, z, c2, c4, m1, m2, p1, p4, q1, q4, q⟩
  refine ⟨by omega, by omega, fun a na => ?_⟩
  refine lcHand (M := M) (h := h) (d := d) (fun y => ∃ l : List Int, y = rowD l ∧ Ord m l) z.start z.n0 na (fun k x M' n' R hx n0 sub k2 => ?_) (szLt (by rw [rngD_length]; omega)) fun acc M1 n1 l1 hp n10 s1 h1 => ?_
  · exact ⟨h, d, n', m, rfl, z.at_ sub n0, m1, by omega, fun l n2 o n20 => k2 _ _ ⟨l, rfl, o⟩ n20⟩
  obtain ⟨ls, rfl, ho⟩ := rows_of hp
  rw [List.length_map, rngD_length, Int.toNat_natCast] at l1
  refine ⟨_, .inl h1, by omega, by omega, fun b nb => ?_⟩
  refine lcHand (M := M) (h := h) (d := d) (fun y => ∃ l : Int, y = .int l ∧ 0 ≤ l ∧ l < 4) s1 n10 nb (fun k x M' n' R hx n0 sub k2 => ?_) (szLt (by rw [rngD_length]; omega)) fun acc M3 n3 l3 hp n30 s3 h3 => ?_
  · exact ⟨h, d, n', p, rfl, z.at_ sub n0, by omega, fun v v0 v1 => k2 _ _ ⟨v, rfl, v0, by omega⟩ (by omega)⟩
  obtain ⟨wh, rfl, hwh⟩ := rows_of hp
  refine ⟨_, .inl h3, by omega, by omega, fun b' nb' => ?_⟩
  refine lcHand (M := M) (h := h) (d := d) (fun y => ∃ l : Int, y = .int l ∧ 0 ≤ l ∧ l < 4) s3 n30 nb' (fun k x M' n' R hx n0 sub k2 => ?_) (szLt (by rw [rngD_length]; omega)) fun acc M4 n4 l4 hp n40 s4 h4 => ?_
  · exact ⟨h, d, n', qq, rfl, z.at_ sub n0, by omega, fun v v0 v1 => k2 _ _ ⟨v, rfl, v0, by omega⟩ (by omega)⟩
  obtain ⟨bl, rfl, hbl⟩ := rows_of hp
  rw [List.length_map, rngD_length, Int.toNat_natCast] at l3 l4
  refine ⟨_, .inl h4, szLe (by show 5 ≤ 1000000; decide), _, s4, q ⟨m, ls, wh, bl⟩ n4 ⟨⟨m1, m2, c4, l1, ho, l3, l4, fun x hx => ?_, fun x hx => ?_⟩, c2, hwh, hbl⟩ rfl n40⟩
  · have := hwh x hx; omega
  · have := hbl x hx; omega
theorem rd_law_turns (T : Txt G mg) : Rd3 N_law_turns (t_law_turns G) (sp_law_turns G) := by
  rintro ds M Q E ⟨h, d, n, N, c, s, rfl, z, g, s1, s2, q⟩
  have m2 := g.m2
  have c4 := g.c4
  have lc : (N.links.map rowD).length = c := by rw [List.length_map, g.l]
  refine ⟨szLe (by simp), fun t nt => ⟨_, rfl, ?_⟩⟩
  have th : t ≠ h := (neM z.own nt).symm
  conv => whnf
  rw [lc]
  refine ⟨by omega, by omega, ?_⟩
  refine ⟨fun i env' M' => ∃ s4 s5, ∃ TT : List (List (List Int)), ∃ n' : Int, env' = [some (.ref h), some (netD N), some (.int (s : Int)), some (.ref t), s4, s5] ∧ 0 ≤ n' ∧ Sub (setH M h d n') M' ∧ M' t = some (.lst (TT.map fun row => .tup (row.map rowD))) ∧ Tn TT i N.many s, ⟨none, none, [], n, rfl, z.n0, by rw [z.self]; exact (Sub.refl M).new nt, updM_same, rfl, by simp, by simp⟩, ?_, ?_⟩
  · rintro i x env' M' hd ⟨s4, s5, TT, n', rfl, n0, sub, ht, tn⟩
    obtain ⟨hi, rfl⟩ := rng_nat hd
    refine ⟨trivial, ⟨_, .inl ht⟩, _, rfl, by omega, by omega, fun a na => ?_⟩
    refine lcHand (M := M') (h := h) (d := d) (fun y => ∃ l : List Int, y = rowD l ∧ Ord s l) (z.at_ sub n0).start n0 na (fun k x M2 n2 R hx n20 sub2 k2 => ?_) (szLt (by rw [rngD_length]; omega)) fun acc M1 n1 l1 hp n10 s1' h1 => ?_
    · exact ⟨h, d, n2, s, rfl, (z.at_ sub n0).at_ sub2 n20, s1, by omega, fun l n3 o n30 => k2 _ _ ⟨l, rfl, o⟩ n30⟩
    obtain ⟨ls, rfl, ho⟩ := rows_of hp
    rw [List.length_map, rngD_length, Int.toNat_natCast] at l1
    have ht2 : M1 t = some (.lst (TT.map fun row => .tup (row.map rowD))) := s1' _ _ ((setH_ne th).trans ht)
    refine ⟨_, .inl h1, _, ht2, by rw [List.length_map, tn.c]; exact szLt (by omega), _, _, TT ++ [ls], n1, rfl, n10, ?_, ?_, ?_⟩
    · have e1 : Sub (setH M h d n1) M1 := (subH sub).trans s1'
      exact e1.new ((setH_ne th).trans nt)
    · rw [updM_same, List.map_append]
      rfl
    · refine ⟨by rw [List.length_append, tn.c]; rfl, fun row hr => ?_, fun row hr => ?_⟩
      · rcases List.mem_append.mp hr with hr | hr
        · exact tn.m row hr
        · rw [List.mem_singleton] at hr
          subst hr
          exact l1
      · rcases List.mem_append.mp hr with hr | hr
        · exact tn.s row hr
        · rw [List.mem_singleton] at hr
          subst hr
          exact ho
  · rintro env' M' ⟨s4, s5, TT, n', rfl, n0, sub, ht, tn⟩
    rw [rngD_length, Int.toNat_natCast] at tn
    exact ⟨trivial, _, .inl ht, _, sub, q TT n' tn n0⟩
theorem snoc_get {f : Nat → Int} {n : Nat} {v : Int} (h : f n = v) : (List.range n).map (fun j => D.int (f j)) ++ [D.int v] = (List.range (n + 1)).map (fun j => D.int (f j)) := by
  rw [List.range_succ, List.map_append, ← h]
  rfl
theorem div_at {i s t : Nat} (h : t < s) : (i * s + t) / s = i ∧ (i * s + t) % s = t := by
  have hs : 0 < s := by omega
  rw [Nat.mul_comm]
  exact ⟨by rw [Nat.mul_add_div hs, Nat.div_eq_of_lt h, Nat.add_zero], by rw [Nat.mul_add_mod, Nat.mod_eq_of_lt h]⟩
theorem at_getD {l : List Int} {i : Nat} (h : i < l.length) : atI (l.map D.int) (i : Int) = some (.int (l.getD i 0)) := by
  rw [getD_el h]
  exact atI_nat (get_map h)
theorem rd_law_cover (T : Txt G mg) : Rd3 N_law_cover (t_law_cover G) (sp_law_cover G) := by
  rintro ds M Q E ⟨N, c, s, TT, rfl, gd, tn, s1, hs, q⟩
  have g := gd.g
  have m1 := g.m1
  have m2 := g.m2
  have c2 := gd.c2
  have c4 := g.c4
  have s4 : s ≤ 400 := Nat.le_trans (Nat.le_mul_of_pos_left _ m1) hs
  have hT : ∀ {i : Nat}, i < c → atI (TT.map fun row => D.tup (row.map rowD)) (i : Int) = some (.tup ((TT.getD i []).map rowD)) := fun {i} hi => by
    have h : i < TT.length := by rw [tn.c]; exact hi
    rw [getD_el h]
    exact atI_nat (by rw [List.getElem?_map, List.getElem?_eq_getElem h]; rfl)
  have hR : ∀ {i k : Nat}, i < c → k < N.many → atI ((TT.getD i []).map rowD) (k : Int) = some (rowD ((TT.getD i []).getD k [])) := fun {i k} hi hk => by
    obtain ⟨_, h, _⟩ := turn_in tn hi hk (show 0 < s by omega)
    rw [getD_el h]
    exact atI_nat (by rw [List.getElem?_map, List.getElem?_eq_getElem h]; rfl)
  have o00 := (turn_in tn (show 0 < c by omega) (show 0 < N.many by omega) (show 0 < s by omega)).2.2.1
  refine ⟨_, hT (i := 0) (by omega), _, hR (i := 0) (k := 0) (by omega) (by omega), ?_⟩
  conv => whnf
  rw [show (((TT.getD 0 []).getD 0 []).map D.int).length = s by rw [List.length_map, o00.len]]
  refine ⟨szLe (by simp), fun l nl => ?_⟩
  conv => whnf
  rw [show (TT.map fun row => D.tup (row.map rowD)).length = c by rw [List.length_map, tn.c]]
  refine ⟨by omega, by omega, ?_⟩
  refine ⟨fun i env' M' => ∃ s4 s5 s6 s7 s8 s9 s10, env' = [some (netD N), some (turnsD TT), some (.int (s : Int)), some (.ref l), s4, s5, s6, s7, s8, s9, s10] ∧ Sub M M' ∧ M' l = some (.lst ((List.range i).map fun c => rowD (rowC N TT s c))), ⟨none, none, none, none, none, none, none, rfl, (Sub.refl M).new nl, updM_same⟩, ?_, ?_⟩
  · rintro i x env' M' hd ⟨s4, s5, s6, s7, s8, s9, s10, rfl, sub, hl⟩
    obtain ⟨hi, rfl⟩ := rng_nat hd
    obtain ⟨_, o, hat⟩ := g.link hi
    refine ⟨trivial, szLe (by simp), fun r nr => ⟨_, rfl, by omega, by omega, ?_⟩⟩
    have rl : r ≠ l := fun e => by subst e; rw [hl] at nr; cases nr
    refine ⟨fun k env' M3 => ∃ s8 s9, env' = [some (netD N), some (turnsD TT), some (.int (s : Int)), some (.ref l), some (.int (i : Int)), s5, s6, some (.ref r), s8, s9, s10] ∧ Sub M' M3 ∧ M3 r = some (.lst ((List.range (k * s)).map fun j => D.int (cLink N TT s i j))), ⟨s8, s9, rfl, (Sub.refl M').new nr, by rw [Nat.zero_mul]; exact updM_same⟩, ?_, ?_⟩
    · rintro k x env' M3 hd ⟨s8, s9, rfl, sub3, hr⟩
      obtain ⟨hk, rfl⟩ := rng_nat hd
      refine ⟨trivial, by omega, by omega, ?_⟩
      refine ⟨fun t env' M4 => ∃ s9, env' = [some (netD N), some (turnsD TT), some (.int (s : Int)), some (.ref l), some (.int (i : Int)), s5, s6, some (.ref r), some (.int (k : Int)), s9, s10] ∧ Sub M' M4 ∧ M4 r = some (.lst ((List.range (k * s + t)).map fun j => D.int (cLink N TT s i j))), ⟨s9, rfl, sub3, hr⟩, ?_, ?_⟩
      · rintro t x env' M4 hd ⟨s9, rfl, sub4, hr⟩
        obtain ⟨ht, rfl⟩ := rng_nat hd
        obtain ⟨k1, l0, l1⟩ := link_in g hi hk
        obtain ⟨_, _, o2, t1, t0, t2⟩ := turn_in tn hi hk ht
        have hks : k * s + t < N.many * s := by
          have := Nat.mul_le_mul_right s (show k + 1 ≤ N.many from hk)
          rw [Nat.add_mul, Nat.one_mul] at this
          omega
        refine ⟨trivial, ⟨_, .inl hr⟩, _, rfl, _, atI_nat hat, _, at_getD k1, ?_⟩
        conv => whnf
        refine ⟨.inl ⟨by omega, by omega⟩, _, hT hi, _, hR hi hk, _, at_getD t1, ?_⟩
        refine ⟨_, hr, by rw [List.length_map, List.length_range]; exact szLt (by omega), _, rfl, sub4.new nr, ?_⟩
        rw [updM_same]
        refine congrArg some (congrArg MO.lst (snoc_get (f := cLink N TT s i) ?_))
        obtain ⟨d1, d2⟩ := div_at (i := k) ht
        unfold cLink
        rw [d1, d2]
      · rintro env' M4 ⟨s9, rfl, sub4, hr⟩
        rw [rngD_length, Int.toNat_natCast] at hr
        exact ⟨trivial, _, _, rfl, sub4, by rw [hr, Nat.add_mul, Nat.one_mul]⟩
    · rintro env' M3 ⟨s8, s9, rfl, sub3, hr⟩
      rw [rngD_length, Int.toNat_natCast] at hr
      have hl3 := sub3 _ _ hl
      refine ⟨trivial, ⟨_, .inl hl3⟩, _, .inl hr, _, hl3, by rw [List.length_map, List.length_range]; exact szLt (by omega), _, _, _, _, _, _, _, rfl, (sub.trans sub3).new nl, ?_⟩
      rw [updM_same, List.range_succ, List.map_append]
      refine congrArg some (congrArg MO.lst (congrArg (_ ++ ·) (congrArg (fun y => [y]) ?_)))
      show D.tup _ = rowD (rowC N TT s i)
      unfold rowC rowD
      rw [List.map_map]
      rfl
  · rintro env' M' ⟨s4, s5, s6, s7, s8, s9, s10, rfl, sub, hl⟩
    rw [rngD_length, Int.toNat_natCast] at hl
    refine ⟨trivial, szLe (by simp), fun sd nsd => ⟨_, rfl, _, rfl, szLe (by show 2 ≤ 1000000; decide), ?_⟩⟩
    have sdl : sd ≠ l := fun e => by subst e; rw [hl] at nsd; cases nsd
    have bothL : ∀ {i : Nat} {x : D}, [rowD N.wh, rowD N.bl][i]? = some x → ∃ li : List Int, x = rowD li ∧ li.length = N.many ∧ ([rowD (sideC N.wh N.many s), rowD (sideC N.bl N.many s)].take i ++ [rowD (sideC li N.many s)]) = [rowD (sideC N.wh N.many s), rowD (sideC N.bl N.many s)].take (i + 1) := fun {i x} h => by
      match i, h with
      | 0, h => cases h; exact ⟨_, rfl, g.w, rfl⟩
      | 1, h => cases h; exact ⟨_, rfl, g.b, rfl⟩
      | i + 2, h => simp at h
    refine ⟨fun i env' M3 => ∃ s6 s10, env' = [some (netD N), some (turnsD TT), some (.int (s : Int)), some (.ref l), s4, some (.ref sd), s6, s7, s8, s9, s10] ∧ Sub M' M3 ∧ M3 sd = some (.lst ([rowD (sideC N.wh N.many s), rowD (sideC N.bl N.many s)].take i)), ⟨s6, s10, rfl, (Sub.refl M').new nsd, updM_same⟩, ?_, ?_⟩
    · rintro i x env' M3 hd ⟨s6, s10, rfl, sub3, hsd⟩
      obtain ⟨li, rfl, hli, htake⟩ := bothL hd
      refine ⟨trivial, ⟨_, .inl hsd⟩, _, rfl, ?_⟩
      conv => whnf
      refine ⟨.inl ⟨by omega, by omega⟩, ?_⟩
      conv => whnf
      rw [← Int.natCast_mul]
      refine ⟨by omega, by omega, fun a na => ?_⟩
      refine lcIdx (fun j : Nat => .int (li.getD (j / s) 0)) na (fun _ _ => trivial) (fun j d M4 R hd s4' k2 => ?_) (szLt (by rw [rngD_length, Int.toNat_natCast]; omega)) fun M5 s5' h5 => ?_
      · obtain ⟨hj, rfl⟩ := rng_nat hd
        refine ⟨⟨by omega, by omega⟩, ?_⟩
        conv => whnf
        refine ⟨.int (li.getD (j / s) 0), ?_, k2 M4 (Sub.refl _)⟩
        rw [show (j : Int) / (s : Int) = ((j / s : Nat) : Int) from (Int.natCast_ediv _ _).symm]
        exact at_getD (by rw [hli]; exact div_in hj)
      · rw [rngD_length, Int.toNat_natCast] at h5
        refine ⟨_, .inl h5, _, s5' _ _ hsd, by rw [List.length_take]; exact szLt (by have : [rowD (sideC N.wh N.many s), rowD (sideC N.bl N.many s)].length = 2 := rfl; omega), _, _, rfl, (sub3.trans s5').new nsd, ?_⟩
        rw [updM_same, ← htake]
        refine congrArg some (congrArg MO.lst (congrArg (_ ++ ·) (congrArg (fun y => [y]) ?_)))
        show D.tup _ = rowD (sideC li N.many s)
        unfold sideC rowD
        rw [List.map_map]
        rfl
    · rintro env' M3 ⟨s6, s10, rfl, sub3, hsd⟩
      have hsd : M3 sd = some (.lst [rowD (sideC N.wh N.many s), rowD (sideC N.bl N.many s)]) := hsd
      refine ⟨trivial, _, rfl, ?_⟩
      conv => whnf
      refine ⟨.inl ⟨by omega, by omega⟩, _, .inl (sub3 _ _ hl), _, _, .inl hsd, rfl, _, _, .inl hsd, rfl, szLe (by show 5 ≤ 1000000; decide), M, sub.trans sub3, ?_⟩
      have := q (coverN N TT s c) (cover_gd gd tn s1 hs) rfl
      unfold netD coverN at this
      dsimp only at this
      rw [List.map_map, Int.natCast_mul] at this
      exact this
theorem rd_law_mixed_up (T : Txt G mg) : Rd3 N_law_mixed_up (t_law_mixed_up G) (sp_law_mixed_up G) := by
  rintro ds M Q E ⟨h, d, n, N, c, rfl, z, gd, q⟩
  have g := gd.g
  have m1 := g.m1
  have m2 := g.m2
  have c4 := g.c4
  refine ⟨_, rfl, h, d, n, N.many, rfl, z, m1, by omega, fun W n1 oW n10 => ?_⟩
  refine ⟨_, rfl, h, d, n1, N.many, rfl, z.set n10, m1, by omega, fun B n2 oB n20 => ?_⟩
  rw [setH_setH]
  have hz : HandD (setH M h d n2) h d n2 := z.set n20
  refine ⟨szLe (by simp), fun l nl => ⟨_, rfl, ?_⟩⟩
  generalize hM2 : setH M h d n2 = M2 at *
  have wat : ∀ {i : Nat}, i < N.many → atI (W.map D.int) (i : Int) = some (.int (W.getD i 0)) := fun {i} hi => at_getD (by rw [oW.len]; exact hi)
  have bat : ∀ {i : Nat}, i < N.many → atI (B.map D.int) (i : Int) = some (.int (B.getD i 0)) := fun {i} hi => at_getD (by rw [oB.len]; exact hi)
  have szm : (rngD 0 (N.many : Int).toNat).length < sizeLine := szLt (by rw [rngD_length, Int.toNat_natCast]; omega)
  refine ⟨fun i env' M' => ∃ s5 s7, env' = [some (.ref h), some (netD N), some (rowD W), some (rowD B), some (.ref l), s5, none, s7] ∧ Sub M2 M' ∧ M' l = some (.lst ((N.links.take i).map fun L => rowD (mixR L W B N.many))), ⟨none, none, rfl, (Sub.refl M2).new nl, updM_same⟩, ?_, ?_⟩
  · rintro i x env' M' hd ⟨s5, s7, rfl, sub, hl⟩
    have hi : i < c := by
      have := (List.getElem?_eq_some_iff.mp hd).1
      rw [List.length_map, g.l] at this
      exact this
    have hil : i < N.links.length := by rw [g.l]; exact hi
    obtain ⟨_, o, hat⟩ := g.link hi
    rw [hat] at hd
    injection hd with hd
    subst hd
    have hLe : N.links.getD i [] = N.links[i] := getD_el hil
    generalize N.links.getD i [] = L at o hLe
    refine ⟨trivial, ⟨_, .inl hl⟩, _, rfl, by omega, by omega, fun a na => ?_⟩
    refine lcIdx (fun k : Nat => .int (B.idxOf (L.getD (W.getD k 0).toNat 0) : Nat)) na (fun _ _ => trivial) (fun k d M3 R hd s3 k2 => ?_) szm fun M4 s4 h4 => ?_
    · obtain ⟨hk, rfl⟩ := rng_nat hd
      obtain ⟨_, w2, w3⟩ := ord_at oW hk
      have hlL : (W.getD k 0).toNat < L.length := by rw [o.len]; exact w2
      have e1 := at_getD hlL
      rw [w3] at e1
      exact ⟨_, wat hk, _, e1, _, rfl, oB.mem.mpr (o.mem.mp (getD_in hlL)), k2 M3 (Sub.refl _)⟩
    · rw [rngD_length, Int.toNat_natCast] at h4
      refine ⟨_, .inl h4, _, s4 _ _ hl, by rw [List.length_map, List.length_take]; exact szLt (by omega), _, _, rfl, (sub.trans s4).new nl, ?_⟩
      rw [updM_same, List.take_add_one, List.getElem?_eq_getElem hil, List.map_append]
      refine congrArg some (congrArg MO.lst (congrArg (_ ++ ·) (congrArg (fun y => [y]) ?_)))
      show D.tup _ = rowD (mixR N.links[i] W B N.many)
      rw [← hLe]
      unfold mixR rowD
      rw [List.map_map]
      rfl
  · rintro env' M' ⟨s5, s7, rfl, sub, hl⟩
    rw [List.length_map, List.take_length] at hl
    refine ⟨trivial, _, rfl, by omega, by omega, fun a na => ?_⟩
    refine lcIdx (fun k : Nat => .int (N.wh.getD (W.getD k 0).toNat 0)) na (fun _ _ => trivial) (fun k d M3 R hd s3 k2 => ?_) szm fun M4 s4 h4 => ?_
    · obtain ⟨hk, rfl⟩ := rng_nat hd
      obtain ⟨_, w2, w3⟩ := ord_at oW hk
      have e1 := at_getD (l := N.wh) (i := (W.getD k 0).toNat) (by rw [g.w]; exact w2)
      rw [w3] at e1
      exact ⟨_, rfl, _, wat hk, _, e1, k2 M3 (Sub.refl _)⟩
    rw [rngD_length, Int.toNat_natCast] at h4
    refine ⟨_, .inl h4, _, rfl, _, .inl (s4 _ _ hl), _, rfl, by omega, by omega, fun b nb => ?_⟩
    refine lcIdx (fun k : Nat => .int (N.bl.getD (B.getD k 0).toNat 0)) nb (fun _ _ => trivial) (fun k d M3 R hd s3 k2 => ?_) szm fun M5 s5' h5 => ?_
    · obtain ⟨hk, rfl⟩ := rng_nat hd
      obtain ⟨_, w2, w3⟩ := ord_at oB hk
      have e1 := at_getD (l := N.bl) (i := (B.getD k 0).toNat) (by rw [g.b]; exact w2)
      rw [w3] at e1
      exact ⟨_, rfl, _, bat hk, _, e1, k2 M3 (Sub.refl _)⟩
    rw [rngD_length, Int.toNat_natCast] at h5
    refine ⟨_, .inl h5, szLe (by show 5 ≤ 1000000; decide), M2, (sub.trans s4).trans s5', ?_⟩
    have := q (mixN N W B) n2 (mix_gd gd oW oB) rfl n20
    rw [hM2] at this
    unfold netD mixN at this
    dsimp only at this
    rw [List.map_map] at this
    unfold rowD at this ⊢
    rw [List.map_map, List.map_map] at this
    exact this
/-! ### wrong networks -/
def Bad (M : MH) (x : D) : Prop := Vk M x ∧ W5 x ∧ netOk x = false
mutual
theorem vk_upd {M : MH} {p : Addr} {xs ys : List D} (hp : M p = some (.lst xs)) : ∀ d : D, Vk M d → Vk (updM M p (.lst ys)) d
  | .tup ds, h => by
    simp only [Vk] at h ⊢
    exact vks_upd hp ds h
  | .ref a, h => by
    simp only [Vk] at h ⊢
    by_cases e : a = p
    · subst e
      exact .inl ⟨ys, .inl updM_same⟩
    · rcases h with ⟨ds, h | h⟩ | ⟨kvs, h⟩
      · exact .inl ⟨ds, .inl ((updM_ne e).trans h)⟩
      · exact .inl ⟨ds, .inr ((updM_ne e).trans h)⟩
      · exact .inr ⟨kvs, (updM_ne e).trans h⟩
  | .ty _, h => by simp only [Vk] at h
  | .non, _ => by simp only [Vk]
  | .bl _, _ => by simp only [Vk]
  | .int _, _ => by simp only [Vk]
  | .str _, _ => by simp only [Vk]
theorem vks_upd {M : MH} {p : Addr} {xs ys : List D} (hp : M p = some (.lst xs)) : ∀ ds : List D, Vks M ds → Vks (updM M p (.lst ys)) ds
  | [], _ => by simp only [Vks]
  | d :: ds, h => by
    simp only [Vks] at h ⊢
    exact ⟨vk_upd hp d h.1, vks_upd hp ds h.2⟩
end
theorem bad_mono {M M' : MH} {x : D} (s : Sub M M') (h : Bad M x) : Bad M' x := ⟨vk_mono s x h.1, h.2⟩
theorem bad_snoc {M : MH} {p : Addr} {xs : List D} {x : D} (hp : M p = some (.lst xs)) (hb : ∀ y ∈ xs, Bad M y) (hx : Bad M x) : ∀ y ∈ xs ++ [x], Bad (updM M p (.lst (xs ++ [x]))) y := fun y hy => by
  have : Bad M y := by
    rcases List.mem_append.mp hy with hy | hy
    · exact hb y hy
    · rw [List.mem_singleton] at hy
      subst hy
      exact hx
  exact ⟨vk_upd hp y this.1, this.2⟩
theorem bad5 {M : MH} {m l a b : D} (vm : Vk M m) (vl : Vk M l) (va : Vk M a) (vb : Vk M b) (h : (isNum m 1 400 && restOk l a b m) = false) : Bad M (.tup [.str "network", m, l, a, b]) := by
  refine ⟨vk_tup fun x hx => ?_, fun w zs e _ => ?_, ?_⟩
  · simp only [List.mem_cons, List.not_mem_nil, or_false] at hx
    rcases hx with rfl | rfl | rfl | rfl | rfl
    · simp only [Vk]
    · exact vm
    · exact vl
    · exact va
    · exact vb
  · injection e with e
    injection e with e _
    exact ⟨_, e.symm⟩
  · rw [net5, h, Bool.and_false]
theorem rows_bad {n : Int} {ls : List D} {x : D} (hx : x ∈ ls) (h : rowOk n x = false) : rowsOk n (.tup ls) = false := by
  show (decide (2 ≤ ls.length) && decide (ls.length ≤ 4) && ls.all (rowOk n)) = false
  have : ls.all (rowOk n) = false := by
    rw [List.all_eq_false]
    exact ⟨x, hx, by rw [h]; decide⟩
  rw [this, Bool.and_false]
theorem ins_bad {n b : Int} {zs : List D} {x : D} (hx : x ∈ zs) (h : isNum x 0 (b - 1) = false) : insOk n b (.tup zs) = false := by
  show (decide ((zs.length : Int) = n) && zs.all fun x => isNum x 0 (b - 1)) = false
  have : (zs.all fun x => isNum x 0 (b - 1)) = false := by
    rw [List.all_eq_false]
    exact ⟨x, hx, by rw [h]; decide⟩
  rw [this, Bool.and_false]
theorem ins_len {n b : Int} {zs : List D} (h : (zs.length : Int) ≠ n) : insOk n b (.tup zs) = false := by
  show (decide ((zs.length : Int) = n) && _) = false
  rw [decide_eq_false h, Bool.false_and]
theorem row_len {n : Int} {zs : List D} (h : (zs.length : Int) ≠ n) : rowOk n (.tup zs) = false := by
  show (decide ((zs.length : Int) = n) && _) = false
  rw [decide_eq_false h, Bool.false_and]
theorem row_head {n : Int} {x : D} {zs : List D} (h : isNum x 0 (n - 1) = false) : rowOk n (.tup (x :: zs)) = false := by
  show (decide _ && lkOk n [] (x :: zs)) = false
  have : lkOk n [] (x :: zs) = false := by
    cases x with
    | int v =>
      have h' : (decide (0 ≤ v) && decide (v ≤ n - 1)) = false := h
      show (decide (0 ≤ v) && decide (v ≤ n - 1) && _ && _) = false
      rw [h', Bool.false_and, Bool.false_and]
    | _ => rfl
  rw [this, Bool.and_false]
theorem row_twice {n v : Int} {zs : List D} : rowOk n (.tup (.int v :: .int v :: zs)) = false := by
  show (decide _ && lkOk n [] (.int v :: .int v :: zs)) = false
  have : lkOk n [] (.int v :: .int v :: zs) = false := by
    show (decide (0 ≤ v) && decide (v ≤ n - 1) && !([].contains v) && (decide (0 ≤ v) && decide (v ≤ n - 1) && !([v].contains v) && lkOk n [v, v] zs)) = false
    have : [v].contains v = true := by simp
    rw [this]
    simp
  rw [this, Bool.and_false]
theorem vk_cut {M : MH} {ds : List D} {lo hi : Option Int} (h : ∀ x ∈ ds, Vk M x) : ∀ x ∈ L3.cutD ds lo hi, Vk M x := fun x hx => h x (List.mem_of_mem_drop (List.mem_of_mem_take hx))
theorem vk_i {M : MH} {i : Int} : Vk M (.int i) := by simp only [Vk]
theorem vk_n {M : MH} : Vk M .non := by simp only [Vk]
theorem vk_b {M : MH} {b : Bool} : Vk M (.bl b) := by simp only [Vk]
theorem vk_s {M : MH} {x : Str} : Vk M (.str x) := by simp only [Vk]
theorem vk_app {M : MH} {xs ys : List D} (hx : ∀ x ∈ xs, Vk M x) (hy : ∀ x ∈ ys, Vk M x) : Vk M (.tup (xs ++ ys)) := vk_tup fun x h => (List.mem_append.mp h).elim (hx x) (hy x)
theorem vk_one {M : MH} {x : D} (h : Vk M x) : ∀ y ∈ [x], Vk M y := fun y hy => by
  rw [List.mem_singleton] at hy
  subst hy
  exact h
theorem mul_one_list {x : D} : ∀ n : Nat, (List.replicate n [x]).flatten = List.replicate n x
  | 0 => rfl
  | n + 1 => by rw [List.replicate_succ, List.flatten_cons, mul_one_list n]; rfl
def rowsW (N : Net) : List D := N.links.map rowD
def twiceD (N : Net) : List D := (List.replicate (N.many : Int).toNat [.int ((N.links.getD 0 []).getD 0 0)]).flatten ++ (List.replicate (if decide ((N.many : Int) = 1) = true then (1 : Int) else 0).toNat [.int 0]).flatten
theorem twice_bad {N : Net} (m1 : 1 ≤ N.many) : rowOk (N.many : Int) (.tup (twiceD N)) = false := by
  unfold twiceD
  rw [Int.toNat_natCast, mul_one_list]
  by_cases e : N.many = 1
  · rw [e]
    exact row_len (by simp)
  · rw [if_neg (by rw [decide_eq_true_eq]; omega)]
    obtain ⟨k, hk⟩ : ∃ k, N.many = k + 2 := ⟨N.many - 2, by omega⟩
    rw [hk]
    exact row_twice
/-- the list of wrong ones, as it grows -/
def Wst (M : MH) (p : Addr) (hi : Nat) (M' : MH) : Prop := Sub M M' ∧ ∃ xs, M' p = some (.lst xs) ∧ 8 ≤ xs.length ∧ xs.length ≤ hi ∧ ∀ x ∈ xs, Bad M' x
theorem Wst.new {M M' : MH} {p a : Addr} {hi : Nat} {o : MO} (w : Wst M p hi M') (na : M' a = none) : Wst M p hi (updM M' a o) := by
  obtain ⟨s, xs, h1, h2, h3, h4⟩ := w
  have pa : p ≠ a := fun e => by
    subst e
    rw [h1] at na
    cases na
  exact ⟨s.new (s.free na), xs, (updM_ne pa).trans h1, h2, h3, fun x hx => bad_mono ((Sub.refl M').new na) (h4 x hx)⟩
theorem Wst.app {M M' : MH} {p : Addr} {hi : Nat} {x : D} {env : En} {R : MH → Prop} (w : Wst M p hi M') (np : M p = none) (hx : Bad M' x) (hh : hi ≤ 1000) (k : ∀ M'', Wst M p (hi + 1) M'' → (∀ a, a ≠ p → M'' a = M' a) → R M'') : ∃ ds, M' p = some (.lst ds) ∧ ds.length < sizeLine ∧ R (updM M' p (.lst (ds ++ [x]))) := by
  obtain ⟨s, xs, h1, h2, h3, h4⟩ := w
  exact ⟨xs, h1, szLt (by omega), k _ ⟨s.new np, xs ++ [x], updM_same, by simp; omega, by simp; omega, bad_snoc h1 h4 hx⟩ fun a ha => updM_ne ha⟩
theorem Wst.ne {M M' : MH} {p a : Addr} {hi : Nat} (w : Wst M p hi M') (na : M' a = none) : a ≠ p := fun e => by
  obtain ⟨_, xs, h1, _⟩ := w
  subst e
  rw [h1] at na
  cases na
theorem Wst.lst {M M' : MH} {p : Addr} {hi : Nat} (w : Wst M p hi M') : ∃ ds, LstM M' p ds := by
  obtain ⟨_, xs, h1, _⟩ := w
  exact ⟨xs, .inl h1⟩
theorem rd_law_wrong_network (T : Txt G mg) : Rd3 N_law_wrong_network (t_law_wrong_network G) (sp_law_wrong_network G) := by
  rintro ds M Q E ⟨h, d, n, N, c, rfl, z, gd, hm, q⟩
  have g := gd.g
  have m1 := g.m1
  have m2 := g.m2
  have c2 := gd.c2
  have c4 := g.c4
  have n0 := z.n0
  obtain ⟨hl0, o0, hat0⟩ := g.link (i := 0) (by omega)
  have l00 : 0 < (N.links.getD 0 []).length := by rw [o0.len]; omega
  have vL : ∀ {M' : MH}, ∀ x ∈ rowsW N, Vk M' x := fun {M'} x hx => by
    obtain ⟨l, _, rfl⟩ := List.mem_map.mp hx
    exact vk_row
  have lenL : (rowsW N).length = c := by show (N.links.map rowD).length = c; rw [List.length_map, g.l]
  obtain ⟨ls, hls⟩ : ∃ ls, rowsW N = rowD (N.links.getD 0 []) :: ls := by
    cases hr : rowsW N with
    | nil => rw [hr] at lenL; simp at lenL; omega
    | cons a ls =>
      have e : (rowsW N)[0]? = some (rowD (N.links.getD 0 [])) := hat0
      rw [hr] at e
      have e' : some a = some (rowD (N.links.getD 0 [])) := e
      exact ⟨ls, by rw [Option.some.inj e']⟩
  have cutL : L3.cutD (rowsW N) (some 1) none = ls := by rw [hls, cut_from1]; rfl
  have vls : ∀ {M' : MH}, ∀ x ∈ ls, Vk M' x := fun {M'} x hx => vL x (by rw [hls]; exact List.mem_cons_of_mem _ hx)
  have rows1 : ls ≠ [] := fun e => by
    have := lenL
    rw [hls, e] at this
    simp at this
    omega
  have vw : ∀ {M' : MH} {l : List Int}, ∀ x ∈ l.map D.int, Vk M' x := fun {M' l} x hx => by
    obtain ⟨i, _, rfl⟩ := List.mem_map.mp hx
    exact vk_i
  have badM : ∀ {M' : MH} {m : D}, Vk M' m → (isNum m 1 400 && restOk (.tup (rowsW N)) (rowD N.wh) (rowD N.bl) m) = false → Bad M' (.tup [.str "network", m, .tup (rowsW N), rowD N.wh, rowD N.bl]) := fun {M' m} v hb => bad5 v (vk_tup vL) vk_row vk_row hb
  have badL : ∀ {M' : MH} {l : D}, Vk M' l → rowsOk (N.many : Int) l = false → Bad M' (.tup [.str "network", .int (N.many : Int), l, rowD N.wh, rowD N.bl]) := fun {M' l} v hb => bad5 vk_i v vk_row vk_row (by
    show (_ && (rowsOk (N.many : Int) l && _)) = false
    rw [hb, Bool.false_and, Bool.and_false])
  have badA : ∀ {M' : MH} {a : D}, Vk M' a → insOk (N.many : Int) 4 a = false → Bad M' (.tup [.str "network", .int (N.many : Int), .tup (rowsW N), a, rowD N.bl]) := fun {M' a} v hb => bad5 vk_i (vk_tup vL) v vk_row (by
    show (_ && (_ && (insOk (N.many : Int) 4 a && _))) = false
    rw [hb, Bool.false_and, Bool.and_false, Bool.and_false])
  have badB : ∀ {M' : MH} {a : D}, Vk M' a → insOk (N.many : Int) 4 a = false → Bad M' (.tup [.str "network", .int (N.many : Int), .tup (rowsW N), rowD N.wh, a]) := fun {M' a} v hb => bad5 vk_i (vk_tup vL) vk_row v (by
    show (_ && (_ && (_ && insOk (N.many : Int) 4 a))) = false
    rw [hb, Bool.and_false, Bool.and_false, Bool.and_false])
  refine ⟨rfl, ?_⟩
  conv => whnf
  refine ⟨rfl, ?_⟩
  conv => whnf
  refine ⟨_, (atI_nat hat0 : atI (N.links.map rowD) ((0 : Nat) : Int) = _), _, (at_getD l00 : atI ((N.links.getD 0 []).map D.int) ((0 : Nat) : Int) = _), szLe (by show 1 ≤ 1000000; decide), by simp, by omega, by omega, by show 1 ≤ 1000; decide, szLe (by show 1 ≤ 1000000; decide), eq_int ?_⟩
  have lenT : ((List.replicate (N.many : Int).toNat [D.int ((N.links.getD 0 []).getD 0 0)]).flatten).length = N.many := by
    rw [Int.toNat_natCast, mul_one_list, List.length_replicate]
  have lenO : ((List.replicate (if decide ((N.many : Int) = 1) = true then (1 : Int) else 0).toNat [D.int 0]).flatten).length ≤ 1 := by
    rw [mul_one_list, List.length_replicate]
    split <;> decide
  refine ⟨by simp, by split <;> decide, by split <;> decide, by show 1 ≤ 1000; decide, szLe (by rw [lenT]; omega), ?_⟩
  refine fun p1 np1 => ⟨szLe (by show 1 ≤ 1000000; decide), szLe (by show 6 ≤ 1000000; decide), szLe (by show 1 ≤ 1000000; decide), szLe (by show 5 ≤ 1000000; decide), szLe (by show 0 ≤ 1000000; decide), szLe (by show 8 ≤ 1000000; decide), fun p np => ?_⟩
  have npM : M p = none := ((Sub.refl M).new np1).free np
  have b1 : ∀ {M' : MH} {x : D}, Vk M' x → W5 x → netOk x = false → Bad M' x := fun a b c => ⟨a, b, c⟩
  have netVk : ∀ {M' : MH}, ∀ x ∈ [D.str "network", .int (N.many : Int), .tup (N.links.map rowD), rowD N.wh, rowD N.bl], Vk M' x := fun {M'} x hx => by
    simp only [List.mem_cons, List.not_mem_nil, or_false] at hx
    rcases hx with rfl | rfl | rfl | rfl | rfl
    · exact vk_s
    · exact vk_i
    · exact vk_tup vL
    · exact vk_row
    · exact vk_row
  have w0 : Wst M p 8 (updM (updM M p1 (.lst [D.str "network", .int (N.many : Int), .tup (N.links.map rowD), rowD N.wh, rowD N.bl])) p (.lst [.ref p1, .tup (L3.cutD [D.str "network", .int (N.many : Int), .tup (N.links.map rowD), rowD N.wh, rowD N.bl] none (some 4)),
      .tup ([D.str "network", .int (N.many : Int), .tup (N.links.map rowD), rowD N.wh, rowD N.bl] ++ [.int 0]), .tup ([.str "Network"] ++ L3.cutD [D.str "network", .int (N.many : Int), .tup (N.links.map rowD), rowD N.wh, rowD N.bl] (some 1) none), .non, .int 5, .str "network", .tup []])) := by
    have p1p : p1 ≠ p := fun e => by subst e; rw [updM_same] at np; cases np
    refine ⟨((Sub.refl M).new np1).new npM, _, updM_same, Nat.le_refl _, Nat.le_refl _, fun x hx => ?_⟩
    simp only [List.mem_cons, List.not_mem_nil, or_false] at hx
    rcases hx with rfl | rfl | rfl | rfl | rfl | rfl | rfl | rfl
    · exact b1 (vk_lst (.inl ((updM_ne p1p).trans updM_same))) (fun _ _ e => nomatch e) rfl
    · refine b1 (vk_tup (vk_cut netVk)) (fun w zs e hz => ?_) rfl
      injection e with e
      have := congrArg List.length e
      rw [List.length_cons, hz] at this
      cases this
    · refine b1 (vk_app netVk (vk_one vk_i)) (fun w zs e hz => ?_) rfl
      injection e with e
      have := congrArg List.length e
      rw [List.length_cons, hz] at this
      cases this
    · refine b1 (vk_app (vk_one vk_s) (vk_cut netVk)) (fun w zs e hz => ?_) ?_
      · injection e with e
        injection e with e _
        exact ⟨_, e.symm⟩
      · show netOk (.tup [.str "Network", .int (N.many : Int), .tup (N.links.map rowD), rowD N.wh, rowD N.bl]) = false
        rw [net5, decide_eq_false (by decide), Bool.false_and]
    · exact b1 vk_n (fun _ _ e => nomatch e) rfl
    · exact b1 vk_i (fun _ _ e => nomatch e) rfl
    · exact b1 vk_s (fun _ _ e => nomatch e) rfl
    · exact b1 (vk_tup fun x hx => by simp at hx) (fun _ _ e => nomatch e) rfl
  generalize updM (updM M p1 (.lst [D.str "network", .int (N.many : Int), .tup (N.links.map rowD), rowD N.wh, rowD N.bl])) p (.lst [.ref p1, .tup (L3.cutD [D.str "network", .int (N.many : Int), .tup (N.links.map rowD), rowD N.wh, rowD N.bl] none (some 4)),
      .tup ([D.str "network", .int (N.many : Int), .tup (N.links.map rowD), rowD N.wh, rowD N.bl] ++ [.int 0]), .tup ([.str "Network"] ++ L3.cutD [D.str "network", .int (N.many : Int), .tup (N.links.map rowD), rowD N.wh, rowD N.bl] (some 1) none), .non, .int 5, .str "network", .tup []]) = MA at w0
  clear np np1
  refine ⟨szLe (by show 5 ≤ 1000000; decide), ?_⟩
  refine ⟨fun k env' M' => ∃ s4, env' = [some (.ref h), some (netD N), some (.tup (twiceD N)), some (.ref p), s4, none, none, none, none, some (.str "network"), some (.int (N.many : Int)), some (.tup (rowsW N)), some (rowD N.wh), some (rowD N.bl)] ∧ Wst M p (8 + k) M', ⟨none, rfl, w0⟩, ?_, ?_⟩
  · rintro k x env' M' hd ⟨s4, rfl, w⟩
    have hx : ∀ M', Bad M' (.tup [.str "network", x, .tup (rowsW N), rowD N.wh, rowD N.bl]) := fun M' => by
      have hm := List.mem_of_getElem? hd
      simp only [List.mem_cons, List.not_mem_nil, or_false] at hm
      rcases hm with rfl | rfl | rfl | rfl | rfl
      · refine badM vk_i ?_
        show (_ && (rowsOk ((N.many : Int) + 1) (.tup (rowsW N)) && _)) = false
        rw [rows_bad (x := rowD (N.links.getD 0 [])) (by rw [hls]; exact List.mem_cons_self) (row_len (by rw [List.length_map, o0.len]; omega)), Bool.false_and, Bool.and_false]
      · exact badM vk_i rfl
      · exact badM vk_i rfl
      · exact badM vk_b rfl
      · exact badM vk_n rfl
    have hk : k < 5 := (List.getElem?_eq_some_iff.mp hd).1
    exact ⟨trivial, w.lst, szLe (by show 5 ≤ 1000000; decide), w.app (env := []) npM (hx M') (by omega) fun M'' w'' _ => ⟨_, rfl, w''⟩⟩
  rintro env' M' ⟨s4, rfl, w⟩
  have w : Wst M p 13 M' := w
  have lenls : ls.length ≤ 4 := by
    have := lenL
    rw [hls] at this
    simp at this
    omega
  have hatI : atI (rowsW N) ((0 : Nat) : Int) = some (rowD (N.links.getD 0 [])) := atI_nat hat0
  have lenl0 : ((N.links.getD 0 []).map D.int).length = N.many := by rw [List.length_map, o0.len]
  conv => whnf
  refine ⟨trivial, ?_⟩
  refine ⟨fun e => by rw [e] at lenL; simp at lenL; omega, by decide, by decide, by rw [lenL]; omega, ?_⟩
  refine fun p2 np2 => ⟨_, hatI, fun p3 np3 => ⟨szLe (by show 1 ≤ 1000000; decide), ?_⟩⟩
  have pp2 : p2 ≠ p := w.ne np2
  have pp3 : p3 ≠ p := (w.new np2).ne np3
  have cutl : ∀ (ds : List D) lo hi, (L3.cutD ds lo hi).length ≤ ds.length := fun ds lo hi => by
    unfold L3.cutD
    rw [List.length_take, List.length_drop]
    omega
  have cl1 := cutl (rowsW N) (some 1) none
  rw [lenL] at cl1
  refine ⟨szLe (by show 1 + (L3.cutD (rowsW N) (some 1) none).length ≤ 1000000; omega), szLe (by show 1 ≤ 1000000; decide), szLe (by show 1 + (L3.cutD (rowsW N) (some 1) none).length ≤ 1000000; omega), szLe (by show 5 ≤ 1000000; decide), ?_⟩
  have p23 : p2 ≠ p3 := fun e => by subst e; rw [updM_same] at np3; cases np3
  have w : Wst M p 13 (updM (updM M' p2 (.lst (rowsW N))) p3 (.lst ((N.links.getD 0 []).map D.int))) := (w.new np2).new np3
  have f2 : updM (updM M' p2 (.lst (rowsW N))) p3 (.lst ((N.links.getD 0 []).map D.int)) p2 = some (.lst (rowsW N)) := (updM_ne p23).trans updM_same
  have f3 : updM (updM M' p2 (.lst (rowsW N))) p3 (.lst ((N.links.getD 0 []).map D.int)) p3 = some (.lst ((N.links.getD 0 []).map D.int)) := updM_same
  generalize updM (updM M' p2 (.lst (rowsW N))) p3 (.lst ((N.links.getD 0 []).map D.int)) = MC at w f2 f3
  refine ⟨fun k env' M' => ∃ s5, env' = [some (.ref h), some (netD N), some (.tup (twiceD N)), some (.ref p), s4, s5, none, none, none, some (.str "network"), some (.int (N.many : Int)), some (.tup (rowsW N)), some (rowD N.wh), some (rowD N.bl)] ∧ Wst M p (13 + k) M' ∧ M' p2 = some (.lst (rowsW N)) ∧ M' p3 = some (.lst ((N.links.getD 0 []).map D.int)), ⟨none, rfl, w, f2, f3⟩, ?_, ?_⟩
  · rintro k x env' M' hd ⟨s5, rfl, w, f2, f3⟩
    have vcl : ∀ {a : D} {lo hi : Option Int}, Vk M' a → Vk M' (.tup ([a] ++ L3.cutD (rowsW N) lo hi)) := fun v => vk_app (vk_one v) (vk_cut vL)
    have hx : Bad M' (.tup [.str "network", .int (N.many : Int), x, rowD N.wh, rowD N.bl]) := by
      have hm := List.mem_of_getElem? hd
      simp only [List.mem_cons, List.not_mem_nil, or_false] at hm
      rcases hm with rfl | rfl | rfl | rfl | rfl
      · refine badL (vk_tup (vk_cut vL)) ?_
        have : (L3.cutD (rowsW N) none (some 1)).length ≤ 1 := by
          unfold L3.cutD
          rw [List.length_take, HT.sIx_none, show HT.sIx (rowsW N).length (rowsW N).length (some 1) = min 1 (rowsW N).length from HT.sIx_nat _ _ 1]
          omega
        show (decide (2 ≤ (L3.cutD (rowsW N) none (some 1)).length) && _ && _) = false
        rw [decide_eq_false (by omega), Bool.false_and, Bool.false_and]
      · refine badL (vk_tup fun y hy => ?_) ?_
        · obtain ⟨l, hl, hy⟩ := List.mem_flatten.mp hy
          rw [(List.mem_replicate.mp hl).2] at hy
          exact vL y hy
        · have : ((List.replicate (3 : Int).toNat (rowsW N)).flatten).length = 3 * c := by
            rw [PyProof.Rows.lm_len_rep_flat, lenL]
            rfl
          show (_ && decide (((List.replicate (3 : Int).toNat (rowsW N)).flatten).length ≤ 4) && _) = false
          rw [this, decide_eq_false (p := 3 * c ≤ 4) (by omega), Bool.and_false, Bool.false_and]
      · exact badL (vk_lst (.inl f2)) rfl
      · exact badL (vcl (vk_lst (.inl f3))) (rows_bad List.mem_cons_self rfl)
      · refine badL (vcl (vk_tup fun y hy => ?_)) (rows_bad List.mem_cons_self (twice_bad m1))
        unfold twiceD at hy
        rw [mul_one_list, mul_one_list] at hy
        rcases List.mem_append.mp hy with hy | hy
        · rw [(List.mem_replicate.mp hy).2]; exact vk_i
        · rw [(List.mem_replicate.mp hy).2]; exact vk_i
    have hk : k < 5 := (List.getElem?_eq_some_iff.mp hd).1
    exact ⟨trivial, w.lst, szLe (by show 5 ≤ 1000000; decide), w.app (env := []) npM hx (by omega) fun M'' w'' hne => ⟨_, rfl, w'', (hne p2 pp2).trans f2, (hne p3 pp3).trans f3⟩⟩
  clear f2 f3 w
  rintro env' M' ⟨s5, rfl, w, f2, f3⟩
  have w : Wst M p 18 M' := w
  clear f2 f3
  have cr0 : ∀ lo hi, (L3.cutD ((N.links.getD 0 []).map D.int) lo hi).length ≤ 400 := fun lo hi => Nat.le_trans (cutl _ _ _) (by rw [lenl0]; exact m2)
  refine ⟨trivial, szLe (by show 1 ≤ 1000000; decide), szLe (by show 1 ≤ 1000000; decide), szLe (by show 1 ≤ 1000000; decide), szLe (by show 3 ≤ 1000000; decide), ?_⟩
  refine ⟨fun k env' M' => ∃ s6, env' = [some (.ref h), some (netD N), some (.tup (twiceD N)), some (.ref p), s4, s5, s6, none, none, some (.str "network"), some (.int (N.many : Int)), some (.tup (rowsW N)), some (rowD N.wh), some (rowD N.bl)] ∧ Wst M p (18 + k) M', ⟨none, rfl, w⟩, ?_, ?_⟩
  · rintro k x env' M' hd ⟨s6, rfl, w⟩
    obtain ⟨y, rfl, hy, vy⟩ : ∃ y, x = .tup [y] ∧ isNum y 0 ((N.many : Int) - 1) = false ∧ Vk M' y := by
      have hm := List.mem_of_getElem? hd
      simp only [List.mem_cons, List.not_mem_nil, or_false] at hm
      rcases hm with rfl | rfl | rfl
      · refine ⟨_, rfl, ?_, vk_i⟩
        show (decide ((0 : Int) ≤ (N.many : Int)) && decide ((N.many : Int) ≤ (N.many : Int) - 1)) = false
        rw [decide_eq_false (p := (N.many : Int) ≤ (N.many : Int) - 1) (by omega), Bool.and_false]
      · exact ⟨_, rfl, rfl, vk_i⟩
      · exact ⟨_, rfl, rfl, vk_n⟩
    have hk : k < 3 := (List.getElem?_eq_some_iff.mp hd).1
    refine ⟨trivial, w.lst, _, hatI, szLe (by have := cr0 (some 1) none; show 1 + _ ≤ 1000000; omega), szLe (by show 1 ≤ 1000000; decide), szLe (by show 1 + (L3.cutD (rowsW N) (some 1) none).length ≤ 1000000; omega), szLe (by show 5 ≤ 1000000; decide), w.app (env := []) npM ?_ (by omega) fun M'' w'' _ => ⟨_, rfl, w''⟩⟩
    exact badL (vk_app (vk_one (vk_app (vk_one vy) (vk_cut vw))) (vk_cut vL)) (rows_bad List.mem_cons_self (row_head hy))
  clear w
  rintro env' M' ⟨s6, rfl, w⟩
  have w : Wst M p 21 M' := w
  have lw : (N.wh.map D.int).length = N.many := by rw [List.length_map, g.w]
  have cw : ∀ lo hi, (L3.cutD (N.wh.map D.int) lo hi).length ≤ N.many := fun lo hi => by rw [← lw]; exact cutl _ _ _
  refine ⟨trivial, fun p4 np4 => ⟨szLe (by show 1 ≤ 1000000; decide), szLe (by show (N.wh.map D.int).length + 1 ≤ 1000000; omega), szLe (by show 4 ≤ 1000000; decide), fun p5 np5 => ?_⟩⟩
  refine ⟨szLe (by show 1 ≤ 1000000; decide), szLe (by have := cw (some 1) none; show 1 + _ ≤ 1000000; omega), szLe (by show 1 ≤ 1000000; decide), szLe (by have := cw (some 1) none; show 1 + _ ≤ 1000000; omega), szLe (by show 1 ≤ 1000000; decide), szLe (by have := cw (some 1) none; show 1 + _ ≤ 1000000; omega), szLe (by show 3 ≤ 1000000; decide), fun p6 np6 => ?_⟩
  have n56 : p5 ≠ p6 := fun e => by subst e; rw [updM_same] at np6; cases np6
  refine ⟨_, _, (updM_ne n56).trans updM_same, updM_same, szLe (by show 4 + 3 ≤ 1000000; decide), fun p7 np7 => ⟨_, .inl updM_same, ?_⟩⟩
  have pp4 : p4 ≠ p := w.ne np4
  have pp5 : p5 ≠ p := (w.new np4).ne np5
  have pp6 : p6 ≠ p := ((w.new np4).new np5).ne np6
  have pp7 : p7 ≠ p := (((w.new np4).new np5).new np6).ne np7
  have n45 : p4 ≠ p5 := fun e => by subst e; rw [updM_same] at np5; cases np5
  have n46 : p4 ≠ p6 := fun e => by subst e; rw [updM_ne n45, updM_same] at np6; cases np6
  have n47 : p4 ≠ p7 := fun e => by subst e; rw [updM_ne n46, updM_ne n45, updM_same] at np7; cases np7
  refine ⟨fun k env' M' => ∃ s8, env' = [some (.ref h), some (netD N), some (.tup (twiceD N)), some (.ref p), s4, s5, s6, some (.ref p5), s8, some (.str "network"), some (.int (N.many : Int)), some (.tup (rowsW N)), some (rowD N.wh), some (rowD N.bl)] ∧ Wst M p (21 + 2 * k) M' ∧ M' p4 = some (.lst (N.wh.map D.int)) ∧
    M' p7 = some (.lst ([.ref p4, .tup (N.wh.map D.int ++ [.int 0]), .tup (L3.cutD (N.wh.map D.int) (some 1) none), .non] ++ [.tup ([.int 4] ++ L3.cutD (N.wh.map D.int) (some 1) none), .tup ([.int (-1)] ++ L3.cutD (N.wh.map D.int) (some 1) none), .tup ([.bl true] ++ L3.cutD (N.wh.map D.int) (some 1) none)])),
    ⟨none, rfl, (((w.new np4).new np5).new np6).new np7, (updM_ne n47).trans ((updM_ne n46).trans ((updM_ne n45).trans updM_same)), updM_same⟩, ?_, ?_⟩
  · rintro k x env' M' hd ⟨s8, rfl, w, f4, f7⟩
    have hx : insOk (N.many : Int) 4 x = false ∧ (∀ M'', M'' p4 = some (.lst (N.wh.map D.int)) → Vk M'' x) := by
      have hm := List.mem_of_getElem? hd
      simp only [List.cons_append, List.nil_append, List.mem_cons, List.not_mem_nil, or_false] at hm
      have cc := cw (some 1) none
      rcases hm with rfl | rfl | rfl | rfl | rfl | rfl | rfl
      · exact ⟨rfl, fun M'' h => vk_lst (.inl h)⟩
      · exact ⟨ins_len (by rw [List.length_append, lw, List.length_singleton]; omega), fun M'' _ => vk_app vw (vk_one vk_i)⟩
      · refine ⟨ins_len ?_, fun M'' _ => vk_tup (vk_cut vw)⟩
        rw [cut_from1, List.length_drop, lw]
        omega
      · exact ⟨rfl, fun M'' _ => vk_n⟩
      · exact ⟨ins_bad List.mem_cons_self rfl, fun M'' _ => vk_app (vk_one vk_i) (vk_cut vw)⟩
      · exact ⟨ins_bad List.mem_cons_self rfl, fun M'' _ => vk_app (vk_one vk_i) (vk_cut vw)⟩
      · exact ⟨ins_bad List.mem_cons_self rfl, fun M'' _ => vk_app (vk_one vk_b) (vk_cut vw)⟩
    have hk : k < 7 := (List.getElem?_eq_some_iff.mp hd).1
    refine ⟨.inl f7, w.lst, szLe (by show 5 ≤ 1000000; decide), w.app (env := []) npM (badA (hx.2 _ f4) hx.1) (by omega) fun M2 w2 hne => ?_⟩
    have f42 := (hne p4 pp4).trans f4
    have f72 := (hne p7 pp7).trans f7
    exact ⟨w2.lst, szLe (by show 5 ≤ 1000000; decide), w2.app (env := []) npM (badB (hx.2 _ f42) hx.1) (by omega) fun M3 w3 hne3 => ⟨_, rfl, w3, (hne3 p4 pp4).trans f42, (hne3 p7 pp7).trans f72⟩⟩
  clear w
  rintro env' M' ⟨s8, rfl, w, f4, f7⟩
  obtain ⟨sub, xs, hp, l8, lhi, hb⟩ := w
  refine ⟨.inl f7, _, .inl hp, h, d, n, xs.length, rfl, z.sub sub, by omega, fun v v0 v1 => ?_⟩
  have ph : p ≠ h := fun e => by
    subst e
    rw [z.own] at npM
    cases npM
  obtain ⟨x, hx, hxm⟩ := at_mem (ds := xs) (v := v) (by omega) (by omega)
  obtain ⟨b1, b2, b3⟩ := hb x hxm
  refine ⟨xs, x, .inl ((setH_ne ph).trans hp), hx, _, Sub.refl _, q x _ (n + 1) (subH (n := n) (by rw [z.self]; exact sub)) (by omega) (vk_upd (sub _ _ z.own) x b1) b2 b3⟩
/-! ### numbered -/
theorem seq_cases {M : MH} {es : List D} {x : D} (h : Seq3 M es x) : x = .tup es ∨ ∃ l, x = .ref l ∧ LstM M l es := by
  cases x with
  | tup ds =>
    have e : ds = es := h
    subst e
    exact .inl rfl
  | ref l => exact .inr ⟨l, rfl, h⟩
  | _ => exact h.elim
def bodyNum : S3 := s3Seq (s3If (t3Test (e3Op (r3InX true) (e3Var 3) (e3Var 1))) (s3AsgG (e3CB c3LenD (a3Cons (e3Var 1) a3Nil)) (g3SubX (e3Var 1) (e3Var 3))) s3Nil)
    (s3Expr (e3Bm m3App (e3Var 2) (a3Cons (e3Op r3IxX (e3Var 1) (e3Var 3)) a3Nil)))
theorem seq_sub {M M' : MH} {es : List D} {x : D} (s : Sub M M') (h : Seq3 M es x) : Seq3 M' es x := by
  cases x with
  | ref l => exact lstM_sub s h
  | _ => exact h
theorem sub_upd {M M' : MH} {p : Addr} {o : MO} (s : Sub M M') (np : M' p = none) : Sub (updM M p o) (updM M' p o) := (s.new (s.free np)).put updM_same
structure NumK {α : Type} [DecidableEq α] (enc : α → D) (mo : List α → MO) : Prop where
  new : ∀ {W : W3} {env : En} {M : MH} {Q : Q3}, (∀ p, M p = none → Q (.ref p) (updM M p (mo []))) → e3DNewX W env M Q
  in_ : ∀ {M : MH} {p : Addr} {u : List α} {x : α} {neg : Bool} {Q : Q3}, M p = some (mo u) → Q (.bl (neg ^^ decide (x ∈ u))) M → r3InX neg (enc x) (.ref p) M Q
  ix : ∀ {M : MH} {p : Addr} {u : List α} {x : α} {Q : Q3}, M p = some (mo u) → x ∈ u → Q (.int (u.idxOf x : Nat)) M → r3IxX (.ref p) (enc x) M Q
  set : ∀ {M : MH} {p : Addr} {u : List α} {x : α} {Q : MH → Prop}, M p = some (mo u) → x ∉ u → u.length ≤ 1000 → Q (updM M p (mo (u ++ [x]))) →
    (∃ p' kvs k, D.ref p = .ref p' ∧ enc x = kD k ∧ M p' = some (.dK kvs) ∧ kvs.length < sizeLine ∧ Q (updM M p' (.dK (putD kvs k (.int (u.length : Nat)))))) ∨ ∃ p' kvs, D.ref p = .ref p' ∧ M p' = some (.dT kvs) ∧ keyD (enc x) = true ∧ kvs.length < sizeLine ∧ Q (updM M p' (.dT (storT kvs (enc x) (.int (u.length : Nat)))))
  len : ∀ {M : MH} {p : Addr} {u : List α} {Q : Q3}, M p = some (mo u) → u.length ≤ 1000 → Q (.int (u.length : Nat)) M → c3LenD [.ref p] M Q
section
variable {α κ : Type} [DecidableEq α]
def plc (e : α → κ) (u : List α) (n : Nat) : List (κ × D) := (u.zipIdx n).map fun p => (e p.1, D.int ((p.2 : Nat) : Int))
theorem plc_len {e : α → κ} {u : List α} {n : Nat} : (plc e u n).length = u.length := by unfold plc; rw [List.length_map, List.length_zipIdx]
theorem plc_snoc {e : α → κ} {u : List α} {x : α} : plc e (u ++ [x]) 0 = plc e u 0 ++ [(e x, .int (u.length : Nat))] := by
  unfold plc
  rw [List.zipIdx_append, List.map_append]
  simp
theorem find_plc {e : α → κ} {pr : κ × D → Bool} {x : α} (hp : ∀ y v, pr (e y, v) = decide (y = x)) : ∀ (u : List α) (n : Nat), ((plc e u n).find? pr).map (·.2) = if x ∈ u then some (D.int ((n + u.idxOf x : Nat) : Int)) else none
  | [], n => rfl
  | y :: u, n => by
    show (((e y, D.int ((n : Nat) : Int)) :: plc e u (n + 1)).find? pr).map (·.2) = _
    rw [List.find?_cons, hp]
    by_cases h : y = x
    · subst h
      simp
    · have hb : (y == x) = false := by simpa using h
      rw [decide_eq_false h]
      simp only
      rw [find_plc hp u (n + 1)]
      by_cases hm : x ∈ u
      · rw [if_pos hm, if_pos (List.mem_cons_of_mem _ hm), List.idxOf_cons, hb]
        simp only [cond_false]
        rw [show n + 1 + u.idxOf x = n + (u.idxOf x + 1) by omega]
      · rw [if_neg hm, if_neg fun z => by
          rcases List.mem_cons.mp z with z | z
          · exact h z.symm
          · exact hm z]
end
theorem numK_int : NumK D.int fun u : List Int => MO.dK (plc Sum.inl u 0) := by
  have hv : ∀ {u : List Int} {x : Int}, valD (plc Sum.inl u 0) (.inl x) = if x ∈ u then some (D.int ((u.idxOf x : Nat) : Int)) else none := fun {u x} => by
    unfold valD
    rw [find_plc (x := x) (fun y v => by
      by_cases h : y = x
      · subst h; simp
      · rw [decide_eq_false h]; exact decide_eq_false fun z => h (by injection z))]
    rw [Nat.zero_add]
  refine ⟨fun q => .inl fun p np => q p np, fun {M p u x neg Q} hm q => .inl ⟨p, _, .inl x, rfl, rfl, hm, ?_⟩, fun {M p u x Q} hm hx q => .inl ⟨p, _, .inl x, _, rfl, rfl, hm, ?_, q⟩, fun {M p u x Q} hm hx hl q => .inl ⟨p, _, .inl x, rfl, rfl, hm, szLt (by rw [plc_len]; omega), ?_⟩, fun {M p u Q} hm hl q => .inl (.inr ⟨p, _, rfl, hm, ?_⟩)⟩
  · rw [hv, show (if x ∈ u then some (D.int ((u.idxOf x : Nat) : Int)) else none).isSome = decide (x ∈ u) by split <;> simp_all]
    exact q
  · rw [hv, if_pos hx]
  · have hany : ((plc Sum.inl u 0).any fun kv : Key × D => decide (kv.1 = Sum.inl x)) = false := by
      rw [Bool.eq_false_iff]
      intro z
      obtain ⟨kv, hkv, e⟩ := List.any_eq_true.mp z
      have h1 : (List.find? (fun kv : Key × D => decide (kv.1 = Sum.inl x)) (plc Sum.inl u 0)).isSome = true := List.find?_isSome.mpr ⟨kv, hkv, e⟩
      have h2 := hv (u := u) (x := x)
      rw [if_neg hx] at h2
      unfold valD at h2
      rw [Option.map_eq_none_iff] at h2
      rw [h2] at h1
      cases h1
    unfold putD
    rw [hany]
    show Q (updM M p (.dK (plc Sum.inl u 0 ++ [(.inl x, .int (u.length : Nat))])))
    rw [← plc_snoc]
    exact q
  · rw [plc_len]
    exact q
theorem nks_nums : ∀ l : List Nat, nks (nums l) = l.map fun n : Nat => NestedKey.num (n : Int)
  | [] => by simp [nums, nks]
  | n :: l => by
    have := nks_nums l
    unfold nums at this ⊢
    rw [List.map_cons, List.map_cons, nks, this]
    simp [nk]
theorem nk_inj {a b : List Nat} (h : nk (natT a) = nk (natT b)) : a = b := by
  unfold natT at h
  simp only [nk] at h
  injection h with h
  rw [nks_nums, nks_nums] at h
  exact List.map_inj_right (fun x y e => by injection e with e; exact Int.ofNat.inj e) |>.mp h
theorem key_natT (l : List Nat) : keyD (natT l) = true := by
  have h1 : ∀ l : List Nat, kOks (nums l) = true := fun l => by
    induction l with
    | nil => simp [nums, kOks]
    | cons n l ih =>
      unfold nums at ih ⊢
      rw [List.map_cons, kOks, ih]
      simp [kOk]
  have h3 : ∀ l : List Nat, NestedKey.depthAll (l.map fun n : Nat => NestedKey.num (n : Int)) = 0 := fun l => by
    induction l with
    | nil => simp [NestedKey.depthAll]
    | cons n l ih => simp only [List.map_cons, NestedKey.depthAll, NestedKey.depth, ih]; omega
  have h2 : (nk (natT l)).depth ≤ 8 := by
    unfold natT
    simp only [nk, NestedKey.depth, nks_nums, h3]
    omega
  show (kOk (.tup (nums l)) && decide ((nk (natT l)).depth ≤ 8)) = true
  rw [decide_eq_true h2, Bool.and_true, kOk]
  exact h1 l
theorem numK_of {α : Type} [DecidableEq α] {enc : α → D} (inj : ∀ {a b : α}, nk (enc a) = nk (enc b) → a = b) (key : ∀ a, keyD (enc a) = true) : NumK enc fun u : List α => MO.dT (plc enc u 0) := by
  have hv : ∀ {u : List α} {x : α}, valT (plc enc u 0) (enc x) = if x ∈ u then some (D.int ((u.idxOf x : Nat) : Int)) else none := fun {u x} => by
    unfold valT
    rw [find_plc (x := x) (fun y v => by
      by_cases h : y = x
      · subst h; simp
      · rw [decide_eq_false h]; exact decide_eq_false fun z => h (inj z))]
    rw [Nat.zero_add]
  refine ⟨fun q => .inr fun p np => q p np, fun {M p u x neg Q} hm q => .inr ⟨p, _, rfl, hm, key x, ?_⟩, fun {M p u x Q} hm hx q => .inr ⟨p, _, _, rfl, hm, key x, ?_, q⟩, fun {M p u x Q} hm hx hl q => .inr ⟨p, _, rfl, hm, key x, szLt (by rw [plc_len]; omega), ?_⟩, fun {M p u Q} hm hl q => .inr ⟨p, _, rfl, hm, by rw [plc_len]; omega, ?_⟩⟩
  · rw [hv, show (if x ∈ u then some (D.int ((u.idxOf x : Nat) : Int)) else none).isSome = decide (x ∈ u) by split <;> simp_all]
    exact q
  · rw [hv, if_pos hx]
  · unfold storT
    rw [hv, if_neg hx]
    show Q (updM M p (.dT (plc enc u 0 ++ [(enc x, .int (u.length : Nat))])))
    rw [← plc_snoc]
    exact q
  · rw [plc_len]
    exact q
theorem nums_snoc {l : List Nat} {n : Nat} : nums l ++ [D.int (n : Int)] = nums (l ++ [n]) := by unfold nums; simp
theorem numbered_walk {α : Type} [DecidableEq α] {enc : α → D} {mo : List α → MO} (K : NumK enc mo) {x : D} {xs : List α} {M : MH} {Q : Q3} {E : Value → Option Addr → MH → Prop} (h : Seq3 M (xs.map enc) x) (hl : xs.length ≤ 1000) (q : ∀ p, M p = none → Q (.ref p) (updM M p (.lst (nums (num xs))))) :
    t_numbered G (rtX E) (rtD Q) (startE N_numbered [x]) M := by
  refine K.new fun p1 n1 => ⟨szLe (by show 0 ≤ 1000000; decide), fun p2 n2 => ?_⟩
  have n2' : M p2 = none := ((Sub.refl M).new n1).free n2
  have n12 : p1 ≠ p2 := fun e => by subst e; rw [updM_same] at n2; cases n2
  have s2 : Sub M (updM (updM M p1 (mo [])) p2 (.lst [])) := ((Sub.refl M).new n1).new n2'
  suffices main : ∀ keep : MH → Prop, (∀ M', Sub M M' → keep M') → Loop (xs.map enc) keep (g3Name 3) bodyNum (rtX E) { nx := fun env' M' => s3Ret (e3Var 2) (rtX E) (rtD Q) env' M', rt := (rtD Q).rt, bk := (rtD Q).bk, ct := (rtD Q).ct } [some x, some (.ref p1), some (.ref p2), none] (updM (updM M p1 (mo [])) p2 (.lst [])) by
    rcases seq_cases h with rfl | ⟨l, rfl, h⟩
    · exact main _ fun _ _ => trivial
    · exact ⟨_, lstM_sub s2 h, main _ fun M' s => lstM_sub s h⟩
  intro keep hk
  refine ⟨fun k env' M' => ∃ s3, env' = [some x, some (.ref p1), some (.ref p2), s3] ∧ Sub M M' ∧ M' p1 = some (mo (uniq (xs.take k))) ∧ M' p2 = some (.lst (nums (num (xs.take k)))), ⟨none, rfl, s2, (updM_ne n12).trans updM_same, updM_same⟩, ?_, ?_⟩
  · rintro k d env' M' hd ⟨s3, rfl, sub, h1, h2⟩
    obtain ⟨hk', hd'⟩ := List.getElem?_eq_some_iff.mp hd
    rw [List.length_map] at hk'
    rw [List.getElem_map] at hd'
    subst hd'
    have ht : xs.take (k + 1) = xs.take k ++ [xs[k]] := by rw [List.take_add_one, List.getElem?_eq_getElem hk']; rfl
    generalize xs[k] = y at ht
    have hpre : (xs.take k).length ≤ 1000 := by rw [List.length_take]; omega
    generalize xs.take k = pre at *
    have hpl : (uniq pre).length ≤ 1000 := Nat.le_trans (kn_le_len pre) hpre
    have hnl : (nums (num pre)).length < sizeLine := szLt (by
      unfold nums
      rw [List.length_map, num_len]
      omega)
    refine ⟨hk M' sub, K.in_ h1 ?_⟩
    by_cases hy : y ∈ uniq pre
    · have ha : add1 (uniq pre) y = uniq pre := if_pos hy
      refine Br.no (by simp [hy]) ⟨⟨_, .inl h2⟩, K.ix h1 hy ⟨_, h2, hnl, some (enc y), rfl, sub.new n2', ?_, ?_⟩⟩
      · rw [ht, uniq_snoc, ha]
        exact (updM_ne n12).trans h1
      · rw [ht, num_snoc, ha, ← nums_snoc]
        exact updM_same
    · have ha : add1 (uniq pre) y = uniq pre ++ [y] := if_neg hy
      refine Br.yes (by simp [hy]) (K.len h1 hpl (K.set h1 hy hpl ?_))
      have e1 : updM M' p1 (mo (uniq pre ++ [y])) p1 = some (mo (uniq pre ++ [y])) := updM_same
      have e2 : updM M' p1 (mo (uniq pre ++ [y])) p2 = some (.lst (nums (num pre))) := (updM_ne (Ne.symm n12)).trans h2
      have e3 : Sub M (updM M' p1 (mo (uniq pre ++ [y]))) := sub.new n1
      generalize updM M' p1 (mo (uniq pre ++ [y])) = M2 at e1 e2 e3
      refine ⟨⟨_, .inl e2⟩, K.ix e1 (by simp) ⟨_, e2, hnl, some (enc y), rfl, e3.new n2', ?_, ?_⟩⟩
      · rw [ht, uniq_snoc, ha]
        exact (updM_ne n12).trans e1
      · rw [ht, num_snoc, ha, ← nums_snoc]
        exact updM_same
  · rintro env' M' ⟨s3, rfl, sub, h1, h2⟩
    rw [List.length_map, List.take_length] at h2
    exact ⟨hk M' sub, _, sub.put h2, q p2 n2'⟩
theorem rd_numbered (T : Txt G mg) : Rd3 N_numbered (t_numbered G) (sp_numbered G) := by
  rintro ds M Q E ⟨x, es, rfl, h, hl, ⟨xs, rfl, q⟩ | ⟨xs, rfl, q⟩⟩
  · exact numbered_walk numK_int h (by simpa using hl) q
  · exact numbered_walk (numK_of nk_inj key_natT) h (by simpa using hl) q
/-! ### finer, kinds -/
theorem nums_len {l : List Nat} : (nums l).length = l.length := List.length_map _
theorem nums_get {l : List Nat} {i : Nat} {d : D} (h : (nums l)[i]? = some d) : i < l.length ∧ d = .int (l.getD i 0 : Nat) := by
  unfold nums at h
  rw [List.getElem?_map] at h
  obtain ⟨n, hn, rfl⟩ := Option.map_eq_some_iff.mp h
  obtain ⟨h1, h2⟩ := List.getElem?_eq_some_iff.mp hn
  exact ⟨h1, by rw [getD_el h1, h2]⟩
theorem nums_at {l : List Nat} {i : Nat} (h : i < l.length) : atI (nums l) (i : Int) = some (.int (l.getD i 0 : Nat)) := by
  refine atI_nat ?_
  unfold nums
  rw [List.getElem?_map, List.getElem?_eq_getElem h, getD_el h]
  rfl
theorem backNs_at {N : Net} {b : Bool} {i k : Nat} (h : i < N.many) : atI (backNs N b k) (i : Int) = some (.int (behN N b i k : Nat)) := atI_nat (range_at h)
theorem ix_seq {M : MH} {es : List D} {x d : D} {i : Int} {Q : Q3} (h : Seq3 M es x) (hd : atI es i = some d) (q : Q d M) : r3Ix x (.int i) M Q := by
  rcases seq_cases h with rfl | ⟨l, rfl, h⟩
  · exact ⟨d, hd, q⟩
  · exact ⟨es, d, h, hd, q⟩
def bodyFin : S3 := (s3Expr (e3Bm m3App (e3Var 3) (a3Cons (e3Op r3Add (e3Tup (a3Cons (e3Var 5) a3Nil)) (e3TupOf (e3Lc (i3Seq (e3Var 2)) 6 t3Yes (e3Op r3Ix (e3Var 1) (e3Op r3Ix (e3Var 6) (e3Var 4))) [6]))) a3Nil)))
theorem rd_finer (T : Txt G mg) : Rd3 N_finer (t_finer G) (sp_finer G) := by
  rintro ds M Q E ⟨N, c, b, s, pw, pb, x, rs, rfl, g, hs, hw, hb, hx, hrs, hrow, q⟩
  have m2 := g.m2
  have c4 := g.c4
  refine ⟨szLe (by show 0 ≤ 1000000; decide), fun p3 n3 => ⟨nums (s b), lstM_sub ((Sub.refl M).new n3) hw, ?_⟩⟩
  refine ⟨fun k env' M' => ∃ s4 s5 s6, env' = [some (.ref pw), some (.ref pb), some x, some (.ref p3), s4, s5, s6] ∧ Sub M M' ∧ M' p3 = some (.lst ((List.range k).map fun i => natT (mkOf N s b i))), ⟨none, none, none, rfl, (Sub.refl M).new n3, updM_same⟩, ?_, ?_⟩
  · rintro k d env' M' hd ⟨s4, s5, s6, rfl, sub, h3⟩
    obtain ⟨y, hy, rfl⟩ := enumD_get hd
    obtain ⟨hk, rfl⟩ := nums_get hy
    rw [hs b] at hk
    rw [Nat.zero_add]
    refine ⟨lstM_sub sub hw, rfl, rfl, ⟨_, .inl h3⟩, szLe (by show 1 ≤ 1000000; decide), ?_⟩
    have comp : ∀ (a : Addr) (keep : MH → Prop) (R : MH → Prop), M' a = none → (∀ M2, Sub M' M2 → keep M2) → (∀ M2, Sub M' M2 → M2 a = some (.lst (nums ((List.range N.links.length).map fun j => (s (!b)).getD (behN N b k j) 0))) → R M2) →
        LoopC rs keep 6 t3Yes (e3Op r3Ix (e3Var 1) (e3Op r3Ix (e3Var 6) (e3Var 4))) [some (.ref pw), some (.ref pb), some x, some (.ref p3), some (.int (k : Nat)), some (.int ((s b).getD k 0 : Nat)), none] a M' R := fun a keep R na hk' hR => by
      refine lcIdx (fun j : Nat => .int ((s (!b)).getD (behN N b k j) 0 : Nat)) na hk' (fun j r M2 R hr s2 k2 => ?_) (szLt (by omega)) fun M2 s2 h2 => ?_
      · have hj : j < c := by rw [← hrs]; exact (List.getElem?_eq_some_iff.mp hr).1
        have hbh := (beh_nat g (b := b) hk hj).2
        refine ix_seq (seq_sub (sub.trans s2) (hrow j r hr)) (backNs_at hk) ?_
        exact ⟨_, _, lstM_sub (sub.trans s2) hb, nums_at (by rw [hs]; exact hbh), k2 M2 (Sub.refl _)⟩
      · refine hR M2 s2 ?_
        rw [h2, hrs, g.l]
        unfold nums
        rw [List.map_map]
        rfl
    have fin : ∀ M2 : MH, Sub M' M2 → ∀ a, M2 a = some (.lst (nums ((List.range N.links.length).map fun j => (s (!b)).getD (behN N b k j) 0))) →
        k3Tup (.ref a) M2 (fun d M3 => r3Add (.tup [.int ((s b).getD k 0 : Nat)]) d M3 fun d M4 => m3App p3 [d] M4 fun _ M5 => ∃ u4 u5 u6, [some (.ref pw), some (.ref pb), some x, some (.ref p3), some (.int (k : Nat)), some (.int ((s b).getD k 0 : Nat)), s6] = [some (.ref pw), some (.ref pb), some x, some (.ref p3), u4, u5, u6] ∧ Sub M M5 ∧ M5 p3 = some (.lst ((List.range (k + 1)).map fun i => natT (mkOf N s b i)))) := fun M2 s2 a h2 => by
      refine ⟨_, .inl h2, szLe ?_, _, s2 _ _ h3, szLt (by rw [List.length_map, List.length_range]; omega), _, _, _, rfl, (sub.trans s2).new n3, ?_⟩
      · have := g.l
        simp [nums]
        omega
      · rw [updM_same, List.range_succ, List.map_append]
        rfl
    rcases seq_cases hx with rfl | ⟨l, rfl, hl⟩
    · exact fun a na => comp a _ _ na (fun _ _ => trivial) fun M2 s2 h2 => fin M2 s2 a h2
    · exact ⟨_, lstM_sub sub hl, fun a na => comp a _ _ na (fun M2 s2 => lstM_sub (sub.trans s2) hl) fun M2 s2 h2 => fin M2 s2 a h2⟩
  · rintro env' M' ⟨s4, s5, s6, rfl, sub, h3⟩
    rw [enumD_length, nums_len, hs b] at h3
    refine ⟨lstM_sub sub hw, .ref p3, (List.range N.many).map (fun i => natT (mkOf N s b i)), rfl, .inl h3, by simp; omega, .inr ⟨(List.range N.many).map (mkOf N s b), by rw [List.map_map]; rfl, fun p np => ?_⟩⟩
    exact ⟨_, sub_upd sub np, q p (sub.free np)⟩
theorem nums_ints (l : List Nat) : nums l = (l.map fun n : Nat => (n : Int)).map D.int := by unfold nums; rw [List.map_map]; rfl
theorem max_is {l : List Nat} (hn : num l = l) (hl : l ≠ []) : 0 < (l.map fun n : Nat => (n : Int)).length ∧ ∀ m : Int, m ∈ (l.map fun n : Nat => (n : Int)) → (∀ y ∈ (l.map fun n : Nat => (n : Int)), y ≤ m) → m = (kn l : Int) - 1 := by
  refine ⟨by rw [List.length_map]; exact List.length_pos_iff.mpr hl, fun m hm hmax => ?_⟩
  obtain ⟨k, hk, rfl⟩ := List.mem_map.mp hm
  have := num_max (xs := l) (m := k) (by rw [hn]; exact hk) fun y hy => by
    rw [hn] at hy
    have := hmax y (List.mem_map.mpr ⟨y, hy, rfl⟩)
    omega
  omega
def mxN (N : Net) (t : Nat) : Int := ((kn (stN N t true) : Int) - 1) + ((kn (stN N t false) : Int) - 1)
theorem row_back {N : Net} {c : Nat} (g : Good N c) {k : Nat} (hk : k < c) : (N.links.getD k []).map D.int = backNs N true k := by
  obtain ⟨_, o, _⟩ := g.link hk
  unfold backNs
  refine List.ext_getElem (by rw [List.length_map, o.len]; simp) fun i h1 h2 => ?_
  have hi : i < N.many := by simpa using h2
  have hl : i < (N.links.getD k []).length := by rw [o.len]; exact hi
  rw [List.getElem_map, List.getElem_map, List.getElem_range, ← (beh_nat g (b := true) hi hk).1]
  show D.int _ = D.int ((N.links.getD k []).getD (i : Int).toNat 0)
  rw [Int.toNat_natCast, getD_el hl]
theorem back_back {N : Net} {c : Nat} (g : Good N c) {k : Nat} (hk : k < c) : backL N k = backNs N false k := by
  unfold backNs backL
  refine List.map_congr_left fun i hi => ?_
  rw [(beh_nat g (b := false) (List.mem_range.mp hi) hk).1]
theorem rd_kinds (T : Txt G mg) : Rd3 N_kinds (t_kinds G) (sp_kinds G) := by
  rintro ds M Q E ⟨d, rfl, hv, w5, bad, good⟩
  refine ⟨d, rfl, hv, w5, fun ok => ?_, fun no => ⟨M, Sub.refl _, bad no⟩⟩
  obtain ⟨N, c, rfl, gd, q⟩ := good ok
  have g := gd.g
  have m1 := g.m1
  have m2 := g.m2
  refine ⟨N, c, rfl, gd, fun p qs M1 s1 hp hl hq => ?_⟩
  refine ⟨_, rfl, rowD N.wh, N.wh.map D.int, rfl, rfl, by rw [List.length_map, g.w]; omega, .inl ⟨N.wh, rfl, fun pw nw => ?_⟩⟩
  refine ⟨_, rfl, rowD N.bl, N.bl.map D.int, rfl, rfl, by rw [List.length_map, g.b]; omega, .inl ⟨N.bl, rfl, fun pb nb => ?_⟩⟩
  have hwb : pw ≠ pb := fun e => by subst e; rw [updM_same] at nb; cases nb
  have nb' : M1 pb = none := ((Sub.refl M1).new nw).free nb
  have s2 : Sub M1 (updM (updM M1 pw (.lst (nums (num N.wh)))) pb (.lst (nums (num N.bl)))) := ((Sub.refl M1).new nw).new nb'
  have hw0 : updM (updM M1 pw (.lst (nums (num N.wh)))) pb (.lst (nums (num N.bl))) pw = some (.lst (nums (stN N 0 true))) := (updM_ne hwb).trans updM_same
  have hb0 : updM (updM M1 pw (.lst (nums (num N.wh)))) pb (.lst (nums (num N.bl))) pb = some (.lst (nums (stN N 0 false))) := updM_same
  generalize updM (updM M1 pw (.lst (nums (num N.wh)))) pb (.lst (nums (num N.bl))) = M2 at s2 hw0 hb0
  have ne : ∀ (t : Nat) (b : Bool), stN N t b ≠ [] := fun t b e => by
    have := st_len g t b
    rw [e] at this
    simp at this
    omega
  have mx0 : ∀ t, 0 ≤ mxN N t ∧ mxN N t ≤ 2 * (N.many : Int) := fun t => by
    have h1 := kn_le g t true
    have h2 := kn_le g t false
    unfold mxN
    omega
  refine ⟨fun n env' M' => ∃ (t : Nat) (m : Int) (pw pb : Addr), env' = [some (netD N), some (.ref p), some (.int m), some (.ref pw), some (.ref pb)] ∧ Sub M1 M' ∧ M' pw = some (.lst (nums (stN N t true))) ∧ M' pb = some (.lst (nums (stN N t false))) ∧ ((t = 0 ∧ m = -1) ∨ ∃ t', t = t' + 1 ∧ m = mxN N t') ∧ n = (2 * (N.many : Int) - m).toNat,
    ⟨_, 0, -1, pw, pb, rfl, s2, hw0, hb0, .inl ⟨rfl, rfl⟩, rfl⟩, ?_⟩
  rintro n env' M' ⟨t, m, pw, pb, rfl, sub, hw, hb, ht, rfl⟩
  obtain ⟨xw1, xw2⟩ := max_is (st_num (N := N) t true) (ne t true)
  obtain ⟨xb1, xb2⟩ := max_is (st_num (N := N) t false) (ne t false)
  have hwi : LstM M' pw ((((stN N t true)).map fun n : Nat => (n : Int)).map D.int) := by rw [← nums_ints]; exact .inl hw
  have hbi : LstM M' pb ((((stN N t false)).map fun n : Nat => (n : Int)).map D.int) := by rw [← nums_ints]; exact .inl hb
  refine ⟨_, hwi, xw1, fun a h1 h2 => ?_⟩
  obtain rfl := xw2 a h1 h2
  refine ⟨_, hbi, xb1, fun a h1 h2 => ?_⟩
  obtain rfl := xb2 a h1 h2
  refine ⟨fun lt => ?_, fun ge => ?_⟩
  · have lt : m < mxN N t := of_decide_eq_true lt
    refine ⟨_, hwi, xw1, fun a h1 h2 => ?_⟩
    obtain rfl := xw2 a h1 h2
    refine ⟨_, hbi, xb1, fun a h1 h2 => ?_⟩
    obtain rfl := xb2 a h1 h2
    refine ⟨_, rfl, N, c, true, stN N t, pw, pb, .tup (N.links.map rowD), N.links.map rowD, rfl, g, st_len g t, .inl hw, .inl hb, rfl, by rw [List.length_map, g.l], fun k r hr => ?_, fun pw2 nw2 => ?_⟩
    · have hk : k < c := by
        have := (List.getElem?_eq_some_iff.mp hr).1
        rw [List.length_map, g.l] at this
        exact this
      rw [(g.link hk).2.2] at hr
      cases hr
      exact row_back g hk
    have sw := (Sub.refl M').new (o := .lst (nums (finS N (stN N t) true))) nw2
    refine ⟨N, c, false, stN N t, pb, pw, .ref p, qs.map D.ref, rfl, g, st_len g t, .inl (sw _ _ hb), .inl (sw _ _ hw), .inl (sw _ _ (sub _ _ hp)), by rw [List.length_map, hl], fun k r hr => ?_, fun pb2 nb2 => ?_⟩
    · rw [List.getElem?_map] at hr
      obtain ⟨q', hq', rfl⟩ := Option.map_eq_some_iff.mp hr
      have hk : k < c := by rw [← hl]; exact (List.getElem?_eq_some_iff.mp hq').1
      have := hq k q' hq'
      rw [back_back g hk] at this
      exact .inl (sw _ _ (sub _ _ this))
    have hne : pw2 ≠ pb2 := fun e => by subst e; rw [updM_same] at nb2; cases nb2
    have := mx0 t
    refine ⟨_, ?_, t + 1, mxN N t, pw2, pb2, rfl, ?_, (updM_ne hne).trans updM_same, updM_same, .inr ⟨t, rfl, rfl⟩, rfl⟩
    · omega
    · exact (sub.trans sw).trans ((Sub.refl _).new nb2)
  · have ge : ¬ m < mxN N t := of_decide_eq_false ge
    obtain ⟨t', rfl, rfl⟩ : ∃ t', t = t' + 1 ∧ m = mxN N t' := by
      rcases ht with ⟨rfl, rfl⟩ | h
      · have := mx0 0
        omega
      · exact h
    have h1 : stN N (t' + 1) = stN N t' := st_same g (by unfold mxN at ge; omega)
    have h2 : stN N (t' + 1) = kdN N := h1.trans (st_end g h1)
    rw [h2] at hw hb
    exact ⟨_, .inl hw, _, .inl hb, szLe (by show 2 ≤ 1000000; decide), M, s1.trans sub, q⟩
theorem idx_int (l : List Nat) (k : Nat) : (l.map fun n : Nat => (n : Int)).idxOf (k : Int) = l.idxOf k := by
  induction l with
  | nil => rfl
  | cons a l ih =>
    rw [List.map_cons, List.idxOf_cons, List.idxOf_cons, ih]
    by_cases h : a = k
    · subst h
      simp
    · have h1 : ((a : Int) == (k : Int)) = false := beq_false_of_ne fun z => h (Int.ofNat.inj z)
      have h2 : (a == k) = false := by simpa using h
      rw [h1, h2]
theorem tix_of {l : List Nat} {k : Nat} {M : MH} {Q : Q3} (h : k ∈ l) (q : Q (.int (l.idxOf k : Nat)) M) : m3Tix (nums l) [.int (k : Nat)] M Q := by
  refine ⟨l.map fun n : Nat => (n : Int), by unfold nums; rw [List.map_map]; rfl, List.mem_map.mpr ⟨k, h, rfl⟩, ?_⟩
  rw [idx_int]
  exact q
theorem rd_first_of (T : Txt G mg) : Rd3 N_first_of (t_first_of G) (sp_first_of G) := by
  rintro ds M Q E ⟨N, c, b, rfl, gd, q⟩
  have g := gd.g
  have c1 : 1 ≤ c := by have := gd.c2; omega
  have m2 := g.m2
  obtain ⟨k1, k2⟩ := baseK_le g
  obtain ⟨x1, x2⟩ := max_is (kd_num (N := N) b) fun e => by
    have := kd_len g b
    rw [e] at this
    simp at this
    omega
  refine ⟨_, nums_ints _, x1, fun m h1 h2 => ?_⟩
  obtain rfl := x2 m h1 h2
  rw [kn_both g c1]
  conv => whnf
  rw [show (baseK N : Int) - 1 + 1 = (baseK N : Int) by omega]
  refine ⟨by omega, by omega, fun p np => lcIdx (fun k : Nat => .int (firN N b k : Nat)) np (fun _ _ => trivial) (fun k d M' R hd s k2 => ?_) (szLt (by rw [rngD_length, Int.toNat_natCast]; omega)) fun M1 s1 h1 => ?_⟩
  · obtain ⟨hk, rfl⟩ := rng_nat hd
    refine tix_of (M := M') (Q := R) ?_ (k2 M' (Sub.refl _))
    rw [← kd_num, num_lt, kn_both g c1]
    exact hk
  · rw [rngD_length, Int.toNat_natCast] at h1
    refine ⟨_, s1.put h1, ?_⟩
    have := q p np
    unfold nums at this
    rw [List.map_map] at this
    exact this
theorem rd_base_of (T : Txt G mg) : Rd3 N_base_of (t_base_of G) (sp_base_of G) := by
  rintro ds M Q E ⟨d, rfl, hv, w5, bad, good⟩
  refine ⟨d, rfl, hv, w5, fun no => ⟨M, Sub.refl _, bad no⟩, fun ok => ?_⟩
  obtain ⟨N, c, rfl, gd, q⟩ := good ok
  have g := gd.g
  have c1 : 1 ≤ c := by have := gd.c2; omega
  have m2 := g.m2
  have c4 := g.c4
  obtain ⟨k1, k2⟩ := baseK_le g
  refine ⟨N, c, rfl, gd, rfl, rfl, N, c, true, rfl, gd, fun pw nw => ?_⟩
  refine ⟨N, c, false, rfl, gd, fun pb nb => ?_⟩
  have hwb : pw ≠ pb := fun e => by subst e; rw [updM_same] at nb; cases nb
  have nb' : M pb = none := ((Sub.refl M).new nw).free nb
  refine ⟨szLe (by show 2 ≤ 1000000; decide), rfl, rfl, ?_⟩
  have s2 : Sub M (updM (updM M pw (.lst (nums ((List.range (baseK N)).map (firN N true))))) pb (.lst (nums ((List.range (baseK N)).map (firN N false))))) := ((Sub.refl M).new nw).new nb'
  have hw0 : updM (updM M pw (.lst (nums ((List.range (baseK N)).map (firN N true))))) pb (.lst (nums ((List.range (baseK N)).map (firN N false)))) pw = some (.lst (nums ((List.range (baseK N)).map (firN N true)))) := (updM_ne hwb).trans updM_same
  have hb0 : updM (updM M pw (.lst (nums ((List.range (baseK N)).map (firN N true))))) pb (.lst (nums ((List.range (baseK N)).map (firN N false)))) pb = some (.lst (nums ((List.range (baseK N)).map (firN N false)))) := updM_same
  generalize updM (updM M pw (.lst (nums ((List.range (baseK N)).map (firN N true))))) pb (.lst (nums ((List.range (baseK N)).map (firN N false)))) = M2 at s2 hw0 hb0
  have lk : ∀ b, ((nums ((List.range (baseK N)).map (firN N b)))).length = baseK N := fun b => by rw [nums_len]; simp
  have gt : ∀ {b : Bool} {k : Nat} {d : D}, (nums ((List.range (baseK N)).map (firN N b)))[k]? = some d → k < baseK N ∧ d = .int (firN N b k : Nat) := fun {b k d} h => by
    obtain ⟨h1, h2⟩ := nums_get h
    have h1 : k < baseK N := by simpa using h1
    rw [getD_rng h1] at h2
    exact ⟨h1, h2⟩
  refine ⟨_, rfl, fun a na => ?_⟩
  refine lcIdx (fun j : Nat => rowD ((List.range (baseK N)).map fun k => ((kdN N false).getD (behN N true (firN N true k) j) 0 : Int))) na (fun _ _ => trivial) (fun j r M3 R hr s3 kR => ?_) (szLt (by rw [List.length_map, g.l]; omega)) fun M4 s4 h4 => ?_
  · have hj : j < c := by
      have := (List.getElem?_eq_some_iff.mp hr).1
      rw [List.length_map, g.l] at this
      exact this
    obtain ⟨_, o, hat⟩ := g.link hj
    rw [hat] at hr
    cases hr
    refine ⟨_, .inl (s3 _ _ hw0), fun a2 na2 => ?_⟩
    refine lcIdx (fun k : Nat => .int ((kdN N false).getD (behN N true (firN N true k) j) 0 : Nat)) na2 (fun M5 s5 => .inl (s5 _ _ (s3 _ _ hw0))) (fun k d M5 R5 hd s5 k5 => ?_) (szLt (by rw [lk]; omega)) fun M5 s5 h5 => ?_
    · obtain ⟨hk, rfl⟩ := gt hd
      have hf := (fir_lt g c1 (b := true) hk).1
      have hbh := (beh_nat g (b := true) hf hj).2
      have e1 := backNs_at (N := N) (b := true) (k := j) hf
      rw [← row_back g hj] at e1
      exact ⟨_, e1, _, nums_at (by rw [kd_len g]; exact hbh), k5 M5 (Sub.refl _)⟩
    · rw [lk] at h5
      refine ⟨_, .inl h5, ?_⟩
      have := kR M5 s5
      unfold rowD at this
      rw [List.map_map] at this
      exact this
  rw [List.length_map] at h4
  refine ⟨_, .inl h4, ?_⟩
  have side : ∀ (b : Bool) (pp a : Addr) (M5 : MH) (R : MH → Prop), M5 pp = some (.lst (nums ((List.range (baseK N)).map (firN N b)))) → M5 a = none →
      (∀ M6, Sub M5 M6 → M6 a = some (.lst (((List.range (baseK N)).map fun k => (inpS N b).getD (firN N b k) 0).map D.int)) → R M6) → ∀ (te : E3) (env : En), (∀ (k : Nat) (M6 : MH) (R6 : Q3), k < baseK N → Sub M5 M6 → R6 (.int ((inpS N b).getD (firN N b k) 0)) M6 → te W0 (env.set 8 (some (.int (firN N b k : Nat)))) M6 R6) →
      LoopC (nums ((List.range (baseK N)).map (firN N b))) (fun M' => LstM M' pp (nums ((List.range (baseK N)).map (firN N b)))) 8 t3Yes te env a M5 R := fun b pp a M5 R hp na hR te env hte => by
    refine lcIdx (fun k : Nat => .int ((inpS N b).getD (firN N b k) 0)) na (fun M6 s6 => .inl (s6 _ _ hp)) (fun k d M6 R6 hd s6 k6 => ?_) (szLt (by rw [lk]; omega)) fun M6 s6 h6 => ?_
    · obtain ⟨hk, rfl⟩ := gt hd
      exact hte k M6 R6 hk s6 (k6 M6 (Sub.refl _))
    · rw [lk] at h6
      refine hR M6 s6 ?_
      rw [List.map_map]
      exact h6
  refine ⟨_, .inl (s4 _ _ hw0), fun a5 na5 => side true pw a5 M4 _ (s4 _ _ hw0) na5 (fun M5 s5 h5 => ?_) _ _ (fun k M6 R6 hk s6 k6 => ?_)⟩
  rotate_left
  · have hf := (fir_lt g c1 (b := true) hk).1
    exact ⟨_, rfl, _, at_getD (l := N.wh) (by rw [g.w]; exact hf), k6⟩
  refine ⟨_, .inl h5, _, .inl (s5 _ _ (s4 _ _ hb0)), fun a6 na6 => side false pb a6 M5 _ (s5 _ _ (s4 _ _ hb0)) na6 (fun M6 s6 h6 => ?_) _ _ (fun k M6 R6 hk s6 k6 => ?_)⟩
  rotate_left
  · have hf := (fir_lt g c1 (b := false) hk).1
    exact ⟨_, rfl, _, at_getD (l := N.bl) (by rw [g.b]; exact hf), k6⟩
  have s26 : Sub M2 M6 := (s4.trans s5).trans s6
  refine ⟨_, .inl h6, szLe (by show 2 ≤ 1000000; decide), ?_⟩
  refine ⟨_, .inl (s26 _ _ hw0), ?_⟩
  rw [lk]
  refine ⟨_, rfl, _, rfl, szLe (by show 5 ≤ 1000000; decide), M, s2.trans s26, ?_⟩
  unfold netD baseN at q
  dsimp only at q
  rw [List.map_map] at q
  exact q
/-! ### the law's counting -/
structure DataK {α : Type} [DecidableEq α] (enc : α → D) (pd : α → PyData) : Prop where
  py : ∀ {M : MH} (x : α), Py M (enc x) (pd x)
  sh : ∀ x, SeqAt.shaped (pd x) = true
  shl : ∀ xs : List α, SeqAt.shaped (.list (xs.map pd)) = true
  sht : ∀ xs : List α, SeqAt.shaped (.tuple (xs.map pd)) = true
  eqv : ∀ x y, PyData.eqv (pd x) (pd y) = decide (x = y)
section
variable {α : Type} [DecidableEq α] {enc : α → D} {pd : α → PyData}
theorem DataK.pys (K : DataK enc pd) {M : MH} : ∀ xs : List α, Pys M (xs.map enc) (xs.map pd)
  | [] => .nil
  | x :: xs => .cons (K.py x) (K.pys xs)
theorem DataK.any (K : DataK enc pd) (x : α) : ∀ xs : List α, ((xs.map pd).any fun z => PyData.eqv z (pd x)) = decide (x ∈ xs)
  | [] => by simp
  | y :: xs => by
    rw [List.map_cons, List.any_cons, K.eqv, K.any x xs]
    by_cases h : y = x
    · subst h; simp
    · have h' : ¬ x = y := fun z => h z.symm
      simp [h, h']
theorem DataK.in_ (K : DataK enc pd) {neg : Bool} {M : MH} {Q : Q3} {e : D} {x : α} {xs : List α} (h : Seq3 M (xs.map enc) e) (q : Q (.bl (neg ^^ decide (x ∈ xs))) M) : r3In neg (enc x) e M Q := by
  unfold r3In
  exact ⟨pd x, xs.map enc, xs.map pd, K.py x, h, K.pys xs, K.sh x, K.shl xs, K.sht xs, by rw [K.any]; exact q⟩
theorem idx_le {y : α} : ∀ {xs : List α} {m : Nat}, xs[m]? = some y → xs.idxOf y ≤ m
  | [], m, h => by simp at h
  | x :: xs, 0, h => by
    simp at h
    subst h
    simp
  | x :: xs, m + 1, h => by
    have := idx_le (xs := xs) (m := m) (by simpa using h)
    rw [List.idxOf_cons]
    cases (x == y) <;> simp <;> omega
theorem DataK.idx (K : DataK enc pd) {M : MH} {Q : Q3} {l : Addr} {x : α} {xs : List α} (h : LstM M l (xs.map enc)) (hx : x ∈ xs) (q : Q (.int (xs.idxOf x : Nat)) M) : m3LixX l [enc x] M Q := by
  have hi := List.idxOf_lt_length_iff.mpr hx
  refine ⟨xs.map enc, xs.map pd, pd x, xs.idxOf x, pd x, h, K.pys xs, K.py x, K.shl xs, K.sh x, ?_, by rw [K.eqv]; simp, fun m z hm hz => ?_, q⟩
  · rw [List.getElem?_map, List.getElem?_eq_getElem hi, List.getElem_idxOf]
    rfl
  · rw [List.getElem?_map] at hz
    obtain ⟨y, hy, rfl⟩ := Option.map_eq_some_iff.mp hz
    rw [K.eqv]
    refine decide_eq_false fun e => ?_
    subst e
    have := idx_le hy
    omega
end
theorem dataK_int : DataK D.int PyData.int := ⟨fun x => .int x, fun x => shaped_of (by simp [PyData.canLay0]) (by simp [PyData.depth]), shaped_ints, shaped_row, fun x y => by
    simp only [PyData.eqv]
    rw [Bool.eq_iff_iff]
    simp⟩
def mkP (p : Nat × List Nat) : PyData := .tuple [.int (p.1 : Int), rowP (p.2.map fun n : Nat => (n : Int))]
theorem lay_mk : ∀ xs : List (Nat × List Nat), PyData.canLayAll0 (xs.map mkP) = true
  | [] => by simp [PyData.canLayAll0]
  | x :: xs => by
    have h1 := lay_ints (x.2.map fun n : Nat => (n : Int))
    have h2 := lay_mk xs
    simp only [List.map_cons, PyData.canLayAll0, mkP, PyData.canLay0, rowP]
    rw [h1]
    rw [h2]
    rfl
theorem depth_mk : ∀ xs : List (Nat × List Nat), PyData.depthAll (xs.map mkP) ≤ 3
  | [] => by simp [PyData.depthAll]
  | x :: xs => by
    have h1 := depth_ints (x.2.map fun n : Nat => (n : Int))
    have h2 := depth_mk xs
    simp only [List.map_cons, PyData.depthAll, mkP, PyData.depth, rowP] at h2 ⊢
    omega
theorem dataK_mk : DataK mkD mkP := by
  refine ⟨fun {M} x => ?_, fun x => ?_, fun xs => ?_, fun xs => ?_, fun x y => ?_⟩
  · unfold mkD mkP
    rw [nums_ints]
    exact .tup (.cons (.int _) (.cons (.tup (pys_ints _)) .nil))
  · have h1 := lay_mk [x]
    have h2 := depth_mk [x]
    simp only [List.map_cons, List.map_nil, PyData.canLayAll0, PyData.depthAll, Bool.and_true] at h1 h2
    exact shaped_of h1 (by omega)
  · exact shaped_of (by simp only [PyData.canLay0]; exact lay_mk xs) (by have := depth_mk xs; simp only [PyData.depth]; omega)
  · exact shaped_of (by simp only [PyData.canLay0]; exact lay_mk xs) (by have := depth_mk xs; simp only [PyData.depth]; omega)
  · unfold mkP
    simp only [PyData.eqv, PyData.eqvAll, eqv_row, Bool.and_true]
    obtain ⟨x1, x2⟩ := x
    obtain ⟨y1, y2⟩ := y
    have e : (x2.map (fun n : Nat => (n : Int)) = y2.map fun n : Nat => (n : Int)) ↔ x2 = y2 := List.map_inj_right fun a b h => Int.ofNat.inj h
    have e2 : ((x1 : Int) = (y1 : Int)) ↔ x1 = y1 := ⟨Int.ofNat.inj, fun h => by rw [h]⟩
    rw [Bool.eq_iff_iff]
    simp [e, e2]
theorem counted_walk {α : Type} [DecidableEq α] {enc : α → D} {pd : α → PyData} (K : DataK enc pd) {p : Addr} {xs : List α} {M : MH} {Q : Q3} {E : Value → Option Addr → MH → Prop} (h : LstM M p (xs.map enc)) (hl : xs.length ≤ 1000) (q : ∀ q, M q = none → Q (.ref q) (updM M q (.lst (nums (num xs))))) :
    t_law_counted G (rtX E) (rtD Q) (startE N_law_counted [.ref p]) M := by
  refine ⟨szLe (by show 0 ≤ 1000000; decide), fun p1 n1 => ⟨_, lstM_sub ((Sub.refl M).new n1) h, ?_⟩⟩
  refine ⟨fun k env' M' => ∃ s2, env' = [some (.ref p), some (.ref p1), s2] ∧ Sub M M' ∧ M' p1 = some (.lst ((uniq (xs.take k)).map enc)), ⟨none, rfl, (Sub.refl M).new n1, updM_same⟩, ?_, ?_⟩
  · rintro k d env' M' hd ⟨s2, rfl, sub, h1⟩
    obtain ⟨hk', hd'⟩ := List.getElem?_eq_some_iff.mp hd
    rw [List.length_map] at hk'
    rw [List.getElem_map] at hd'
    subst hd'
    have ht : xs.take (k + 1) = xs.take k ++ [xs[k]] := by rw [List.take_add_one, List.getElem?_eq_getElem hk']; rfl
    generalize xs[k] = y at ht
    have hpre : (xs.take k).length ≤ 1000 := by rw [List.length_take]; omega
    generalize xs.take k = pre at *
    have hpl : (uniq pre).length ≤ 1000 := Nat.le_trans (kn_le_len pre) hpre
    refine ⟨lstM_sub sub h, K.in_ (e := .ref p1) (.inl h1) ?_⟩
    by_cases hy : y ∈ uniq pre
    · refine Br.no (by simp [hy]) ⟨_, rfl, sub, ?_⟩
      rw [ht, uniq_snoc, show add1 (uniq pre) y = uniq pre from if_pos hy]
      exact h1
    · refine Br.yes (by simp [hy]) ⟨⟨_, .inl h1⟩, _, h1, szLt (by rw [List.length_map]; omega), _, rfl, sub.new n1, ?_⟩
      rw [ht, uniq_snoc, show add1 (uniq pre) y = uniq pre ++ [y] from if_neg hy, List.map_append]
      exact updM_same
  · rintro env' M' ⟨s2, rfl, sub, h1⟩
    rw [List.length_map, List.take_length] at h1
    refine ⟨lstM_sub sub h, _, lstM_sub sub h, fun a na => ?_⟩
    refine lcIdx (fun k : Nat => .int ((num xs).getD k 0 : Nat)) na (fun M2 s2 => lstM_sub (sub.trans s2) h) (fun k d M2 R hd s2 k2 => ?_) (szLt (by rw [List.length_map]; omega)) fun M2 s2 h2 => ?_
    · obtain ⟨hk', hd'⟩ := List.getElem?_eq_some_iff.mp hd
      rw [List.length_map] at hk'
      rw [List.getElem_map] at hd'
      subst hd'
      refine ⟨⟨_, .inl (s2 _ _ h1)⟩, K.idx (.inl (s2 _ _ h1)) (mem_uniq.mpr (List.getElem_mem hk')) ?_⟩
      have := k2 M2 (Sub.refl _)
      rw [List.getD_eq_getElem?_getD, num_get (List.getElem?_eq_getElem hk')] at this
      exact this
    · have e : (List.range (xs.map enc).length).map (fun k : Nat => D.int ((num xs).getD k 0 : Nat)) = nums (num xs) := by
        unfold nums
        refine List.ext_getElem (by simp [num_len]) fun i g1 g2 => ?_
        rw [List.getElem_map, List.getElem_map, List.getElem_range, getD_el (by simpa using g2)]
      rw [e] at h2
      exact ⟨_, (sub.trans s2).put h2, q a (sub.free na)⟩
theorem rd_law_counted (T : Txt G mg) : Rd3 N_law_counted (t_law_counted G) (sp_law_counted G) := by
  rintro ds M Q E ⟨p, es, rfl, h, hl, ⟨xs, rfl, q⟩ | ⟨xs, rfl, q⟩⟩
  · exact counted_walk dataK_int h (by simpa using hl) q
  · exact counted_walk dataK_mk h (by simpa using hl) q
theorem fin_pairs {N : Net} {s : Bool → List Nat} {b : Bool} : num ((List.range N.many).map fun i => ((s b).getD i 0, (List.range N.links.length).map fun c => (s (!b)).getD (behN N b i c) 0)) = finS N s b := by
  have e : (List.range N.many).map (mkOf N s b) = ((List.range N.many).map fun i => ((s b).getD i 0, (List.range N.links.length).map fun c => (s (!b)).getD (behN N b i c) 0)).map fun p => p.1 :: p.2 := by
    rw [List.map_map]
    rfl
  unfold finS
  rw [e]
  exact (num_injL fun x _ y _ h => by
    obtain ⟨x1, x2⟩ := x
    obtain ⟨y1, y2⟩ := y
    injection h with h1 h2
    simp only at h1 h2
    rw [h1, h2]).symm
theorem rd_law_kinds (T : Txt G mg) : Rd3 N_law_kinds (t_law_kinds G) (sp_law_kinds G) := by
  rintro ds M Q E ⟨N, c, rfl, gd, m100, q⟩
  have g := gd.g
  have c4 := g.c4
  have m1 := g.m1
  have lc : (N.links.map rowD).length = c := by rw [List.length_map, g.l]
  refine ⟨_, rfl, fun a1 n1 => ⟨a1, N.wh.map D.int, rfl, .inl updM_same, by rw [List.length_map, g.w]; omega, .inl ⟨N.wh, rfl, fun q1 nq1 => ?_⟩⟩⟩
  have s1 : Sub M (updM (updM M a1 (.lst (N.wh.map D.int))) q1 (.lst (nums (num N.wh)))) := ((Sub.refl M).new n1).new (((Sub.refl M).new n1).free nq1)
  have h1 : updM (updM M a1 (.lst (N.wh.map D.int))) q1 (.lst (nums (num N.wh))) q1 = some (.lst (nums (num N.wh))) := updM_same
  generalize updM (updM M a1 (.lst (N.wh.map D.int))) q1 (.lst (nums (num N.wh))) = M1 at s1 h1
  refine ⟨_, rfl, fun a2 n2 => ⟨a2, N.bl.map D.int, rfl, .inl updM_same, by rw [List.length_map, g.b]; omega, .inl ⟨N.bl, rfl, fun q2 nq2 => ?_⟩⟩⟩
  have s2 : Sub M1 (updM (updM M1 a2 (.lst (N.bl.map D.int))) q2 (.lst (nums (num N.bl)))) := ((Sub.refl M1).new n2).new (((Sub.refl M1).new n2).free nq2)
  have h2 : updM (updM M1 a2 (.lst (N.bl.map D.int))) q2 (.lst (nums (num N.bl))) q2 = some (.lst (nums (num N.bl))) := updM_same
  generalize updM (updM M1 a2 (.lst (N.bl.map D.int))) q2 (.lst (nums (num N.bl))) = M2 at s2 h2
  refine ⟨szLe (by show 2 ≤ 1000000; decide), fun ps nps => ⟨_, rfl, ?_⟩⟩
  have s3 : Sub M2 (updM M2 ps (.lst [.ref q1, .ref q2])) := (Sub.refl M2).new nps
  conv => whnf
  refine ⟨.inl ⟨by decide, by decide⟩, ?_⟩
  conv => whnf
  refine ⟨by omega, by omega, ?_⟩
  refine ⟨fun t env' M' => ∃ s2 s3 s4 s5 s6 s7 s8, ∃ ps qw qb : Addr, env' = [some (netD N), some (.ref ps), s2, s3, s4, s5, s6, s7, s8] ∧ Sub M M' ∧ M' ps = some (.lst [.ref qw, .ref qb]) ∧ M' qw = some (.lst (nums (stN N t true))) ∧ M' qb = some (.lst (nums (stN N t false))),
    ⟨none, none, none, none, none, none, none, ps, q1, q2, rfl, (s1.trans s2).trans s3, updM_same, s3 _ _ (s2 _ _ h1), s3 _ _ h2⟩, ?_, ?_⟩
  · clear h1 h2 s1 s2 s3 nps
    rintro t x env' M' hd ⟨s2, s3, s4, s5, s6, s7, s8, ps, qw, qb, rfl, sub, hp, hw, hb⟩
    refine ⟨trivial, szLe (by show 0 ≤ 1000000; decide), fun pf nf => ?_⟩
    have sf : Sub M' (updM M' pf (.lst [])) := (Sub.refl M').new nf
    have hf : updM M' pf (.lst []) pf = some (.lst []) := updM_same
    generalize updM M' pf (.lst []) = M1 at sf hf
    refine ⟨by decide, by decide, ?_⟩
    refine ⟨fun i env2 M2 => ∃ s4 s5 s6 s7 s8, ∃ qs : List Addr, env2 = [some (netD N), some (.ref ps), some x, some (.ref pf), s4, s5, s6, s7, s8] ∧ Sub M' M2 ∧ M2 pf = some (.lst (qs.map D.ref)) ∧ qs.length = i ∧ ∀ (j : Nat) (q : Addr), qs[j]? = some q → q ≠ pf ∧ M2 q = some (.lst (nums (stN N (t + 1) (decide (j = 0))))),
      ⟨s4, s5, s6, s7, s8, [], rfl, sf, hf, rfl, fun j q e => by simp at e⟩, ?_, ?_⟩
    · clear hf sf M1
      rintro i y env2 M2 hd2 ⟨s4, s5, s6, s7, s8, qs, rfl, sub2, hf2, hl2, hqs⟩
      obtain ⟨hi, rfl⟩ := rngD_get hd2
      obtain ⟨b, hb1, hb2, hb3, hb4⟩ : ∃ b : Bool, D.int (0 + (i : Int)) = sideI b ∧ atI [D.ref qw, .ref qb] (0 + (i : Int)) = some (.ref (if b then qw else qb)) ∧ atI [D.ref qw, .ref qb] (1 - (0 + (i : Int))) = some (.ref (if !b then qw else qb)) ∧ decide (i = 0) = b := by
        match i, hi with
        | 0, _ => exact ⟨true, rfl, rfl, rfl, rfl⟩
        | 1, _ => exact ⟨false, rfl, rfl, rfl, rfl⟩
        | i + 2, hi => exact absurd hi (by show ¬ i + 2 < 2; omega)
      have own : ∀ {M3 : MH}, Sub M' M3 → ∀ b : Bool, M3 (if b then qw else qb) = some (.lst (nums (stN N t b))) := fun s b => by
        cases b
        · exact s _ _ hb
        · exact s _ _ hw
      refine ⟨trivial, szLe (by show 0 ≤ 1000000; decide), fun pm nm => ⟨_, rfl, ?_⟩⟩
      have sm : Sub M2 (updM M2 pm (.lst [])) := (Sub.refl M2).new nm
      have hm : updM M2 pm (.lst []) pm = some (.lst []) := updM_same
      generalize updM M2 pm (.lst []) = M3 at sm hm
      refine ⟨by omega, by omega, ?_⟩
      refine ⟨fun k env3 M4 => ∃ s6 s7 s8, env3 = [some (netD N), some (.ref ps), some x, some (.ref pf), some (.int (0 + (i : Int))), some (.ref pm), s6, s7, s8] ∧ Sub M2 M4 ∧ M4 pm = some (.lst ((List.range k).map fun i => mkD ((stN N t b).getD i 0, (List.range N.links.length).map fun c => (stN N t (!b)).getD (behN N b i c) 0))),
        ⟨s6, s7, s8, rfl, sm, hm⟩, ?_, ?_⟩
      · clear hm sm M3
        rintro k z env3 M4 hd3 ⟨s6, s7, s8, rfl, sub4, hm4⟩
        obtain ⟨hk, rfl⟩ := rng_nat hd3
        refine ⟨trivial, _, rfl, ?_⟩
        conv => whnf
        rw [lc]
        refine ⟨by omega, by omega, fun a na => ?_⟩
        refine lcIdx (fun j : Nat => .int ((stN N t (!b)).getD (behN N b k j) 0 : Nat)) na (fun _ _ => trivial) (fun j d M5 R hd5 s5 k5 => ?_) (szLt (by rw [rngD_length, Int.toNat_natCast]; omega)) fun M5 s5 h5 => ?_
        · obtain ⟨hj, rfl⟩ := rng_nat hd5
          obtain ⟨be, bl⟩ := beh_nat g (b := b) hk hj
          have sM5 : Sub M' M5 := (sub2.trans sub4).trans s5
          refine ⟨_, _, .inl (sM5 _ _ hp), hb3, N, c, b, (k : Int), j, by rw [← hb1], g, by omega, by omega, hj, ?_⟩
          rw [be]
          exact ⟨_, _, .inl (own sM5 (!b)), nums_at (by rw [st_len g]; exact bl), k5 M5 (Sub.refl _)⟩
        · rw [rngD_length, Int.toNat_natCast] at h5
          have sM5 : Sub M' M5 := (sub2.trans sub4).trans s5
          refine ⟨⟨_, .inl (s5 _ _ hm4)⟩, _, _, .inl (sM5 _ _ hp), hb2, _, _, .inl (own sM5 b), nums_at (by rw [st_len g]; exact hk), _, .inl h5, szLe (by show 2 ≤ 1000000; decide), _, s5 _ _ hm4, szLt (by rw [List.length_map, List.length_range]; omega), _, _, _, rfl, (sub4.trans s5).new nm, ?_⟩
          rw [updM_same, List.range_succ, List.map_append]
          refine congrArg some (congrArg MO.lst (congrArg (_ ++ ·) ?_))
          show [D.tup [_, .tup _]] = [mkD _]
          unfold mkD nums
          rw [List.map_map, g.l]
          rfl
      · rintro env3 M4 ⟨s6, s7, s8, rfl, sub4, hm4⟩
        rw [rngD_length, Int.toNat_natCast] at hm4
        refine ⟨trivial, ⟨_, .inl (sub4 _ _ hf2)⟩, pm, (List.range N.many).map (fun i => mkD ((stN N t b).getD i 0, (List.range N.links.length).map fun c => (stN N t (!b)).getD (behN N b i c) 0)), rfl, .inl hm4, by simp; omega, .inr ⟨(List.range N.many).map fun i => ((stN N t b).getD i 0, (List.range N.links.length).map fun c => (stN N t (!b)).getD (behN N b i c) 0), by rw [List.map_map]; rfl, fun q nq => ?_⟩⟩
        rw [fin_pairs]
        have qf : q ≠ pf := fun e => by subst e; rw [sub4 _ _ hf2] at nq; cases nq
        refine ⟨_, (updM_ne (Ne.symm qf)).trans (sub4 _ _ hf2), szLt (by rw [List.length_map, hl2]; omega), _, _, _, _, _, qs ++ [q], rfl, ((sub2.trans sub4).new (sub2.free (sub4.free nq))).new nf, by rw [updM_same, List.map_append]; rfl, by simp [hl2], fun j q' hj => ?_⟩
        by_cases hjl : j < qs.length
        · rw [List.getElem?_append_left hjl] at hj
          obtain ⟨g1, g2⟩ := hqs j q' hj
          have g3 : q' ≠ q := fun e => by subst e; rw [sub4 _ _ g2] at nq; cases nq
          exact ⟨g1, (updM_ne g1).trans ((updM_ne g3).trans (sub4 _ _ g2))⟩
        · rw [List.getElem?_append_right (by omega)] at hj
          have hj0 : j = qs.length := by
            have := (List.getElem?_eq_some_iff.mp hj).1
            simp at this
            omega
          subst hj0
          simp at hj
          subst hj
          rw [hl2, hb4]
          exact ⟨qf, (updM_ne qf).trans updM_same⟩
    · rintro env2 M2 ⟨s4, s5, s6, s7, s8, qs, rfl, sub2, hf2, hl2, hqs⟩
      obtain ⟨x0, x1, rfl⟩ : ∃ x0 x1, qs = [x0, x1] := by
        match qs, hl2 with
        | [x0, x1], _ => exact ⟨x0, x1, rfl⟩
      exact ⟨trivial, _, _, _, _, _, _, _, pf, x0, x1, rfl, sub.trans sub2, hf2, (hqs 0 x0 rfl).2, (hqs 1 x1 rfl).2⟩
  · rintro env' M' ⟨s2, s3, s4, s5, s6, s7, s8, ps, qw, qb, rfl, sub, hp, hw, hb⟩
    rw [rngD_length] at hw hb
    have e2 : ((2 : Int) * (N.many : Int)).toNat = 2 * N.many := by omega
    have hw : M' qw = some (.lst (nums (stN N ((2 : Int) * (N.many : Int)).toNat true))) := hw
    have hb : M' qb = some (.lst (nums (stN N ((2 : Int) * (N.many : Int)).toNat false))) := hb
    rw [e2] at hw hb
    exact ⟨trivial, _, _, .inl hp, rfl, _, .inl hw, _, _, .inl hp, rfl, _, .inl hb, szLe (by show 2 ≤ 1000000; decide), M, sub, q⟩
theorem kn_sum (l : List Nat) : ((List.range l.length).map fun k => if l.getD k 0 ∈ l.take k then (0 : Int) else 1).sum = (kn l : Int) := by
  refine snoc_ind (P := fun l => ((List.range l.length).map fun k => if l.getD k 0 ∈ l.take k then (0 : Int) else 1).sum = (kn l : Int)) rfl (fun xs x ih => ?_) l
  rw [List.length_append, List.length_singleton, List.range_succ, List.map_append, List.sum_append]
  have e : (List.range xs.length).map (fun k => if (xs ++ [x]).getD k 0 ∈ (xs ++ [x]).take k then (0:Int) else 1) = (List.range xs.length).map fun k => if xs.getD k 0 ∈ xs.take k then (0:Int) else 1 := List.map_congr_left fun k hk => by
    have hk := List.mem_range.mp hk
    rw [List.take_append_of_le_length (by omega), List.getD_eq_getElem?_getD, List.getElem?_append_left hk, ← List.getD_eq_getElem?_getD]
  rw [e, ih]
  unfold kn
  rw [uniq_snoc]
  unfold add1
  by_cases h : x ∈ uniq xs
  · simp [h, mem_uniq.mp h]
  · have h' : x ∉ xs := fun z => h (mem_uniq.mpr z)
    simp [h, h']
theorem rd_law_copies (T : Txt G mg) : Rd3 N_law_copies (t_law_copies G) (sp_law_copies G) := by
  rintro ds M Q E ⟨h, d, n, p, qq, c, rfl, z, c2, c4, p1, p4, q1, q4, q⟩
  have n0 := z.n0
  refine ⟨h, d, n, 3, rfl, z, by decide, fun v v0 v1 => ?_⟩
  obtain ⟨m, hm⟩ : ∃ m : Nat, 1 + v = (m : Int) := ⟨(1 + v).toNat, by omega⟩
  conv => whnf
  rw [hm]
  refine ⟨h, d, n + 1, c, m, p, qq, rfl, z.set (by omega), c2, c4, by omega, by omega, p1, p4, q1, q4, fun N n1 gd hN n10 => ?_⟩
  rw [setH_setH]
  refine ⟨h, d, n1, 3, rfl, z.set n10, by decide, fun u u0 u1 => ?_⟩
  obtain ⟨s, hs⟩ : ∃ s : Nat, 1 + u = (s : Int) := ⟨(1 + u).toNat, by omega⟩
  conv => whnf
  rw [hs, setH_setH]
  have ms : N.many * s ≤ 3 * 3 := Nat.mul_le_mul (by omega) (by omega)
  refine ⟨h, d, n1 + 1, N, c, s, rfl, z.set (by omega), gd.g, by omega, by omega, fun TT n2 tn n20 => ?_⟩
  rw [setH_setH]
  refine ⟨N, c, s, TT, rfl, gd, tn, by omega, by omega, fun N' gd' hN' => ?_⟩
  refine ⟨h, d, n2, N', c, rfl, z.set n20, gd', fun N'' n3 gd'' hN'' n30 => ?_⟩
  rw [setH_setH]
  exact ⟨_, Sub.refl _, q N'' n3 gd'' (by omega) n30⟩
theorem rd_law_refused (T : Txt G mg) : Rd3 N_law_refused (t_law_refused G) (sp_law_refused G) := by
  rintro ds M Q E ⟨d, v, rfl, hv, w5, hn, q⟩
  have bad : ∀ {env : En}, ∃ b, PySem.W.exmOne G.K (.ref G.BadNetwork) (.ref G.BadNetwork) = some b ∧ (b = true → (s3Ret (e3C (.bl true)) : S3) W0 (rtD Q) env M) ∧ (b = false → rtX E (.ref G.BadNetwork) none env M) := fun {env} => ⟨true, T.e_BadNetwork_BadNetwork, fun _ => ⟨M, Sub.refl _, q⟩, fun z => nomatch z⟩
  have no : netOk d = true → False := fun z => by rw [hn] at z; cases z
  cases v with
  | true => exact Br.tt ⟨d, rfl, hv, w5, fun _ => bad, fun ok => (no ok).elim⟩
  | false => exact Br.ff ⟨d, rfl, hv, w5, fun _ => bad, fun ok => (no ok).elim⟩
theorem num_lt_mem {N : Net} {c : Nat} (g : Good N c) (c1 : 1 ≤ c) {b : Bool} {k : Nat} (hk : k < baseK N) : k ∈ kdN N b := by
  have := (num_lt (xs := kdN N b) (k := k)).mpr (by rw [kn_both g c1 b]; exact hk)
  rwa [kd_num] at this
theorem cut_lo {ds : List D} {k : Nat} (h : k ≤ ds.length) : L3.cutD ds none (some (k : Int)) = ds.take k := by
  unfold L3.cutD
  rw [show HT.sIx ds.length 0 none = 0 from rfl, show HT.sIx ds.length ds.length (some (k : Int)) = min k ds.length from HT.sIx_nat _ _ k, Nat.sub_zero, Nat.min_eq_left h, List.drop_zero]
theorem mem_cast {l : List Nat} {k : Nat} (h : k ∈ l) : (k : Int) ∈ l.map fun n : Nat => (n : Int) := List.mem_map.mpr ⟨k, h, rfl⟩
theorem nums_take (l : List Nat) (k : Nat) : (nums l).take k = nums (l.take k) := by unfold nums; rw [List.map_take]
theorem rd_law_base (T : Txt G mg) : Rd3 N_law_base (t_law_base G) (sp_law_base G) := by
  rintro ds M Q E ⟨N, c, rfl, gd, m100, q⟩
  have g := gd.g
  have c1 : 1 ≤ c := by have := gd.c2; omega
  have m2 := g.m2
  have c4 := g.c4
  obtain ⟨k1, k2⟩ := baseK_le g
  have lw : ∀ b, (nums (kdN N b)).length = N.many := fun b => by rw [nums_len, kd_len g]
  refine ⟨N, c, rfl, gd, m100, rfl, rfl, ?_⟩
  conv => whnf
  rw [lw]
  refine ⟨by omega, by omega, fun a na => ?_⟩
  refine lcIdx (fun k : Nat => .int (if (kdN N true).getD k 0 ∈ (kdN N true).take k then 0 else 1)) na (fun _ _ => trivial) (fun k d M1 R hd s1 kk => ?_) (szLt (by rw [rngD_length, Int.toNat_natCast]; omega)) fun M1 s1 h1 => ?_
  · obtain ⟨hk, rfl⟩ := rng_nat hd
    refine ⟨_, nums_at (by rw [kd_len g]; exact hk), ?_⟩
    conv => whnf
    rw [cut_lo (by rw [lw]; omega), nums_take, nums_ints]
    refine in_ints (xs := ((kdN N true).take k).map fun n : Nat => (n : Int)) rfl ?_
    have e : ((((kdN N true).getD k 0 : Nat) : Int) ∈ ((kdN N true).take k).map fun n : Nat => (n : Int)) ↔ (kdN N true).getD k 0 ∈ (kdN N true).take k := by
      rw [List.mem_map]
      exact ⟨fun ⟨y, h1, h2⟩ => by rw [← Int.ofNat.inj h2]; exact h1, fun h => ⟨_, h, rfl⟩⟩
    have := kk M1 (Sub.refl _)
    by_cases hm : (kdN N true).getD k 0 ∈ (kdN N true).take k
    · rw [decide_eq_true (e.mpr hm)]
      rw [if_pos hm] at this
      exact this
    · rw [decide_eq_false (fun z => hm (e.mp z))]
      rw [if_neg hm] at this
      exact this
  rw [rngD_length, Int.toNat_natCast] at h1
  have hsum : ((List.range N.many).map fun k => if (kdN N true).getD k 0 ∈ (kdN N true).take k then (0 : Int) else 1).sum = (baseK N : Int) := by
    have := kn_sum (kdN N true)
    rw [kd_len g] at this
    exact this
  refine ⟨(List.range N.many).map fun k => if (kdN N true).getD k 0 ∈ (kdN N true).take k then (0 : Int) else 1, .inl (by rw [h1, List.map_map]; rfl), ?_⟩
  conv => whnf
  rw [hsum]
  refine ⟨by omega, by omega, fun a2 na2 => ?_⟩
  refine lcIdx (fun k : Nat => .int (firN N true k : Nat)) na2 (fun _ _ => trivial) (fun k d M2 R hd s2 kk => ?_) (szLt (by rw [rngD_length, Int.toNat_natCast]; omega)) fun M2 s2 h2 => ?_
  · obtain ⟨hk, rfl⟩ := rng_nat hd
    exact tix_of (num_lt_mem g c1 hk) (kk M2 (Sub.refl _))
  rw [rngD_length, Int.toNat_natCast] at h2
  have s12 : Sub M M2 := s1.trans s2
  clear h1 s1 s2 na na2
  have hf : M2 a2 = some (.lst (nums ((List.range (baseK N)).map (firN N true)))) := by
    rw [h2]
    unfold nums
    rw [List.map_map]
    rfl
  have lk : (nums ((List.range (baseK N)).map (firN N true))).length = baseK N := by rw [nums_len]; simp
  have gt : ∀ {k : Nat} {d : D}, (nums ((List.range (baseK N)).map (firN N true)))[k]? = some d → k < baseK N ∧ d = .int (firN N true k : Nat) := fun {k d} h => by
    obtain ⟨h1, h2⟩ := nums_get h
    have h1 : k < baseK N := by simpa using h1
    rw [getD_rng h1] at h2
    exact ⟨h1, h2⟩
  refine ⟨szLe (by show 0 ≤ 1000000; decide), fun pl nl => ⟨_, rfl, ?_⟩⟩
  have sl : Sub M2 (updM M2 pl (.lst [])) := (Sub.refl M2).new nl
  have hl0 : updM M2 pl (.lst []) pl = some (.lst []) := updM_same
  generalize updM M2 pl (.lst []) = M3 at sl hl0
  let rowN : Nat → D := fun j => rowD ((List.range (baseK N)).map fun k => ((kdN N false).getD (behN N true (firN N true k) j) 0 : Int))
  refine ⟨fun j env' M' => ∃ s4 s5 s8 s9 s10, env' = [some (netD N), some (.int (baseK N : Int)), some (.ref a2), some (.ref pl), s4, s5, some (.tup (nums (kdN N true))), some (.tup (nums (kdN N false))), s8, s9, s10] ∧ Sub M2 M' ∧ M' pl = some (.lst ((List.range j).map rowN)),
    ⟨none, none, none, none, none, rfl, sl, hl0⟩, ?_, ?_⟩
  · clear hl0 sl M3
    rintro j x env' M' hd ⟨s4, s5, s8, s9, s10, rfl, sub, hl⟩
    have hj : j < c := by
      have := (List.getElem?_eq_some_iff.mp hd).1
      rw [List.length_map, g.l] at this
      exact this
    obtain ⟨_, o, hat⟩ := g.link hj
    rw [hat] at hd
    cases hd
    refine ⟨trivial, ⟨_, .inl hl⟩, _, .inl (sub _ _ hf), fun b nb => ?_⟩
    refine lcIdx (fun k : Nat => .int ((kdN N false).getD (behN N true (firN N true k) j) 0 : Nat)) nb (fun M5 s5 => .inl (s5 _ _ (sub _ _ hf))) (fun k d M5 R5 hd s5 k5 => ?_) (szLt (by rw [lk]; omega)) fun M5 s5 h5 => ?_
    · obtain ⟨hk, rfl⟩ := gt hd
      have hf := (fir_lt g c1 (b := true) hk).1
      have hbh := (beh_nat g (b := true) hf hj).2
      have e1 := backNs_at (N := N) (b := true) (k := j) hf
      rw [← row_back g hj] at e1
      exact ⟨_, e1, _, nums_at (by rw [kd_len g]; exact hbh), k5 M5 (Sub.refl _)⟩
    · rw [lk] at h5
      refine ⟨_, .inl h5, _, s5 _ _ hl, szLt (by rw [List.length_map, List.length_range]; omega), _, _, _, _, _, rfl, (sub.trans s5).new nl, ?_⟩
      rw [updM_same, List.range_succ, List.map_append]
      refine congrArg some (congrArg MO.lst (congrArg (_ ++ ·) ?_))
      show [D.tup _] = [rowN j]
      show _ = [rowD _]
      unfold rowD
      rw [List.map_map]
      rfl
  · rintro env' M' ⟨s4, s5, s8, s9, s10, rfl, sub, hl⟩
    rw [List.length_map, g.l] at hl
    refine ⟨trivial, _, .inl (sub _ _ hf), fun b nb => ?_⟩
    refine lcIdx (fun k : Nat => .int ((inpS N true).getD (firN N true k) 0)) nb (fun M5 s5 => .inl (s5 _ _ (sub _ _ hf))) (fun k d M5 R5 hd s5 k5 => ?_) (szLt (by rw [lk]; omega)) fun M5 s5 h5 => ?_
    · obtain ⟨hk, rfl⟩ := gt hd
      have hf := (fir_lt g c1 (b := true) hk).1
      exact ⟨_, rfl, _, at_getD (l := N.wh) (by rw [g.w]; exact hf), k5 M5 (Sub.refl _)⟩
    rw [lk] at h5
    refine ⟨_, .inl h5, _, .inl (s5 _ _ hl), ?_⟩
    conv => whnf
    refine ⟨by omega, by omega, fun b2 nb2 => ?_⟩
    refine lcIdx (fun k : Nat => .int ((inpS N false).getD (firN N false k) 0)) nb2 (fun _ _ => trivial) (fun k d M6 R6 hd s6 k6 => ?_) (szLt (by rw [rngD_length, Int.toNat_natCast]; omega)) fun M6 s6 h6 => ?_
    · obtain ⟨hk, rfl⟩ := rng_nat hd
      have hf := (fir_lt g c1 (b := false) hk).1
      refine ⟨_, rfl, _, nums_ints _, mem_cast (num_lt_mem g c1 hk), ?_⟩
      rw [idx_int]
      exact ⟨_, at_getD (l := N.bl) (by rw [g.b]; exact hf), k6 M6 (Sub.refl _)⟩
    rw [rngD_length, Int.toNat_natCast] at h6
    refine ⟨_, .inl h6, szLe (by show 5 ≤ 1000000; decide), M, s12.trans (sub.trans (s5.trans s6)), ?_⟩
    unfold netD baseN at q
    dsimp only at q
    rw [List.map_map, g.l] at q
    have e1 : (rowD ((List.range (baseK N)).map fun k => (inpS N true).getD (firN N true k) 0)) = .tup ((List.range (baseK N)).map fun k => .int ((inpS N true).getD (firN N true k) 0)) := by
      unfold rowD; rw [List.map_map]; rfl
    have e2 : (rowD ((List.range (baseK N)).map fun k => (inpS N false).getD (firN N false k) 0)) = .tup ((List.range (baseK N)).map fun k => .int ((inpS N false).getD (firN N false k) 0)) := by
      unfold rowD; rw [List.map_map]; rfl
    rw [← e1, ← e2]
    exact q
theorem rd_law_alike_views (T : Txt G mg) : Rd3 N_law_alike_views (t_law_alike_views G) (sp_law_alike_views G) := by
  rintro ds M Q E ⟨N, c, rfl, gd, m100, q⟩
  have g := gd.g
  have m2 := g.m2
  have c4 := g.c4
  have c2 := gd.c2
  have lc : (N.links.map rowD).length = c := by rw [List.length_map, g.l]
  refine ⟨_, rfl, ?_⟩
  conv => whnf
  rw [lc]
  obtain ⟨r, hr, r4⟩ : ∃ r : Nat, (5 : Int) - (c : Int) = (r : Int) ∧ r ≤ 4 := ⟨5 - c, by omega, by omega⟩
  rw [hr]
  refine ⟨by decide, by decide, ?_⟩
  refine ⟨fun i env' M' => ∃ s3 s4 s5, env' = [some (netD N), some (kdD N), some (.int (r : Int)), s3, s4, s5] ∧ M' = M, ⟨none, none, none, rfl, rfl⟩, ?_, ?_⟩
  · rintro i x env' M' hd ⟨s3, s4, s5, rfl, rfl⟩
    obtain ⟨hi, rfl⟩ := rngD_get hd
    obtain ⟨b, hb1, hb2⟩ : ∃ b : Bool, D.int (0 + (i : Int)) = sideI b ∧ atI [D.tup (nums (kdN N true)), .tup (nums (kdN N false))] (0 + (i : Int)) = some (.tup (nums (kdN N b))) := by
      match i, hi with
      | 0, _ => exact ⟨true, rfl, rfl⟩
      | 1, _ => exact ⟨false, rfl, rfl⟩
      | i + 2, hi => exact absurd hi (by show ¬ i + 2 < 2; omega)
    refine ⟨trivial, _, rfl, by omega, by omega, ?_⟩
    refine ⟨fun k env2 M2 => ∃ s4 s5, env2 = [some (netD N), some (kdD N), some (.int (r : Int)), some (.int (0 + (i : Int))), s4, s5] ∧ M2 = M', ⟨s4, s5, rfl, rfl⟩, ?_, ?_⟩
    · rintro k z env2 M2 hd2 ⟨s4, s5, rfl, rfl⟩
      obtain ⟨hk, rfl⟩ := rng_nat hd2
      have hkl : k < (kdN N b).length := by rw [kd_len g]; exact hk
      have hm : (kdN N b).getD k 0 ∈ kdN N b := getD_in hkl
      have hix : (kdN N b).idxOf ((kdN N b).getD k 0) < N.many := by
        have := List.idxOf_lt_length_iff.mpr hm
        rwa [kd_len g] at this
      have hat : (kdN N b).getD ((kdN N b).idxOf ((kdN N b).getD k 0)) 0 = (kdN N b).getD k 0 := by
        rw [getD_el (List.idxOf_lt_length_iff.mpr hm), List.getElem_idxOf]
      refine ⟨trivial, _, hb2, _, hb2, _, nums_at hkl, _, nums_ints _, mem_cast hm, ?_⟩
      rw [idx_int]
      conv => whnf
      generalize (kdN N b).idxOf ((kdN N b).getD k 0) = j at hix hat
      refine ne_int ⟨fun _ => ?_, fun _ => ⟨_, _, rfl, rfl⟩⟩
      refine ⟨N, c, r, b, (k : Int), 0, by rw [hb1], g, by omega, by omega, r4, ?_⟩
      refine ⟨N, c, r, b, (j : Int), 0, by rw [hb1], g, by omega, by omega, r4, ?_⟩
      have e := kd_view g r b j k 0 hix hk hat
      have pc := pc_view (M := M2) (N := N) r b (k : Int) 0
      obtain ⟨vs, hv⟩ := view_tup (N := N) (r := r) (b := b) (k := (k : Int)) (back := 0)
      rw [e, hv]
      rw [hv] at pc
      exact ne_same pc (by omega) (Br.ff ⟨_, _, rfl, rfl⟩)
    · rintro env2 M2 ⟨s4, s5, rfl, rfl⟩
      exact ⟨trivial, _, _, _, rfl, rfl⟩
  · rintro env' M' ⟨s3, s4, s5, rfl, rfl⟩
    exact ⟨trivial, _, Sub.refl _, q⟩
theorem pl_nums {l : List Nat} (h : l.length ≤ 1000) : Pl 1 (.tup (nums l)) := by
  have := pl_row (l := l.map fun n : Nat => (n : Int)) (by simpa using h)
  unfold rowD at this
  rw [← nums_ints] at this
  exact this
theorem pl_pair {a b : D} {n : Nat} (ha : Pl n a) (hb : Pl n b) : Pl (n + 1) (.tup [a, b]) := .inr ⟨_, rfl, by simp, fun x hx => by
  simp only [List.mem_cons, List.not_mem_nil, or_false] at hx
  rcases hx with rfl | rfl <;> assumption⟩
theorem pl_kd {N : Net} {c : Nat} (gd : Gd N c) : Pl 4 (kdD N) := by
  have m2 := gd.g.m2
  exact (pl_pair (pl_nums (l := kdN N true) (by rw [kd_len gd.g]; omega)) (pl_nums (l := kdN N false) (by rw [kd_len gd.g]; omega))).mono (by decide)
theorem rng_nums (n : Nat) : rngD 0 n = nums (List.range n) := by
  unfold rngD nums
  exact List.map_congr_left fun i _ => by rw [Int.zero_add]
theorem rd_law_right (T : Txt G mg) : Rd3 N_law_right (t_law_right G) (sp_law_right G) := by
  rintro ds M Q E ⟨N, c, rfl, gd, m100, q⟩
  have no : ∀ {N' : Net} {A : Prop}, Gd N' c → netOk (netD N') = false → A := fun gd' z => by rw [gd'.ok] at z; cases z
  refine ⟨N, c, rfl, gd, m100, N, c, rfl, gd, m100, Br.ff ⟨netD N, rfl, vk_net, w5_net, fun z => no gd z, fun _ => ⟨N, c, rfl, gd, kdD N, rfl, pl_kd gd, Br.ff ?_⟩⟩⟩
  have gb := base_gd gd
  have bl := pl_net gb.g
  refine ⟨N, c, rfl, gd, m100, netD N, rfl, vk_net, w5_net, fun z => no gd z, fun _ => ⟨N, c, rfl, gd, netD (baseN N), rfl, bl.mono (by decide), Br.ff ?_⟩⟩
  obtain ⟨k1, k2⟩ := baseK_le gd.g
  have m2 := gd.g.m2
  refine ⟨_, rfl, ⟨by decide, by decide, by show _ ≤ (baseK N : Int); omega, by show (baseK N : Int) < _; omega, by show ((baseK N : Int) - 0).toNat ≤ _; omega⟩, ?_⟩
  have ek : kdD (baseN N) = .tup [.tup (rngD 0 ((baseN N).many : Int).toNat), .tup (rngD 0 ((baseN N).many : Int).toNat)] := by
    unfold kdD
    rw [base_kd gd, base_kd gd, show ((baseN N).many : Int).toNat = baseK N by show ((baseK N : Nat) : Int).toNat = _; omega, rng_nums]
  refine ⟨netD (baseN N), rfl, vk_net, w5_net, fun z => no gb z, fun _ => ⟨baseN N, c, rfl, gb, szLe (by show 2 ≤ 1000000; decide), kdD (baseN N), by rw [← ek], pl_kd gb, Br.tt ?_⟩⟩
  refine ⟨netD (baseN N), rfl, vk_net, w5_net, fun z => no gb z, fun _ => ⟨baseN N, c, rfl, gb, netD (baseN N), by rw [base_base gd], bl.mono (by decide), M, Sub.refl _, q⟩⟩
theorem rd_law_asked (T : Txt G mg) : Rd3 N_law_asked (t_law_asked G) (sp_law_asked G) := by
  rintro ds M Q E ⟨a, ns, rfl, hl, ha, hM, q⟩
  refine ⟨a, 500, ns, rfl, by decide, by decide, by omega, ha, fun p xs np lx px => ⟨szLe (by show 2 ≤ 1000000; decide), fun h nh => ?_⟩⟩
  have hH := hand_new np (fun x hx => (px x hx).1) nh
  generalize updM (updM M p (.lst (xs.map D.int))) h (.lst [.ref p, .int 0]) = M2 at hH
  refine ⟨szLe (by show 4 ≤ 1000000; decide), h, p, 0, 4, rfl, hH, by decide, fun v v0 v1 => ?_⟩
  obtain ⟨x, hx, hxm⟩ := at_mem (ds := [.int 2, .int 2, .int 3, .int 4]) (v := v) (by omega) (by show v < 4; omega)
  obtain ⟨c, rfl, c2, c4⟩ : ∃ c : Nat, x = .int (c : Int) ∧ 2 ≤ c ∧ c ≤ 4 := by
    simp only [List.mem_cons, List.not_mem_nil, or_false] at hxm
    rcases hxm with rfl | rfl | rfl | rfl
    · exact ⟨2, rfl, by decide, by decide⟩
    · exact ⟨2, rfl, by decide, by decide⟩
    · exact ⟨3, rfl, by decide, by decide⟩
    · exact ⟨4, rfl, by decide, by decide⟩
  refine ⟨_, hx, h, p, 1, 2, rfl, hH.set (by decide), by decide, fun u u0 u1 => ?_⟩
  refine ⟨h, p, 2, 2, rfl, (hH.set (m := 1) (by decide)).set (by decide), by decide, fun t t0 t1 => ?_⟩
  have hz : HandD (setH (setH (setH M2 h p (0 + 1)) h p (1 + 1)) h p (2 + 1)) h p 3 := ((hH.set (m := 1) (by decide)).set (m := 2) (by decide)).set (by decide)
  generalize setH (setH (setH M2 h p (0 + 1)) h p (1 + 1)) h p (2 + 1) = M3 at hz
  refine ⟨h, p, 3, _, _, c, rfl, hz, c2, c4, by omega, by omega, by omega, by omega, fun N n' gd hN n0 => ?_⟩
  refine ⟨h, p, n', 6, rfl, hz.set n0, by decide, fun w w0 w1 => ?_⟩
  obtain ⟨m, hmm⟩ : ∃ m : Nat, 1 + w = (m : Int) := ⟨(1 + w).toNat, by omega⟩
  conv => whnf
  rw [hmm, setH_setH]
  refine ⟨h, p, n' + 1, c, m, _, _, rfl, hz.set (by omega), c2, c4, by omega, by omega, by omega, by omega, by omega, by omega, fun N2 n2 gd2 hN2 n20 => ?_⟩
  rw [setH_setH]
  have hz2 : HandD (setH M3 h p n2) h p n2 := hz.set n20
  generalize setH M3 h p n2 = M4 at hz2
  have no : ∀ {A : Prop}, netOk (netD N) = false → A := fun z => by rw [gd.ok] at z; cases z
  refine ⟨N, c, rfl, gd, by omega, Br.ff ⟨N2, c, rfl, gd2, by omega, Br.ff ?_⟩⟩
  refine ⟨h, p, n2, N, c, rfl, hz2, gd, by omega, fun y M' n' sub n0' vy wy hy => ?_⟩
  refine ⟨y, true, rfl, vy, wy, hy, Br.ff ⟨y, false, rfl, vy, wy, hy, Br.ff ?_⟩⟩
  have bl := pl_net (base_gd gd).g
  refine ⟨netD N, rfl, vk_net, w5_net, fun z => no z, fun _ => ⟨N, c, rfl, gd, N, c, rfl, gd, by omega, kdD N, rfl, pl_kd gd, Br.tt ?_⟩⟩
  exact ⟨netD N, rfl, vk_net, w5_net, fun z => no z, fun _ => ⟨N, c, rfl, gd, N, c, rfl, gd, by omega, netD (baseN N), rfl, bl.mono (by decide), _, Sub.refl _, q _⟩⟩
theorem rd_law (T : Txt G mg) : Rd3 N_law (t_law G) (sp_law G) := by
  rintro ds M Q E ⟨a, ns, rfl, hl, ha, hM, q⟩
  exact ⟨a, ns, rfl, hl, ha, hM, fun M' => ⟨M', Sub.refl _, q M'⟩⟩
end My

namespace My
open PySem PySem.Spec PyProof.Rows L2 L3

variable {P : Program} {w : World} {G : Gm} {mg : Str → Option Value} {base : Heap}
theorem len_is_number : ∀ ds M Q E, sp_is_number G ds M Q E → ds.length = 3 := by (intro ds M Q E h; repeat (first | (obtain ⟨e, _⟩ := h; subst e; rfl) | (obtain ⟨_, h⟩ := h)))
theorem fn_is_number (T : Txt G mg) {f : Addr} {fd : FuncData} (F : Fun G.K "is_number" "is_number" s_is_number f fd) : Fn3 P w G.K mg base 1 f fd ["value", "least", "most"] (sp_is_number G) :=
  fn3_ok F sc_is_number len_is_number (fun cdv A outer s H E hr => der_is_number T  f cdv A outer s H E hr) (rd_is_number T)
theorem len_back_links : ∀ ds M Q E, sp_back_links G ds M Q E → ds.length = 1 := by (intro ds M Q E h; repeat (first | (obtain ⟨e, _⟩ := h; subst e; rfl) | (obtain ⟨_, h⟩ := h)))
theorem fn_back_links (T : Txt G mg) {f : Addr} {fd : FuncData} (F : Fun G.K "back_links" "back_links" s_back_links f fd) : Fn3 P w G.K mg base 1 f fd ["network"] (sp_back_links G) :=
  fn3_ok F sc_back_links len_back_links (fun cdv A outer s H E hr => der_back_links T  f cdv A outer s H E hr) (rd_back_links T)
theorem len_numbered : ∀ ds M Q E, sp_numbered G ds M Q E → ds.length = 1 := by (intro ds M Q E h; repeat (first | (obtain ⟨e, _⟩ := h; subst e; rfl) | (obtain ⟨_, h⟩ := h)))
theorem fn_numbered (T : Txt G mg) {f : Addr} {fd : FuncData} (F : Fun G.K "numbered" "numbered" s_numbered f fd) : Fn3 P w G.K mg base 1 f fd ["marks"] (sp_numbered G) :=
  fn3_ok F sc_numbered len_numbered (fun cdv A outer s H E hr => der_numbered T  f cdv A outer s H E hr) (rd_numbered T)
theorem len_first_of : ∀ ds M Q E, sp_first_of G ds M Q E → ds.length = 1 := by (intro ds M Q E h; repeat (first | (obtain ⟨e, _⟩ := h; subst e; rfl) | (obtain ⟨_, h⟩ := h)))
theorem fn_first_of (T : Txt G mg) {f : Addr} {fd : FuncData} (F : Fun G.K "first_of" "first_of" s_first_of f fd) : Fn3 P w G.K mg base 1 f fd ["numbers"] (sp_first_of G) :=
  fn3_ok F sc_first_of len_first_of (fun cdv A outer s H E hr => der_first_of T  f cdv A outer s H E hr) (rd_first_of T)
theorem len_law_draws : ∀ ds M Q E, sp_law_draws G ds M Q E → ds.length = 2 := by (intro ds M Q E h; repeat (first | (obtain ⟨e, _⟩ := h; subst e; rfl) | (obtain ⟨_, h⟩ := h)))
theorem fn_law_draws (T : Txt G mg) {f : Addr} {fd : FuncData} (F : Fun G.K "_law_draws" "_law_draws" s_law_draws f fd) : Fn3 P w G.K mg base 1 f fd ["script", "many"] (sp_law_draws G) :=
  fn3_ok F sc_law_draws len_law_draws (fun cdv A outer s H E hr => der_law_draws T  f cdv A outer s H E hr) (rd_law_draws T)
theorem len_law_take : ∀ ds M Q E, sp_law_take G ds M Q E → ds.length = 2 := by (intro ds M Q E h; repeat (first | (obtain ⟨e, _⟩ := h; subst e; rfl) | (obtain ⟨_, h⟩ := h)))
theorem fn_law_take (T : Txt G mg) {f : Addr} {fd : FuncData} (F : Fun G.K "_law_take" "_law_take" s_law_take f fd) : Fn3 P w G.K mg base 1 f fd ["hand", "many"] (sp_law_take G) :=
  fn3_ok F sc_law_take len_law_take (fun cdv A outer s H E hr => der_law_take T  f cdv A outer s H E hr) (rd_law_take T)
theorem len_law_whole : ∀ ds M Q E, sp_law_whole G ds M Q E → ds.length = 1 := by (intro ds M Q E h; repeat (first | (obtain ⟨e, _⟩ := h; subst e; rfl) | (obtain ⟨_, h⟩ := h)))
theorem fn_law_whole (T : Txt G mg) {f : Addr} {fd : FuncData} (F : Fun G.K "_law_whole" "_law_whole" s_law_whole f fd) : Fn3 P w G.K mg base 1 f fd ["found"] (sp_law_whole G) :=
  fn3_ok F sc_law_whole len_law_whole (fun cdv A outer s H E hr => der_law_whole T  f cdv A outer s H E hr) (rd_law_whole T)
theorem len_law_behind : ∀ ds M Q E, sp_law_behind G ds M Q E → ds.length = 4 := by (intro ds M Q E h; repeat (first | (obtain ⟨e, _⟩ := h; subst e; rfl) | (obtain ⟨_, h⟩ := h)))
theorem fn_law_behind (T : Txt G mg) {f : Addr} {fd : FuncData} (F : Fun G.K "_law_behind" "_law_behind" s_law_behind f fd) : Fn3 P w G.K mg base 1 f fd ["network", "side", "node", "colour"] (sp_law_behind G) :=
  fn3_ok F sc_law_behind len_law_behind (fun cdv A outer s H E hr => der_law_behind T  f cdv A outer s H E hr) (rd_law_behind T)
theorem len_law_counted : ∀ ds M Q E, sp_law_counted G ds M Q E → ds.length = 1 := by (intro ds M Q E h; repeat (first | (obtain ⟨e, _⟩ := h; subst e; rfl) | (obtain ⟨_, h⟩ := h)))
theorem fn_law_counted (T : Txt G mg) {f : Addr} {fd : FuncData} (F : Fun G.K "_law_counted" "_law_counted" s_law_counted f fd) : Fn3 P w G.K mg base 1 f fd ["marks"] (sp_law_counted G) :=
  fn3_ok F sc_law_counted len_law_counted (fun cdv A outer s H E hr => der_law_counted T  f cdv A outer s H E hr) (rd_law_counted T)
theorem len_law_cover : ∀ ds M Q E, sp_law_cover G ds M Q E → ds.length = 2 := by (intro ds M Q E h; repeat (first | (obtain ⟨e, _⟩ := h; subst e; rfl) | (obtain ⟨_, h⟩ := h)))
theorem fn_law_cover (T : Txt G mg) {f : Addr} {fd : FuncData} (F : Fun G.K "_law_cover" "_law_cover" s_law_cover f fd) : Fn3 P w G.K mg base 1 f fd ["network", "turns"] (sp_law_cover G) :=
  fn3_ok F sc_law_cover len_law_cover (fun cdv A outer s H E hr => der_law_cover T  f cdv A outer s H E hr) (rd_law_cover T)
theorem len_are_inputs : ∀ ds M Q E, sp_are_inputs G ds M Q E → ds.length = 3 := by (intro ds M Q E h; repeat (first | (obtain ⟨e, _⟩ := h; subst e; rfl) | (obtain ⟨_, h⟩ := h)))
theorem fn_are_inputs (T : Txt G mg) {f_is_number : Addr} {fd_is_number : FuncData} (C_is_number : Cal P w G.K mg base 1 f_is_number fd_is_number "is_number" ["value", "least", "most"] (sp_is_number G)) {f : Addr} {fd : FuncData} (F : Fun G.K "are_inputs" "are_inputs" s_are_inputs f fd) : Fn3 P w G.K mg base 2 f fd ["inputs", "many", "bound"] (sp_are_inputs G) :=
  fn3_ok F sc_are_inputs len_are_inputs (fun cdv A outer s H E hr => der_are_inputs T C_is_number f cdv A outer s H E hr) (rd_are_inputs T)
theorem len_are_links : ∀ ds M Q E, sp_are_links G ds M Q E → ds.length = 2 := by (intro ds M Q E h; repeat (first | (obtain ⟨e, _⟩ := h; subst e; rfl) | (obtain ⟨_, h⟩ := h)))
theorem fn_are_links (T : Txt G mg) {f_is_number : Addr} {fd_is_number : FuncData} (C_is_number : Cal P w G.K mg base 1 f_is_number fd_is_number "is_number" ["value", "least", "most"] (sp_is_number G)) {f : Addr} {fd : FuncData} (F : Fun G.K "are_links" "are_links" s_are_links f fd) : Fn3 P w G.K mg base 2 f fd ["links", "many"] (sp_are_links G) :=
  fn3_ok F sc_are_links len_are_links (fun cdv A outer s H E hr => der_are_links T C_is_number f cdv A outer s H E hr) (rd_are_links T)
theorem len_finer : ∀ ds M Q E, sp_finer G ds M Q E → ds.length = 3 := by (intro ds M Q E h; repeat (first | (obtain ⟨e, _⟩ := h; subst e; rfl) | (obtain ⟨_, h⟩ := h)))
theorem fn_finer (T : Txt G mg) {f_numbered : Addr} {fd_numbered : FuncData} (C_numbered : Cal P w G.K mg base 1 f_numbered fd_numbered "numbered" ["marks"] (sp_numbered G)) {f : Addr} {fd : FuncData} (F : Fun G.K "finer" "finer" s_finer f fd) : Fn3 P w G.K mg base 2 f fd ["own", "other", "links"] (sp_finer G) :=
  fn3_ok F sc_finer len_finer (fun cdv A outer s H E hr => der_finer T C_numbered f cdv A outer s H E hr) (rd_finer T)
theorem len_law_order : ∀ ds M Q E, sp_law_order G ds M Q E → ds.length = 2 := by (intro ds M Q E h; repeat (first | (obtain ⟨e, _⟩ := h; subst e; rfl) | (obtain ⟨_, h⟩ := h)))
theorem fn_law_order (T : Txt G mg) {f_law_take : Addr} {fd_law_take : FuncData} (C_law_take : Cal P w G.K mg base 1 f_law_take fd_law_take "_law_take" ["hand", "many"] (sp_law_take G)) {f : Addr} {fd : FuncData} (F : Fun G.K "_law_order" "_law_order" s_law_order f fd) : Fn3 P w G.K mg base 2 f fd ["hand", "many"] (sp_law_order G) :=
  fn3_ok F sc_law_order len_law_order (fun cdv A outer s H E hr => der_law_order T C_law_take f cdv A outer s H E hr) (rd_law_order T)
theorem len_law_wrong_network : ∀ ds M Q E, sp_law_wrong_network G ds M Q E → ds.length = 2 := by (intro ds M Q E h; repeat (first | (obtain ⟨e, _⟩ := h; subst e; rfl) | (obtain ⟨_, h⟩ := h)))
theorem fn_law_wrong_network (T : Txt G mg) {f_law_take : Addr} {fd_law_take : FuncData} (C_law_take : Cal P w G.K mg base 1 f_law_take fd_law_take "_law_take" ["hand", "many"] (sp_law_take G)) {f : Addr} {fd : FuncData} (F : Fun G.K "_law_wrong_network" "_law_wrong_network" s_law_wrong_network f fd) : Fn3 P w G.K mg base 2 f fd ["hand", "network"] (sp_law_wrong_network G) :=
  fn3_ok F sc_law_wrong_network len_law_wrong_network (fun cdv A outer s H E hr => der_law_wrong_network T C_law_take f cdv A outer s H E hr) (rd_law_wrong_network T)
theorem len_law_kinds : ∀ ds M Q E, sp_law_kinds G ds M Q E → ds.length = 1 := by (intro ds M Q E h; repeat (first | (obtain ⟨e, _⟩ := h; subst e; rfl) | (obtain ⟨_, h⟩ := h)))
theorem fn_law_kinds (T : Txt G mg) {f_law_counted : Addr} {fd_law_counted : FuncData} (C_law_counted : Cal P w G.K mg base 1 f_law_counted fd_law_counted "_law_counted" ["marks"] (sp_law_counted G)) {f_law_behind : Addr} {fd_law_behind : FuncData} (C_law_behind : Cal P w G.K mg base 1 f_law_behind fd_law_behind "_law_behind" ["network", "side", "node", "colour"] (sp_law_behind G)) {f : Addr} {fd : FuncData} (F : Fun G.K "_law_kinds" "_law_kinds" s_law_kinds f fd) : Fn3 P w G.K mg base 2 f fd ["network"] (sp_law_kinds G) :=
  fn3_ok F sc_law_kinds len_law_kinds (fun cdv A outer s H E hr => der_law_kinds T C_law_counted C_law_behind f cdv A outer s H E hr) (rd_law_kinds T)
theorem len_check_plain : ∀ ds M Q E, sp_check_plain G ds M Q E → ds.length = 1 := by (intro ds M Q E h; repeat (first | (obtain ⟨e, _⟩ := h; subst e; rfl) | (obtain ⟨_, h⟩ := h)))
theorem fn_check_plain (T : Txt G mg) {f_is_number : Addr} {fd_is_number : FuncData} (C_is_number : Cal P w G.K mg base 1 f_is_number fd_is_number "is_number" ["value", "least", "most"] (sp_is_number G)) {f_are_links : Addr} {fd_are_links : FuncData} (C_are_links : Cal P w G.K mg base 2 f_are_links fd_are_links "are_links" ["links", "many"] (sp_are_links G)) {f_are_inputs : Addr} {fd_are_inputs : FuncData} (C_are_inputs : Cal P w G.K mg base 2 f_are_inputs fd_are_inputs "are_inputs" ["inputs", "many", "bound"] (sp_are_inputs G)) {f : Addr} {fd : FuncData} (F : Fun G.K "check_plain" "check_plain" s_check_plain f fd) : Fn3 P w G.K mg base 3 f fd ["network"] (sp_check_plain G) :=
  fn3_ok F sc_check_plain len_check_plain (fun cdv A outer s H E hr => der_check_plain T C_is_number C_are_links C_are_inputs f cdv A outer s H E hr) (rd_check_plain T)
theorem len_law_network : ∀ ds M Q E, sp_law_network G ds M Q E → ds.length = 5 := by (intro ds M Q E h; repeat (first | (obtain ⟨e, _⟩ := h; subst e; rfl) | (obtain ⟨_, h⟩ := h)))
theorem fn_law_network (T : Txt G mg) {f_law_order : Addr} {fd_law_order : FuncData} (C_law_order : Cal P w G.K mg base 2 f_law_order fd_law_order "_law_order" ["hand", "many"] (sp_law_order G)) {f_law_take : Addr} {fd_law_take : FuncData} (C_law_take : Cal P w G.K mg base 1 f_law_take fd_law_take "_law_take" ["hand", "many"] (sp_law_take G)) {f : Addr} {fd : FuncData} (F : Fun G.K "_law_network" "_law_network" s_law_network f fd) : Fn3 P w G.K mg base 3 f fd ["hand", "colours", "many", "p", "q"] (sp_law_network G) :=
  fn3_ok F sc_law_network len_law_network (fun cdv A outer s H E hr => der_law_network T C_law_order C_law_take f cdv A outer s H E hr) (rd_law_network T)
theorem len_law_base : ∀ ds M Q E, sp_law_base G ds M Q E → ds.length = 1 := by (intro ds M Q E h; repeat (first | (obtain ⟨e, _⟩ := h; subst e; rfl) | (obtain ⟨_, h⟩ := h)))
theorem fn_law_base (T : Txt G mg) {f_law_kinds : Addr} {fd_law_kinds : FuncData} (C_law_kinds : Cal P w G.K mg base 2 f_law_kinds fd_law_kinds "_law_kinds" ["network"] (sp_law_kinds G)) {f : Addr} {fd : FuncData} (F : Fun G.K "_law_base" "_law_base" s_law_base f fd) : Fn3 P w G.K mg base 3 f fd ["network"] (sp_law_base G) :=
  fn3_ok F sc_law_base len_law_base (fun cdv A outer s H E hr => der_law_base T C_law_kinds f cdv A outer s H E hr) (rd_law_base T)
theorem len_law_turns : ∀ ds M Q E, sp_law_turns G ds M Q E → ds.length = 3 := by (intro ds M Q E h; repeat (first | (obtain ⟨e, _⟩ := h; subst e; rfl) | (obtain ⟨_, h⟩ := h)))
theorem fn_law_turns (T : Txt G mg) {f_law_order : Addr} {fd_law_order : FuncData} (C_law_order : Cal P w G.K mg base 2 f_law_order fd_law_order "_law_order" ["hand", "many"] (sp_law_order G)) {f : Addr} {fd : FuncData} (F : Fun G.K "_law_turns" "_law_turns" s_law_turns f fd) : Fn3 P w G.K mg base 3 f fd ["hand", "network", "copies"] (sp_law_turns G) :=
  fn3_ok F sc_law_turns len_law_turns (fun cdv A outer s H E hr => der_law_turns T C_law_order f cdv A outer s H E hr) (rd_law_turns T)
theorem len_law_mixed_up : ∀ ds M Q E, sp_law_mixed_up G ds M Q E → ds.length = 2 := by (intro ds M Q E h; repeat (first | (obtain ⟨e, _⟩ := h; subst e; rfl) | (obtain ⟨_, h⟩ := h)))
theorem fn_law_mixed_up (T : Txt G mg) {f_law_order : Addr} {fd_law_order : FuncData} (C_law_order : Cal P w G.K mg base 2 f_law_order fd_law_order "_law_order" ["hand", "many"] (sp_law_order G)) {f : Addr} {fd : FuncData} (F : Fun G.K "_law_mixed_up" "_law_mixed_up" s_law_mixed_up f fd) : Fn3 P w G.K mg base 3 f fd ["hand", "network"] (sp_law_mixed_up G) :=
  fn3_ok F sc_law_mixed_up len_law_mixed_up (fun cdv A outer s H E hr => der_law_mixed_up T C_law_order f cdv A outer s H E hr) (rd_law_mixed_up T)
theorem len_kinds : ∀ ds M Q E, sp_kinds G ds M Q E → ds.length = 1 := by (intro ds M Q E h; repeat (first | (obtain ⟨e, _⟩ := h; subst e; rfl) | (obtain ⟨_, h⟩ := h)))
theorem fn_kinds (T : Txt G mg) {f_check_plain : Addr} {fd_check_plain : FuncData} (C_check_plain : Cal P w G.K mg base 3 f_check_plain fd_check_plain "check_plain" ["network"] (sp_check_plain G)) {f_back_links : Addr} {fd_back_links : FuncData} (C_back_links : Cal P w G.K mg base 1 f_back_links fd_back_links "back_links" ["network"] (sp_back_links G)) {f_numbered : Addr} {fd_numbered : FuncData} (C_numbered : Cal P w G.K mg base 1 f_numbered fd_numbered "numbered" ["marks"] (sp_numbered G)) {f_finer : Addr} {fd_finer : FuncData} (C_finer : Cal P w G.K mg base 2 f_finer fd_finer "finer" ["own", "other", "links"] (sp_finer G)) {f : Addr} {fd : FuncData} (F : Fun G.K "kinds" "kinds" s_kinds f fd) : Fn3 P w G.K mg base 4 f fd ["network"] (sp_kinds G) :=
  fn3_ok F sc_kinds len_kinds (fun cdv A outer s H E hr => der_kinds T C_check_plain C_back_links C_numbered C_finer f cdv A outer s H E hr) (rd_kinds T)
theorem len_law_copies : ∀ ds M Q E, sp_law_copies G ds M Q E → ds.length = 5 := by (intro ds M Q E h; repeat (first | (obtain ⟨e, _⟩ := h; subst e; rfl) | (obtain ⟨_, h⟩ := h)))
theorem fn_law_copies (T : Txt G mg) {f_law_network : Addr} {fd_law_network : FuncData} (C_law_network : Cal P w G.K mg base 3 f_law_network fd_law_network "_law_network" ["hand", "colours", "many", "p", "q"] (sp_law_network G)) {f_law_take : Addr} {fd_law_take : FuncData} (C_law_take : Cal P w G.K mg base 1 f_law_take fd_law_take "_law_take" ["hand", "many"] (sp_law_take G)) {f_law_mixed_up : Addr} {fd_law_mixed_up : FuncData} (C_law_mixed_up : Cal P w G.K mg base 3 f_law_mixed_up fd_law_mixed_up "_law_mixed_up" ["hand", "network"] (sp_law_mixed_up G)) {f_law_cover : Addr} {fd_law_cover : FuncData} (C_law_cover : Cal P w G.K mg base 1 f_law_cover fd_law_cover "_law_cover" ["network", "turns"] (sp_law_cover G)) {f_law_turns : Addr} {fd_law_turns : FuncData} (C_law_turns : Cal P w G.K mg base 3 f_law_turns fd_law_turns "_law_turns" ["hand", "network", "copies"] (sp_law_turns G)) {f : Addr} {fd : FuncData} (F : Fun G.K "_law_copies" "_law_copies" s_law_copies f fd) : Fn3 P w G.K mg base 4 f fd ["hand", "colours", "p", "q", "most"] (sp_law_copies G) :=
  fn3_ok F sc_law_copies len_law_copies (fun cdv A outer s H E hr => der_law_copies T C_law_network C_law_take C_law_mixed_up C_law_cover C_law_turns f cdv A outer s H E hr) (rd_law_copies T)
theorem len_base_of : ∀ ds M Q E, sp_base_of G ds M Q E → ds.length = 1 := by (intro ds M Q E h; repeat (first | (obtain ⟨e, _⟩ := h; subst e; rfl) | (obtain ⟨_, h⟩ := h)))
theorem fn_base_of (T : Txt G mg) {f_kinds : Addr} {fd_kinds : FuncData} (C_kinds : Cal P w G.K mg base 4 f_kinds fd_kinds "kinds" ["network"] (sp_kinds G)) {f_first_of : Addr} {fd_first_of : FuncData} (C_first_of : Cal P w G.K mg base 1 f_first_of fd_first_of "first_of" ["numbers"] (sp_first_of G)) {f : Addr} {fd : FuncData} (F : Fun G.K "base_of" "base_of" s_base_of f fd) : Fn3 P w G.K mg base 5 f fd ["network"] (sp_base_of G) :=
  fn3_ok F sc_base_of len_base_of (fun cdv A outer s H E hr => der_base_of T C_kinds C_first_of f cdv A outer s H E hr) (rd_base_of T)
theorem len_law_refused : ∀ ds M Q E, sp_law_refused G ds M Q E → ds.length = 2 := by (intro ds M Q E h; repeat (first | (obtain ⟨e, _⟩ := h; subst e; rfl) | (obtain ⟨_, h⟩ := h)))
theorem fn_law_refused (T : Txt G mg) {f_kinds : Addr} {fd_kinds : FuncData} (C_kinds : Cal P w G.K mg base 4 f_kinds fd_kinds "kinds" ["network"] (sp_kinds G)) {f_base_of : Addr} {fd_base_of : FuncData} (C_base_of : Cal P w G.K mg base 5 f_base_of fd_base_of "base_of" ["network"] (sp_base_of G)) {f : Addr} {fd : FuncData} (F : Fun G.K "_law_refused" "_law_refused" s_law_refused f fd) : Fn3 P w G.K mg base 6 f fd ["network", "first"] (sp_law_refused G) :=
  fn3_ok F sc_law_refused len_law_refused (fun cdv A outer s H E hr => der_law_refused T C_kinds C_base_of f cdv A outer s H E hr) (rd_law_refused T)
theorem len_law_like (n : Nat) : ∀ ds M Q E, spLk n ds M Q E → ds.length = 2 := by
  cases n <;> (intro ds M Q E h; repeat (first | (obtain ⟨e, _⟩ := h; subst e; rfl) | (obtain ⟨_, h⟩ := h)))
theorem all_law_like (T : Txt G mg) {f_law_whole : Addr} {fd_law_whole : FuncData} (C_law_whole : Cal P w G.K mg base 1 f_law_whole fd_law_whole "_law_whole" ["found"] (sp_law_whole G)) {f : Addr} {fd : FuncData} (F : Fun G.K "_law_like" "_law_like" s_law_like f fd) (m : mg "_law_like" = some (.ref f)) (kp : PySem.W.keepIn G.K (.ref f) = true) (b : Binds G.K fd ["found", "due"] []) : ∀ n, Fn3 P w G.K mg base (2 + n) f fd ["found", "due"] (spLk n)
  | 0 => fn3_ok F sc_law_like (len_law_like 0) (fun cdv A outer s H E hr => der_law_like T C_law_whole ⟨fn3_none, m, kp, b⟩ (Nat.le_refl _) f cdv A outer s H E hr) (rd_law_like T (.inl rfl))
  | n + 1 => by
    have ih := all_law_like T C_law_whole F m kp b n
    exact fn3_ok F sc_law_like (len_law_like (n + 1)) (fun cdv A outer s H E hr => der_law_like T C_law_whole ⟨ih, m, kp, b⟩ (by omega) f cdv A outer s H E hr) (rd_law_like T (.inr ⟨n, rfl, rfl⟩))
theorem fn_law_like (T : Txt G mg) {f_law_whole : Addr} {fd_law_whole : FuncData} (C_law_whole : Cal P w G.K mg base 1 f_law_whole fd_law_whole "_law_whole" ["found"] (sp_law_whole G)) {f : Addr} {fd : FuncData} (F : Fun G.K "_law_like" "_law_like" s_law_like f fd) (m : mg "_law_like" = some (.ref f)) (kp : PySem.W.keepIn G.K (.ref f) = true) (b : Binds G.K fd ["found", "due"] []) : Fn3 P w G.K mg base 7 f fd ["found", "due"] (sp_law_like G) := Fn3.mono (all_law_like T C_law_whole F m kp b 4) (by decide)
theorem len_law_branch (n : Nat) : ∀ ds M Q E, spView2 n ds M Q E → ds.length = 5 := by
  cases n <;> (intro ds M Q E h; repeat (first | (obtain ⟨e, _⟩ := h; subst e; rfl) | (obtain ⟨_, h⟩ := h)))
theorem all_law_branch (T : Txt G mg) {f_law_behind : Addr} {fd_law_behind : FuncData} (C_law_behind : Cal P w G.K mg base 1 f_law_behind fd_law_behind "_law_behind" ["network", "side", "node", "colour"] (sp_law_behind G)) {f : Addr} {fd : FuncData} (F : Fun G.K "_law_branch" "_law_branch" s_law_branch f fd) (m : mg "_law_branch" = some (.ref f)) (kp : PySem.W.keepIn G.K (.ref f) = true) (b : Binds G.K fd ["network", "side", "node", "reach", "colour"] []) : ∀ n, Fn3 P w G.K mg base (2 + n) f fd ["network", "side", "node", "reach", "colour"] (spView2 n)
  | 0 => fn3_ok F sc_law_branch (len_law_branch 0) (fun cdv A outer s H E hr => der_law_branch T C_law_behind ⟨fn3_none, m, kp, b⟩ (Nat.le_refl _) f cdv A outer s H E hr) (rd_law_branch T (.inl rfl))
  | n + 1 => by
    have ih := all_law_branch T C_law_behind F m kp b n
    exact fn3_ok F sc_law_branch (len_law_branch (n + 1)) (fun cdv A outer s H E hr => der_law_branch T C_law_behind ⟨ih, m, kp, b⟩ (by omega) f cdv A outer s H E hr) (rd_law_branch T (.inr ⟨n, rfl, rfl⟩))
theorem fn_law_branch (T : Txt G mg) {f_law_behind : Addr} {fd_law_behind : FuncData} (C_law_behind : Cal P w G.K mg base 1 f_law_behind fd_law_behind "_law_behind" ["network", "side", "node", "colour"] (sp_law_behind G)) {f : Addr} {fd : FuncData} (F : Fun G.K "_law_branch" "_law_branch" s_law_branch f fd) (m : mg "_law_branch" = some (.ref f)) (kp : PySem.W.keepIn G.K (.ref f) = true) (b : Binds G.K fd ["network", "side", "node", "reach", "colour"] []) : Fn3 P w G.K mg base 7 f fd ["network", "side", "node", "reach", "colour"] (sp_law_branch G) := Fn3.mono (all_law_branch T C_law_behind F m kp b 4) (by decide)
theorem len_law_alike_views : ∀ ds M Q E, sp_law_alike_views G ds M Q E → ds.length = 2 := by (intro ds M Q E h; repeat (first | (obtain ⟨e, _⟩ := h; subst e; rfl) | (obtain ⟨_, h⟩ := h)))
theorem fn_law_alike_views (T : Txt G mg) {f_law_branch : Addr} {fd_law_branch : FuncData} (C_law_branch : Cal P w G.K mg base 7 f_law_branch fd_law_branch "_law_branch" ["network", "side", "node", "reach", "colour"] (sp_law_branch G)) {f : Addr} {fd : FuncData} (F : Fun G.K "_law_alike_views" "_law_alike_views" s_law_alike_views f fd) : Fn3 P w G.K mg base 8 f fd ["network", "numbers"] (sp_law_alike_views G) :=
  fn3_ok F sc_law_alike_views len_law_alike_views (fun cdv A outer s H E hr => der_law_alike_views T C_law_branch f cdv A outer s H E hr) (rd_law_alike_views T)
theorem len_law_right : ∀ ds M Q E, sp_law_right G ds M Q E → ds.length = 1 := by (intro ds M Q E h; repeat (first | (obtain ⟨e, _⟩ := h; subst e; rfl) | (obtain ⟨_, h⟩ := h)))
theorem fn_law_right (T : Txt G mg) {f_law_kinds : Addr} {fd_law_kinds : FuncData} (C_law_kinds : Cal P w G.K mg base 2 f_law_kinds fd_law_kinds "_law_kinds" ["network"] (sp_law_kinds G)) {f_law_alike_views : Addr} {fd_law_alike_views : FuncData} (C_law_alike_views : Cal P w G.K mg base 8 f_law_alike_views fd_law_alike_views "_law_alike_views" ["network", "numbers"] (sp_law_alike_views G)) {f_law_like : Addr} {fd_law_like : FuncData} (C_law_like : Cal P w G.K mg base 7 f_law_like fd_law_like "_law_like" ["found", "due"] (sp_law_like G)) {f_kinds : Addr} {fd_kinds : FuncData} (C_kinds : Cal P w G.K mg base 4 f_kinds fd_kinds "kinds" ["network"] (sp_kinds G)) {f_law_base : Addr} {fd_law_base : FuncData} (C_law_base : Cal P w G.K mg base 3 f_law_base fd_law_base "_law_base" ["network"] (sp_law_base G)) {f_base_of : Addr} {fd_base_of : FuncData} (C_base_of : Cal P w G.K mg base 5 f_base_of fd_base_of "base_of" ["network"] (sp_base_of G)) {f : Addr} {fd : FuncData} (F : Fun G.K "_law_right" "_law_right" s_law_right f fd) : Fn3 P w G.K mg base 9 f fd ["network"] (sp_law_right G) :=
  fn3_ok F sc_law_right len_law_right (fun cdv A outer s H E hr => der_law_right T C_law_kinds C_law_alike_views C_law_like C_kinds C_law_base C_base_of f cdv A outer s H E hr) (rd_law_right T)
theorem len_law_asked : ∀ ds M Q E, sp_law_asked G ds M Q E → ds.length = 1 := by (intro ds M Q E h; repeat (first | (obtain ⟨e, _⟩ := h; subst e; rfl) | (obtain ⟨_, h⟩ := h)))
theorem fn_law_asked (T : Txt G mg) {f_law_draws : Addr} {fd_law_draws : FuncData} (C_law_draws : Cal P w G.K mg base 1 f_law_draws fd_law_draws "_law_draws" ["script", "many"] (sp_law_draws G)) {f_law_take : Addr} {fd_law_take : FuncData} (C_law_take : Cal P w G.K mg base 1 f_law_take fd_law_take "_law_take" ["hand", "many"] (sp_law_take G)) {f_law_copies : Addr} {fd_law_copies : FuncData} (C_law_copies : Cal P w G.K mg base 4 f_law_copies fd_law_copies "_law_copies" ["hand", "colours", "p", "q", "most"] (sp_law_copies G)) {f_law_network : Addr} {fd_law_network : FuncData} (C_law_network : Cal P w G.K mg base 3 f_law_network fd_law_network "_law_network" ["hand", "colours", "many", "p", "q"] (sp_law_network G)) {f_law_right : Addr} {fd_law_right : FuncData} (C_law_right : Cal P w G.K mg base 9 f_law_right fd_law_right "_law_right" ["network"] (sp_law_right G)) {f_law_wrong_network : Addr} {fd_law_wrong_network : FuncData} (C_law_wrong_network : Cal P w G.K mg base 2 f_law_wrong_network fd_law_wrong_network "_law_wrong_network" ["hand", "network"] (sp_law_wrong_network G)) {f_law_refused : Addr} {fd_law_refused : FuncData} (C_law_refused : Cal P w G.K mg base 6 f_law_refused fd_law_refused "_law_refused" ["network", "first"] (sp_law_refused G)) {f_law_like : Addr} {fd_law_like : FuncData} (C_law_like : Cal P w G.K mg base 7 f_law_like fd_law_like "_law_like" ["found", "due"] (sp_law_like G)) {f_kinds : Addr} {fd_kinds : FuncData} (C_kinds : Cal P w G.K mg base 4 f_kinds fd_kinds "kinds" ["network"] (sp_kinds G)) (K_kinds : BindsK G.K fd_kinds ["network"]) {f_law_kinds : Addr} {fd_law_kinds : FuncData} (C_law_kinds : Cal P w G.K mg base 2 f_law_kinds fd_law_kinds "_law_kinds" ["network"] (sp_law_kinds G)) {f_base_of : Addr} {fd_base_of : FuncData} (C_base_of : Cal P w G.K mg base 5 f_base_of fd_base_of "base_of" ["network"] (sp_base_of G)) (K_base_of : BindsK G.K fd_base_of ["network"]) {f_law_base : Addr} {fd_law_base : FuncData} (C_law_base : Cal P w G.K mg base 3 f_law_base fd_law_base "_law_base" ["network"] (sp_law_base G)) {f : Addr} {fd : FuncData} (F : Fun G.K "_law_asked" "_law_asked" s_law_asked f fd) : Fn3 P w G.K mg base 10 f fd ["script"] (sp_law_asked G) :=
  fn3_ok F sc_law_asked len_law_asked (fun cdv A outer s H E hr => der_law_asked T C_law_draws C_law_take C_law_copies C_law_network C_law_right C_law_wrong_network C_law_refused C_law_like C_kinds K_kinds C_law_kinds C_base_of K_base_of C_law_base f cdv A outer s H E hr) (rd_law_asked T)
theorem len_law : ∀ ds M Q E, sp_law G ds M Q E → ds.length = 1 := by (intro ds M Q E h; repeat (first | (obtain ⟨e, _⟩ := h; subst e; rfl) | (obtain ⟨_, h⟩ := h)))
theorem fn_law (T : Txt G mg) {f_law_asked : Addr} {fd_law_asked : FuncData} (C_law_asked : Cal P w G.K mg base 10 f_law_asked fd_law_asked "_law_asked" ["script"] (sp_law_asked G)) {f : Addr} {fd : FuncData} (F : Fun G.K "law" "law" s_law f fd) : Fn3 P w G.K mg base 11 f fd ["script"] (sp_law G) :=
  fn3_ok F sc_law len_law (fun cdv A outer s H E hr => der_law T C_law_asked f cdv A outer s H E hr) (rd_law T)
theorem all_mk {l : PySem.W.OpenLaw} {w : World} {K : PySem.W.Frag} {h : Heap} {mg : Str → Option Value} {fa : Addr} (X : K.In h) (GG : h.Ns mainGlobals mg) (hfa : mg "law" = some (.ref fa))
    {od0 an0 : Option Addr} {sl0 : Array (Option Value)} {oc0 kV0 dc0 pm0 cd0 ct0 : Value} {f0 : Addr} {od1 an1 : Option Addr} {sl1 : Array (Option Value)} {oc1 kV1 dc1 pm1 cd1 ct1 : Value} {f1 : Addr} {od2 an2 : Option Addr} {sl2 : Array (Option Value)} {oc2 kV2 dc2 pm2 cd2 ct2 : Value} {f2 : Addr} {od3 an3 : Option Addr} {sl3 : Array (Option Value)} {oc3 kV3 dc3 pm3 cd3 ct3 : Value} {f3 : Addr} {od4 an4 : Option Addr} {sl4 : Array (Option Value)} {oc4 kV4 dc4 pm4 cd4 ct4 : Value} {f4 : Addr} {od5 an5 : Option Addr} {sl5 : Array (Option Value)} {oc5 kV5 dc5 pm5 cd5 ct5 : Value} {f5 : Addr} {od6 an6 : Option Addr} {sl6 : Array (Option Value)} {oc6 kV6 dc6 pm6 cd6 ct6 : Value} {f6 : Addr} {od7 an7 : Option Addr} {sl7 : Array (Option Value)} {oc7 kV7 dc7 pm7 cd7 ct7 : Value} {f7 : Addr} {od8 an8 : Option Addr} {sl8 : Array (Option Value)} {oc8 kV8 dc8 pm8 cd8 ct8 : Value} {f8 : Addr} {od9 an9 : Option Addr} {sl9 : Array (Option Value)} {oc9 kV9 dc9 pm9 cd9 ct9 : Value} {f9 : Addr} {od10 an10 : Option Addr} {sl10 : Array (Option Value)} {oc10 kV10 dc10 pm10 cd10 ct10 : Value} {f10 : Addr} {od11 an11 : Option Addr} {sl11 : Array (Option Value)} {oc11 kV11 dc11 pm11 cd11 ct11 : Value} {f11 : Addr} {od12 an12 : Option Addr} {sl12 : Array (Option Value)} {oc12 kV12 dc12 pm12 cd12 ct12 : Value} {f12 : Addr} {od13 an13 : Option Addr} {sl13 : Array (Option Value)} {oc13 kV13 dc13 pm13 cd13 ct13 : Value} {f13 : Addr} {od14 an14 : Option Addr} {sl14 : Array (Option Value)} {oc14 kV14 dc14 pm14 cd14 ct14 : Value} {f14 : Addr} {od15 an15 : Option Addr} {sl15 : Array (Option Value)} {oc15 kV15 dc15 pm15 cd15 ct15 : Value} {f15 : Addr} {od16 an16 : Option Addr} {sl16 : Array (Option Value)} {oc16 kV16 dc16 pm16 cd16 ct16 : Value} {f16 : Addr} {od17 an17 : Option Addr} {sl17 : Array (Option Value)} {oc17 kV17 dc17 pm17 cd17 ct17 : Value} {f17 : Addr} {od18 an18 : Option Addr} {sl18 : Array (Option Value)} {oc18 kV18 dc18 pm18 cd18 ct18 : Value} {f18 : Addr} {od19 an19 : Option Addr} {sl19 : Array (Option Value)} {oc19 kV19 dc19 pm19 cd19 ct19 : Value} {f19 : Addr} {od20 an20 : Option Addr} {sl20 : Array (Option Value)} {oc20 kV20 dc20 pm20 cd20 ct20 : Value} {f20 : Addr} {od21 an21 : Option Addr} {sl21 : Array (Option Value)} {oc21 kV21 dc21 pm21 cd21 ct21 : Value} {f21 : Addr} {od22 an22 : Option Addr} {sl22 : Array (Option Value)} {oc22 kV22 dc22 pm22 cd22 ct22 : Value} {f22 : Addr} {od23 an23 : Option Addr} {sl23 : Array (Option Value)} {oc23 kV23 dc23 pm23 cd23 ct23 : Value} {f23 : Addr} {od24 an24 : Option Addr} {sl24 : Array (Option Value)} {oc24 kV24 dc24 pm24 cd24 ct24 : Value} {f24 : Addr} {od25 an25 : Option Addr} {sl25 : Array (Option Value)} {oc25 kV25 dc25 pm25 cd25 ct25 : Value} {f25 : Addr} {od26 an26 : Option Addr} {sl26 : Array (Option Value)} {oc26 kV26 dc26 pm26 cd26 ct26 : Value} {f26 : Addr} {od27 an27 : Option Addr} {sl27 : Array (Option Value)} {oc27 kV27 dc27 pm27 cd27 ct27 : Value} {f27 : Addr} {od28 an28 : Option Addr} {sl28 : Array (Option Value)} {oc28 kV28 dc28 pm28 cd28 ct28 : Value} {f28 : Addr} {od29 an29 : Option Addr} {sl29 : Array (Option Value)} {oc29 kV29 dc29 pm29 cd29 ct29 : Value} {f29 : Addr} {od30 an30 : Option Addr} {sl30 : Array (Option Value)} {oc30 kV30 dc30 pm30 cd30 ct30 : Value} {f30 : Addr}
    (a0 : PySem.W.nsIn K mainGlobals "is_number" = some (some (.ref f0))) (l0 : K.lookup f0 = some ⟨oc0, od0, .func (PySem.W.fnOf "is_number" "is_number" (defArgs s_is_number) (defBody s_is_number) (defScope s_is_number) .none kV0 dc0 pm0 an0 cd0 ct0), sl0⟩) (c0 : PySem.W.codeIn K cd0 "is_number" = true) (k0 : PySem.W.keepIn K (.ref f0) = true)
    (a1 : PySem.W.nsIn K mainGlobals "are_inputs" = some (some (.ref f1))) (l1 : K.lookup f1 = some ⟨oc1, od1, .func (PySem.W.fnOf "are_inputs" "are_inputs" (defArgs s_are_inputs) (defBody s_are_inputs) (defScope s_are_inputs) .none kV1 dc1 pm1 an1 cd1 ct1), sl1⟩) (c1 : PySem.W.codeIn K cd1 "are_inputs" = true) (k1 : PySem.W.keepIn K (.ref f1) = true)
    (a2 : PySem.W.nsIn K mainGlobals "are_links" = some (some (.ref f2))) (l2 : K.lookup f2 = some ⟨oc2, od2, .func (PySem.W.fnOf "are_links" "are_links" (defArgs s_are_links) (defBody s_are_links) (defScope s_are_links) .none kV2 dc2 pm2 an2 cd2 ct2), sl2⟩) (c2 : PySem.W.codeIn K cd2 "are_links" = true) (k2 : PySem.W.keepIn K (.ref f2) = true)
    (a3 : PySem.W.nsIn K mainGlobals "check_plain" = some (some (.ref f3))) (l3 : K.lookup f3 = some ⟨oc3, od3, .func (PySem.W.fnOf "check_plain" "check_plain" (defArgs s_check_plain) (defBody s_check_plain) (defScope s_check_plain) .none kV3 dc3 pm3 an3 cd3 ct3), sl3⟩) (c3 : PySem.W.codeIn K cd3 "check_plain" = true) (k3 : PySem.W.keepIn K (.ref f3) = true)
    (a4 : PySem.W.nsIn K mainGlobals "back_links" = some (some (.ref f4))) (l4 : K.lookup f4 = some ⟨oc4, od4, .func (PySem.W.fnOf "back_links" "back_links" (defArgs s_back_links) (defBody s_back_links) (defScope s_back_links) .none kV4 dc4 pm4 an4 cd4 ct4), sl4⟩) (c4 : PySem.W.codeIn K cd4 "back_links" = true) (k4 : PySem.W.keepIn K (.ref f4) = true)
    (a5 : PySem.W.nsIn K mainGlobals "numbered" = some (some (.ref f5))) (l5 : K.lookup f5 = some ⟨oc5, od5, .func (PySem.W.fnOf "numbered" "numbered" (defArgs s_numbered) (defBody s_numbered) (defScope s_numbered) .none kV5 dc5 pm5 an5 cd5 ct5), sl5⟩) (c5 : PySem.W.codeIn K cd5 "numbered" = true) (k5 : PySem.W.keepIn K (.ref f5) = true)
    (a6 : PySem.W.nsIn K mainGlobals "finer" = some (some (.ref f6))) (l6 : K.lookup f6 = some ⟨oc6, od6, .func (PySem.W.fnOf "finer" "finer" (defArgs s_finer) (defBody s_finer) (defScope s_finer) .none kV6 dc6 pm6 an6 cd6 ct6), sl6⟩) (c6 : PySem.W.codeIn K cd6 "finer" = true) (k6 : PySem.W.keepIn K (.ref f6) = true)
    (a7 : PySem.W.nsIn K mainGlobals "kinds" = some (some (.ref f7))) (l7 : K.lookup f7 = some ⟨oc7, od7, .func (PySem.W.fnOf "kinds" "kinds" (defArgs s_kinds) (defBody s_kinds) (defScope s_kinds) .none kV7 dc7 pm7 an7 cd7 ct7), sl7⟩) (c7 : PySem.W.codeIn K cd7 "kinds" = true) (k7 : PySem.W.keepIn K (.ref f7) = true)
    (a8 : PySem.W.nsIn K mainGlobals "first_of" = some (some (.ref f8))) (l8 : K.lookup f8 = some ⟨oc8, od8, .func (PySem.W.fnOf "first_of" "first_of" (defArgs s_first_of) (defBody s_first_of) (defScope s_first_of) .none kV8 dc8 pm8 an8 cd8 ct8), sl8⟩) (c8 : PySem.W.codeIn K cd8 "first_of" = true) (k8 : PySem.W.keepIn K (.ref f8) = true)
    (a9 : PySem.W.nsIn K mainGlobals "base_of" = some (some (.ref f9))) (l9 : K.lookup f9 = some ⟨oc9, od9, .func (PySem.W.fnOf "base_of" "base_of" (defArgs s_base_of) (defBody s_base_of) (defScope s_base_of) .none kV9 dc9 pm9 an9 cd9 ct9), sl9⟩) (c9 : PySem.W.codeIn K cd9 "base_of" = true) (k9 : PySem.W.keepIn K (.ref f9) = true)
    (a10 : PySem.W.nsIn K mainGlobals "_law_draws" = some (some (.ref f10))) (l10 : K.lookup f10 = some ⟨oc10, od10, .func (PySem.W.fnOf "_law_draws" "_law_draws" (defArgs s_law_draws) (defBody s_law_draws) (defScope s_law_draws) .none kV10 dc10 pm10 an10 cd10 ct10), sl10⟩) (c10 : PySem.W.codeIn K cd10 "_law_draws" = true) (k10 : PySem.W.keepIn K (.ref f10) = true)
    (a11 : PySem.W.nsIn K mainGlobals "_law_take" = some (some (.ref f11))) (l11 : K.lookup f11 = some ⟨oc11, od11, .func (PySem.W.fnOf "_law_take" "_law_take" (defArgs s_law_take) (defBody s_law_take) (defScope s_law_take) .none kV11 dc11 pm11 an11 cd11 ct11), sl11⟩) (c11 : PySem.W.codeIn K cd11 "_law_take" = true) (k11 : PySem.W.keepIn K (.ref f11) = true)
    (a12 : PySem.W.nsIn K mainGlobals "_law_whole" = some (some (.ref f12))) (l12 : K.lookup f12 = some ⟨oc12, od12, .func (PySem.W.fnOf "_law_whole" "_law_whole" (defArgs s_law_whole) (defBody s_law_whole) (defScope s_law_whole) .none kV12 dc12 pm12 an12 cd12 ct12), sl12⟩) (c12 : PySem.W.codeIn K cd12 "_law_whole" = true) (k12 : PySem.W.keepIn K (.ref f12) = true)
    (a13 : PySem.W.nsIn K mainGlobals "_law_like" = some (some (.ref f13))) (l13 : K.lookup f13 = some ⟨oc13, od13, .func (PySem.W.fnOf "_law_like" "_law_like" (defArgs s_law_like) (defBody s_law_like) (defScope s_law_like) .none kV13 dc13 pm13 an13 cd13 ct13), sl13⟩) (c13 : PySem.W.codeIn K cd13 "_law_like" = true) (k13 : PySem.W.keepIn K (.ref f13) = true)
    (a14 : PySem.W.nsIn K mainGlobals "_law_order" = some (some (.ref f14))) (l14 : K.lookup f14 = some ⟨oc14, od14, .func (PySem.W.fnOf "_law_order" "_law_order" (defArgs s_law_order) (defBody s_law_order) (defScope s_law_order) .none kV14 dc14 pm14 an14 cd14 ct14), sl14⟩) (c14 : PySem.W.codeIn K cd14 "_law_order" = true) (k14 : PySem.W.keepIn K (.ref f14) = true)
    (a15 : PySem.W.nsIn K mainGlobals "_law_network" = some (some (.ref f15))) (l15 : K.lookup f15 = some ⟨oc15, od15, .func (PySem.W.fnOf "_law_network" "_law_network" (defArgs s_law_network) (defBody s_law_network) (defScope s_law_network) .none kV15 dc15 pm15 an15 cd15 ct15), sl15⟩) (c15 : PySem.W.codeIn K cd15 "_law_network" = true) (k15 : PySem.W.keepIn K (.ref f15) = true)
    (a16 : PySem.W.nsIn K mainGlobals "_law_wrong_network" = some (some (.ref f16))) (l16 : K.lookup f16 = some ⟨oc16, od16, .func (PySem.W.fnOf "_law_wrong_network" "_law_wrong_network" (defArgs s_law_wrong_network) (defBody s_law_wrong_network) (defScope s_law_wrong_network) .none kV16 dc16 pm16 an16 cd16 ct16), sl16⟩) (c16 : PySem.W.codeIn K cd16 "_law_wrong_network" = true) (k16 : PySem.W.keepIn K (.ref f16) = true)
    (a17 : PySem.W.nsIn K mainGlobals "_law_behind" = some (some (.ref f17))) (l17 : K.lookup f17 = some ⟨oc17, od17, .func (PySem.W.fnOf "_law_behind" "_law_behind" (defArgs s_law_behind) (defBody s_law_behind) (defScope s_law_behind) .none kV17 dc17 pm17 an17 cd17 ct17), sl17⟩) (c17 : PySem.W.codeIn K cd17 "_law_behind" = true) (k17 : PySem.W.keepIn K (.ref f17) = true)
    (a18 : PySem.W.nsIn K mainGlobals "_law_branch" = some (some (.ref f18))) (l18 : K.lookup f18 = some ⟨oc18, od18, .func (PySem.W.fnOf "_law_branch" "_law_branch" (defArgs s_law_branch) (defBody s_law_branch) (defScope s_law_branch) .none kV18 dc18 pm18 an18 cd18 ct18), sl18⟩) (c18 : PySem.W.codeIn K cd18 "_law_branch" = true) (k18 : PySem.W.keepIn K (.ref f18) = true)
    (a19 : PySem.W.nsIn K mainGlobals "_law_kinds" = some (some (.ref f19))) (l19 : K.lookup f19 = some ⟨oc19, od19, .func (PySem.W.fnOf "_law_kinds" "_law_kinds" (defArgs s_law_kinds) (defBody s_law_kinds) (defScope s_law_kinds) .none kV19 dc19 pm19 an19 cd19 ct19), sl19⟩) (c19 : PySem.W.codeIn K cd19 "_law_kinds" = true) (k19 : PySem.W.keepIn K (.ref f19) = true)
    (a20 : PySem.W.nsIn K mainGlobals "_law_counted" = some (some (.ref f20))) (l20 : K.lookup f20 = some ⟨oc20, od20, .func (PySem.W.fnOf "_law_counted" "_law_counted" (defArgs s_law_counted) (defBody s_law_counted) (defScope s_law_counted) .none kV20 dc20 pm20 an20 cd20 ct20), sl20⟩) (c20 : PySem.W.codeIn K cd20 "_law_counted" = true) (k20 : PySem.W.keepIn K (.ref f20) = true)
    (a21 : PySem.W.nsIn K mainGlobals "_law_base" = some (some (.ref f21))) (l21 : K.lookup f21 = some ⟨oc21, od21, .func (PySem.W.fnOf "_law_base" "_law_base" (defArgs s_law_base) (defBody s_law_base) (defScope s_law_base) .none kV21 dc21 pm21 an21 cd21 ct21), sl21⟩) (c21 : PySem.W.codeIn K cd21 "_law_base" = true) (k21 : PySem.W.keepIn K (.ref f21) = true)
    (a22 : PySem.W.nsIn K mainGlobals "_law_cover" = some (some (.ref f22))) (l22 : K.lookup f22 = some ⟨oc22, od22, .func (PySem.W.fnOf "_law_cover" "_law_cover" (defArgs s_law_cover) (defBody s_law_cover) (defScope s_law_cover) .none kV22 dc22 pm22 an22 cd22 ct22), sl22⟩) (c22 : PySem.W.codeIn K cd22 "_law_cover" = true) (k22 : PySem.W.keepIn K (.ref f22) = true)
    (a23 : PySem.W.nsIn K mainGlobals "_law_turns" = some (some (.ref f23))) (l23 : K.lookup f23 = some ⟨oc23, od23, .func (PySem.W.fnOf "_law_turns" "_law_turns" (defArgs s_law_turns) (defBody s_law_turns) (defScope s_law_turns) .none kV23 dc23 pm23 an23 cd23 ct23), sl23⟩) (c23 : PySem.W.codeIn K cd23 "_law_turns" = true) (k23 : PySem.W.keepIn K (.ref f23) = true)
    (a24 : PySem.W.nsIn K mainGlobals "_law_mixed_up" = some (some (.ref f24))) (l24 : K.lookup f24 = some ⟨oc24, od24, .func (PySem.W.fnOf "_law_mixed_up" "_law_mixed_up" (defArgs s_law_mixed_up) (defBody s_law_mixed_up) (defScope s_law_mixed_up) .none kV24 dc24 pm24 an24 cd24 ct24), sl24⟩) (c24 : PySem.W.codeIn K cd24 "_law_mixed_up" = true) (k24 : PySem.W.keepIn K (.ref f24) = true)
    (a25 : PySem.W.nsIn K mainGlobals "_law_copies" = some (some (.ref f25))) (l25 : K.lookup f25 = some ⟨oc25, od25, .func (PySem.W.fnOf "_law_copies" "_law_copies" (defArgs s_law_copies) (defBody s_law_copies) (defScope s_law_copies) .none kV25 dc25 pm25 an25 cd25 ct25), sl25⟩) (c25 : PySem.W.codeIn K cd25 "_law_copies" = true) (k25 : PySem.W.keepIn K (.ref f25) = true)
    (a26 : PySem.W.nsIn K mainGlobals "_law_refused" = some (some (.ref f26))) (l26 : K.lookup f26 = some ⟨oc26, od26, .func (PySem.W.fnOf "_law_refused" "_law_refused" (defArgs s_law_refused) (defBody s_law_refused) (defScope s_law_refused) .none kV26 dc26 pm26 an26 cd26 ct26), sl26⟩) (c26 : PySem.W.codeIn K cd26 "_law_refused" = true) (k26 : PySem.W.keepIn K (.ref f26) = true)
    (a27 : PySem.W.nsIn K mainGlobals "_law_alike_views" = some (some (.ref f27))) (l27 : K.lookup f27 = some ⟨oc27, od27, .func (PySem.W.fnOf "_law_alike_views" "_law_alike_views" (defArgs s_law_alike_views) (defBody s_law_alike_views) (defScope s_law_alike_views) .none kV27 dc27 pm27 an27 cd27 ct27), sl27⟩) (c27 : PySem.W.codeIn K cd27 "_law_alike_views" = true) (k27 : PySem.W.keepIn K (.ref f27) = true)
    (a28 : PySem.W.nsIn K mainGlobals "_law_right" = some (some (.ref f28))) (l28 : K.lookup f28 = some ⟨oc28, od28, .func (PySem.W.fnOf "_law_right" "_law_right" (defArgs s_law_right) (defBody s_law_right) (defScope s_law_right) .none kV28 dc28 pm28 an28 cd28 ct28), sl28⟩) (c28 : PySem.W.codeIn K cd28 "_law_right" = true) (k28 : PySem.W.keepIn K (.ref f28) = true)
    (a29 : PySem.W.nsIn K mainGlobals "_law_asked" = some (some (.ref f29))) (l29 : K.lookup f29 = some ⟨oc29, od29, .func (PySem.W.fnOf "_law_asked" "_law_asked" (defArgs s_law_asked) (defBody s_law_asked) (defScope s_law_asked) .none kV29 dc29 pm29 an29 cd29 ct29), sl29⟩) (c29 : PySem.W.codeIn K cd29 "_law_asked" = true) (k29 : PySem.W.keepIn K (.ref f29) = true)
    (a30 : PySem.W.nsIn K mainGlobals "law" = some (some (.ref f30))) (l30 : K.lookup f30 = some ⟨oc30, od30, .func (PySem.W.fnOf "law" "law" (defArgs s_law) (defBody s_law) (defScope s_law) .none kV30 dc30 pm30 an30 cd30 ct30), sl30⟩) (c30 : PySem.W.codeIn K cd30 "law" = true) (k30 : PySem.W.keepIn K (.ref f30) = true)
    {CLookError : Addr} (gLookError : PySem.W.nsIn K mainGlobals "LookError" = some (some (.ref CLookError)))
    (xLookError : PySem.W.excIn K CLookError [.type "ValueError", .type "Exception", .type "BaseException", .type "object"] "ValueError.__new__" = true) (kkLookError : PySem.W.keepIn K (.ref CLookError) = true) (bLookError : PySem.W.subIn K (.ref CLookError) (.type "BaseException") = some true) (tLookError : PySem.W.typeIn K (.ref CLookError) = some (.type "type")) (iLookError : PySem.W.isClsIn K CLookError = true)
    {CBadNetwork : Addr} (gBadNetwork : PySem.W.nsIn K mainGlobals "BadNetwork" = some (some (.ref CBadNetwork)))
    (xBadNetwork : PySem.W.excIn K CBadNetwork [.type "ValueError", .type "Exception", .type "BaseException", .type "object"] "ValueError.__new__" = true) (kkBadNetwork : PySem.W.keepIn K (.ref CBadNetwork) = true) (bBadNetwork : PySem.W.subIn K (.ref CBadNetwork) (.type "BaseException") = some true) (tBadNetwork : PySem.W.typeIn K (.ref CBadNetwork) = some (.type "type")) (iBadNetwork : PySem.W.isClsIn K CBadNetwork = true)
    (sBadNetwork_BadNetwork : PySem.W.subIn K (.ref CBadNetwork) (.ref CBadNetwork) = some true)
    (sBadNetwork_LookError : PySem.W.subIn K (.ref CBadNetwork) (.ref CLookError) = some true)
    (sLookError_BadNetwork : PySem.W.subIn K (.ref CLookError) (.ref CBadNetwork) = some false)
    (sLookError_LookError : PySem.W.subIn K (.ref CLookError) (.ref CLookError) = some true)
    (z_abs : PySem.W.nsIn K mainGlobals "abs" = some none)
    (z_all : PySem.W.nsIn K mainGlobals "all" = some none)
    (z_bool : PySem.W.nsIn K mainGlobals "bool" = some none)
    (z_enumerate : PySem.W.nsIn K mainGlobals "enumerate" = some none)
    (z_int : PySem.W.nsIn K mainGlobals "int" = some none)
    (z_isinstance : PySem.W.nsIn K mainGlobals "isinstance" = some none)
    (z_len : PySem.W.nsIn K mainGlobals "len" = some none)
    (z_list : PySem.W.nsIn K mainGlobals "list" = some none)
    (z_max : PySem.W.nsIn K mainGlobals "max" = some none)
    (z_range : PySem.W.nsIn K mainGlobals "range" = some none)
    (z_str : PySem.W.nsIn K mainGlobals "str" = some none)
    (z_sum : PySem.W.nsIn K mainGlobals "sum" = some none)
    (z_tuple : PySem.W.nsIn K mainGlobals "tuple" = some none)
    {tk_MOST_INPUTS : Tok} (m_MOST_INPUTS : PySem.W.nsIn K mainGlobals "MOST_INPUTS" = some (some (.int 4 tk_MOST_INPUTS)))
    {tk_MOST_NODES : Tok} (m_MOST_NODES : PySem.W.nsIn K mainGlobals "MOST_NODES" = some (some (.int 400 tk_MOST_NODES)))
    (nol : noList K = true) :
    ∃ fd : FuncData, (∀ (s : Shared) (v : Value), BindsTo s fd ⟨[v], []⟩ [("script", v)]) ∧ ∀ base : Heap, K.In base → base.Ns mainGlobals mg → Fn3 l.prog w K mg base 11 fa fd ["script"] (spLaw3 63) := by
  have e := hfa.symm.trans (PySem.W.mg_of X GG a30)
  cases e
  let G : Gm := ⟨K, CLookError, CBadNetwork⟩
  have T : Txt G mg := {
    nol := nol
    n_abs := PySem.W.mg_none_of X GG z_abs
    n_all := PySem.W.mg_none_of X GG z_all
    n_bool := PySem.W.mg_none_of X GG z_bool
    n_enumerate := PySem.W.mg_none_of X GG z_enumerate
    n_int := PySem.W.mg_none_of X GG z_int
    n_isinstance := PySem.W.mg_none_of X GG z_isinstance
    n_len := PySem.W.mg_none_of X GG z_len
    n_list := PySem.W.mg_none_of X GG z_list
    n_max := PySem.W.mg_none_of X GG z_max
    n_range := PySem.W.mg_none_of X GG z_range
    n_str := PySem.W.mg_none_of X GG z_str
    n_sum := PySem.W.mg_none_of X GG z_sum
    n_tuple := PySem.W.mg_none_of X GG z_tuple
    c_MOST_INPUTS := ⟨_, PySem.W.mg_of X GG m_MOST_INPUTS, ⟨_, rfl⟩⟩
    c_MOST_NODES := ⟨_, PySem.W.mg_of X GG m_MOST_NODES, ⟨_, rfl⟩⟩
    x_LookError := ⟨PySem.W.mg_of X GG gLookError, xLookError, kkLookError, bLookError, tLookError⟩
    x_BadNetwork := ⟨PySem.W.mg_of X GG gBadNetwork, xBadNetwork, kkBadNetwork, bBadNetwork, tBadNetwork⟩
    e_BadNetwork_BadNetwork := exm_of bBadNetwork iBadNetwork tBadNetwork sBadNetwork_BadNetwork
    e_BadNetwork_LookError := exm_of bLookError iLookError tLookError sBadNetwork_LookError
    e_LookError_BadNetwork := exm_of bBadNetwork iBadNetwork tBadNetwork sLookError_BadNetwork
    e_LookError_LookError := exm_of bLookError iLookError tLookError sLookError_LookError
  }
  have F0 := fun_mk (st := s_is_number) l0 c0 k0
  have b0 := F0.binds (ps := ["value", "least", "most"]) fun _ _ _ _ _ _ us hl => match us, hl with | [_, _, _], _ => rfl
  have F1 := fun_mk (st := s_are_inputs) l1 c1 k1
  have b1 := F1.binds (ps := ["inputs", "many", "bound"]) fun _ _ _ _ _ _ us hl => match us, hl with | [_, _, _], _ => rfl
  have F2 := fun_mk (st := s_are_links) l2 c2 k2
  have b2 := F2.binds (ps := ["links", "many"]) fun _ _ _ _ _ _ us hl => match us, hl with | [_, _], _ => rfl
  have F3 := fun_mk (st := s_check_plain) l3 c3 k3
  have b3 := F3.binds (ps := ["network"]) fun _ _ _ _ _ _ us hl => match us, hl with | [_], _ => rfl
  have F4 := fun_mk (st := s_back_links) l4 c4 k4
  have b4 := F4.binds (ps := ["network"]) fun _ _ _ _ _ _ us hl => match us, hl with | [_], _ => rfl
  have F5 := fun_mk (st := s_numbered) l5 c5 k5
  have b5 := F5.binds (ps := ["marks"]) fun _ _ _ _ _ _ us hl => match us, hl with | [_], _ => rfl
  have F6 := fun_mk (st := s_finer) l6 c6 k6
  have b6 := F6.binds (ps := ["own", "other", "links"]) fun _ _ _ _ _ _ us hl => match us, hl with | [_, _, _], _ => rfl
  have F7 := fun_mk (st := s_kinds) l7 c7 k7
  have b7 := F7.binds (ps := ["network"]) fun _ _ _ _ _ _ us hl => match us, hl with | [_], _ => rfl
  have K_kinds : BindsK G.K _ ["network"] := .all (fd := PySem.W.fnOf "kinds" "kinds" (defArgs s_kinds) (defBody s_kinds) (defScope s_kinds) .none kV7 dc7 pm7 an7 cd7 ct7) fun us hl => match us, hl with | [_], _ => by first | rfl | with_unfolding_all rfl
  have F8 := fun_mk (st := s_first_of) l8 c8 k8
  have b8 := F8.binds (ps := ["numbers"]) fun _ _ _ _ _ _ us hl => match us, hl with | [_], _ => rfl
  have F9 := fun_mk (st := s_base_of) l9 c9 k9
  have b9 := F9.binds (ps := ["network"]) fun _ _ _ _ _ _ us hl => match us, hl with | [_], _ => rfl
  have K_base_of : BindsK G.K _ ["network"] := .all (fd := PySem.W.fnOf "base_of" "base_of" (defArgs s_base_of) (defBody s_base_of) (defScope s_base_of) .none kV9 dc9 pm9 an9 cd9 ct9) fun us hl => match us, hl with | [_], _ => by first | rfl | with_unfolding_all rfl
  have F10 := fun_mk (st := s_law_draws) l10 c10 k10
  have b10 := F10.binds (ps := ["script", "many"]) fun _ _ _ _ _ _ us hl => match us, hl with | [_, _], _ => rfl
  have F11 := fun_mk (st := s_law_take) l11 c11 k11
  have b11 := F11.binds (ps := ["hand", "many"]) fun _ _ _ _ _ _ us hl => match us, hl with | [_, _], _ => rfl
  have F12 := fun_mk (st := s_law_whole) l12 c12 k12
  have b12 := F12.binds (ps := ["found"]) fun _ _ _ _ _ _ us hl => match us, hl with | [_], _ => rfl
  have F13 := fun_mk (st := s_law_like) l13 c13 k13
  have b13 := F13.binds (ps := ["found", "due"]) fun _ _ _ _ _ _ us hl => match us, hl with | [_, _], _ => rfl
  have F14 := fun_mk (st := s_law_order) l14 c14 k14
  have b14 := F14.binds (ps := ["hand", "many"]) fun _ _ _ _ _ _ us hl => match us, hl with | [_, _], _ => rfl
  have F15 := fun_mk (st := s_law_network) l15 c15 k15
  have b15 := F15.binds (ps := ["hand", "colours", "many", "p", "q"]) fun _ _ _ _ _ _ us hl => match us, hl with | [_, _, _, _, _], _ => rfl
  have F16 := fun_mk (st := s_law_wrong_network) l16 c16 k16
  have b16 := F16.binds (ps := ["hand", "network"]) fun _ _ _ _ _ _ us hl => match us, hl with | [_, _], _ => rfl
  have F17 := fun_mk (st := s_law_behind) l17 c17 k17
  have b17 := F17.binds (ps := ["network", "side", "node", "colour"]) fun _ _ _ _ _ _ us hl => match us, hl with | [_, _, _, _], _ => rfl
  have F18 := fun_mk (st := s_law_branch) l18 c18 k18
  have b18 := F18.binds (ps := ["network", "side", "node", "reach", "colour"]) fun _ _ _ _ _ _ us hl => match us, hl with | [_, _, _, _, _], _ => rfl
  have F19 := fun_mk (st := s_law_kinds) l19 c19 k19
  have b19 := F19.binds (ps := ["network"]) fun _ _ _ _ _ _ us hl => match us, hl with | [_], _ => rfl
  have F20 := fun_mk (st := s_law_counted) l20 c20 k20
  have b20 := F20.binds (ps := ["marks"]) fun _ _ _ _ _ _ us hl => match us, hl with | [_], _ => rfl
  have F21 := fun_mk (st := s_law_base) l21 c21 k21
  have b21 := F21.binds (ps := ["network"]) fun _ _ _ _ _ _ us hl => match us, hl with | [_], _ => rfl
  have F22 := fun_mk (st := s_law_cover) l22 c22 k22
  have b22 := F22.binds (ps := ["network", "turns"]) fun _ _ _ _ _ _ us hl => match us, hl with | [_, _], _ => rfl
  have F23 := fun_mk (st := s_law_turns) l23 c23 k23
  have b23 := F23.binds (ps := ["hand", "network", "copies"]) fun _ _ _ _ _ _ us hl => match us, hl with | [_, _, _], _ => rfl
  have F24 := fun_mk (st := s_law_mixed_up) l24 c24 k24
  have b24 := F24.binds (ps := ["hand", "network"]) fun _ _ _ _ _ _ us hl => match us, hl with | [_, _], _ => rfl
  have F25 := fun_mk (st := s_law_copies) l25 c25 k25
  have b25 := F25.binds (ps := ["hand", "colours", "p", "q", "most"]) fun _ _ _ _ _ _ us hl => match us, hl with | [_, _, _, _, _], _ => rfl
  have F26 := fun_mk (st := s_law_refused) l26 c26 k26
  have b26 := F26.binds (ps := ["network", "first"]) fun _ _ _ _ _ _ us hl => match us, hl with | [_, _], _ => rfl
  have F27 := fun_mk (st := s_law_alike_views) l27 c27 k27
  have b27 := F27.binds (ps := ["network", "numbers"]) fun _ _ _ _ _ _ us hl => match us, hl with | [_, _], _ => rfl
  have F28 := fun_mk (st := s_law_right) l28 c28 k28
  have b28 := F28.binds (ps := ["network"]) fun _ _ _ _ _ _ us hl => match us, hl with | [_], _ => rfl
  have F29 := fun_mk (st := s_law_asked) l29 c29 k29
  have b29 := F29.binds (ps := ["script"]) fun _ _ _ _ _ _ us hl => match us, hl with | [_], _ => rfl
  have F30 := fun_mk (st := s_law) l30 c30 k30
  have b30 := F30.binds (ps := ["script"]) fun _ _ _ _ _ _ us hl => match us, hl with | [_], _ => rfl
  refine ⟨PySem.W.fnOf "law" "law" (defArgs s_law) (defBody s_law) (defScope s_law) .none kV30 dc30 pm30 an30 cd30 ct30, fun s v => .of_eq rfl, fun base _ _ => ?_⟩
  have G_is_number : Fn3 l.prog w G.K mg base 1 _ _ ["value", "least", "most"] (sp_is_number G) := fn_is_number T  F0
  have C_is_number : Cal l.prog w G.K mg base 1 _ _ "is_number" ["value", "least", "most"] (sp_is_number G) := ⟨G_is_number, PySem.W.mg_of X GG a0, k0, b0⟩
  have G_back_links : Fn3 l.prog w G.K mg base 1 _ _ ["network"] (sp_back_links G) := fn_back_links T  F4
  have C_back_links : Cal l.prog w G.K mg base 1 _ _ "back_links" ["network"] (sp_back_links G) := ⟨G_back_links, PySem.W.mg_of X GG a4, k4, b4⟩
  have G_numbered : Fn3 l.prog w G.K mg base 1 _ _ ["marks"] (sp_numbered G) := fn_numbered T  F5
  have C_numbered : Cal l.prog w G.K mg base 1 _ _ "numbered" ["marks"] (sp_numbered G) := ⟨G_numbered, PySem.W.mg_of X GG a5, k5, b5⟩
  have G_first_of : Fn3 l.prog w G.K mg base 1 _ _ ["numbers"] (sp_first_of G) := fn_first_of T  F8
  have C_first_of : Cal l.prog w G.K mg base 1 _ _ "first_of" ["numbers"] (sp_first_of G) := ⟨G_first_of, PySem.W.mg_of X GG a8, k8, b8⟩
  have G_law_draws : Fn3 l.prog w G.K mg base 1 _ _ ["script", "many"] (sp_law_draws G) := fn_law_draws T  F10
  have C_law_draws : Cal l.prog w G.K mg base 1 _ _ "_law_draws" ["script", "many"] (sp_law_draws G) := ⟨G_law_draws, PySem.W.mg_of X GG a10, k10, b10⟩
  have G_law_take : Fn3 l.prog w G.K mg base 1 _ _ ["hand", "many"] (sp_law_take G) := fn_law_take T  F11
  have C_law_take : Cal l.prog w G.K mg base 1 _ _ "_law_take" ["hand", "many"] (sp_law_take G) := ⟨G_law_take, PySem.W.mg_of X GG a11, k11, b11⟩
  have G_law_whole : Fn3 l.prog w G.K mg base 1 _ _ ["found"] (sp_law_whole G) := fn_law_whole T  F12
  have C_law_whole : Cal l.prog w G.K mg base 1 _ _ "_law_whole" ["found"] (sp_law_whole G) := ⟨G_law_whole, PySem.W.mg_of X GG a12, k12, b12⟩
  have G_law_behind : Fn3 l.prog w G.K mg base 1 _ _ ["network", "side", "node", "colour"] (sp_law_behind G) := fn_law_behind T  F17
  have C_law_behind : Cal l.prog w G.K mg base 1 _ _ "_law_behind" ["network", "side", "node", "colour"] (sp_law_behind G) := ⟨G_law_behind, PySem.W.mg_of X GG a17, k17, b17⟩
  have G_law_counted : Fn3 l.prog w G.K mg base 1 _ _ ["marks"] (sp_law_counted G) := fn_law_counted T  F20
  have C_law_counted : Cal l.prog w G.K mg base 1 _ _ "_law_counted" ["marks"] (sp_law_counted G) := ⟨G_law_counted, PySem.W.mg_of X GG a20, k20, b20⟩
  have G_law_cover : Fn3 l.prog w G.K mg base 1 _ _ ["network", "turns"] (sp_law_cover G) := fn_law_cover T  F22
  have C_law_cover : Cal l.prog w G.K mg base 1 _ _ "_law_cover" ["network", "turns"] (sp_law_cover G) := ⟨G_law_cover, PySem.W.mg_of X GG a22, k22, b22⟩
  have G_are_inputs : Fn3 l.prog w G.K mg base 2 _ _ ["inputs", "many", "bound"] (sp_are_inputs G) := fn_are_inputs T C_is_number F1
  have C_are_inputs : Cal l.prog w G.K mg base 2 _ _ "are_inputs" ["inputs", "many", "bound"] (sp_are_inputs G) := ⟨G_are_inputs, PySem.W.mg_of X GG a1, k1, b1⟩
  have G_are_links : Fn3 l.prog w G.K mg base 2 _ _ ["links", "many"] (sp_are_links G) := fn_are_links T C_is_number F2
  have C_are_links : Cal l.prog w G.K mg base 2 _ _ "are_links" ["links", "many"] (sp_are_links G) := ⟨G_are_links, PySem.W.mg_of X GG a2, k2, b2⟩
  have G_finer : Fn3 l.prog w G.K mg base 2 _ _ ["own", "other", "links"] (sp_finer G) := fn_finer T C_numbered F6
  have C_finer : Cal l.prog w G.K mg base 2 _ _ "finer" ["own", "other", "links"] (sp_finer G) := ⟨G_finer, PySem.W.mg_of X GG a6, k6, b6⟩
  have G_law_order : Fn3 l.prog w G.K mg base 2 _ _ ["hand", "many"] (sp_law_order G) := fn_law_order T C_law_take F14
  have C_law_order : Cal l.prog w G.K mg base 2 _ _ "_law_order" ["hand", "many"] (sp_law_order G) := ⟨G_law_order, PySem.W.mg_of X GG a14, k14, b14⟩
  have G_law_wrong_network : Fn3 l.prog w G.K mg base 2 _ _ ["hand", "network"] (sp_law_wrong_network G) := fn_law_wrong_network T C_law_take F16
  have C_law_wrong_network : Cal l.prog w G.K mg base 2 _ _ "_law_wrong_network" ["hand", "network"] (sp_law_wrong_network G) := ⟨G_law_wrong_network, PySem.W.mg_of X GG a16, k16, b16⟩
  have G_law_kinds : Fn3 l.prog w G.K mg base 2 _ _ ["network"] (sp_law_kinds G) := fn_law_kinds T C_law_counted C_law_behind F19
  have C_law_kinds : Cal l.prog w G.K mg base 2 _ _ "_law_kinds" ["network"] (sp_law_kinds G) := ⟨G_law_kinds, PySem.W.mg_of X GG a19, k19, b19⟩
  have G_check_plain : Fn3 l.prog w G.K mg base 3 _ _ ["network"] (sp_check_plain G) := fn_check_plain T C_is_number C_are_links C_are_inputs F3
  have C_check_plain : Cal l.prog w G.K mg base 3 _ _ "check_plain" ["network"] (sp_check_plain G) := ⟨G_check_plain, PySem.W.mg_of X GG a3, k3, b3⟩
  have G_law_network : Fn3 l.prog w G.K mg base 3 _ _ ["hand", "colours", "many", "p", "q"] (sp_law_network G) := fn_law_network T C_law_order C_law_take F15
  have C_law_network : Cal l.prog w G.K mg base 3 _ _ "_law_network" ["hand", "colours", "many", "p", "q"] (sp_law_network G) := ⟨G_law_network, PySem.W.mg_of X GG a15, k15, b15⟩
  have G_law_base : Fn3 l.prog w G.K mg base 3 _ _ ["network"] (sp_law_base G) := fn_law_base T C_law_kinds F21
  have C_law_base : Cal l.prog w G.K mg base 3 _ _ "_law_base" ["network"] (sp_law_base G) := ⟨G_law_base, PySem.W.mg_of X GG a21, k21, b21⟩
  have G_law_turns : Fn3 l.prog w G.K mg base 3 _ _ ["hand", "network", "copies"] (sp_law_turns G) := fn_law_turns T C_law_order F23
  have C_law_turns : Cal l.prog w G.K mg base 3 _ _ "_law_turns" ["hand", "network", "copies"] (sp_law_turns G) := ⟨G_law_turns, PySem.W.mg_of X GG a23, k23, b23⟩
  have G_law_mixed_up : Fn3 l.prog w G.K mg base 3 _ _ ["hand", "network"] (sp_law_mixed_up G) := fn_law_mixed_up T C_law_order F24
  have C_law_mixed_up : Cal l.prog w G.K mg base 3 _ _ "_law_mixed_up" ["hand", "network"] (sp_law_mixed_up G) := ⟨G_law_mixed_up, PySem.W.mg_of X GG a24, k24, b24⟩
  have G_kinds : Fn3 l.prog w G.K mg base 4 _ _ ["network"] (sp_kinds G) := fn_kinds T C_check_plain C_back_links C_numbered C_finer F7
  have C_kinds : Cal l.prog w G.K mg base 4 _ _ "kinds" ["network"] (sp_kinds G) := ⟨G_kinds, PySem.W.mg_of X GG a7, k7, b7⟩
  have G_law_copies : Fn3 l.prog w G.K mg base 4 _ _ ["hand", "colours", "p", "q", "most"] (sp_law_copies G) := fn_law_copies T C_law_network C_law_take C_law_mixed_up C_law_cover C_law_turns F25
  have C_law_copies : Cal l.prog w G.K mg base 4 _ _ "_law_copies" ["hand", "colours", "p", "q", "most"] (sp_law_copies G) := ⟨G_law_copies, PySem.W.mg_of X GG a25, k25, b25⟩
  have G_base_of : Fn3 l.prog w G.K mg base 5 _ _ ["network"] (sp_base_of G) := fn_base_of T C_kinds C_first_of F9
  have C_base_of : Cal l.prog w G.K mg base 5 _ _ "base_of" ["network"] (sp_base_of G) := ⟨G_base_of, PySem.W.mg_of X GG a9, k9, b9⟩
  have G_law_refused : Fn3 l.prog w G.K mg base 6 _ _ ["network", "first"] (sp_law_refused G) := fn_law_refused T C_kinds C_base_of F26
  have C_law_refused : Cal l.prog w G.K mg base 6 _ _ "_law_refused" ["network", "first"] (sp_law_refused G) := ⟨G_law_refused, PySem.W.mg_of X GG a26, k26, b26⟩
  have G_law_like : Fn3 l.prog w G.K mg base 7 _ _ ["found", "due"] (sp_law_like G) := fn_law_like T C_law_whole F13 (PySem.W.mg_of X GG a13) k13 b13
  have C_law_like : Cal l.prog w G.K mg base 7 _ _ "_law_like" ["found", "due"] (sp_law_like G) := ⟨G_law_like, PySem.W.mg_of X GG a13, k13, b13⟩
  have G_law_branch : Fn3 l.prog w G.K mg base 7 _ _ ["network", "side", "node", "reach", "colour"] (sp_law_branch G) := fn_law_branch T C_law_behind F18 (PySem.W.mg_of X GG a18) k18 b18
  have C_law_branch : Cal l.prog w G.K mg base 7 _ _ "_law_branch" ["network", "side", "node", "reach", "colour"] (sp_law_branch G) := ⟨G_law_branch, PySem.W.mg_of X GG a18, k18, b18⟩
  have G_law_alike_views : Fn3 l.prog w G.K mg base 8 _ _ ["network", "numbers"] (sp_law_alike_views G) := fn_law_alike_views T C_law_branch F27
  have C_law_alike_views : Cal l.prog w G.K mg base 8 _ _ "_law_alike_views" ["network", "numbers"] (sp_law_alike_views G) := ⟨G_law_alike_views, PySem.W.mg_of X GG a27, k27, b27⟩
  have G_law_right : Fn3 l.prog w G.K mg base 9 _ _ ["network"] (sp_law_right G) := fn_law_right T C_law_kinds C_law_alike_views C_law_like C_kinds C_law_base C_base_of F28
  have C_law_right : Cal l.prog w G.K mg base 9 _ _ "_law_right" ["network"] (sp_law_right G) := ⟨G_law_right, PySem.W.mg_of X GG a28, k28, b28⟩
  have G_law_asked : Fn3 l.prog w G.K mg base 10 _ _ ["script"] (sp_law_asked G) := fn_law_asked T C_law_draws C_law_take C_law_copies C_law_network C_law_right C_law_wrong_network C_law_refused C_law_like C_kinds K_kinds C_law_kinds C_base_of K_base_of C_law_base F29
  have C_law_asked : Cal l.prog w G.K mg base 10 _ _ "_law_asked" ["script"] (sp_law_asked G) := ⟨G_law_asked, PySem.W.mg_of X GG a29, k29, b29⟩
  have G_law : Fn3 l.prog w G.K mg base 11 _ _ ["script"] (sp_law G) := fn_law T C_law_asked F30
  exact G_law
end My
open PySem PySem.W PyProof.Rows
set_option maxRecDepth 100000 in
set_option maxHeartbeats 0 in
theorem PySem.Challenge.cw_looksfar_k35_kinds_holds : PySem.Challenge.rw_looksfar_k35_kinds.Holds := by
  w_on; o_law; k_head; (case hw => w_witness2)
  k_fill
  refine L3.walk3 (l := PySem.Challenge.rw_looksfar_k35_kinds) (n := 63) (k := 11) rfl (by decide) rfl ⟨⟨rfl, by decide, by decide⟩, rfl⟩ (fun w h Y => PySem.W.kIn_of Y) ?hnoL ?hFF
  case hnoL => intro w; first | rfl | decide +kernel | k_is
  case hFF =>
    intro w mg fa h KX G hmg
    refine' My.all_mk KX G hmg ?a0 ?l0 ?c0 ?k0 ?a1 ?l1 ?c1 ?k1 ?a2 ?l2 ?c2 ?k2 ?a3 ?l3 ?c3 ?k3 ?a4 ?l4 ?c4 ?k4 ?a5 ?l5 ?c5 ?k5 ?a6 ?l6 ?c6 ?k6 ?a7 ?l7 ?c7 ?k7 ?a8 ?l8 ?c8 ?k8 ?a9 ?l9 ?c9 ?k9 ?a10 ?l10 ?c10 ?k10 ?a11 ?l11 ?c11 ?k11 ?a12 ?l12 ?c12 ?k12 ?a13 ?l13 ?c13 ?k13 ?a14 ?l14 ?c14 ?k14 ?a15 ?l15 ?c15 ?k15 ?a16 ?l16 ?c16 ?k16 ?a17 ?l17 ?c17 ?k17 ?a18 ?l18 ?c18 ?k18 ?a19 ?l19 ?c19 ?k19 ?a20 ?l20 ?c20 ?k20 ?a21 ?l21 ?c21 ?k21 ?a22 ?l22 ?c22 ?k22 ?a23 ?l23 ?c23 ?k23 ?a24 ?l24 ?c24 ?k24 ?a25 ?l25 ?c25 ?k25 ?a26 ?l26 ?c26 ?k26 ?a27 ?l27 ?c27 ?k27 ?a28 ?l28 ?c28 ?k28 ?a29 ?l29 ?c29 ?k29 ?a30 ?l30 ?c30 ?k30 ?gLookError ?xLookError ?kkLookError ?bLookError ?tLookError ?iLookError ?gBadNetwork ?xBadNetwork ?kkBadNetwork ?bBadNetwork ?tBadNetwork ?iBadNetwork ?sBadNetwork_BadNetwork ?sBadNetwork_LookError ?sLookError_BadNetwork ?sLookError_LookError ?z_abs ?z_all ?z_bool ?z_enumerate ?z_int ?z_isinstance ?z_len ?z_list ?z_max ?z_range ?z_str ?z_sum ?z_tuple ?m_MOST_INPUTS ?m_MOST_NODES ?nol
    (case a0 => k_is)
    (case l0 => k_is)
    (case c0 => k_is)
    (case k0 => k_is)
    (case a1 => k_is)
    (case l1 => k_is)
    (case c1 => k_is)
    (case k1 => k_is)
    (case a2 => k_is)
    (case l2 => k_is)
    (case c2 => k_is)
    (case k2 => k_is)
    (case a3 => k_is)
    (case l3 => k_is)
    (case c3 => k_is)
    (case k3 => k_is)
    (case a4 => k_is)
    (case l4 => k_is)
    (case c4 => k_is)
    (case k4 => k_is)
    (case a5 => k_is)
    (case l5 => k_is)
    (case c5 => k_is)
    (case k5 => k_is)
    (case a6 => k_is)
    (case l6 => k_is)
    (case c6 => k_is)
    (case k6 => k_is)
    (case a7 => k_is)
    (case l7 => k_is)
    (case c7 => k_is)
    (case k7 => k_is)
    (case a8 => k_is)
    (case l8 => k_is)
    (case c8 => k_is)
    (case k8 => k_is)
    (case a9 => k_is)
    (case l9 => k_is)
    (case c9 => k_is)
    (case k9 => k_is)
    (case a10 => k_is)
    (case l10 => k_is)
    (case c10 => k_is)
    (case k10 => k_is)
    (case a11 => k_is)
    (case l11 => k_is)
    (case c11 => k_is)
    (case k11 => k_is)
    (case a12 => k_is)
    (case l12 => k_is)
    (case c12 => k_is)
    (case k12 => k_is)
    (case a13 => k_is)
    (case l13 => k_is)
    (case c13 => k_is)
    (case k13 => k_is)
    (case a14 => k_is)
    (case l14 => k_is)
    (case c14 => k_is)
    (case k14 => k_is)
    (case a15 => k_is)
    (case l15 => k_is)
    (case c15 => k_is)
    (case k15 => k_is)
    (case a16 => k_is)
    (case l16 => k_is)
    (case c16 => k_is)
    (case k16 => k_is)
    (case a17 => k_is)
    (case l17 => k_is)
    (case c17 => k_is)
    (case k17 => k_is)
    (case a18 => k_is)
    (case l18 => k_is)
    (case c18 => k_is)
    (case k18 => k_is)
    (case a19 => k_is)
    (case l19 => k_is)
    (case c19 => k_is)
    (case k19 => k_is)
    (case a20 => k_is)
    (case l20 => k_is)
    (case c20 => k_is)
    (case k20 => k_is)
    (case a21 => k_is)
    (case l21 => k_is)
    (case c21 => k_is)
    (case k21 => k_is)
    (case a22 => k_is)
    (case l22 => k_is)
    (case c22 => k_is)
    (case k22 => k_is)
    (case a23 => k_is)
    (case l23 => k_is)
    (case c23 => k_is)
    (case k23 => k_is)
    (case a24 => k_is)
    (case l24 => k_is)
    (case c24 => k_is)
    (case k24 => k_is)
    (case a25 => k_is)
    (case l25 => k_is)
    (case c25 => k_is)
    (case k25 => k_is)
    (case a26 => k_is)
    (case l26 => k_is)
    (case c26 => k_is)
    (case k26 => k_is)
    (case a27 => k_is)
    (case l27 => k_is)
    (case c27 => k_is)
    (case k27 => k_is)
    (case a28 => k_is)
    (case l28 => k_is)
    (case c28 => k_is)
    (case k28 => k_is)
    (case a29 => k_is)
    (case l29 => k_is)
    (case c29 => k_is)
    (case k29 => k_is)
    (case a30 => k_is)
    (case l30 => k_is)
    (case c30 => k_is)
    (case k30 => k_is)
    (case gLookError => k_is)
    (case xLookError => k_exc)
    (case kkLookError => k_is)
    (case bLookError => k_is)
    (case tLookError => k_is)
    (case iLookError => k_is)
    (case gBadNetwork => k_is)
    (case xBadNetwork => k_exc)
    (case kkBadNetwork => k_is)
    (case bBadNetwork => k_is)
    (case tBadNetwork => k_is)
    (case iBadNetwork => k_is)
    (case sBadNetwork_BadNetwork => k_is)
    (case sBadNetwork_LookError => k_is)
    (case sLookError_BadNetwork => k_is)
    (case sLookError_LookError => k_is)
    (case z_abs => k_is)
    (case z_all => k_is)
    (case z_bool => k_is)
    (case z_enumerate => k_is)
    (case z_int => k_is)
    (case z_isinstance => k_is)
    (case z_len => k_is)
    (case z_list => k_is)
    (case z_max => k_is)
    (case z_range => k_is)
    (case z_str => k_is)
    (case z_sum => k_is)
    (case z_tuple => k_is)
    (case m_MOST_INPUTS => k_is)
    (case m_MOST_NODES => k_is)
    (case nol => first | rfl | decide +kernel | k_is)
