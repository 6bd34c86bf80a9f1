import PyProof.Rows.All
import Wide.All
import OpenK.AllK
import Wide.FinOn
import HandS.ForSpec
import HandS.ForMost
import HandS.IsInst
import HandS.Deep
import HandS.Conv
import HandS.TupAny
import PyProof.P3In
import HandS.Flow
import HandS.Zip
import HandS.TupMul
import PySem.Challenge.RW_looksfar_k39_relay
set_option Elab.async false
set_option linter.all false
set_option maxRecDepth 100000
set_option maxHeartbeats 4000000
namespace L3
open PySem PySem.Spec PyProof.Rows L2
/-! ### values, with tuples by value -/
inductive D where
  | non | bl (b : Bool) | int (i : Int) | str (x : Str) | tup (ds : List D) | ref (a : Addr) | ty (n : String)
inductive MO where
  | lst (ds : List D) | ro (ds : List D) | dT (kvs : List (List Key × D)) | dK (kvs : List (Key × D))
abbrev MH := Addr → Option MO
abbrev En := List (Option D)
abbrev Fg := PySem.W.Frag
def updM (M : MH) (a : Addr) (o : MO) : MH := fun b => if b = a then some o else M b
theorem updM_same {M : MH} {a : Addr} {o : MO} : updM M a o a = some o := by unfold updM; rw [if_pos rfl]
theorem updM_ne {M : MH} {a b : Addr} {o : MO} (h : b ≠ a) : updM M a o b = M b := by unfold updM; rw [if_neg h]
theorem updM_updM {M : MH} {a : Addr} {o u : MO} : updM (updM M a o) a u = updM M a u := by
  funext b; unfold updM; split <;> rfl
theorem neM {M : MH} {a b : Addr} {o : MO} (h : M a = some o) (h' : M b = none) : a ≠ b := by
  intro e; subst e; rw [h] at h'; cases h'
/-- less is known -/
def Sub (M M' : MH) : Prop := ∀ b o, M b = some o → M' b = some o
theorem Sub.refl (M : MH) : Sub M M := fun _ _ h => h
theorem Sub.trans {M M1 M2 : MH} (a : Sub M M1) (b : Sub M1 M2) : Sub M M2 := fun c o h => b c o (a c o h)
theorem Sub.new {M M' : MH} {p : Addr} {o : MO} (s : Sub M M') (h : M p = none) : Sub M (updM M' p o) := fun b u e => by
  rw [updM_ne (neM e h)]
  exact s b u e
theorem Sub.free {M M' : MH} (s : Sub M M') {p : Addr} (h : M' p = none) : M p = none := by
  cases q : M p with
  | none => rfl
  | some o => rw [s p o q] at h; cases h
mutual
def Rv (K : Fg) (H : Hp) : D → V → Prop
  | .non, v => v = .non
  | .bl b, v => v = .bl b
  | .int i, v => v = .int i
  | .str x, v => v = .str x
  | .tup ds, v => ∃ a vs, v = .ref a ∧ SqT K H a vs ∧ Rvs K H ds vs
  | .ref a, v => v = .ref a
  | .ty n, v => v = .ty n
def Rvs (K : Fg) (H : Hp) : List D → List V → Prop
  | [], vs => vs = []
  | d :: ds, vs => ∃ v r, vs = v :: r ∧ Rv K H d v ∧ Rvs K H ds r
end
/-- tuples and locked things stay -/
structure Tps (H H' : Hp) : Prop where
  t : ∀ p xs, H p = some (.tup xs) → H' p = some (.tup xs)
  f : ∀ p o u, H p = some (.frz o u) → H' p = some (.frz o u)
theorem Tps.refl (H : Hp) : Tps H H := ⟨fun _ _ h => h, fun _ _ _ h => h⟩
theorem Tps.trans {H H1 H2 : Hp} (a : Tps H H1) (b : Tps H1 H2) : Tps H H2 := ⟨fun p xs h => b.t p xs (a.t p xs h), fun p o u h => b.f p o u (a.f p o u h)⟩
theorem Tps.new {H : Hp} {p : Addr} {o : HO} (h : H p = none) : Tps H (upd H p o) :=
  ⟨fun q xs e => by rw [upd_ne (ne_of_none e h)]; exact e, fun q u x e => by rw [upd_ne (ne_of_none e h)]; exact e⟩
theorem Tps.lst {H : Hp} {p : Addr} {o : HO} {vs : List V} (h : H p = some (.lst vs)) : Tps H (upd H p o) :=
  ⟨fun q xs e => by rw [upd_ne (ne_of e h (by intro z; cases z))]; exact e, fun q u x e => by rw [upd_ne (ne_of e h (by intro z; cases z))]; exact e⟩
theorem Tps.dT {H : Hp} {p : Addr} {o : HO} {vs : List (List Key × V)} (h : H p = some (.dT vs)) : Tps H (upd H p o) :=
  ⟨fun q xs e => by rw [upd_ne (ne_of e h (by intro z; cases z))]; exact e, fun q u x e => by rw [upd_ne (ne_of e h (by intro z; cases z))]; exact e⟩
theorem Tps.seq {K : Fg} {H H' : Hp} {a : Addr} {vs : List V} (t : Tps H H') (h : SqT K H a vs) : SqT K H' a vs := by
  rcases h with (h | ⟨o, h⟩) | h
  · exact .inl (.inl (t.t _ _ h))
  · exact .inl (.inr ⟨o, t.f _ _ _ h⟩)
  · exact .inr h
section
variable {K : Fg} {H H' : Hp}
mutual
theorem Rv.mono (t : Tps H H') : ∀ (d : D) (v : V), Rv K H d v → Rv K H' d v
  | .non, _, h => h
  | .bl _, _, h => h
  | .int _, _, h => h
  | .str _, _, h => h
  | .tup ds, v, h => by
    unfold Rv at h ⊢
    obtain ⟨a, vs, e, s, r⟩ := h
    exact ⟨a, vs, e, t.seq s, Rvs.mono t ds vs r⟩
  | .ref _, _, h => h
  | .ty _, _, h => h
theorem Rvs.mono (t : Tps H H') : ∀ (ds : List D) (vs : List V), Rvs K H ds vs → Rvs K H' ds vs
  | [], _, h => h
  | d :: ds, vs, h => by
    unfold Rvs at h ⊢
    obtain ⟨v, r, e, h1, h2⟩ := h
    exact ⟨v, r, e, Rv.mono t d v h1, Rvs.mono t ds r h2⟩
end
theorem Rvs.nil : Rvs K H [] [] := by unfold Rvs; rfl
theorem Rvs.cons {d : D} {v : V} {ds : List D} {vs : List V} (h : Rv K H d v) (r : Rvs K H ds vs) : Rvs K H (d :: ds) (v :: vs) := by
  unfold Rvs
  exact ⟨v, vs, rfl, h, r⟩
theorem Rvs.length : ∀ {ds : List D} {vs : List V}, Rvs K H ds vs → ds.length = vs.length
  | [], _, h => by unfold Rvs at h; subst h; rfl
  | d :: ds, _, h => by
    unfold Rvs at h
    obtain ⟨v, r, rfl, _, h2⟩ := h
    rw [List.length_cons, List.length_cons, Rvs.length h2]
theorem Rvs.get : ∀ {ds : List D} {vs : List V} {i : Nat} {d : D}, Rvs K H ds vs → ds[i]? = some d → ∃ v, vs[i]? = some v ∧ Rv K H d v
  | [], _, _, _, _, e => by simp at e
  | d :: ds, _, 0, _, h, e => by
    unfold Rvs at h
    obtain ⟨v, r, rfl, h1, _⟩ := h
    simp at e
    subst e
    exact ⟨v, rfl, h1⟩
  | d :: ds, _, i + 1, x, h, e => by
    unfold Rvs at h
    obtain ⟨v, r, rfl, _, h2⟩ := h
    obtain ⟨w, e1, e2⟩ := Rvs.get (i := i) (d := x) h2 (by simpa using e)
    exact ⟨w, by simpa using e1, e2⟩
theorem Rvs.app : ∀ {ds es : List D} {vs ws : List V}, Rvs K H ds vs → Rvs K H es ws → Rvs K H (ds ++ es) (vs ++ ws)
  | [], _, _, _, h, s => by unfold Rvs at h; subst h; exact s
  | d :: ds, es, _, ws, h, s => by
    unfold Rvs at h
    obtain ⟨v, r, rfl, h1, h2⟩ := h
    exact Rvs.cons h1 (Rvs.app h2 s)
theorem Rvs.take : ∀ {ds : List D} {vs : List V} (n : Nat), Rvs K H ds vs → Rvs K H (ds.take n) (vs.take n)
  | _, _, 0, _ => by simpa using Rvs.nil
  | [], _, n + 1, h => by unfold Rvs at h; subst h; simpa using Rvs.nil
  | d :: ds, _, n + 1, h => by
    unfold Rvs at h
    obtain ⟨v, r, rfl, h1, h2⟩ := h
    exact Rvs.cons h1 (Rvs.take n h2)
theorem Rvs.drop : ∀ {ds : List D} {vs : List V} (n : Nat), Rvs K H ds vs → Rvs K H (ds.drop n) (vs.drop n)
  | _, _, 0, h => h
  | [], _, n + 1, h => by unfold Rvs at h; subst h; simpa using Rvs.nil
  | d :: ds, _, n + 1, h => by
    unfold Rvs at h
    obtain ⟨v, r, rfl, _, h2⟩ := h
    exact Rvs.drop n h2
theorem Rvs.set {d : D} {v : V} (q : Rv K H d v) : ∀ {ds : List D} {vs : List V} (n : Nat), Rvs K H ds vs → Rvs K H (ds.set n d) (vs.set n v)
  | [], _, n, h => by unfold Rvs at h; subst h; simpa using Rvs.nil
  | x :: ds, _, 0, h => by
    unfold Rvs at h
    obtain ⟨w, r, rfl, _, h2⟩ := h
    exact Rvs.cons q h2
  | x :: ds, _, n + 1, h => by
    unfold Rvs at h
    obtain ⟨w, r, rfl, h1, h2⟩ := h
    exact Rvs.cons h1 (Rvs.set q n h2)
theorem Rvs.nil_inv {vs : List V} (h : Rvs K H [] vs) : vs = [] := by unfold Rvs at h; exact h
theorem Rvs.cons_inv {d : D} {ds : List D} {vs : List V} (h : Rvs K H (d :: ds) vs) : ∃ v r, vs = v :: r ∧ Rv K H d v ∧ Rvs K H ds r := by unfold Rvs at h; exact h
theorem Rv.tup_inv {ds : List D} {v : V} (h : Rv K H (.tup ds) v) : ∃ a vs, v = .ref a ∧ SqT K H a vs ∧ Rvs K H ds vs := by unfold Rv at h; exact h
theorem Rv.int_inv {i : Int} {v : V} (h : Rv K H (.int i) v) : v = .int i := by unfold Rv at h; exact h
theorem Rv.bl_inv {b : Bool} {v : V} (h : Rv K H (.bl b) v) : v = .bl b := by unfold Rv at h; exact h
theorem Rv.str_inv {x : Str} {v : V} (h : Rv K H (.str x) v) : v = .str x := by unfold Rv at h; exact h
theorem Rv.non_inv {v : V} (h : Rv K H .non v) : v = .non := by unfold Rv at h; exact h
theorem Rv.ref_inv {a : Addr} {v : V} (h : Rv K H (.ref a) v) : v = .ref a := by unfold Rv at h; exact h
theorem Rv.ty_inv {n : String} {v : V} (h : Rv K H (.ty n) v) : v = .ty n := by unfold Rv at h; exact h
theorem Rv.int {i : Int} : Rv K H (.int i) (.int i) := by unfold Rv; rfl
theorem Rv.bl {b : Bool} : Rv K H (.bl b) (.bl b) := by unfold Rv; rfl
theorem Rv.str {x : Str} : Rv K H (.str x) (.str x) := by unfold Rv; rfl
theorem Rv.non : Rv K H .non .non := by unfold Rv; rfl
theorem Rv.ref {a : Addr} : Rv K H (.ref a) (.ref a) := by unfold Rv; rfl
theorem Rv.ty {n : String} : Rv K H (.ty n) (.ty n) := by unfold Rv; rfl
theorem Rv.tup {ds : List D} {a : Addr} {vs : List V} (s : SqT K H a vs) (r : Rvs K H ds vs) : Rv K H (.tup ds) (.ref a) := by unfold Rv; exact ⟨a, vs, rfl, s, r⟩
theorem Rvs.ints : ∀ {ns : List Int}, Rvs K H (ns.map D.int) (ns.map V.int)
  | [] => Rvs.nil
  | n :: ns => Rvs.cons Rv.int Rvs.ints
end
/-- an object as it is known -/
def RO (K : Fg) (H : Hp) (a : Addr) : MO → Prop
  | .lst ds => ∃ vs, H a = some (.lst vs) ∧ Rvs K H ds vs
  | .ro ds => ∃ vs o, H a = some (.frz o (.lst vs)) ∧ Rvs K H ds vs
  | .dT kvs => ∃ ks vs, H a = some (.dT ks) ∧ ks.map (·.1) = kvs.map (·.1) ∧ vs = ks.map (·.2) ∧ Rvs K H (kvs.map (·.2)) vs
  | .dK kvs => ∃ ks vs, H a = some (.dK ks) ∧ ks.map (·.1) = kvs.map (·.1) ∧ vs = ks.map (·.2) ∧ Rvs K H (kvs.map (·.2)) vs
def Abs (K : Fg) (M : MH) (H : Hp) : Prop := ∀ a o, M a = some o → RO K H a o
section
variable {K : Fg} {H H' : Hp} {M M' : MH} {a p : Addr}
theorem RO.mono (t : Tps H H') (e : H' a = H a) : ∀ (o : MO), RO K H a o → RO K H' a o
  | .lst ds, h => by obtain ⟨vs, h1, h2⟩ := h; exact ⟨vs, e.trans h1, h2.mono t⟩
  | .ro ds, h => by obtain ⟨vs, o, h1, h2⟩ := h; exact ⟨vs, o, e.trans h1, h2.mono t⟩
  | .dT ds, h => by obtain ⟨ks, vs, h1, h2, h3, h4⟩ := h; exact ⟨ks, vs, e.trans h1, h2, h3, h4.mono t⟩
  | .dK ds, h => by obtain ⟨ks, vs, h1, h2, h3, h4⟩ := h; exact ⟨ks, vs, e.trans h1, h2, h3, h4.mono t⟩
theorem RO.some (o : MO) (h : RO K H a o) : H a ≠ none := by
  cases o with
  | lst ds => obtain ⟨vs, h1, _⟩ := h; rw [h1]; intro z; cases z
  | ro ds => obtain ⟨vs, o, h1, _⟩ := h; rw [h1]; intro z; cases z
  | dT ds => obtain ⟨ks, vs, h1, _⟩ := h; rw [h1]; intro z; cases z
  | dK ds => obtain ⟨ks, vs, h1, _⟩ := h; rw [h1]; intro z; cases z
theorem Abs.sub (h : Abs K M' H) (s : Sub M M') : Abs K M H := fun a o e => h a o (s a o e)
theorem Abs.fresh (h : Abs K M H) (e : H p = none) : M p = none := by
  cases q : M p with
  | none => rfl
  | some o => exact absurd e ((h p o q).some)
/-- a new untracked thing (a tuple) -/
theorem Abs.tupN (h : Abs K M H) {o : HO} (e : H p = none) : Abs K M (upd H p o) := fun a u q => (h a u q).mono (Tps.new e) (upd_ne (neM q (h.fresh e)))
theorem Abs.upd (h : Abs K M H) {o : HO} {u : MO} (t : Tps H (L2.upd H p o)) (r : RO K (L2.upd H p o) p u) : Abs K (updM M p u) (L2.upd H p o) := fun a x q => by
  by_cases hb : a = p
  · subst hb
    rw [updM_same] at q
    cases q
    exact r
  · rw [updM_ne hb] at q
    exact (h a x q).mono t (upd_ne hb)
theorem Abs.lstN (h : Abs K M H) {ds : List D} {vs : List V} (e : H p = none) (r : Rvs K H ds vs) : Abs K (updM M p (.lst ds)) (L2.upd H p (.lst vs)) :=
  h.upd (Tps.new e) ⟨vs, upd_same, r.mono (Tps.new e)⟩
theorem Abs.lstU (h : Abs K M H) {ds : List D} {vs ws : List V} (e : H p = some (.lst ws)) (r : Rvs K H ds vs) : Abs K (updM M p (.lst ds)) (L2.upd H p (.lst vs)) :=
  h.upd (Tps.lst e) ⟨vs, upd_same, r.mono (Tps.lst e)⟩
theorem Abs.lst (h : Abs K M H) {ds : List D} (e : M p = some (.lst ds)) : ∃ vs, H p = some (.lst vs) ∧ Rvs K H ds vs := h p _ e
/-- a list that is read -/
def LstM (M : MH) (a : Addr) (ds : List D) : Prop := M a = some (.lst ds) ∨ M a = some (.ro ds)
theorem Abs.rd (h : Abs K M H) {ds : List D} (e : LstM M p ds) : ∃ vs, SqL K H p vs ∧ Rvs K H ds vs := by
  rcases e with e | e
  · obtain ⟨vs, h1, h2⟩ := h p _ e
    exact ⟨vs, .inl (.inl h1), h2⟩
  · obtain ⟨vs, o, h1, h2⟩ := h p _ e
    exact ⟨vs, .inl (.inr ⟨o, h1⟩), h2⟩
end
/-- the names -/
structure SE (K : Fg) (H : Hp) (σ : L2.St) (env : En) : Prop where
  len : σ.length = env.length
  get : ∀ (i : Nat) (d : D), env[i]? = some (some d) → ∃ v, σ[i]? = some (some v) ∧ Rv K H d v
section
variable {K : Fg} {H H' : Hp} {σ : L2.St} {env : En}
theorem SE.mono (s : SE K H σ env) (t : Tps H H') : SE K H' σ env := ⟨s.len, fun i d e => let ⟨v, e1, r⟩ := s.get i d e; ⟨v, e1, r.mono t⟩⟩
theorem SE.set (s : SE K H σ env) {d : D} {v : V} (i : Nat) (r : Rv K H d v) : SE K H (σ.set i (some v)) (env.set i (some d)) := by
  refine ⟨by simpa using s.len, fun j x e => ?_⟩
  rw [List.getElem?_set] at e
  by_cases hj : i = j
  · subst hj
    rw [if_pos rfl] at e
    by_cases hl : i < env.length
    · rw [if_pos hl] at e
      cases e
      exact ⟨v, by rw [List.getElem?_set_self (by rw [s.len]; exact hl)], r⟩
    · rw [if_neg hl] at e
      cases e
  · rw [if_neg hj] at e
    obtain ⟨w, e1, r1⟩ := s.get j x e
    exact ⟨w, by rw [List.getElem?_set_ne hj]; exact e1, r1⟩
theorem SE.unset (s : SE K H σ env) (i : Nat) : SE K H (σ.set i none) (env.set i none) := by
  refine ⟨by simpa using s.len, fun j x e => ?_⟩
  rw [List.getElem?_set] at e
  by_cases hj : i = j
  · subst hj
    rw [if_pos rfl] at e
    split at e <;> cases e
  · rw [if_neg hj] at e
    obtain ⟨w, e1, r1⟩ := s.get j x e
    exact ⟨w, by rw [List.getElem?_set_ne hj]; exact e1, r1⟩
/-- names forgotten -/
def wipeE (env : En) : List Nat → En
  | [] => env
  | i :: r => wipeE (env.set i none) r
theorem SE.start {ds : List D} {vs : List V} (N : List Str) (r : Rvs K H ds vs) : SE K H (L2.start N vs) (ds.map some ++ List.replicate (N.length - ds.length) none) := by
  have hl := r.length
  refine ⟨by unfold L2.start; simp [hl], fun i d e => ?_⟩
  unfold L2.start
  by_cases hi : i < ds.length
  · rw [List.getElem?_append_left (by simpa using hi), List.getElem?_map] at e
    cases q : ds[i]? with
    | none => rw [q] at e; cases e
    | some x =>
      rw [q] at e
      cases e
      obtain ⟨v, e1, r1⟩ := r.get q
      exact ⟨v, by rw [List.getElem?_append_left (by rw [List.length_map, ← hl]; exact hi), List.getElem?_map, e1]; rfl, r1⟩
  · rw [List.getElem?_append_right (by simpa using hi), List.getElem?_replicate] at e
    split at e <;> cases e
end
/-! ### wishes -/
abbrev W3 := Value → Option Addr → En → MH → Prop
def LW (K : Fg) (H : Hp) (W : W3) (W2 : WX) : Prop := ∀ cls dd σ' H' env' M', Tps H H' → SE K H' σ' env' → Abs K M' H' → W cls dd env' M' → W2 cls dd σ' H'
theorem LW.mono {K : Fg} {H H' : Hp} {W : W3} {W2 : WX} (l : LW K H W W2) (t : Tps H H') : LW K H' W W2 := fun cls dd σ' H2 env' M' t2 s a w => l cls dd σ' H2 env' M' (t.trans t2) s a w
abbrev Q3 := D → MH → Prop
abbrev E3 := W3 → En → MH → Q3 → Prop
abbrev T3 := W3 → En → MH → (Bool → MH → Prop) → Prop
abbrev A3 := W3 → En → MH → (List D → MH → Prop) → Prop
structure Ends3 where
  nx : En → MH → Prop
  rt : Q3
  bk : En → MH → Prop := fun _ _ => False
  ct : En → MH → Prop := fun _ _ => False
abbrev S3 := W3 → Ends3 → En → MH → Prop
abbrev G3 := W3 → D → En → MH → (En → MH → Prop) → Prop
abbrev I3 := W3 → En → MH → (List D → (MH → Prop) → MH → Prop) → Prop
/-- a value has come -/
def Got (K : Fg) (H : Hp) (Q : Q3) (Q2 : VK) : Prop := ∀ d v H' M', Tps H H' → Abs K M' H' → Rv K H' d v → Q d M' → Q2 v H'
def lowE (K : Fg) (W2 : WX) (t : E3) : TE := fun σ H Q2 => ∃ env M W Q, SE K H σ env ∧ Abs K M H ∧ LW K H W W2 ∧ t W env M Q ∧ Got K H Q Q2
def lowT (K : Fg) (W2 : WX) (t : T3) : TT := fun σ H Q2 => ∃ env M W Q, SE K H σ env ∧ Abs K M H ∧ LW K H W W2 ∧ t W env M Q ∧ ∀ b H' M', Tps H H' → Abs K M' H' → Q b M' → Q2 b H'
def lowA (K : Fg) (W2 : WX) (t : A3) : TA := fun σ H Q2 => ∃ env M W Q, SE K H σ env ∧ Abs K M H ∧ LW K H W W2 ∧ t W env M Q ∧ ∀ ds vs H' M', Tps H H' → Abs K M' H' → Rvs K H' ds vs → Q ds M' → Q2 vs H'
def Nxt (K : Fg) (H : Hp) (q : En → MH → Prop) (q2 : L2.St → Hp → Prop) : Prop := ∀ σ' H' env' M', Tps H H' → SE K H' σ' env' → Abs K M' H' → q env' M' → q2 σ' H'
structure LE (K : Fg) (H : Hp) (D3 : Ends3) (D2 : Ends) : Prop where
  nx : Nxt K H D3.nx D2.nx
  rt : Got K H D3.rt D2.rt
  bk : Nxt K H D3.bk D2.bk
  ct : Nxt K H D3.ct D2.ct
theorem Got.mono {K : Fg} {H H' : Hp} {Q : Q3} {Q2 : VK} (g : Got K H Q Q2) (t : Tps H H') : Got K H' Q Q2 := fun d v H2 M' t2 a r q => g d v H2 M' (t.trans t2) a r q
theorem Nxt.mono {K : Fg} {H H' : Hp} {q : En → MH → Prop} {q2 : L2.St → Hp → Prop} (g : Nxt K H q q2) (t : Tps H H') : Nxt K H' q q2 := fun σ H2 e M' t2 s a r => g σ H2 e M' (t.trans t2) s a r
theorem LE.mono {K : Fg} {H H' : Hp} {D3 : Ends3} {D2 : Ends} (l : LE K H D3 D2) (t : Tps H H') : LE K H' D3 D2 := ⟨l.nx.mono t, l.rt.mono t, l.bk.mono t, l.ct.mono t⟩
def lowS (K : Fg) (W2 : WX) (t : S3) : TS := fun D2 σ H => ∃ env M W D3, SE K H σ env ∧ Abs K M H ∧ LW K H W W2 ∧ t W D3 env M ∧ LE K H D3 D2
def lowG (K : Fg) (W2 : WX) (t : G3) : TG := fun v σ H Q2 => ∃ d env M W Q, Rv K H d v ∧ SE K H σ env ∧ Abs K M H ∧ LW K H W W2 ∧ t W d env M Q ∧ Nxt K H Q Q2
/-- what the iterator J gives: ds, while keep is true -/
structure ItOk (K : Fg) (H1 : Hp) (ds : List D) (keep : MH → Prop) (J : It) : Prop where
  step : ∀ i d H M, ds[i]? = some d → Tps H1 H → Abs K M H → keep M → J.go i H ∧ ∀ x H', J.yld i H x H' → Tps H H' ∧ Abs K M H' ∧ Rv K H' d x
  stop : ∀ H M, Tps H1 H → Abs K M H → keep M → J.stop ds.length H
def lowI (K : Fg) (W2 : WX) (t : I3) : TI := fun σ H R => ∃ env M W Q, SE K H σ env ∧ Abs K M H ∧ LW K H W W2 ∧ t W env M Q ∧ ∀ ds keep J H' M', Tps H H' → Abs K M' H' → Q ds keep M' → ItOk K H' ds keep J → R J H'
/-! ### the judgements -/
def DE (X : Cx) (e : Expr) (t : E3) : Prop := ∀ W2, Takes X W2 → PE X e (lowE X.K W2 t)
def DT (X : Cx) (e : Expr) (t : T3) : Prop := ∀ W2, Takes X W2 → PT X e (lowT X.K W2 t)
def DW (X : Cx) (e : Expr) (t : T3) : Prop := ∀ W2, Takes X W2 → PW X e (lowT X.K W2 t)
def DA (X : Cx) (es : List Expr) (t : A3) : Prop := ∀ W2, Takes X W2 → PA X es (lowA X.K W2 t)
def DG (X : Cx) (e : Expr) (t : G3) : Prop := ∀ W2, Takes X W2 → PG X e (lowG X.K W2 t)
def DI (X : Cx) (tg e : Expr) (t : I3) : Prop := ∀ W2, Takes X W2 → PI X tg e (lowI X.K W2 t)
def Pass (X : Cx) : Prop := PassesOwn (model X.prog X.w) X.A X.env X.xe
def DS (X : Cx) (st : Stmt) (t : S3) : Prop := ∀ W2, Takes X W2 → Pass X → PS X st (lowS X.K W2 t)
def DSs (X : Cx) (st : List Stmt) (t : S3) : Prop := ∀ W2, Takes X W2 → Pass X → PSs X st (lowS X.K W2 t)
theorem _root_.L2.PE.imp {X : Cx} {e : Expr} {t t' : TE} (h : PE X e t) (k : ∀ σ H Q, t' σ H Q → t σ H Q) : PE X e t' := ⟨fun pins s σ H Q I q => h.run pins s σ H Q I (k σ H Q q)⟩
theorem _root_.L2.PT.imp {X : Cx} {e : Expr} {t t' : TT} (h : PT X e t) (k : ∀ σ H Q, t' σ H Q → t σ H Q) : PT X e t' := ⟨fun pins s σ H Q I q => h.run pins s σ H Q I (k σ H Q q)⟩
theorem _root_.L2.PW.imp {X : Cx} {e : Expr} {t t' : TT} (h : PW X e t) (k : ∀ σ H Q, t' σ H Q → t σ H Q) : PW X e t' := ⟨fun wh pins s σ H Q I q => h.run wh pins s σ H Q I (k σ H Q q)⟩
theorem _root_.L2.PA.imp {X : Cx} {e : List Expr} {t t' : TA} (h : PA X e t) (k : ∀ σ H Q, t' σ H Q → t σ H Q) : PA X e t' := ⟨fun pos pins s σ H Q I q => h.run pos pins s σ H Q I (k σ H Q q)⟩
theorem _root_.L2.PG.imp {X : Cx} {e : Expr} {t t' : TG} (h : PG X e t) (k : ∀ v σ H Q, t' v σ H Q → t v σ H Q) : PG X e t' := ⟨fun pins s σ H v u Q I r q => h.run pins s σ H v u Q I r (k v σ H Q q)⟩
theorem _root_.L2.PI.imp {X : Cx} {tg e : Expr} {t t' : TI} (h : PI X tg e t) (k : ∀ σ H Q, t' σ H Q → t σ H Q) : PI X tg e t' := ⟨fun pins s σ H Q I q => h.run pins s σ H Q I (k σ H Q q)⟩
theorem _root_.L2.PS.imp {X : Cx} {e : Stmt} {t t' : TS} (h : PS X e t) (k : ∀ D σ H, t' D σ H → t D σ H) : PS X e t' := ⟨fun pins s σ H D I q => h.run pins s σ H D I (k D σ H q)⟩
theorem _root_.L2.PSs.imp {X : Cx} {e : List Stmt} {t t' : TS} (h : PSs X e t) (k : ∀ D σ H, t' D σ H → t D σ H) : PSs X e t' := ⟨fun pins s σ H D I q => h.run pins s σ H D I (k D σ H q)⟩
theorem _root_.L2.PE.or {X : Cx} {e : Expr} {t t' : TE} (h : PE X e t) (h' : PE X e t') : PE X e (fun σ H Q => t σ H Q ∨ t' σ H Q) := ⟨fun pins s σ H Q I q => q.elim (h.run pins s σ H Q I) (h'.run pins s σ H Q I)⟩
theorem _root_.L2.PI.or {X : Cx} {tg e : Expr} {t t' : TI} (h : PI X tg e t) (h' : PI X tg e t') : PI X tg e (fun σ H Q => t σ H Q ∨ t' σ H Q) := ⟨fun pins s σ H Q I q => q.elim (h.run pins s σ H Q I) (h'.run pins s σ H Q I)⟩
section
variable {K : Fg} {W2 : WX} {σ : L2.St} {H : Hp} {env : En} {M : MH} {W : W3} {t : E3} {Q : Q3} {Q2 : VK}
/-- handing on to a part -/
theorem toE (s : SE K H σ env) (a : Abs K M H) (l : LW K H W W2) (q : t W env M Q) (g : Got K H Q Q2) : lowE K W2 t σ H Q2 := ⟨env, M, W, Q, s, a, l, q, g⟩
end
end L3

namespace L3
open PySem PySem.Spec PyProof.Rows L2
/-- by cases on a bool -/
def Br (b : Bool) (A B : Prop) : Prop := (b = true → A) ∧ (b = false → B)
theorem Br.tt {A B : Prop} (h : A) : Br true A B := ⟨fun _ => h, (fun e => nomatch e)⟩
theorem Br.ff {A B : Prop} (h : B) : Br false A B := ⟨(fun e => nomatch e), fun _ => h⟩
theorem Br.yes {b : Bool} {A B : Prop} (e : b = true) (h : A) : Br b A B := by subst e; exact Br.tt h
theorem Br.no {b : Bool} {A B : Prop} (e : b = false) (h : B) : Br b A B := by subst e; exact Br.ff h
theorem Br.ite {b : Bool} {A B : Prop} (h : Br b A B) : if b = true then A else B := by
  cases b with
  | true => rw [if_pos rfl]; exact h.1 rfl
  | false => rw [if_neg Bool.false_ne_true]; exact h.2 rfl
section
variable {X : Cx} {e a b c : Expr} {es : List Expr} {pos p : Pos} {t ta tb tc : E3}
/-! ### names, constants -/
def e3Var (i : Nat) : E3 := fun _ env M Q => match env[i]? with | some (some d) => Q d M | _ => False
def e3C (d : D) : E3 := fun _ _ M Q => Q d M
theorem d_of_tC {v : V} {d : D} (h : PE X e (tC v)) (r : ∀ H, Rv X.K H d v) : DE X e (e3C d) := fun W2 _ => h.imp fun σ H Q2 ⟨env, M, W, Q, s, a, l, q, g⟩ => g d v H M (Tps.refl H) a (r H) q
theorem dv (i : Nat) {x : Str} (hN : X.N[i]? = some x := by rfl) (hv : Vis X.env.scope x := by first | exact Or.inl rfl | exact Or.inr (Or.inl rfl) | exact Or.inr (Or.inr rfl)) (hd : (x == ("__debug__" : Str)) = false := by decide)
    (hcd : (x == ("__classdict__" : Str)) = false := by decide) : DE X (.Name x pos) (e3Var i) := fun W2 _ => (pe_var (i := i) hN hv hd hcd).imp fun σ H Q2 ⟨env, M, W, Q, s, a, l, q, g⟩ => by
  unfold e3Var at q
  split at q
  · rename_i d e
    obtain ⟨v, e1, r⟩ := s.get i d e
    exact ⟨v, e1, g d v H M (Tps.refl H) a r q⟩
  · exact q.elim
theorem d_int {i : Int} {j} : DE X (.Constant (.int i) j pos) (e3C (.int i)) := d_of_tC pe_int fun _ => Rv.int
theorem d_bl {i : Bool} {j} : DE X (.Constant (.bool i) j pos) (e3C (.bl i)) := d_of_tC pe_bl fun _ => Rv.bl
theorem d_non {j} : DE X (.Constant .none j pos) (e3C .non) := d_of_tC pe_non fun _ => Rv.non
theorem d_str {x : Str} {j} : DE X (.Constant (.str x) j pos) (e3C (.str x)) := d_of_tC pe_str fun _ => Rv.str
theorem d_globI {x : Str} {i : Int} {u : Value} (hg : Gl X x) (hm : X.mg x = some u) (r : RelV (.int i) u) (hd : (x == ("__debug__" : Str)) = false := by decide) : DE X (.Name x pos) (e3C (.int i)) := d_of_tC (pe_glob hg hm r hd) fun _ => Rv.int
theorem d_globC {x : Str} {C : Addr} (hg : Gl X x) (hm : X.mg x = some (.ref C)) (hd : (x == ("__debug__" : Str)) = false := by decide) : DE X (.Name x pos) (e3C (.ref C)) := d_of_tC (pe_glob hg hm (v := .ref C) rfl hd) fun _ => Rv.ref
theorem d_ty {x : Str} {n : String} (hg : Gl X x) (hm : X.mg x = none) (hv : bootBuiltins x = some (.type n)) (hn : x ≠ "__name__" := by decide) (hd : (x == ("__debug__" : Str)) = false := by decide) : DE X (.Name x pos) (e3C (.ty n)) :=
  d_of_tC (pe_bltn hg hm hv (v := .ty n) rfl hn hd) fun _ => Rv.ty
/-! ### operators -/
def OpL (K : Fg) (r : R2) (r3 : D → D → MH → Q3 → Prop) : Prop := ∀ d e v u H M Q Q2, Rv K H d v → Rv K H e u → Abs K M H → r3 d e M Q → Got K H Q Q2 → r v u H Q2
def e3Op (r3 : D → D → MH → Q3 → Prop) (ta tb : E3) : E3 := fun W env M Q => ta W env M fun d M1 => tb W env M1 fun e M2 => r3 d e M2 Q
theorem op_low {r : R2} {r3 : D → D → MH → Q3 → Prop} {W2 : WX} (hl : OpL X.K r r3) {σ : L2.St} {H : Hp} {Q2 : VK} (h : lowE X.K W2 (e3Op r3 ta tb) σ H Q2) : tOp r (lowE X.K W2 ta) (lowE X.K W2 tb) σ H Q2 := by
  obtain ⟨env, M, W, Q, s, a, l, q, g⟩ := h
  refine ⟨env, M, W, _, s, a, l, q, fun d v H1 M1 t1 a1 r1 q1 => ?_⟩
  exact ⟨env, M1, W, _, s.mono t1, a1, l.mono t1, q1, fun e u H2 M2 t2 a2 r2 q2 => hl d e v u H2 M2 Q Q2 (r1.mono t2) r2 a2 q2 (g.mono (t1.trans t2))⟩
theorem d_op {op : Operator} {r : R2} {r3 : D → D → MH → Q3 → Prop} (ho : OpR X (binaryOp op) r) (hl : OpL X.K r r3) (ha : DE X a ta) (hb : DE X b tb) : DE X (.BinOp a op b pos) (e3Op r3 ta tb) :=
  fun W2 tk => (pe_op ho (ha W2 tk) (hb W2 tk)).imp fun σ H Q2 h => op_low hl h
theorem d_cmp {op : CmpOp} {r : R2} {r3 : D → D → MH → Q3 → Prop} (ho : OpR X (compareOp op) r) (hl : OpL X.K r r3) (ha : DE X a ta) (hb : DE X b tb) (hm : behindInMarks op b = false := by first | exact nomark _ | with_unfolding_all rfl | rfl) : DE X (.Compare a [op] [b] pos) (e3Op r3 ta tb) :=
  fun W2 tk => (pe_cmpR ho (ha W2 tk) (hb W2 tk) hm).imp fun σ H Q2 h => op_low hl h
def t3Test (t : E3) : T3 := fun W env M Q => t W env M fun d M1 => match d with | .bl b => Q b M1 | _ => False
theorem test_low {W2 : WX} {σ : L2.St} {H : Hp} {Q2 : Bool → Hp → Prop} (h : lowT X.K W2 (t3Test t) σ H Q2) : lowE X.K W2 t σ H (fun x H' => ∃ k, x = .bl k ∧ Q2 k H') := by
  obtain ⟨env, M, W, Q, s, a, l, q, g⟩ := h
  refine ⟨env, M, W, _, s, a, l, q, fun d v H1 M1 t1 a1 r1 q1 => ?_⟩
  cases d with
  | bl b => exact ⟨b, r1.bl_inv, g b H1 M1 t1 a1 q1⟩
  | _ => exact q1.elim
theorem t_cmp {op : CmpOp} {r : R2} {r3 : D → D → MH → Q3 → Prop} (ho : OpR X (compareOp op) r) (hl : OpL X.K r r3) (ha : DE X a ta) (hb : DE X b tb) (hm : behindInMarks op b = false := by first | exact nomark _ | with_unfolding_all rfl | rfl) : DT X (.Compare a [op] [b] pos) (t3Test (e3Op r3 ta tb)) :=
  fun W2 tk => (pt_cmpR ho (ha W2 tk) (hb W2 tk) hm).imp fun σ H Q2 h => op_low hl (test_low h)
theorem t_val (h : DE X e t) (he : ∀ whole, isTrue e X.env whole = (do let v ← whole; standAt e.pos; holding [v] (truthy v)) := by intro _; rfl) : DT X e (t3Test t) :=
  fun W2 tk => (pt_val (h W2 tk) he).imp fun σ H Q2 h => test_low h
def e3Chain (r r' : D → D → MH → Q3 → Prop) (ta tb tc : E3) : E3 := fun W env M Q => ta W env M fun d M1 => tb W env M1 fun e M2 => r d e M2 fun z M3 => match z with
  | .bl k => Br k (tc W env M3 fun f M4 => r' e f M4 Q) (Q (.bl false) M3)
  | _ => False
theorem chain_low {r r' : R2} {q q' : D → D → MH → Q3 → Prop} {W2 : WX} (hl : OpL X.K r q) (hl' : OpL X.K r' q') {σ : L2.St} {H : Hp} {Q2 : VK} (h : lowE X.K W2 (e3Chain q q' ta tb tc) σ H Q2) : tChain r r' (lowE X.K W2 ta) (lowE X.K W2 tb) (lowE X.K W2 tc) σ H Q2 := by
  obtain ⟨env, M, W, Q, s, a, l, q, g⟩ := h
  refine ⟨env, M, W, _, s, a, l, q, fun d v H1 M1 t1 a1 r1 q1 => ?_⟩
  refine ⟨env, M1, W, _, s.mono t1, a1, l.mono t1, q1, fun e u H2 M2 t2 a2 r2 q2 => ?_⟩
  refine hl d e v u H2 M2 _ _ (r1.mono t2) r2 a2 q2 fun z w H3 M3 t3 a3 r3 q3 => ?_
  have t123 := (t1.trans t2).trans t3
  cases z with
  | bl k =>
    refine ⟨k, r3.bl_inv, ?_⟩
    cases k with
    | true =>
      rw [if_pos rfl]
      refine ⟨env, M3, W, _, s.mono t123, a3, l.mono t123, q3.1 rfl, fun f w' H4 M4 t4 a4 r4 q4 => ?_⟩
      exact hl' e f u w' H4 M4 Q Q2 (r2.mono (t3.trans t4)) r4 a4 q4 (g.mono (t123.trans t4))
    | false =>
      rw [if_neg Bool.false_ne_true]
      exact g _ _ H3 M3 t123 a3 Rv.bl (q3.2 rfl)
  | _ => exact q3.elim
theorem d_chain {op op' : CmpOp} {r r' : R2} {q q' : D → D → MH → Q3 → Prop} (ho : OpR X (compareOp op) r) (hl : OpL X.K r q) (ho' : OpR X (compareOp op') r') (hl' : OpL X.K r' q') (ha : DE X a ta) (hb : DE X b tb) (hc : DE X c tc)
    (hm : lastMarks [op, op'] [b, c] = false := by with_unfolding_all rfl) : DE X (.Compare a [op, op'] [b, c] pos) (e3Chain q q' ta tb tc) :=
  fun W2 tk => (pe_chain ho ho' (ha W2 tk) (hb W2 tk) (hc W2 tk) hm).imp fun σ H Q2 h => chain_low hl hl' h
theorem t_chain {op op' : CmpOp} {r r' : R2} {q q' : D → D → MH → Q3 → Prop} (ho : OpR X (compareOp op) r) (hl : OpL X.K r q) (ho' : OpR X (compareOp op') r') (hl' : OpL X.K r' q') (ha : DE X a ta) (hb : DE X b tb) (hc : DE X c tc)
    (hm : lastMarks [op, op'] [b, c] = false := by with_unfolding_all rfl) : DT X (.Compare a [op, op'] [b, c] pos) (t3Test (e3Chain q q' ta tb tc)) :=
  fun W2 tk => (pt_chain ho ho' (ha W2 tk) (hb W2 tk) (hc W2 tk) hm).imp fun σ H Q2 h => chain_low hl hl' (test_low h)
/-! ### the operators' meanings -/
variable {K : Fg}
def r3Add : D → D → MH → Q3 → Prop
  | .int i, .int j, M, Q => Q (.int (i + j)) M
  | .tup xs, .tup ys, M, Q => xs.length + ys.length ≤ sizeLine ∧ Q (.tup (xs ++ ys)) M
  | .str x, .str y, M, Q => x.length + y.length ≤ sizeLine ∧ Q (.str (x ++ y)) M
  | .ref a, .ref b, M, Q => ∃ xs ys, M a = some (.lst xs) ∧ M b = some (.lst ys) ∧ xs.length + ys.length ≤ sizeLine ∧ ∀ p, M p = none → Q (.ref p) (updM M p (.lst (xs ++ ys)))
  | _, _, _, _ => False
theorem opl_add : OpL K (fun x y H Q => rI0 (fun i j => .int (i + j)) x y H Q ∨ (rCatA K x y H Q ∨ ((fun x y H Q => ∃ i j, x = .str i ∧ y = .str j ∧ i.length + j.length ≤ sizeLine ∧ Q (.str (i ++ j)) H) x y H Q ∨ rCat x y H Q))) r3Add := by
  intro d e v u H M Q Q2 rd re a q g
  unfold r3Add at q
  split at q
  · cases rd.int_inv; cases re.int_inv
    exact .inl ⟨_, _, rfl, rfl, g _ _ H M (Tps.refl H) a Rv.int q⟩
  · rename_i xs ys
    obtain ⟨p, vs, rfl, hs, hv⟩ := rd.tup_inv
    obtain ⟨p', vs', rfl, hs', hv'⟩ := re.tup_inv
    have hl := hv.length
    have hl' := hv'.length
    refine .inr (.inl ⟨p, p', vs, vs', rfl, rfl, hs, hs', by omega, fun e0 => ?_, fun n0 e0 => ?_, fun n0 n1 t nt => ?_⟩)
    · subst e0
      have : xs = [] := by cases xs with | nil => rfl | cons _ _ => simp at hl
      subst this
      exact g _ _ H M (Tps.refl H) a re q.2
    · subst e0
      have : ys = [] := by cases ys with | nil => rfl | cons _ _ => simp at hl'
      subst this
      refine g _ _ H M (Tps.refl H) a rd ?_
      have := q.2
      rw [List.append_nil] at this
      exact this
    · exact g _ _ _ M (Tps.new nt) (a.tupN nt) (Rv.tup (SqT.of upd_same) ((hv.app hv').mono (Tps.new nt))) q.2
  · cases rd.str_inv; cases re.str_inv
    exact .inr (.inr (.inl ⟨_, _, rfl, rfl, q.1, g _ _ H M (Tps.refl H) a Rv.str q.2⟩))
  · obtain ⟨xs, ys, h1, h2, hz, q⟩ := q
    cases rd.ref_inv; cases re.ref_inv
    obtain ⟨vs, e1, r1⟩ := a.lst h1
    obtain ⟨vs', e2, r2⟩ := a.lst h2
    have hl := r1.length
    have hl' := r2.length
    refine .inr (.inr (.inr ⟨_, _, vs, vs', rfl, rfl, e1, e2, by omega, fun p np => ?_⟩))
    exact g _ _ _ _ (Tps.new np) (a.lstN np (r1.app r2)) Rv.ref (q p (a.fresh np))
  · exact q.elim
theorem ho_add : OpR X (binaryOp .Add) (fun x y H Q => rI0 (fun i j => .int (i + j)) x y H Q ∨ (rCatA X.K x y H Q ∨ ((fun x y H Q => ∃ i j, x = .str i ∧ y = .str j ∧ i.length + j.length ≤ sizeLine ∧ Q (.str (i ++ j)) H) x y H Q ∨ rCat x y H Q))) :=
  op_add.or (op_catA.or (op_add_str.or op_cat))
theorem d_add (ha : DE X a ta) (hb : DE X b tb) : DE X (.BinOp a .Add b pos) (e3Op r3Add ta tb) := d_op ho_add opl_add ha hb
def r3Int (C : Int → Int → Prop) (f : Int → Int → Int) : D → D → MH → Q3 → Prop
  | .int i, .int j, M, Q => C i j ∧ Q (.int (f i j)) M
  | _, _, _, _ => False
theorem opl_int {C : Int → Int → Prop} {f : Int → Int → Int} : OpL K (rI C fun i j => .int (f i j)) (r3Int C f) := by
  intro d e v u H M Q Q2 rd re a q g
  unfold r3Int at q
  split at q
  · cases rd.int_inv; cases re.int_inv
    exact ⟨_, _, rfl, rfl, q.1, g _ _ H M (Tps.refl H) a Rv.int q.2⟩
  · exact q.elim
def r3Int0 (f : Int → Int → Int) : D → D → MH → Q3 → Prop
  | .int i, .int j, M, Q => Q (.int (f i j)) M
  | _, _, _, _ => False
theorem opl_int0 {f : Int → Int → Int} : OpL K (rI0 fun i j => .int (f i j)) (r3Int0 f) := by
  intro d e v u H M Q Q2 rd re a q g
  unfold r3Int0 at q
  split at q
  · cases rd.int_inv; cases re.int_inv
    exact ⟨_, _, rfl, rfl, g _ _ H M (Tps.refl H) a Rv.int q⟩
  · exact q.elim
def r3Mul : D → D → MH → Q3 → Prop
  | .int i, .int j, M, Q => CMul i j ∧ Q (.int (i * j)) M
  | .tup xs, .int k, M, Q => xs ≠ [] ∧ 2 ≤ k ∧ k ≤ 1000 ∧ xs.length ≤ 1000 ∧ Q (.tup (List.replicate k.toNat xs).flatten) M
  | .ref l, .int k, M, Q => ∃ xs, M l = some (.lst xs) ∧ 0 ≤ k ∧ k < 2 ^ 63 ∧ xs.length * k.toNat ≤ sizeLine ∧ ∀ p, M p = none → Q (.ref p) (updM M p (.lst (List.replicate k.toNat xs).flatten))
  | _, _, _, _ => False
theorem Rvs.rep {H : Hp} {ds : List D} {vs : List V} (r : Rvs K H ds vs) : ∀ n, Rvs K H (List.replicate n ds).flatten (List.replicate n vs).flatten
  | 0 => Rvs.nil
  | n + 1 => by
    rw [List.replicate_succ, List.replicate_succ, List.flatten_cons, List.flatten_cons]
    exact r.app (Rvs.rep r n)
theorem opl_mul : OpL K (fun x y H Q => rI CMul (fun i j => .int (i * j)) x y H Q ∨ (rRepT K x y H Q ∨ rRep x y H Q)) r3Mul := by
  intro d e v u H M Q Q2 rd re a q g
  unfold r3Mul at q
  split at q
  · cases rd.int_inv; cases re.int_inv
    exact .inl ⟨_, _, rfl, rfl, q.1, g _ _ H M (Tps.refl H) a Rv.int q.2⟩
  · cases re.int_inv
    obtain ⟨n0, k1, k2, hz, q⟩ := q
    obtain ⟨p, vs, rfl, hs, hv⟩ := rd.tup_inv
    have hl := hv.length
    refine .inr (.inl ⟨p, _, vs, rfl, rfl, hs, ?_, k1, k2, by omega, fun t nt => ?_⟩)
    · intro z
      subst z
      exact n0 (by cases hv.length.symm ▸ (rfl : ([] : List V).length = 0); exact List.eq_nil_of_length_eq_zero (by simpa using hl))
    · exact g _ _ _ M (Tps.new nt) (a.tupN nt) (Rv.tup (SqT.of upd_same) ((hv.rep _).mono (Tps.new nt))) q
  · cases rd.ref_inv; cases re.int_inv
    obtain ⟨xs, h1, k0, k1, hz, q⟩ := q
    obtain ⟨vs, e1, r1⟩ := a.lst h1
    have hl := r1.length
    refine .inr (.inr ⟨_, _, vs, rfl, rfl, e1, by omega, k1, by rw [← hl]; exact hz, fun p np => ?_⟩)
    exact g _ _ _ _ (Tps.new np) (a.lstN np (r1.rep _)) Rv.ref (q p (a.fresh np))
  · exact q.elim
theorem d_mul (ha : DE X a ta) (hb : DE X b tb) : DE X (.BinOp a .Mult b pos) (e3Op r3Mul ta tb) := d_op (op_mul.or (op_repT.or op_rep)) opl_mul ha hb
def r3Sub : D → D → MH → Q3 → Prop
  | .int i, .int j, M, Q => Q (.int (i - j)) M
  | _, _, _, _ => False
theorem opl_Sub : OpL K (rI0 fun i j => .int (i - j)) r3Sub := by
  intro d e v u H M Q Q2 rd re a q g
  unfold r3Sub at q
  split at q
  · cases rd.int_inv; cases re.int_inv
    exact ⟨_, _, rfl, rfl, g _ _ H M (Tps.refl H) a Rv.int q⟩
  · exact q.elim
theorem d_sub (ha : DE X a ta) (hb : DE X b tb) : DE X (.BinOp a .Sub b pos) (e3Op r3Sub ta tb) := d_op op_sub opl_Sub ha hb
def r3Mod : D → D → MH → Q3 → Prop
  | .int i, .int j, M, Q => 0 < j ∧ Q (.int (i % j)) M
  | _, _, _, _ => False
theorem opl_Mod : OpL K (rI (fun i j => 0 < j) fun i j => .int (i % j)) r3Mod := by
  intro d e v u H M Q Q2 rd re a q g
  unfold r3Mod at q
  split at q
  · cases rd.int_inv; cases re.int_inv
    exact ⟨_, _, rfl, rfl, q.1, g _ _ H M (Tps.refl H) a Rv.int q.2⟩
  · exact q.elim
theorem d_mod (ha : DE X a ta) (hb : DE X b tb) : DE X (.BinOp a .Mod b pos) (e3Op r3Mod ta tb) := d_op op_mod opl_Mod ha hb
def r3Div : D → D → MH → Q3 → Prop
  | .int i, .int j, M, Q => (0 < j ∧ j < 1073741824) ∧ Q (.int (i / j)) M
  | _, _, _, _ => False
theorem opl_Div : OpL K (rI (fun i j => (0 < j ∧ j < 1073741824)) fun i j => .int (i / j)) r3Div := by
  intro d e v u H M Q Q2 rd re a q g
  unfold r3Div at q
  split at q
  · cases rd.int_inv; cases re.int_inv
    exact ⟨_, _, rfl, rfl, q.1, g _ _ H M (Tps.refl H) a Rv.int q.2⟩
  · exact q.elim
theorem d_fdiv (ha : DE X a ta) (hb : DE X b tb) : DE X (.BinOp a .FloorDiv b pos) (e3Op r3Div ta tb) := d_op op_fdiv opl_Div ha hb
def r3Pow : D → D → MH → Q3 → Prop
  | .int i, .int j, M, Q => (0 ≤ j ∧ j ≤ 1000000 ∧ i.natAbs < 2 ^ 64) ∧ Q (.int (i ^ j.toNat)) M
  | _, _, _, _ => False
theorem opl_Pow : OpL K (rI (fun i j => (0 ≤ j ∧ j ≤ 1000000 ∧ i.natAbs < 2 ^ 64)) fun i j => .int (i ^ j.toNat)) r3Pow := by
  intro d e v u H M Q Q2 rd re a q g
  unfold r3Pow at q
  split at q
  · cases rd.int_inv; cases re.int_inv
    exact ⟨_, _, rfl, rfl, q.1, g _ _ H M (Tps.refl H) a Rv.int q.2⟩
  · exact q.elim
theorem d_pow (ha : DE X a ta) (hb : DE X b tb) : DE X (.BinOp a .Pow b pos) (e3Op r3Pow ta tb) := d_op op_pow opl_Pow ha hb
def r3Shl : D → D → MH → Q3 → Prop
  | .int i, .int j, M, Q => (0 ≤ j ∧ j ≤ 1000000 ∧ i.natAbs < 2 ^ 64) ∧ Q (.int (i * 2 ^ j.toNat)) M
  | _, _, _, _ => False
theorem opl_Shl : OpL K (rI (fun i j => (0 ≤ j ∧ j ≤ 1000000 ∧ i.natAbs < 2 ^ 64)) fun i j => .int (i * 2 ^ j.toNat)) r3Shl := by
  intro d e v u H M Q Q2 rd re a q g
  unfold r3Shl at q
  split at q
  · cases rd.int_inv; cases re.int_inv
    exact ⟨_, _, rfl, rfl, q.1, g _ _ H M (Tps.refl H) a Rv.int q.2⟩
  · exact q.elim
theorem d_shl (ha : DE X a ta) (hb : DE X b tb) : DE X (.BinOp a .LShift b pos) (e3Op r3Shl ta tb) := d_op op_shl opl_Shl ha hb
def r3Shr : D → D → MH → Q3 → Prop
  | .int i, .int j, M, Q => 0 ≤ j ∧ Q (.int (i / 2 ^ j.toNat)) M
  | _, _, _, _ => False
theorem opl_Shr : OpL K (rI (fun i j => 0 ≤ j) fun i j => .int (i / 2 ^ j.toNat)) r3Shr := by
  intro d e v u H M Q Q2 rd re a q g
  unfold r3Shr at q
  split at q
  · cases rd.int_inv; cases re.int_inv
    exact ⟨_, _, rfl, rfl, q.1, g _ _ H M (Tps.refl H) a Rv.int q.2⟩
  · exact q.elim
theorem d_shr (ha : DE X a ta) (hb : DE X b tb) : DE X (.BinOp a .RShift b pos) (e3Op r3Shr ta tb) := d_op op_shr opl_Shr ha hb
def r3Band : D → D → MH → Q3 → Prop
  | .int i, .int j, M, Q => Q (.int (Builtin.bitAnd i j)) M
  | _, _, _, _ => False
theorem opl_Band : OpL K (rI0 fun i j => .int (Builtin.bitAnd i j)) r3Band := by
  intro d e v u H M Q Q2 rd re a q g
  unfold r3Band at q
  split at q
  · cases rd.int_inv; cases re.int_inv
    exact ⟨_, _, rfl, rfl, g _ _ H M (Tps.refl H) a Rv.int q⟩
  · exact q.elim
theorem d_band (ha : DE X a ta) (hb : DE X b tb) : DE X (.BinOp a .BitAnd b pos) (e3Op r3Band ta tb) := d_op op_and opl_Band ha hb
def r3Bor : D → D → MH → Q3 → Prop
  | .int i, .int j, M, Q => Q (.int (Builtin.bitOr i j)) M
  | _, _, _, _ => False
theorem opl_Bor : OpL K (rI0 fun i j => .int (Builtin.bitOr i j)) r3Bor := by
  intro d e v u H M Q Q2 rd re a q g
  unfold r3Bor at q
  split at q
  · cases rd.int_inv; cases re.int_inv
    exact ⟨_, _, rfl, rfl, g _ _ H M (Tps.refl H) a Rv.int q⟩
  · exact q.elim
theorem d_bor (ha : DE X a ta) (hb : DE X b tb) : DE X (.BinOp a .BitOr b pos) (e3Op r3Bor ta tb) := d_op op_or opl_Bor ha hb
/-! ### data for == and in -/
mutual
inductive Py (M : MH) : D → PyData → Prop
  | non : Py M .non .none
  | bl (b : Bool) : Py M (.bl b) (.bool b)
  | int (i : Int) : Py M (.int i) (.int i)
  | str (x : Str) : Py M (.str x) (.str x)
  | tup {ds : List D} {ps : List PyData} : Pys M ds ps → Py M (.tup ds) (.tuple ps)
  | ref {a : Addr} {ds : List D} {ps : List PyData} : LstM M a ds → Pys M ds ps → Py M (.ref a) (.list ps)
inductive Pys (M : MH) : List D → List PyData → Prop
  | nil : Pys M [] []
  | cons {d : D} {ds : List D} {p : PyData} {ps : List PyData} : Py M d p → Pys M ds ps → Pys M (d :: ds) (p :: ps)
end
mutual
theorem Py.dp {H : Hp} {M : MH} (a : Abs K M H) : ∀ (p : PyData) (d : D) (v : V), Py M d p → Rv K H d v → Dp K H v p
  | .none, _, _, h, r => by cases h; cases r.non_inv; exact .non
  | .bool b, _, _, h, r => by cases h; cases r.bl_inv; exact .bl b
  | .int i, _, _, h, r => by cases h; cases r.int_inv; exact .int i
  | .str x, _, _, h, r => by cases h; cases r.str_inv; exact .str x
  | .tuple ps, _, _, h, r => by
    cases h with
    | tup h =>
      obtain ⟨p, vs, rfl, hs, hv⟩ := r.tup_inv
      exact .tup hs (Pys.dp a ps _ _ h hv)
  | .list ps, _, _, h, r => by
    cases h with
    | ref hl h =>
      cases r.ref_inv
      obtain ⟨vs, hs, hv⟩ := a.rd hl
      exact .lst hs (Pys.dp a ps _ _ h hv)
  | .dict _, _, _, h, _ => by cases h
theorem Pys.dp {H : Hp} {M : MH} (a : Abs K M H) : ∀ (ps : List PyData) (ds : List D) (vs : List V), Pys M ds ps → Rvs K H ds vs → DpAll K H vs ps
  | [], _, _, h, r => by cases h; cases r.nil_inv; exact .nil
  | p :: ps, _, _, h, r => by
    cases h with
    | cons h1 h2 =>
      obtain ⟨v, vs, rfl, r1, r2⟩ := r.cons_inv
      exact .cons (Py.dp a p _ _ h1 r1) (Pys.dp a ps _ _ h2 r2)
end
@[irreducible] def r3Eq : D → D → MH → Q3 → Prop
  | .int i, .int j, M, Q => Q (.bl (decide (i = j))) M
  | .bl i, .bl j, M, Q => Q (.bl (i == j)) M
  | .str i, .str j, M, Q => Q (.bl (decide (i = j))) M
  | d, e, M, Q => ∃ p q, Py M d p ∧ Py M e q ∧ SeqAt.shaped p = true ∧ SeqAt.shaped q = true ∧ Q (.bl (PyData.eqv p q)) M
@[irreducible] def r3Ne : D → D → MH → Q3 → Prop
  | .int i, .int j, M, Q => Q (.bl (!decide (i = j))) M
  | .bl i, .bl j, M, Q => Q (.bl (!(i == j))) M
  | .str i, .str j, M, Q => Q (.bl (!decide (i = j))) M
  | d, e, M, Q => ∃ p q, Py M d p ∧ Py M e q ∧ SeqAt.shaped p = true ∧ SeqAt.shaped q = true ∧ Q (.bl (!PyData.eqv p q)) M
theorem opl_eq : OpL K (fun x y H Q => rEq x y H Q ∨ rEqD K x y H Q) r3Eq := by
  intro d e v u H M Q Q2 rd re a q g
  unfold r3Eq at q
  split at q
  · cases rd.int_inv; cases re.int_inv
    refine .inl ⟨rfl, g _ _ H M (Tps.refl H) a Rv.bl ?_⟩
    rename_i i j
    have e1 : decide (V.int i = V.int j) = decide (i = j) := by
      by_cases h : i = j
      · subst h; simp
      · simp [h]
    rw [e1]; exact q
  · cases rd.bl_inv; cases re.bl_inv
    refine .inl ⟨rfl, g _ _ H M (Tps.refl H) a Rv.bl ?_⟩
    rename_i i j
    have e1 : decide (V.bl i = V.bl j) = (i == j) := by cases i <;> cases j <;> rfl
    rw [e1]; exact q
  · cases rd.str_inv; cases re.str_inv
    refine .inl ⟨rfl, g _ _ H M (Tps.refl H) a Rv.bl ?_⟩
    rename_i i j
    have e1 : decide (V.str i = V.str j) = decide (i = j) := by
      by_cases h : i = j
      · subst h; simp
      · simp [h]
    rw [e1]; exact q
  · obtain ⟨p, q', h1, h2, s1, s2, q⟩ := q
    exact .inr ⟨p, q', Py.dp a p _ _ h1 rd, Py.dp a q' _ _ h2 re, s1, s2, g _ _ H M (Tps.refl H) a Rv.bl q⟩
theorem opl_ne : OpL K (fun x y H Q => rNe x y H Q ∨ rNeD K x y H Q) r3Ne := by
  intro d e v u H M Q Q2 rd re a q g
  unfold r3Ne at q
  split at q
  · cases rd.int_inv; cases re.int_inv
    refine .inl ⟨rfl, g _ _ H M (Tps.refl H) a Rv.bl ?_⟩
    rename_i i j
    have e1 : decide (V.int i = V.int j) = decide (i = j) := by
      by_cases h : i = j
      · subst h; simp
      · simp [h]
    rw [e1]; exact q
  · cases rd.bl_inv; cases re.bl_inv
    refine .inl ⟨rfl, g _ _ H M (Tps.refl H) a Rv.bl ?_⟩
    rename_i i j
    have e1 : decide (V.bl i = V.bl j) = (i == j) := by cases i <;> cases j <;> rfl
    rw [e1]; exact q
  · cases rd.str_inv; cases re.str_inv
    refine .inl ⟨rfl, g _ _ H M (Tps.refl H) a Rv.bl ?_⟩
    rename_i i j
    have e1 : decide (V.str i = V.str j) = decide (i = j) := by
      by_cases h : i = j
      · subst h; simp
      · simp [h]
    rw [e1]; exact q
  · obtain ⟨p, q', h1, h2, s1, s2, q⟩ := q
    exact .inr ⟨p, q', Py.dp a p _ _ h1 rd, Py.dp a q' _ _ h2 re, s1, s2, g _ _ H M (Tps.refl H) a Rv.bl q⟩
theorem ho_eq {k : Nat} (hr : Room k X.A) : OpR X (compareOp .Eq) (fun x y H Q => rEq x y H Q ∨ rEqD X.K x y H Q) := op_eq.or (op_eqD hr.units)
theorem ho_ne {k : Nat} (hr : Room k X.A) : OpR X (compareOp .NotEq) (fun x y H Q => rNe x y H Q ∨ rNeD X.K x y H Q) := op_ne.or (op_neD hr.units)
def r3Cmp (f : Int → Int → Bool) : D → D → MH → Q3 → Prop
  | .int i, .int j, M, Q => Q (.bl (f i j)) M
  | _, _, _, _ => False
theorem opl_cmp {f : Int → Int → Bool} : OpL K (rI0 fun i j => .bl (f i j)) (r3Cmp f) := by
  intro d e v u H M Q Q2 rd re a q g
  unfold r3Cmp at q
  split at q
  · cases rd.int_inv; cases re.int_inv
    exact ⟨_, _, rfl, rfl, g _ _ H M (Tps.refl H) a Rv.bl q⟩
  · exact q.elim
def r3Lt : D → D → MH → Q3 → Prop
  | .int i, .int j, M, Q => Q (.bl (decide (i < j))) M
  | _, _, _, _ => False
theorem opl_Lt : OpL K (rI0 fun i j => .bl (decide (i < j))) r3Lt := by
  intro d e v u H M Q Q2 rd re a q g
  unfold r3Lt at q
  split at q
  · cases rd.int_inv; cases re.int_inv
    exact ⟨_, _, rfl, rfl, g _ _ H M (Tps.refl H) a Rv.bl q⟩
  · exact q.elim
def r3Le : D → D → MH → Q3 → Prop
  | .int i, .int j, M, Q => Q (.bl (decide (i ≤ j))) M
  | _, _, _, _ => False
theorem opl_Le : OpL K (rI0 fun i j => .bl (decide (i ≤ j))) r3Le := by
  intro d e v u H M Q Q2 rd re a q g
  unfold r3Le at q
  split at q
  · cases rd.int_inv; cases re.int_inv
    exact ⟨_, _, rfl, rfl, g _ _ H M (Tps.refl H) a Rv.bl q⟩
  · exact q.elim
def r3Gt : D → D → MH → Q3 → Prop
  | .int i, .int j, M, Q => Q (.bl (decide (j < i))) M
  | _, _, _, _ => False
theorem opl_Gt : OpL K (rI0 fun i j => .bl (decide (j < i))) r3Gt := by
  intro d e v u H M Q Q2 rd re a q g
  unfold r3Gt at q
  split at q
  · cases rd.int_inv; cases re.int_inv
    exact ⟨_, _, rfl, rfl, g _ _ H M (Tps.refl H) a Rv.bl q⟩
  · exact q.elim
def r3Ge : D → D → MH → Q3 → Prop
  | .int i, .int j, M, Q => Q (.bl (decide (j ≤ i))) M
  | _, _, _, _ => False
theorem opl_Ge : OpL K (rI0 fun i j => .bl (decide (j ≤ i))) r3Ge := by
  intro d e v u H M Q Q2 rd re a q g
  unfold r3Ge at q
  split at q
  · cases rd.int_inv; cases re.int_inv
    exact ⟨_, _, rfl, rfl, g _ _ H M (Tps.refl H) a Rv.bl q⟩
  · exact q.elim
def isNonD : D → Bool
  | .non => true
  | _ => false
def r3Is : D → D → MH → Q3 → Prop
  | d, .non, M, Q => Q (.bl (isNonD d)) M
  | _, _, _, _ => False
def r3IsNot : D → D → MH → Q3 → Prop
  | d, .non, M, Q => Q (.bl (!isNonD d)) M
  | _, _, _, _ => False
theorem isNonD_rel {H : Hp} {d : D} {v : V} (r : Rv K H d v) : decide (v = .non) = isNonD d := by
  cases d with
  | non => cases r.non_inv; rfl
  | bl b => cases r.bl_inv; rfl
  | int b => cases r.int_inv; rfl
  | str b => cases r.str_inv; rfl
  | tup b => obtain ⟨_, _, rfl, _⟩ := r.tup_inv; rfl
  | ref b => cases r.ref_inv; rfl
  | ty b => cases r.ty_inv; rfl
theorem opl_is : OpL K (fun x y H Q => y = .non ∧ Q (.bl (decide (x = .non))) H) r3Is := by
  intro d e v u H M Q Q2 rd re a q g
  unfold r3Is at q
  split at q
  · refine ⟨re.non_inv, ?_⟩
    rw [isNonD_rel rd]
    exact g _ _ H M (Tps.refl H) a Rv.bl q
  · exact q.elim
theorem opl_isnot : OpL K (fun x y H Q => y = .non ∧ Q (.bl (!decide (x = .non))) H) r3IsNot := by
  intro d e v u H M Q Q2 rd re a q g
  unfold r3IsNot at q
  split at q
  · refine ⟨re.non_inv, ?_⟩
    rw [isNonD_rel rd]
    exact g _ _ H M (Tps.refl H) a Rv.bl q
  · exact q.elim
/-! ### in: a list or a tuple of data -/
def rInT (K : Fg) : R2 := fun x y H Q => ∃ d ds, Dp K H x d ∧ Dp K H y (.tuple ds) ∧ SeqAt.shaped d = true ∧ SeqAt.shaped (.tuple ds) = true ∧ Q (.bl (ds.any fun z => PyData.eqv z d)) H
def rNotInT (K : Fg) : R2 := fun x y H Q => ∃ d ds, Dp K H x d ∧ Dp K H y (.tuple ds) ∧ SeqAt.shaped d = true ∧ SeqAt.shaped (.tuple ds) = true ∧ Q (.bl (!ds.any fun z => PyData.eqv z d)) H
theorem canLayT {ds : List PyData} (h : SeqAt.shaped (.tuple ds) = true) : PyData.canLayAll0 ds = true := by
  have := SeqAt.canLay_of_shaped h
  simpa [PyData.canLay0] using this
theorem op_inT (hu : X.A.units + 65 < cLine) : OpR X (compareOp .In) (rInT X.K) := by
  intro pins s σ H x y v u Q I rx ry h
  obtain ⟨d, ds, hd, he, sd, se, q⟩ := h
  obtain ⟨as, r1⟩ := Dp.reads I d x v hd rx
  obtain ⟨bs, r2⟩ := Dp.reads I (.tuple ds) y u he ry
  exact SeqAt.in_tuple_reads r2 r1 (canLayT se) (SeqAt.canLay_of_shaped sd) (room_in_shaped sd hu) ⟨.bl _, H, I, rfl, q⟩
theorem op_notInT (hu : X.A.units + 65 < cLine) : OpR X (compareOp .NotIn) (rNotInT X.K) := by
  intro pins s σ H x y v u Q I rx ry h
  obtain ⟨d, ds, hd, he, sd, se, q⟩ := h
  obtain ⟨as, r1⟩ := Dp.reads I d x v hd rx
  obtain ⟨bs, r2⟩ := Dp.reads I (.tuple ds) y u he ry
  exact SeqAt.notIn_tuple_reads r2 r1 (canLayT se) (SeqAt.canLay_of_shaped sd) (room_in_shaped sd hu) ⟨.bl _, H, I, rfl, q⟩
def Seq3 (M : MH) (ds : List D) : D → Prop
  | .tup es => es = ds
  | .ref a => LstM M a ds
  | _ => False
@[irreducible] def r3In (neg : Bool) : D → D → MH → Q3 → Prop := fun d e M Q => ∃ p ds ps, Py M d p ∧ Seq3 M ds e ∧ Pys M ds ps ∧ SeqAt.shaped p = true ∧ SeqAt.shaped (.list ps) = true ∧ SeqAt.shaped (.tuple ps) = true ∧ Q (.bl (neg ^^ ps.any fun z => PyData.eqv z p)) M
theorem opl_in : OpL K (fun x y H Q => rInD K x y H Q ∨ rInT K x y H Q) (r3In false) := by
  intro d e v u H M Q Q2 rd re a q g
  unfold r3In at q
  obtain ⟨p, ds, ps, h1, h2, h3, s1, s2, s3, q⟩ := q
  rw [Bool.false_xor] at q
  cases e with
  | tup es =>
    obtain rfl : es = ds := h2
    exact .inr ⟨p, ps, Py.dp a p _ _ h1 rd, Py.dp a (.tuple ps) _ _ (.tup h3) re, s1, s3, g _ _ H M (Tps.refl H) a Rv.bl q⟩
  | ref l => exact .inl ⟨p, ps, Py.dp a p _ _ h1 rd, Py.dp a (.list ps) _ _ (.ref h2 h3) re, s1, s2, g _ _ H M (Tps.refl H) a Rv.bl q⟩
  | _ => exact h2.elim
theorem opl_notin : OpL K (fun x y H Q => rNotInD K x y H Q ∨ rNotInT K x y H Q) (r3In true) := by
  intro d e v u H M Q Q2 rd re a q g
  unfold r3In at q
  obtain ⟨p, ds, ps, h1, h2, h3, s1, s2, s3, q⟩ := q
  rw [Bool.true_xor] at q
  cases e with
  | tup es =>
    obtain rfl : es = ds := h2
    exact .inr ⟨p, ps, Py.dp a p _ _ h1 rd, Py.dp a (.tuple ps) _ _ (.tup h3) re, s1, s3, g _ _ H M (Tps.refl H) a Rv.bl q⟩
  | ref l => exact .inl ⟨p, ps, Py.dp a p _ _ h1 rd, Py.dp a (.list ps) _ _ (.ref h2 h3) re, s1, s2, g _ _ H M (Tps.refl H) a Rv.bl q⟩
  | _ => exact h2.elim
theorem Room.u65 {k : Nat} {A : Around} (r : Room k A) : A.units + 65 < cLine := by have := r.un; omega
theorem ho_in {k : Nat} (hr : Room k X.A) : OpR X (compareOp .In) (fun x y H Q => rInD X.K x y H Q ∨ rInT X.K x y H Q) := (op_inD (Room.u65 hr)).or (op_inT (Room.u65 hr))
theorem ho_notin {k : Nat} (hr : Room k X.A) : OpR X (compareOp .NotIn) (fun x y H Q => rNotInD X.K x y H Q ∨ rNotInT X.K x y H Q) := (op_notInD (Room.u65 hr)).or (op_notInT (Room.u65 hr))
end
end L3

namespace L3
open PySem PySem.Spec PyProof.Rows L2
section
variable {X : Cx} {e a b c o i : Expr} {es : List Expr} {pos p : Pos} {t ta tb tc : E3} {u : A3} {K : Fg}
/-! ### argument lists, displays -/
def a3Nil : A3 := fun _ _ M Q => Q [] M
def a3Cons (t : E3) (u : A3) : A3 := fun W env M Q => t W env M fun d M1 => u W env M1 fun ds M2 => Q (d :: ds) M2
theorem da_nil : DA X [] a3Nil := fun W2 _ => pa_nil.imp fun σ H Q2 ⟨env, M, W, Q, s, a, l, q, g⟩ => g [] [] H M (Tps.refl H) a Rvs.nil q
theorem da_cons (ha : DE X e t) (hr : DA X es u) (hs : starEach (e :: es) X.env = (false, eval e X.env) :: starEach es X.env := by rfl) : DA X (e :: es) (a3Cons t u) := fun W2 tk =>
  (pa_cons (ha W2 tk) (hr W2 tk) hs).imp fun σ H Q2 ⟨env, M, W, Q, s, a, l, q, g⟩ => ⟨env, M, W, _, s, a, l, q, fun d v H1 M1 t1 a1 r1 q1 =>
    ⟨env, M1, W, _, s.mono t1, a1, l.mono t1, q1, fun ds vs H2 M2 t2 a2 r2 q2 => g _ _ H2 M2 (t1.trans t2) a2 (Rvs.cons (r1.mono t2) r2) q2⟩⟩
def e3Tup (u : A3) : E3 := fun W env M Q => u W env M fun ds M1 => ds.length ≤ sizeLine ∧ Q (.tup ds) M1
def e3Lst (u : A3) : E3 := fun W env M Q => u W env M fun ds M1 => ds.length ≤ sizeLine ∧ ∀ p, M1 p = none → Q (.ref p) (updM M1 p (.lst ds))
theorem d_tup {x1} (h : DA X es u) : DE X (.Tuple es x1 pos) (e3Tup u) := fun W2 tk => (pe_tup (h W2 tk)).imp fun σ H Q2 ⟨env, M, W, Q, s, a, l, q, g⟩ =>
  ⟨env, M, W, _, s, a, l, q, fun ds vs H1 M1 t1 a1 r1 q1 => ⟨by rw [← r1.length]; exact q1.1, fun p np => g _ _ _ M1 (t1.trans (Tps.new np)) (a1.tupN np) (Rv.tup (SqT.of upd_same) (r1.mono (Tps.new np))) q1.2⟩⟩
theorem d_lst (h : DA X es u) : DE X (.List es pos) (e3Lst u) := fun W2 tk => (pe_lst (h W2 tk)).imp fun σ H Q2 ⟨env, M, W, Q, s, a, l, q, g⟩ =>
  ⟨env, M, W, _, s, a, l, q, fun ds vs H1 M1 t1 a1 r1 q1 => ⟨by rw [← r1.length]; exact q1.1, fun p np => g _ _ _ _ (t1.trans (Tps.new np)) (a1.lstN np r1) Rv.ref (q1.2 p (a1.fresh np))⟩⟩
/-! ### subscripts -/
def r3Ix : D → D → MH → Q3 → Prop
  | .tup ds, .int i, M, Q => ∃ d, atI ds i = some d ∧ Q d M
  | .ref l, .int i, M, Q => ∃ ds d, LstM M l ds ∧ atI ds i = some d ∧ Q d M
  | _, _, _, _ => False
theorem Rvs.at {H : Hp} {ds : List D} {vs : List V} {i : Int} {d : D} (r : Rvs K H ds vs) (h : atI ds i = some d) : ∃ v, atI vs i = some v ∧ Rv K H d v := by
  unfold atI at h ⊢
  rw [← r.length]
  cases q : ixN ds.length i with
  | none => rw [q] at h; cases h
  | some j =>
    rw [q] at h
    obtain ⟨v, e, r'⟩ := r.get (i := j) (d := d) h
    exact ⟨v, e, r'⟩
theorem opl_ix : OpL K (fun x y H Q => rIxT K x y H Q ∨ rIxL K x y H Q) r3Ix := by
  intro d e v u H M Q Q2 rd re a q g
  unfold r3Ix at q
  split at q
  · obtain ⟨x, hx, q⟩ := q
    cases re.int_inv
    obtain ⟨p, vs, rfl, hs, hv⟩ := rd.tup_inv
    obtain ⟨y, hy, ry⟩ := hv.at hx
    exact .inl ⟨p, vs, _, y, rfl, rfl, hs, hy, g _ _ H M (Tps.refl H) a ry q⟩
  · obtain ⟨ds, x, hl, hx, q⟩ := q
    cases re.int_inv
    cases rd.ref_inv
    obtain ⟨vs, hs, hv⟩ := a.rd hl
    obtain ⟨y, hy, ry⟩ := hv.at hx
    exact .inr ⟨_, vs, _, y, rfl, rfl, hs, hy, g _ _ H M (Tps.refl H) a ry q⟩
  · exact q.elim
theorem d_ix (ha : DE X a ta) (hb : DE X b tb) (hs : PlainIx b := by exact fun _ _ => rfl) : DE X (.Subscript a b pos) (e3Op r3Ix ta tb) :=
  fun W2 tk => (pe_ix (ix_tup.or ix_list) (ha W2 tk) (hb W2 tk) hs).imp fun σ H Q2 h => op_low opl_ix h
/-! ### slices -/
abbrev O3 := W3 → En → MH → (Option Int → MH → Prop) → Prop
def lowO (K : Fg) (W2 : WX) (t : O3) : TO := fun σ H Q2 => ∃ env M W Q, SE K H σ env ∧ Abs K M H ∧ LW K H W W2 ∧ t W env M Q ∧ ∀ o H' M', Tps H H' → Abs K M' H' → Q o M' → Q2 o H'
def DO (X : Cx) (e : Option Expr) (t : O3) : Prop := ∀ W2, Takes X W2 → PO X e (lowO X.K W2 t)
theorem _root_.L2.PO.imp {X : Cx} {e : Option Expr} {t t' : TO} (h : PO X e t) (k : ∀ σ H Q, t' σ H Q → t σ H Q) : PO X e t' := ⟨fun pins s σ H Q I q => h.run pins s σ H Q I (k σ H Q q)⟩
def o3None : O3 := fun _ _ M Q => Q none M
def o3Some (t : E3) : O3 := fun W env M Q => t W env M fun d M1 => match d with | .int i => Q (some i) M1 | _ => False
theorem do_none : DO X none o3None := fun W2 _ => po_none.imp fun σ H Q2 ⟨env, M, W, Q, s, a, l, q, g⟩ => g _ H M (Tps.refl H) a q
theorem do_some (h : DE X e t) : DO X (some e) (o3Some t) := fun W2 tk => (po_some (h W2 tk)).imp fun σ H Q2 ⟨env, M, W, Q, s, a, l, q, g⟩ =>
  ⟨env, M, W, _, s, a, l, q, fun d v H1 M1 t1 a1 r1 q1 => by
    cases d with
    | int i => exact ⟨i, r1.int_inv, g _ H1 M1 t1 a1 q1⟩
    | _ => exact q1.elim⟩
def cutD (ds : List D) (lo hi : Option Int) : List D := (ds.drop (HT.sIx ds.length 0 lo)).take (HT.sIx ds.length ds.length hi - HT.sIx ds.length 0 lo)
def r3Sl : D → Option Int → Option Int → MH → Q3 → Prop
  | .tup ds, lo, hi, M, Q => Q (.tup (cutD ds lo hi)) M
  | .ref l, lo, hi, M, Q => ∃ ds, LstM M l ds ∧ ∀ p, M p = none → Q (.ref p) (updM M p (.lst (cutD ds lo hi)))
  | _, _, _, _, _ => False
def e3Sl (t : E3) (tl th : O3) : E3 := fun W env M Q => t W env M fun d M1 => tl W env M1 fun lo M2 => th W env M2 fun hi M3 => r3Sl d lo hi M3 Q
theorem Rvs.cut {H : Hp} {ds : List D} {vs : List V} (r : Rvs K H ds vs) (lo hi : Option Int) : Rvs K H (cutD ds lo hi) (cutV vs lo hi) := by
  unfold cutD cutV
  rw [r.length]
  exact (r.drop _).take _
theorem d_sl {lo hi : Option Expr} {tl th : O3} {p2} (ha : DE X a t) (hl : DO X lo tl) (hh : DO X hi th) : DE X (.Subscript a (.Slice lo hi none p2) pos) (e3Sl t tl th) := fun W2 tk =>
  (pe_slice (sl_tupA.or sl_list) (ha W2 tk) (hl W2 tk) (hh W2 tk)).imp fun σ H Q2 ⟨env, M, W, Q, s, a, l, q, g⟩ => by
    refine ⟨env, M, W, _, s, a, l, q, fun d v H1 M1 t1 a1 r1 q1 => ?_⟩
    refine ⟨env, M1, W, _, s.mono t1, a1, l.mono t1, q1, fun lo H2 M2 t2 a2 q2 => ?_⟩
    have t12 := t1.trans t2
    refine ⟨env, M2, W, _, s.mono t12, a2, l.mono t12, q2, fun hi H3 M3 t3 a3 q3 => ?_⟩
    have g3 := g.mono (t12.trans t3)
    have r3 := r1.mono (t2.trans t3)
    unfold r3Sl at q3
    split at q3
    · rename_i ds
      obtain ⟨p, vs, rfl, hs, hv⟩ := r3.tup_inv
      refine .inl ⟨p, vs, rfl, hs, fun w => ?_, fun w p np => ?_⟩
      · refine g3 _ _ H3 M3 (Tps.refl H3) a3 (Rv.tup hs ?_) q3
        have e : cutV vs lo hi = vs := by
          unfold cutV
          rw [w.1, w.2, List.drop_zero, Nat.sub_zero, List.take_length]
        have := hv.cut lo hi
        rw [e] at this
        exact this
      · exact g3 _ _ _ M3 (Tps.new np) (a3.tupN np) (Rv.tup (SqT.of upd_same) ((hv.cut lo hi).mono (Tps.new np))) q3
    · obtain ⟨ds, hl, q3⟩ := q3
      cases r3.ref_inv
      obtain ⟨vs, hs, hv⟩ := a3.rd hl
      exact .inr ⟨_, vs, rfl, hs, fun p np => g3 _ _ _ _ (Tps.new np) (a3.lstN np (hv.cut lo hi)) Rv.ref (q3 p (a3.fresh np))⟩
    · exact q3.elim
/-! ### and, or, not, if .. else -/
def t3And (t u : T3) : T3 := fun W env M Q => t W env M fun b M1 => Br b (u W env M1 Q) (Q false M1)
def t3Or (t u : T3) : T3 := fun W env M Q => t W env M fun b M1 => Br b (Q true M1) (u W env M1 Q)
def t3Not (t : T3) : T3 := fun W env M Q => t W env M fun b M1 => Q (!b) M1
variable {tA tB : T3} {rest : List Expr}
theorem w_one (h : DT X a tA) {op : BoolOp} : DW X (.BoolOp op [a] pos) tA := fun W2 tk => by
  cases op with
  | And => exact pw_and1 (h W2 tk)
  | Or => exact pw_or1 (h W2 tk)
theorem w_and (ha : DT X a tA) (hb : DW X (.BoolOp .And (b :: rest) pos) tB) : DW X (.BoolOp .And (a :: b :: rest) pos) (t3And tA tB) := fun W2 tk => (pw_and (ha W2 tk) (hb W2 tk)).imp fun σ H Q2 ⟨env, M, W, Q, s, a, l, q, g⟩ =>
  ⟨env, M, W, _, s, a, l, q, fun b H1 M1 t1 a1 q1 => by
    cases b with
    | true => rw [if_pos rfl]; exact ⟨env, M1, W, Q, s.mono t1, a1, l.mono t1, q1.1 rfl, fun b H2 M2 t2 a2 q2 => g b H2 M2 (t1.trans t2) a2 q2⟩
    | false => rw [if_neg Bool.false_ne_true]; exact g _ H1 M1 t1 a1 (q1.2 rfl)⟩
theorem w_or (ha : DT X a tA) (hb : DW X (.BoolOp .Or (b :: rest) pos) tB) : DW X (.BoolOp .Or (a :: b :: rest) pos) (t3Or tA tB) := fun W2 tk => (pw_or (ha W2 tk) (hb W2 tk)).imp fun σ H Q2 ⟨env, M, W, Q, s, a, l, q, g⟩ =>
  ⟨env, M, W, _, s, a, l, q, fun b H1 M1 t1 a1 q1 => by
    cases b with
    | false => rw [if_neg Bool.false_ne_true]; exact ⟨env, M1, W, Q, s.mono t1, a1, l.mono t1, q1.2 rfl, fun b H2 M2 t2 a2 q2 => g b H2 M2 (t1.trans t2) a2 q2⟩
    | true => rw [if_pos rfl]; exact g _ H1 M1 t1 a1 (q1.1 rfl)⟩
theorem t_w (h : DW X e tA) : DT X e tA := fun W2 tk => (h W2 tk).pt
theorem t_not (h : DT X a tA) : DT X (.UnaryOp .Not a pos) (t3Not tA) := fun W2 tk => (pt_not (h W2 tk)).imp fun σ H Q2 ⟨env, M, W, Q, s, a, l, q, g⟩ =>
  ⟨env, M, W, _, s, a, l, q, fun b H1 M1 t1 a1 q1 => g _ H1 M1 t1 a1 q1⟩
def e3And (t u : E3) : E3 := fun W env M Q => t W env M fun d M1 => match d with | .bl b => Br b (u W env M1 Q) (Q (.bl false) M1) | _ => False
def e3Or (t u : E3) : E3 := fun W env M Q => t W env M fun d M1 => match d with | .bl b => Br b (Q (.bl true) M1) (u W env M1 Q) | _ => False
def e3Not (t : E3) : E3 := fun W env M Q => t W env M fun d M1 => match d with | .bl b => Q (.bl (!b)) M1 | _ => False
theorem d_one {op : BoolOp} (h : DE X a t) : DE X (.BoolOp op [a] pos) t := fun W2 tk => pe_one (h W2 tk)
theorem d_and (ha : DE X a ta) (hb : DE X (.BoolOp .And (b :: rest) pos) tb) : DE X (.BoolOp .And (a :: b :: rest) pos) (e3And ta tb) := fun W2 tk => (pe_and (ha W2 tk) (hb W2 tk)).imp fun σ H Q2 ⟨env, M, W, Q, s, a, l, q, g⟩ =>
  ⟨env, M, W, _, s, a, l, q, fun d v H1 M1 t1 a1 r1 q1 => by
    cases d with
    | bl b =>
      refine ⟨b, r1.bl_inv, ?_⟩
      cases b with
      | true => rw [if_pos rfl]; exact ⟨env, M1, W, Q, s.mono t1, a1, l.mono t1, q1.1 rfl, g.mono t1⟩
      | false => rw [if_neg Bool.false_ne_true]; exact g _ _ H1 M1 t1 a1 Rv.bl (q1.2 rfl)
    | _ => exact q1.elim⟩
theorem d_or (ha : DE X a ta) (hb : DE X (.BoolOp .Or (b :: rest) pos) tb) : DE X (.BoolOp .Or (a :: b :: rest) pos) (e3Or ta tb) := fun W2 tk => (pe_or (ha W2 tk) (hb W2 tk)).imp fun σ H Q2 ⟨env, M, W, Q, s, a, l, q, g⟩ =>
  ⟨env, M, W, _, s, a, l, q, fun d v H1 M1 t1 a1 r1 q1 => by
    cases d with
    | bl b =>
      refine ⟨b, r1.bl_inv, ?_⟩
      cases b with
      | false => rw [if_neg Bool.false_ne_true]; exact ⟨env, M1, W, Q, s.mono t1, a1, l.mono t1, q1.2 rfl, g.mono t1⟩
      | true => rw [if_pos rfl]; exact g _ _ H1 M1 t1 a1 Rv.bl (q1.1 rfl)
    | _ => exact q1.elim⟩
theorem d_not (ha : DE X a ta) : DE X (.UnaryOp .Not a pos) (e3Not ta) := fun W2 tk => (pe_not (ha W2 tk)).imp fun σ H Q2 ⟨env, M, W, Q, s, a, l, q, g⟩ =>
  ⟨env, M, W, _, s, a, l, q, fun d v H1 M1 t1 a1 r1 q1 => by
    cases d with
    | bl b => exact ⟨b, r1.bl_inv, g _ _ H1 M1 t1 a1 Rv.bl q1⟩
    | _ => exact q1.elim⟩
def e3If (c : T3) (t u : E3) : E3 := fun W env M Q => c W env M fun b M1 => Br b (t W env M1 Q) (u W env M1 Q)
theorem d_ifExp (hc : DT X c tA) (ha : DE X a ta) (hb : DE X b tb) : DE X (.IfExp c a b pos) (e3If tA ta tb) := fun W2 tk => (pe_ifExp (hc W2 tk) (ha W2 tk) (hb W2 tk)).imp fun σ H Q2 ⟨env, M, W, Q, s, a, l, q, g⟩ =>
  ⟨env, M, W, _, s, a, l, q, fun b H1 M1 t1 a1 q1 => by
    cases b with
    | true => rw [if_pos rfl]; exact ⟨env, M1, W, Q, s.mono t1, a1, l.mono t1, q1.1 rfl, g.mono t1⟩
    | false => rw [if_neg Bool.false_ne_true]; exact ⟨env, M1, W, Q, s.mono t1, a1, l.mono t1, q1.2 rfl, g.mono t1⟩⟩
def e3Neg (t : E3) : E3 := fun W env M Q => t W env M fun d M1 => match d with | .int i => Q (.int (-i)) M1 | _ => False
theorem d_neg (ha : DE X a ta) : DE X (.UnaryOp .USub a pos) (e3Neg ta) := fun W2 tk => (pe_un un_neg (ha W2 tk)).imp fun σ H Q2 ⟨env, M, W, Q, s, a, l, q, g⟩ =>
  ⟨env, M, W, _, s, a, l, q, fun d v H1 M1 t1 a1 r1 q1 => by
    cases d with
    | int b => exact ⟨b, r1.int_inv, g _ _ H1 M1 t1 a1 Rv.int q1⟩
    | _ => exact q1.elim⟩
/-! ### built-in calls by values -/
def CallL (K : Fg) (r : List V → Hp → VK → Prop) (r3 : List D → MH → Q3 → Prop) : Prop := ∀ ds vs H M Q Q2, Rvs K H ds vs → Abs K M H → r3 ds M Q → Got K H Q Q2 → r vs H Q2
def e3CB (r3 : List D → MH → Q3 → Prop) (u : A3) : E3 := fun W env M Q => u W env M fun ds M1 => r3 ds M1 Q
theorem cb_low {r : List V → Hp → VK → Prop} {r3 : List D → MH → Q3 → Prop} {W2 : WX} (hl : CallL X.K r r3) {σ : L2.St} {H : Hp} {Q2 : VK} (h : lowE X.K W2 (e3CB r3 u) σ H Q2) : tCB r (lowA X.K W2 u) σ H Q2 := by
  obtain ⟨env, M, W, Q, s, a, l, q, g⟩ := h
  exact ⟨env, M, W, _, s, a, l, q, fun ds vs H1 M1 t1 a1 r1 q1 => hl ds vs H1 M1 Q Q2 r1 a1 q1 (g.mono t1)⟩
theorem d_cb {id : String} {x : Str} {r : List V → Hp → VK → Prop} {r3 : List D → MH → Q3 → Prop} (hc : CallR X (.builtin id) r) (hl : CallL X.K r r3) (hg : Gl X x) (hm : X.mg x = none) (hv : bootBuiltins x = some (.builtin id)) (ha : DA X (e :: es) u)
    (hn : x ≠ "__name__" := by decide) (hdb : (x == ("__debug__" : Str)) = false := by decide) (he : starEach (e :: es) X.env = (false, eval e X.env) :: starEach es X.env := by rfl) (hpl : (backTo pos (starEach es X.env)).any (·.1) = false := by rfl) :
    DE X (.Call (.Name x p) (e :: es) [] pos) (e3CB r3 u) := fun W2 tk => (pe_callB hc hg hm hv (ha W2 tk) hn hdb he hpl).imp fun σ H Q2 h => cb_low hl h
theorem d_cty {T : String} {x : Str} {r : List V → Hp → VK → Prop} {r3 : List D → MH → Q3 → Prop} (hc : CallR X (.type T) r) (hl : CallL X.K r r3) (hg : Gl X x) (hm : X.mg x = none) (hv : bootBuiltins x = some (.type T)) (ha : DA X (e :: es) u)
    (hn : x ≠ "__name__" := by decide) (hdb : (x == ("__debug__" : Str)) = false := by decide) (he : starEach (e :: es) X.env = (false, eval e X.env) :: starEach es X.env := by rfl) (hpl : (backTo pos (starEach es X.env)).any (·.1) = false := by rfl) :
    DE X (.Call (.Name x p) (e :: es) [] pos) (e3CB r3 u) := fun W2 tk => (pe_callTy hc hg hm hv (ha W2 tk) hn hdb he hpl).imp fun σ H Q2 h => cb_low hl h
theorem one_inv {H : Hp} {d : D} {vs : List V} (r : Rvs K H [d] vs) : ∃ v, vs = [v] ∧ Rv K H d v := by
  obtain ⟨v, r', rfl, h, t⟩ := r.cons_inv
  cases t.nil_inv
  exact ⟨v, rfl, h⟩
theorem two_inv {H : Hp} {d e : D} {vs : List V} (r : Rvs K H [d, e] vs) : ∃ v w, vs = [v, w] ∧ Rv K H d v ∧ Rv K H e w := by
  obtain ⟨v, r', rfl, h, t⟩ := r.cons_inv
  obtain ⟨w, rfl, h'⟩ := one_inv t
  exact ⟨v, w, rfl, h, h'⟩
def c3Len : List D → MH → Q3 → Prop
  | [.tup ds], M, Q => Q (.int ds.length) M
  | [.ref l], M, Q => ∃ ds, LstM M l ds ∧ Q (.int ds.length) M
  | [.str x], M, Q => x.length ≤ sizeLine ∧ Q (.int x.length) M
  | _, _, _ => False
theorem cl_len : CallL K (fun xs H Q => (fun xs H Q => ∃ p ys, xs = [.ref p] ∧ (SqL K H p ys ∨ SqT K H p ys) ∧ Q (.int ys.length) H) xs H Q ∨ (fun xs H Q => ∃ z, xs = [.str z] ∧ z.length ≤ sizeLine ∧ Q (.int z.length) H) xs H Q) c3Len := by
  intro ds vs H M Q Q2 r a q g
  unfold c3Len at q
  split at q
  · obtain ⟨v, rfl, rr⟩ := one_inv r
    obtain ⟨p, vs, rfl, hs, hv⟩ := rr.tup_inv
    refine .inl ⟨p, vs, rfl, .inr hs, g _ _ H M (Tps.refl H) a ?_ q⟩
    rw [hv.length]; exact Rv.int
  · obtain ⟨v, rfl, rr⟩ := one_inv r
    obtain ⟨ds, hl, q⟩ := q
    cases rr.ref_inv
    obtain ⟨vs, hs, hv⟩ := a.rd hl
    refine .inl ⟨_, vs, rfl, .inl hs, g _ _ H M (Tps.refl H) a ?_ q⟩
    rw [hv.length]; exact Rv.int
  · obtain ⟨v, rfl, rr⟩ := one_inv r
    cases rr.str_inv
    exact .inr ⟨_, rfl, q.1, g _ _ H M (Tps.refl H) a Rv.int q.2⟩
  · exact q.elim
theorem d_len (hm : X.mg "len" = none) (ha : DA X [e] u) (hg : Gl X "len" := by rfl) (he : starEach (e :: []) X.env = (false, eval e X.env) :: starEach [] X.env := by rfl) (hpl : (backTo pos (starEach [] X.env)).any (·.1) = false := by rfl) : DE X (.Call (.Name "len" p) [e] [] pos) (e3CB c3Len u) :=
  d_cb (call_len_seq.or call_len_str) cl_len hg hm PySem.boot_len ha (by decide) (by decide) he hpl
def c3Int : List D → MH → Q3 → Prop
  | [.int i], M, Q => Q (.int i) M
  | [.bl b], M, Q => Q (.int (if b then 1 else 0)) M
  | _, _, _ => False
theorem cl_int : CallL K (fun xs H Q => (∃ i, xs = [.int i] ∧ Q (.int i) H) ∨ ∃ k, xs = [.bl k] ∧ Q (.int (if k then 1 else 0)) H) c3Int := by
  intro ds vs H M Q Q2 r a q g
  unfold c3Int at q
  split at q
  · obtain ⟨v, rfl, rr⟩ := one_inv r
    cases rr.int_inv
    exact .inl ⟨_, rfl, g _ _ H M (Tps.refl H) a Rv.int q⟩
  · obtain ⟨v, rfl, rr⟩ := one_inv r
    cases rr.bl_inv
    exact .inr ⟨_, rfl, g _ _ H M (Tps.refl H) a Rv.int q⟩
  · exact q.elim
theorem boot_int' : bootBuiltins "int" = some (.type "int") := by decide +kernel
theorem boot_abs' : bootBuiltins "abs" = some (.builtin "abs") := by decide +kernel
theorem boot_list' : bootBuiltins "list" = some (.type "list") := by decide +kernel
theorem boot_isinstance' : bootBuiltins "isinstance" = some (.builtin "isinstance") := by decide +kernel
theorem boot_all' : bootBuiltins "all" = some (.builtin "all") := by decide +kernel
theorem boot_any' : bootBuiltins "any" = some (.builtin "any") := by decide +kernel
theorem boot_sum' : bootBuiltins "sum" = some (.builtin "sum") := by decide +kernel
theorem boot_sorted' : bootBuiltins "sorted" = some (.builtin "sorted") := by decide +kernel
theorem d_intc (hm : X.mg "int" = none) (ha : DA X [e] u) (hg : Gl X "int" := by rfl) (he : starEach (e :: []) X.env = (false, eval e X.env) :: starEach [] X.env := by rfl) (hpl : (backTo pos (starEach [] X.env)).any (·.1) = false := by rfl) : DE X (.Call (.Name "int" p) [e] [] pos) (e3CB c3Int u) :=
  d_cty call_int1 cl_int hg hm boot_int' ha (by decide) (by decide) he hpl
def c3Abs : List D → MH → Q3 → Prop
  | [.int i], M, Q => Q (.int (if i < 0 then -i else i)) M
  | _, _, _ => False
theorem cl_abs : CallL K (fun xs H Q => ∃ i, xs = [.int i] ∧ Q (.int (if i < 0 then -i else i)) H) c3Abs := by
  intro ds vs H M Q Q2 r a q g
  unfold c3Abs at q
  split at q
  · obtain ⟨v, rfl, rr⟩ := one_inv r
    cases rr.int_inv
    exact ⟨_, rfl, g _ _ H M (Tps.refl H) a Rv.int q⟩
  · exact q.elim
theorem d_abs (hm : X.mg "abs" = none) (ha : DA X [e] u) (hg : Gl X "abs" := by rfl) (he : starEach (e :: []) X.env = (false, eval e X.env) :: starEach [] X.env := by rfl) (hpl : (backTo pos (starEach [] X.env)).any (·.1) = false := by rfl) : DE X (.Call (.Name "abs" p) [e] [] pos) (e3CB c3Abs u) :=
  d_cb call_abs cl_abs hg hm boot_abs' ha (by decide) (by decide) he hpl
/-- a value's type -/
def tyD (M : MH) : D → String → Prop
  | .non, n => n = "NoneType"
  | .bl _, n => n = "bool"
  | .int _, n => n = "int"
  | .str _, n => n = "str"
  | .tup _, n => n = "tuple"
  | .ref a, n => (n = "list" ∧ ∃ ds, LstM M a ds) ∨ (n = "dict" ∧ ((∃ kvs, M a = some (.dT kvs)) ∨ ∃ kvs, M a = some (.dK kvs)))
  | .ty _, _ => False
theorem tyD_ok {H : Hp} {M : MH} {d : D} {v : V} {n : String} (a : Abs K M H) (r : Rv K H d v) (h : tyD M d n) : TyX K H v (.type n) := by
  cases d with
  | non => cases r.non_inv; obtain rfl : n = _ := h; exact .base .non
  | bl b => cases r.bl_inv; obtain rfl : n = _ := h; exact .base (.bl _)
  | int b => cases r.int_inv; obtain rfl : n = _ := h; exact .base (.int _)
  | str b => cases r.str_inv; obtain rfl : n = _ := h; exact .base (.str _)
  | tup b =>
    obtain ⟨p, vs, rfl, hs, _⟩ := r.tup_inv
    obtain rfl : n = _ := h
    rcases hs with (hs | ⟨o, hs⟩) | ⟨o, its, m, hk, hc, _⟩
    · exact .base (.tup hs)
    · exact .fTuple hs
    · exact .kTuple hk hc
  | ref l =>
    cases r.ref_inv
    rcases h with ⟨rfl, ds, hl⟩ | ⟨rfl, h⟩
    · rcases hl with e | e
      · obtain ⟨vs, h1, _⟩ := a _ _ e
        exact .base (.lst h1)
      · obtain ⟨vs, o, h1, _⟩ := a _ _ e
        exact .base (.frz h1)
    · rcases h with ⟨kvs, e⟩ | ⟨kvs, e⟩
      · obtain ⟨ks, vs, h1, _⟩ := a _ _ e
        exact .base (.dT h1)
      · obtain ⟨ks, vs, h1, _⟩ := a _ _ e
        exact .base (.dK h1)
  | ty b => exact h.elim
@[irreducible] def c3Isi : List D → MH → Q3 → Prop
  | [d, .ty n], M, Q => ∃ m b, tyD M d m ∧ kitB m n = some b ∧ Q (.bl b) M
  | _, _, _ => False
theorem cl_isi : CallL K (rIsi K) c3Isi := by
  intro ds vs H M Q Q2 r a q g
  unfold c3Isi at q
  split at q
  · obtain ⟨v, w, rfl, r1, r2⟩ := two_inv r
    cases r2.ty_inv
    obtain ⟨m, b, h1, h2, q⟩ := q
    exact ⟨v, _, _, _, b, rfl, .ty _, tyD_ok a r1 h1, kit_ty h2, g _ _ H M (Tps.refl H) a Rv.bl q⟩
  · exact q.elim
theorem d_isi {e2 : Expr} (hm : X.mg "isinstance" = none) (ha : DA X [e, e2] u) (hg : Gl X "isinstance" := by rfl) (he : starEach (e :: [e2]) X.env = (false, eval e X.env) :: starEach [e2] X.env := by rfl) (hpl : (backTo pos (starEach [e2] X.env)).any (·.1) = false := by rfl) : DE X (.Call (.Name "isinstance" p) [e, e2] [] pos) (e3CB c3Isi u) :=
  d_cb call_isi cl_isi hg hm boot_isinstance' ha (by decide) (by decide) he hpl
def c3List : List D → MH → Q3 → Prop
  | [.tup ds], M, Q => ∀ p, M p = none → Q (.ref p) (updM M p (.lst ds))
  | [.ref l], M, Q => ∃ ds, LstM M l ds ∧ ∀ p, M p = none → Q (.ref p) (updM M p (.lst ds))
  | _, _, _ => False
theorem cl_list : CallL K (fun xs H Q => ∃ p ys, xs = [.ref p] ∧ (SqL K H p ys ∨ SqT K H p ys) ∧ ∀ l, H l = none → Q (.ref l) (upd H l (.lst ys))) c3List := by
  intro ds vs H M Q Q2 r a q g
  unfold c3List at q
  split at q
  · obtain ⟨v, rfl, rr⟩ := one_inv r
    obtain ⟨p, vs, rfl, hs, hv⟩ := rr.tup_inv
    exact ⟨p, vs, rfl, .inr hs, fun l nl => g _ _ _ _ (Tps.new nl) (a.lstN nl hv) Rv.ref (q l (a.fresh nl))⟩
  · obtain ⟨v, rfl, rr⟩ := one_inv r
    obtain ⟨ds, hl, q⟩ := q
    cases rr.ref_inv
    obtain ⟨vs, hs, hv⟩ := a.rd hl
    exact ⟨_, vs, rfl, .inl hs, fun l nl => g _ _ _ _ (Tps.new nl) (a.lstN nl hv) Rv.ref (q l (a.fresh nl))⟩
  · exact q.elim
theorem d_list (hm : X.mg "list" = none) (ha : DA X [e] u) (hg : Gl X "list" := by rfl) (he : starEach (e :: []) X.env = (false, eval e X.env) :: starEach [] X.env := by rfl) (hpl : (backTo pos (starEach [] X.env)).any (·.1) = false := by rfl) : DE X (.Call (.Name "list" p) [e] [] pos) (e3CB c3List u) :=
  d_cty call_list_of cl_list hg hm boot_list' ha (by decide) (by decide) he hpl
def k3Tup : D → MH → Q3 → Prop
  | .tup ds, M, Q => Q (.tup ds) M
  | .ref l, M, Q => ∃ ds, LstM M l ds ∧ Q (.tup ds) M
  | _, _, _ => False
def e3TupOf (t : E3) : E3 := fun W env M Q => t W env M fun d M1 => k3Tup d M1 Q
theorem d_tuple (hm : X.mg "tuple" = none) (ha : DE X a t) (hg : Gl X "tuple" := by rfl) (na : starEach [a] X.env = (false, eval a X.env) :: starEach [] X.env := by rfl) : DE X (.Call (.Name "tuple" p) [a] [] pos) (e3TupOf t) := fun W2 tk =>
  (pe_tupleOf hg hm (ha W2 tk) na).imp fun σ H Q2 ⟨env, M, W, Q, s, a, l, q, g⟩ => by
    refine ⟨env, M, W, _, s, a, l, q, fun d v H1 M1 t1 a1 r1 q1 => ?_⟩
    have g1 := g.mono t1
    unfold k3Tup at q1
    split at q1
    · obtain ⟨p, vs, rfl, hs, hv⟩ := r1.tup_inv
      exact .inr ⟨p, vs, rfl, hs, g1 _ _ H1 M1 (Tps.refl H1) a1 r1 q1⟩
    · obtain ⟨ds, hl, q1⟩ := q1
      cases r1.ref_inv
      obtain ⟨vs, hs, hv⟩ := a1.rd hl
      exact .inl ⟨_, vs, rfl, hs, fun p np => g1 _ _ _ M1 (Tps.new np) (a1.tupN np) (Rv.tup (SqT.of upd_same) (hv.mono (Tps.new np))) q1⟩
    · exact q1.elim
def bls (bs : List Bool) : List D := bs.map D.bl
theorem Rvs.blsV {H : Hp} : ∀ {bs : List Bool} {vs : List V}, Rvs K H (bls bs) vs → vs = bs.map V.bl
  | [], _, h => h.nil_inv
  | b :: bs, _, h => by
    obtain ⟨v, r, rfl, h1, h2⟩ := Rvs.cons_inv (d := .bl b) (ds := bls bs) h
    rw [h1.bl_inv, Rvs.blsV h2]; rfl
theorem Rvs.intsV {H : Hp} : ∀ {bs : List Int} {vs : List V}, Rvs K H (bs.map D.int) vs → vs = bs.map V.int
  | [], _, h => h.nil_inv
  | b :: bs, _, h => by
    obtain ⟨v, r, rfl, h1, h2⟩ := Rvs.cons_inv (d := .int b) (ds := bs.map D.int) h
    rw [h1.int_inv, Rvs.intsV h2]; rfl
def c3All : List D → MH → Q3 → Prop
  | [.ref l], M, Q => ∃ bs, LstM M l (bls bs) ∧ Q (.bl (bs.all id)) M
  | _, _, _ => False
theorem cl_all : CallL K (rAll K) c3All := by
  intro ds vs H M Q Q2 r a q g
  unfold c3All at q
  split at q
  · obtain ⟨v, rfl, rr⟩ := one_inv r
    obtain ⟨bs, hl, q⟩ := q
    cases rr.ref_inv
    obtain ⟨vs, hs, hv⟩ := a.rd hl
    rw [hv.blsV] at hs
    exact ⟨_, bs, rfl, hs, g _ _ H M (Tps.refl H) a Rv.bl q⟩
  · exact q.elim
theorem d_all (hc : X.calm = true) (hm : X.mg "all" = none) (ha : DA X [e] u) (hg : Gl X "all" := by rfl) (he : starEach (e :: []) X.env = (false, eval e X.env) :: starEach [] X.env := by rfl) (hpl : (backTo pos (starEach [] X.env)).any (·.1) = false := by rfl) : DE X (.Call (.Name "all" p) [e] [] pos) (e3CB c3All u) :=
  d_cb (cr_all hc) cl_all hg hm boot_all' ha (by decide) (by decide) he hpl
/-! ### calls of defs -/
abbrev Sp3 := List D → MH → Q3 → (Value → Option Addr → MH → Prop) → Prop
def lowF (K : Fg) (sp : Sp3) : Sp := fun vs H Q2 E2 => ∃ ds M Q E, Rvs K H ds vs ∧ Abs K M H ∧ sp ds M Q E ∧ Got K H Q Q2 ∧ ∀ cls dd H' M', Tps H H' → Abs K M' H' → E cls dd M' → E2 cls dd H'
def Fn3 (P : Program) (w : World) (K : Fg) (mg : Str → Option Value) (base : Heap) (k : Nat) (f : Addr) (fd : FuncData) (ps : List Str) (sp : Sp3) : Prop := FnOk P w K mg base (L2.CX P w) k f fd ps (lowF K sp)
def e3Call (sp : Sp3) (u : A3) : E3 := fun W env M Q => u W env M fun ds M1 => sp ds M1 Q fun cls dd M' => W cls dd env M'
theorem d_call {k : Nat} {f : Addr} {fd : FuncData} {ps : List Str} {sp : Sp3} {x : Str} (F : Fn3 X.prog X.w X.K X.mg X.base k f fd ps sp) (hr : Room k X.A) (hm : X.mg x = some (.ref f)) (hk : PySem.W.keepIn X.K (.ref f) = true) (hb : Binds X.K fd ps [])
    (ha : DA X (e :: es) u) (hg : Gl X x := by rfl) (hdb : (x == ("__debug__" : Str)) = false := by decide) (he : starEach (e :: es) X.env = (false, eval e X.env) :: starEach es X.env := by rfl) (hpl : (backTo pos (starEach es X.env)).any (·.1) = false := by rfl) :
    DE X (.Call (.Name x p) (e :: es) [] pos) (e3Call sp u) := fun W2 tk =>
  (pe_callS F hr hg hm hk hb (fun σ => passAt tk σ) (ha W2 tk) hdb he hpl).imp fun σ H Q2 ⟨env, M, W, Q, s, a, l, q, g⟩ =>
    ⟨env, M, W, _, s, a, l, q, fun ds vs H1 M1 t1 a1 r1 q1 => ⟨ds, M1, Q, _, r1, a1, q1, g.mono t1, fun cls dd H' M' t2 a2 w => l cls dd σ H' env M' (t1.trans t2) (s.mono (t1.trans t2)) a2 w⟩⟩
end
end L3

namespace L3
open PySem PySem.Spec PyProof.Rows L2
section
variable {X : Cx} {e a b c o : Expr} {es : List Expr} {pos p : Pos} {t ta tb tc : E3} {u : A3} {K : Fg} {st : Stmt} {sts body : List Stmt} {s1 s2 : S3} {tA tB : T3} {g g' : G3}
/-! ### statements -/
abbrev En3 := Ends3
def s3Nil : S3 := fun _ D env M => D.nx env M
def s3Seq (t u : S3) : S3 := fun W D env M => t W { nx := fun env' M' => u W D env' M', rt := D.rt, bk := D.bk, ct := D.ct } env M
theorem dss_nil : DSs X [] s3Nil := fun W2 _ _ => pss_nil.imp fun D2 σ H ⟨env, M, W, D3, s, a, l, q, le⟩ => le.nx σ H env M (Tps.refl H) s a q
theorem dss_cons (h1 : DS X st s1) (h2 : DSs X sts s2) : DSs X (st :: sts) (s3Seq s1 s2) := fun W2 tk hp => (pss_cons (h1 W2 tk hp) (h2 W2 tk hp)).imp fun D2 σ H ⟨env, M, W, D3, s, a, l, q, le⟩ =>
  ⟨env, M, W, _, s, a, l, q, ⟨fun σ' H' env' M' t s' a' q' => ⟨env', M', W, D3, s', a', l.mono t, q', le.mono t⟩, le.rt, le.bk, le.ct⟩⟩
theorem dss_one (h1 : DS X st s1) : DSs X [st] s1 := fun W2 tk hp => pss_one (h1 W2 tk hp)
def s3Asg (t : E3) (i : Nat) : S3 := fun W D env M => t W env M fun d M1 => D.nx (env.set i (some d)) M1
theorem ds_set {i : Nat} {x : Str} {pos' : Pos} (hN : X.N.Nodup) (he : DE X e t) (hi : X.N[i]? = some x := by rfl) (hx : Loc X.env.scope x := by first | exact Or.inl rfl | exact Or.inr rfl) (hs : swapsWith e (some (.Name x pos')) pos.line X.env = pure false := by rfl) (hf : X.fn x = true ∨ X.env.scope.names.lookup x = some .local := by first | exact .inl rfl | exact .inr rfl) :
    DS X (.Assign [.Name x pos'] e pos) (s3Asg t i) := fun W2 tk hp => (ps_set hN hi hx (he W2 tk) hs hf).imp fun D2 σ H ⟨env, M, W, D3, s, a, l, q, le⟩ =>
  ⟨env, M, W, _, s, a, l, q, fun d v H1 M1 t1 a1 r1 q1 => le.nx _ H1 _ M1 t1 ((s.mono t1).set i r1) a1 q1⟩
def s3AsgG (t : E3) (g : G3) : S3 := fun W D env M => t W env M fun d M1 => g W d env M1 D.nx
theorem ds_asg {tg : Expr} (he : DE X e t) (hg : DG X tg g) (hs : swapsWithSole [tg] e pos.line X.env = pure false := by rfl) (hw : swappedStores [tg] e X.env = pure none := by rfl)
    (h1 : (assignEach [tg] X.env).map (·.2) = [assign tg X.env] := by rfl) : DS X (.Assign [tg] e pos) (s3AsgG t g) := fun W2 tk hp => (ps_asg (he W2 tk) (hg W2 tk) hs hw h1).imp fun D2 σ H ⟨env, M, W, D3, s, a, l, q, le⟩ =>
  ⟨env, M, W, _, s, a, l, q, fun d v H1 M1 t1 a1 r1 q1 => ⟨d, env, M1, W, _, r1, s.mono t1, a1, l.mono t1, q1, le.nx.mono t1⟩⟩
def s3Expr (t : E3) : S3 := fun W D env M => t W env M fun _ M1 => D.nx env M1
theorem ds_expr (he : DE X e t) (hs : swapsWith e none pos.line X.env = pure false := by rfl) : DS X (.Expr e pos) (s3Expr t) := fun W2 tk hp => (ps_expr (he W2 tk) hs).imp fun D2 σ H ⟨env, M, W, D3, s, a, l, q, le⟩ =>
  ⟨env, M, W, _, s, a, l, q, fun d v H1 M1 t1 a1 r1 q1 => le.nx σ H1 env M1 t1 (s.mono t1) a1 q1⟩
def s3Ret (t : E3) : S3 := fun W D env M => t W env M D.rt
theorem ds_ret (he : DE X e t) : DS X (.Return (some e) pos) (s3Ret t) := fun W2 tk hp => (ps_ret (he W2 tk)).imp fun D2 σ H ⟨env, M, W, D3, s, a, l, q, le⟩ => ⟨env, M, W, _, s, a, l, q, le.rt⟩
def s3RetN : S3 := fun _ D _ M => D.rt .non M
theorem ds_retN : DS X (.Return none pos) s3RetN := fun W2 tk hp => ps_retN.imp fun D2 σ H ⟨env, M, W, D3, s, a, l, q, le⟩ => le.rt _ _ H M (Tps.refl H) a Rv.non q
def s3If (c : T3) (t u : S3) : S3 := fun W D env M => c W env M fun b M1 => Br b (t W D env M1) (u W D env M1)
theorem ds_if {xs ys : List Stmt} (hc : DT X c tA) (ha : DSs X xs s1) (hb : DSs X ys s2) : DS X (.If c xs ys pos) (s3If tA s1 s2) := fun W2 tk hp => (ps_if (hc W2 tk) (ha W2 tk hp) (hb W2 tk hp)).imp fun D2 σ H ⟨env, M, W, D3, s, a, l, q, le⟩ =>
  ⟨env, M, W, _, s, a, l, q, fun b H1 M1 t1 a1 q1 => by
    cases b with
    | true => rw [if_pos rfl]; exact ⟨env, M1, W, D3, s.mono t1, a1, l.mono t1, q1.1 rfl, le.mono t1⟩
    | false => rw [if_neg Bool.false_ne_true]; exact ⟨env, M1, W, D3, s.mono t1, a1, l.mono t1, q1.2 rfl, le.mono t1⟩⟩
theorem ds_pass : DS X (.Pass pos) s3Nil := fun W2 _ _ => ps_pass.imp fun D2 σ H ⟨env, M, W, D3, s, a, l, q, le⟩ => le.nx σ H env M (Tps.refl H) s a q
def s3Brk : S3 := fun _ D env M => D.bk env M
def s3Cont : S3 := fun _ D env M => D.ct env M
theorem ds_break : DS X (.Break pos) s3Brk := fun W2 _ _ => ps_break.imp fun D2 σ H ⟨env, M, W, D3, s, a, l, q, le⟩ => le.bk σ H env M (Tps.refl H) s a q
theorem ds_continue : DS X (.Continue pos) s3Cont := fun W2 _ _ => ps_continue.imp fun D2 σ H ⟨env, M, W, D3, s, a, l, q, le⟩ => le.ct σ H env M (Tps.refl H) s a q
/-! ### targets -/
def g3Name (i : Nat) : G3 := fun _ d env M Q => Q (env.set i (some d)) M
theorem dg_name {i : Nat} {x : Str} (hN : X.N.Nodup) (hi : X.N[i]? = some x := by rfl) (hx : Loc X.env.scope x := by first | exact Or.inl rfl | exact Or.inr rfl) (hf : X.fn x = true ∨ X.env.scope.names.lookup x = some .local := by first | exact .inl rfl | exact .inr rfl) : DG X (.Name x pos) (g3Name i) := fun W2 tk =>
  (pg_name hN hi hx hf).imp fun v σ H Q2 ⟨d, env, M, W, Q, r, s, a, l, q, n⟩ => n _ H _ M (Tps.refl H) (s.set i r) a q
abbrev Gs3 := W3 → List D → En → MH → (En → MH → Prop) → Prop
def lowGs (K : Fg) (W2 : WX) (t : Gs3) : TGs := fun vs σ H Q2 => ∃ ds env M W Q, Rvs K H ds vs ∧ SE K H σ env ∧ Abs K M H ∧ LW K H W W2 ∧ t W ds env M Q ∧ Nxt K H Q Q2
def DGs (X : Cx) (es : List Expr) (t : Gs3) : Prop := ∀ W2, Takes X W2 → PGs X es (lowGs X.K W2 t)
theorem _root_.L2.PGs.imp {X : Cx} {e : List Expr} {t t' : TGs} (h : PGs X e t) (k : ∀ v σ H Q, t' v σ H Q → t v σ H Q) : PGs X e t' := ⟨fun pins s σ H v u Q I r q => h.run pins s σ H v u Q I r (k v σ H Q q)⟩
def g3sNil : Gs3 := fun _ ds env M Q => ds = [] ∧ Q env M
def g3sCons (g : G3) (gs : Gs3) : Gs3 := fun W ds env M Q => match ds with | d :: r => g W d env M fun env' M' => gs W r env' M' Q | [] => False
theorem dgs_nil : DGs X [] g3sNil := fun W2 tk => pgs_nil.imp fun vs σ H Q2 ⟨ds, env, M, W, Q, r, s, a, l, q, n⟩ => by
  obtain ⟨rfl, q⟩ := q
  exact ⟨r.nil_inv, n σ H env M (Tps.refl H) s a q⟩
theorem dgs_cons {gs : Gs3} (h1 : DG X e g) (h2 : DGs X es gs) (hs : (assignEach (e :: es) X.env).map (·.2) = assign e X.env :: (assignEach es X.env).map (·.2) := by rfl) : DGs X (e :: es) (g3sCons g gs) := fun W2 tk =>
  (pgs_cons (h1 W2 tk) (h2 W2 tk) hs).imp fun vs σ H Q2 ⟨ds, env, M, W, Q, r, s, a, l, q, n⟩ => by
    cases ds with
    | nil => exact q.elim
    | cons d ds =>
      obtain ⟨v, vr, rfl, r1, r2⟩ := r.cons_inv
      exact ⟨v, vr, rfl, d, env, M, W, _, r1, s, a, l, q, fun σ' H' env' M' t s' a' q' => ⟨ds, env', M', W, Q, r2.mono t, s', a', l.mono t, q', n.mono t⟩⟩
def g3Tup (k : Nat) (gs : Gs3) : G3 := fun W d env M Q => match d with | .tup ds => ds.length = k ∧ gs W ds env M Q | _ => False
theorem dg_tup {k : Nat} {gs : Gs3} {n : Nat} (hc : X.calm = true) (h : DGs X es gs) (hn : (assignEach es X.env).length = n := by rfl) (hst : (assignEach es X.env).findIdx? (·.1) = none := by rfl) : DG X (.Tuple es k pos) (g3Tup n gs) := fun W2 tk =>
  (pg_tup hc (h W2 tk) hn hst).imp fun v σ H Q2 ⟨d, env, M, W, Q, r, s, a, l, q, n⟩ => by
    cases d with
    | tup ds =>
      obtain ⟨p, vs, rfl, hs, hv⟩ := r.tup_inv
      exact ⟨p, vs, rfl, hs, by rw [← hv.length]; exact q.1, ds, env, M, W, Q, hv, s, a, l, q.2, n⟩
    | _ => exact q.elim
def g3SubL (to ti : E3) : G3 := fun W d env M Q => to W env M fun od M1 => ti W env M1 fun i M2 => match od, i with
  | .ref l, .int k => ∃ ds j, M2 l = some (.lst ds) ∧ ixN ds.length k = some j ∧ Q env (updM M2 l (.lst (ds.set j d)))
  | _, _ => False
theorem dg_subL {i : Expr} (ho : DE X o ta) (hi : DE X i tb) (ha : ∀ v, assign (.Subscript o i pos) X.env v = (do
      let ov ← holding [v] (eval o X.env)
      let iv ← holding [v, ov] (eval i X.env)
      standAt pos
      holding [v, ov, iv] (setItem ov iv v)
      release [v, ov, iv] []) := by intro _; rfl) : DG X (.Subscript o i pos) (g3SubL ta tb) := fun W2 tk => (pg_sub (ho W2 tk) (hi W2 tk) set_list ha).imp fun v σ H Q2 ⟨d, env, M, W, Q, r, s, a, l, q, n⟩ => by
    refine ⟨env, M, W, _, s, a, l, q, fun od ov H1 M1 t1 a1 r1 q1 => ?_⟩
    refine ⟨env, M1, W, _, s.mono t1, a1, l.mono t1, q1, fun i iv H2 M2 t2 a2 r2 q2 => ?_⟩
    have t12 := t1.trans t2
    split at q2
    · obtain ⟨ds, j, hl, hj, q2⟩ := q2
      cases r1.ref_inv; cases r2.int_inv
      obtain ⟨vs, h1, hv⟩ := a2.lst hl
      exact ⟨_, vs, _, j, rfl, rfl, h1, by rw [← hv.length]; exact hj, n σ _ env _ (t12.trans (Tps.lst h1)) (s.mono (t12.trans (Tps.lst h1))) (a2.lstU h1 (hv.set (r.mono t12) j)) q2⟩
    · exact q2.elim
/-! ### for -/
def Loop (ds : List D) (keep : MH → Prop) (g : G3) (tb : S3) (W : W3) (D3 : Ends3) (env : En) (M : MH) : Prop := ∃ Inv : Nat → En → MH → Prop, Inv 0 env M ∧
  (∀ i d env' M', ds[i]? = some d → Inv i env' M' → keep M' ∧ g W d env' M' fun env2 M2 => tb W { nx := Inv (i + 1), rt := D3.rt, bk := D3.nx, ct := Inv (i + 1) } env2 M2) ∧
  ∀ env' M', Inv ds.length env' M' → keep M' ∧ D3.nx env' M'
def s3For (ti : I3) (g : G3) (tb : S3) : S3 := fun W D3 env M => ti W env M fun ds keep M1 => Loop ds keep g tb W D3 env M1
theorem ds_for {tg iter : Expr} {ti : I3} (hc : X.calm = true) (hi : DI X tg iter ti) (hg : DG X tg g) (hb : DSs X body s1) (hs : ∀ x, foldedSetIterable iter X.env x = pure x := by intro _; rfl) : DS X (.For tg iter body [] pos) (s3For ti g s1) := fun W2 tk hp =>
  (ps_for hp hc (hi W2 tk) (hg W2 tk) (hb W2 tk hp) hs).imp fun D2 σ H ⟨env, M, W, D3, s, a, l, q, le⟩ => by
    refine ⟨env, M, W, _, s, a, l, q, fun ds keep J H1 M1 t1 a1 q1 ok => ?_⟩
    obtain ⟨Inv, h0, hst, hd⟩ := q1
    refine ⟨fun i m σ' H' => m = ds.length - i ∧ i ≤ ds.length ∧ ∃ env' M', Tps H1 H' ∧ SE X.K H' σ' env' ∧ Abs X.K M' H' ∧ Inv i env' M', ⟨ds.length, by simp, Nat.zero_le _, env, M1, Tps.refl _, s.mono t1, a1, h0⟩, ?_⟩
    rintro i m σ' H' ⟨rfl, hi, env', M', t2, s', a', iv⟩
    have t12 := t1.trans t2
    by_cases hlt : i < ds.length
    · have hx : ds[i]? = some ds[i] := List.getElem?_eq_getElem hlt
      obtain ⟨hk, hg⟩ := hst i _ env' M' hx iv
      obtain ⟨go, yl⟩ := ok.step i _ H' M' hx t2 a' hk
      refine .inr ⟨go, fun σ2 H2 => ∃ env2 M2, Tps H1 H2 ∧ SE X.K H2 σ2 env2 ∧ Abs X.K M2 H2 ∧ Inv (i + 1) env2 M2, fun σ2 H2 hn => ⟨ds.length - (i + 1), by omega, rfl, hlt, hn⟩, fun x H2 y => ?_⟩
      obtain ⟨t3, a3, r3⟩ := yl x H2 y
      have t123 := t12.trans t3
      refine ⟨ds[i], env', M', W, _, r3, s'.mono t3, a3, l.mono t123, hg, fun σ4 H4 env4 M4 t4 s4 a4 q4 => ?_⟩
      have t1234 := t123.trans t4
      have tt := (t2.trans t3).trans t4
      refine ⟨env4, M4, W, _, s4, a4, l.mono t1234, q4, ⟨fun σ5 H5 env5 M5 t5 s5 a5 q5 => ⟨env5, M5, tt.trans t5, s5, a5, q5⟩, le.rt.mono t1234, le.nx.mono t1234, fun σ5 H5 env5 M5 t5 s5 a5 q5 => ⟨env5, M5, tt.trans t5, s5, a5, q5⟩⟩⟩
    · have e : i = ds.length := by omega
      subst e
      obtain ⟨hk, hn⟩ := hd env' M' iv
      exact .inl ⟨ok.stop H' M' t2 a' hk, le.nx σ' H' env' M' t12 s' a' hn⟩
/-! ### what is walked -/
def True3 : MH → Prop := fun _ => True
def i3Seq (t : E3) : I3 := fun W env M Q => t W env M fun d M1 => match d with
  | .tup ds => Q ds True3 M1
  | .ref l => ∃ ds, LstM M1 l ds ∧ Q ds (fun M' => LstM M' l ds) M1
  | _ => False
theorem itok_tup {H : Hp} {p : Addr} {ds : List D} {vs : List V} (hs : SqT K H p vs) (hv : Rvs K H ds vs) : ItOk K H ds True3 (Itt K p) where
  step := fun i d H' M' hd t a _ => by
    obtain ⟨v, hv', r⟩ := hv.get hd
    refine ⟨⟨vs, v, t.seq hs, hv'⟩, fun x H2 y => ?_⟩
    obtain ⟨rfl, y⟩ := y
    have e := y vs (t.seq hs)
    rw [hv'] at e
    cases e
    exact ⟨Tps.refl _, a, r.mono t⟩
  stop := fun H' M' t a _ => ⟨vs, t.seq hs, Nat.le_of_eq hv.length.symm⟩
theorem itok_lst {H : Hp} {p : Addr} {ds : List D} : ItOk K H ds (fun M' => LstM M' p ds) (Itl K p) where
  step := fun i d H' M' hd t a hk => by
    obtain ⟨vs, hs, hv⟩ := a.rd hk
    obtain ⟨v, hv', r⟩ := hv.get hd
    refine ⟨⟨vs, v, hs, hv'⟩, fun x H2 y => ?_⟩
    obtain ⟨rfl, y⟩ := y
    have e := y vs hs
    rw [hv'] at e
    cases e
    exact ⟨Tps.refl _, a, r⟩
  stop := fun H' M' t a hk => by
    obtain ⟨vs, hs, hv⟩ := a.rd hk
    exact ⟨vs, hs, Nat.le_of_eq hv.length.symm⟩

/-- a list or a tuple, as it comes -/
def iSeq (K : Fg) (tl : TE) : TI := fun σ H R => tl σ H fun x H1 => ∃ a, x = .ref a ∧ (((∃ xs, SqT K H1 a xs) ∧ R (Itt K a) H1) ∨ ((∃ xs, SqL K H1 a xs) ∧ R (Itl K a) H1))
theorem pi_seq {tg l : Expr} {tl : TE} (hl : PE X l tl) : PI X tg l (iSeq X.K tl) := by
  refine ⟨fun pins s σ H R I h => ?_⟩
  refine thn (hl.run pins s σ H _ I h) fun v s1 ⟨x, H1, I1, r1, q1⟩ => ?_
  obtain ⟨a, e, q1⟩ := q1
  subst e
  cases r1
  rcases q1 with ⟨⟨xs, hq⟩, q⟩ | ⟨⟨xs, hq⟩, q⟩
  · obtain ⟨its, rv, p, hz⟩ := I1.tuple hq
    refine wpAny_pyIter_tuple (show s1.heap.IsTuple a its.toArray from p) ?_
    refine ⟨s1.heap.objs.size, [s1.heap.objs.size], _, _, H1, rfl, I1.kept (t' := s1.toks) fun b o e => Heap.get?_push_of_some _ e, turn_tuple a _, ⟨_, Heap.get?_push_size _ rfl, rfl, rfl⟩, fun b hb => ?_, q⟩
    have e : b = s1.heap.objs.size := by simpa using hb
    subst e
    exact I1.fpOk (Nat.le_refl _) (I1.hok.fresh (Nat.le_refl _))
  · obtain ⟨its, rv, p, hz⟩ := I1.list hq
    refine wpAny_pyIter_list p.isList ?_
    refine ⟨s1.heap.objs.size, [s1.heap.objs.size], _, _, H1, rfl, I1.kept (t' := s1.toks) fun b o e => Heap.get?_push_of_some _ e, turn_list a _, ⟨_, Heap.get?_push_size _ rfl, rfl, rfl⟩, fun b hb => ?_, q⟩
    have e : b = s1.heap.objs.size := by simpa using hb
    subst e
    exact I1.fpOk (Nat.le_refl _) (I1.hok.fresh (Nat.le_refl _))
theorem di_seq {tg : Expr} (h : DE X e t) : DI X tg e (i3Seq t) := fun W2 tk => (pi_seq (h W2 tk)).imp fun σ H R ⟨env, M, W, Q, s, a, l, q, k⟩ => by
  refine ⟨env, M, W, _, s, a, l, q, fun d v H1 M1 t1 a1 r1 q1 => ?_⟩
  split at q1
  · rename_i ds
    obtain ⟨p, vs, rfl, hs, hv⟩ := r1.tup_inv
    exact ⟨p, rfl, .inl ⟨⟨vs, hs⟩, k ds _ _ H1 M1 t1 a1 q1 (itok_tup hs hv)⟩⟩
  · obtain ⟨ds, hl, q1⟩ := q1
    cases r1.ref_inv
    obtain ⟨vs, hs, hv⟩ := a1.rd hl
    exact ⟨_, rfl, .inr ⟨⟨vs, hs⟩, k ds _ _ H1 M1 t1 a1 q1 itok_lst⟩⟩
  · exact q1.elim
/-- lo, lo + 1, .., n of them -/
def rngD (lo : Int) (n : Nat) : List D := (List.range n).map fun i => D.int (lo + (i : Nat))
theorem rngD_length {lo : Int} {n : Nat} : (rngD lo n).length = n := by unfold rngD; simp
theorem rngD_get {lo : Int} {n i : Nat} {d : D} (h : (rngD lo n)[i]? = some d) : i < n ∧ d = .int (lo + (i : Nat)) := by
  unfold rngD at h
  rw [List.getElem?_map] at h
  by_cases hi : i < n
  · rw [List.getElem?_range hi] at h
    cases h
    exact ⟨hi, rfl⟩
  · rw [List.getElem?_eq_none (by simpa using hi)] at h
    cases h
theorem itok_rng {H : Hp} {lo : Int} {n : Nat} : ItOk K H (rngD lo n) True3 (Itr lo n) where
  step := fun i d H' M' hd t a _ => by
    obtain ⟨hi, rfl⟩ := rngD_get hd
    refine ⟨hi, fun x H2 y => ?_⟩
    obtain ⟨rfl, rfl⟩ := y
    exact ⟨Tps.refl _, a, Rv.int⟩
  stop := fun H' M' t a _ => by rw [rngD_length]; exact Nat.le_refl n
def i3Rng1 (u : A3) : I3 := fun W env M Q => u W env M fun ds M1 => match ds with
  | [.int j] => -(2 ^ 62) ≤ j ∧ j < 2 ^ 62 ∧ Q (rngD 0 j.toNat) True3 M1
  | _ => False
def i3Rng2 (u : A3) : I3 := fun W env M Q => u W env M fun ds M1 => match ds with
  | [.int i, .int j] => (-(2 ^ 62) ≤ i ∧ i < 2 ^ 62 ∧ -(2 ^ 62) ≤ j ∧ j < 2 ^ 62) ∧ Q (rngD i (j - i).toNat) True3 M1
  | _ => False
theorem di_rng1 {tg a : Expr} (hm : X.mg "range" = none) (ha : DA X [a] u) (hg : Gl X "range" := by rfl) (hs : starEach [a] X.env = [(false, eval a X.env)] := by rfl) : DI X tg (.Call (.Name "range" p) [a] [] pos) (i3Rng1 u) := fun W2 tk =>
  (pi_range1 hg hm (ha W2 tk) hs).imp fun σ H R ⟨env, M, W, Q, s, a, l, q, k⟩ => ⟨env, M, W, _, s, a, l, q, fun ds vs H1 M1 t1 a1 r1 q1 => by
    split at q1
    · obtain ⟨v, rfl, rr⟩ := one_inv r1
      cases rr.int_inv
      exact ⟨_, rfl, q1.1, q1.2.1, k _ _ _ H1 M1 t1 a1 q1.2.2 itok_rng⟩
    · exact q1.elim⟩
theorem di_rng2 {tg a b : Expr} (hm : X.mg "range" = none) (ha : DA X [a, b] u) (hg : Gl X "range" := by rfl) (hs : starEach [a, b] X.env = [(false, eval a X.env), (false, eval b X.env)] := by rfl) (hs2 : starEach [b] X.env = [(false, eval b X.env)] := by rfl) : DI X tg (.Call (.Name "range" p) [a, b] [] pos) (i3Rng2 u) := fun W2 tk =>
  (pi_range2 hg hm (ha W2 tk) hs hs2).imp fun σ H R ⟨env, M, W, Q, s, a, l, q, k⟩ => ⟨env, M, W, _, s, a, l, q, fun ds vs H1 M1 t1 a1 r1 q1 => by
    split at q1
    · obtain ⟨v, w, rfl, rr, rr'⟩ := two_inv r1
      cases rr.int_inv; cases rr'.int_inv
      exact ⟨_, _, rfl, q1.1, k _ _ _ H1 M1 t1 a1 q1.2 itok_rng⟩
    · exact q1.elim⟩
/-! ### comprehensions -/
theorem SE.wipe {H : Hp} {σ : L2.St} {env : En} (s : SE K H σ env) : ∀ vs : List Nat, SE K H (L2.wipe σ vs) (vs.foldr (fun i e => e.set i none) env)
  | [] => s
  | v :: vs => (SE.wipe s vs).unset v
abbrev wipe3 (env : En) (vs : List Nat) : En := vs.foldr (fun i e => e.set i none) env
theorem wipe_set {σ : L2.St} {i : Nat} {v : Option V} : ∀ {vs : List Nat}, i ∈ vs → L2.wipe (σ.set i v) vs = L2.wipe σ vs
  | [], h => by simp at h
  | w :: vs, h => by
    unfold L2.wipe
    by_cases hi : i ∈ vs
    · rw [wipe_set hi]
    · have e : i = w := by simpa [hi] using h
      subst e
      have comm : ∀ (us : List Nat), L2.wipe (σ.set i v) us = (L2.wipe σ us).set i v ∨ i ∈ us := by
        intro us
        induction us with
        | nil => exact .inl rfl
        | cons a us ih =>
          by_cases ha : a = i
          · exact .inr (by simp [ha])
          · rcases ih with ih | ih
            · left
              unfold L2.wipe
              rw [ih, List.set_comm _ _ (fun z => ha z.symm)]
            · exact .inr (by simp [ih])
      rcases comm vs with q | q
      · rw [q, List.set_set]
      · exact absurd q hi
theorem wipe_wipe {σ : L2.St} : ∀ {vs ws : List Nat}, (∀ i ∈ vs, i ∈ ws) → L2.wipe (L2.wipe σ vs) ws = L2.wipe σ ws
  | [], ws, _ => rfl
  | v :: vs, ws, h => by
    show L2.wipe ((L2.wipe σ vs).set v none) ws = _
    rw [wipe_set (h v (by simp)), wipe_wipe fun i hi => h i (by simp [hi])]
abbrev W0 : W3 := fun _ _ _ _ => False
theorem LW0 {H : Hp} : LW K H W0 (fun _ _ _ _ => False) := fun _ _ _ _ _ _ _ _ _ z => z
def DTs (X : Cx) (ifs : List Expr) (t : T3) : Prop := ∀ W2, Takes X W2 → PTs X ifs (lowT X.K W2 t)
theorem _root_.L2.PTs.imp {X : Cx} {e : List Expr} {t t' : TT} (h : PTs X e t) (k : ∀ σ H Q, t' σ H Q → t σ H Q) : PTs X e t' := ⟨fun pins s σ H Q I q => h.run pins s σ H Q I (k σ H Q q)⟩
def t3Yes : T3 := fun _ _ M Q => Q true M
theorem dts_nil : DTs X [] t3Yes := fun W2 tk => pts_nil.imp fun σ H Q2 ⟨env, M, W, Q, s, a, l, q, g⟩ => g true H M (Tps.refl H) a q
theorem dts_one (h : DT X e tA) : DTs X [e] tA := fun W2 tk => pts_one (h W2 tk)
def LoopC (ds : List D) (keep : MH → Prop) (i : Nat) (tt : T3) (te : E3) (env : En) (p : Addr) (M : MH) (Q : MH → Prop) : Prop := ∃ Inv : Nat → List D → MH → Prop, Inv 0 [] (updM M p (.lst [])) ∧
  (∀ k d acc M', ds[k]? = some d → Inv k acc M' → M' p = some (.lst acc) → keep M' ∧ tt W0 (env.set i (some d)) M' fun b M3 => Br b
    (te W0 (env.set i (some d)) M3 fun y M4 => ∃ acc', M4 p = some (.lst acc') ∧ acc'.length < sizeLine ∧ Inv (k + 1) (acc' ++ [y]) (updM M4 p (.lst (acc' ++ [y]))))
    (∃ acc', M3 p = some (.lst acc') ∧ Inv (k + 1) acc' M3)) ∧
  ∀ acc M', Inv ds.length acc M' → M' p = some (.lst acc) → keep M' ∧ Q M'
def e3Lc (ti : I3) (i : Nat) (tt : T3) (te : E3) (vs : List Nat) : E3 := fun W env M Q => ti W env M fun ds keep M1 => ∀ p, M1 p = none → LoopC ds keep i tt te (wipe3 env vs) p M1 fun M' => Q (.ref p) M'
theorem lc_low {ti : I3} {i : Nat} {tt : T3} {te : E3} {vs : List Nat} {W2 W2b : WX} (hv : i ∈ vs) (hW : W2b = fun _ _ _ _ => False) {σ : L2.St} {H : Hp} {Q2 : VK} (h : lowE X.K W2 (e3Lc ti i tt te vs) σ H Q2) :
    tLc (lowI X.K W2 ti) (gName i) (lowT X.K W2b tt) (lowE X.K W2b te) vs σ H Q2 := by
  subst hW
  obtain ⟨env, M, W, Q, s, a, l, q, g⟩ := h
  refine ⟨env, M, W, _, s, a, l, q, fun ds keep J H1 M1 t1 a1 q1 ok => ?_⟩
  intro Dd nD
  obtain ⟨Inv, h0, hst, hd⟩ := q1 Dd (a1.fresh nD)
  have sw := (s.mono t1).wipe vs
  refine ⟨fun k m H' => m = ds.length - k ∧ k ≤ ds.length ∧ ∃ acc M', Tps H1 H' ∧ Abs X.K M' H' ∧ Inv k acc M' ∧ M' Dd = some (.lst acc), ⟨ds.length, by simp, Nat.zero_le _, [], _, Tps.new nD, a1.lstN nD Rvs.nil, h0, updM_same⟩, ?_⟩
  rintro k m H' ⟨rfl, hk, acc, M', t2, a', iv, hD⟩
  by_cases hlt : k < ds.length
  · have hx : ds[k]? = some ds[k] := List.getElem?_eq_getElem hlt
    obtain ⟨hkeep, hg⟩ := hst k _ acc M' hx iv hD
    obtain ⟨go, yl⟩ := ok.step k _ H' M' hx t2 a' hkeep
    refine .inr ⟨go, fun H2 => ∃ acc M2, Tps H1 H2 ∧ Abs X.K M2 H2 ∧ Inv (k + 1) acc M2 ∧ M2 Dd = some (.lst acc), fun H2 hn => ⟨ds.length - (k + 1), by omega, rfl, hlt, hn⟩, fun x H2 y => ?_⟩
    obtain ⟨t3, a3, r3⟩ := yl x H2 y
    have t23 := t2.trans t3
    refine ⟨?_, ?_⟩
    · rw [wipe_set hv, wipe_wipe fun _ h => h]
    · have s2 : SE X.K H2 ((L2.wipe σ vs).set i (some x)) ((wipe3 env vs).set i (some ds[k])) := (sw.mono t23).set i r3
      refine ⟨_, M', W0, _, s2, a3, LW0, hg, fun b H3 M3 t4 a4 q4 => ?_⟩
      cases b with
      | true =>
        rw [if_pos rfl]
        refine ⟨_, M3, W0, _, s2.mono t4, a4, LW0, q4.1 rfl, fun d v H4 M4 t5 a5 r5 q5 => ?_⟩
        obtain ⟨acc', e1, hz, iv'⟩ := q5
        obtain ⟨ws, hw, rw'⟩ := a5.lst e1
        exact ⟨ws, hw, by rw [← rw'.length]; exact hz, acc' ++ [d], _, ((t23.trans t4).trans t5).trans (Tps.lst hw), a5.lstU hw (rw'.app (Rvs.cons r5 Rvs.nil)), iv', updM_same⟩
      | false =>
        rw [if_neg Bool.false_ne_true]
        obtain ⟨acc', e1, iv'⟩ := q4.2 rfl
        exact ⟨acc', M3, t23.trans t4, a4, iv', e1⟩
  · have e : k = ds.length := by omega
    subst e
    obtain ⟨hkeep, hq⟩ := hd acc M' iv hD
    exact .inl ⟨ok.stop H' M' t2 a' hkeep, g _ _ H' M' (t1.trans t2) a' Rv.ref hq⟩
theorem takesF {X : Cx} : Takes X (fun _ _ _ _ => False) := takes0
theorem d_lc {elt iter : Expr} {ifs : List Expr} {scope : Scope} {x : Str} {i : Nat} {p' : Pos} {ti : I3} {tt : T3} {te : E3} (own : List (Str × Nat)) (hc : X.calm = true) (hN : X.N.Nodup) (hi : DI X (.Name x p') iter ti) (ok : BlkOk X.N X.env.scope scope own) (hv : i ∈ own.map (·.2))
    (hg : ∀ (s : Shared) (H : Hp) (C : Addr) (cl : List (Str × Addr)) (fp : List Addr), PG (X.blk s H scope (compEnvC scope cl C X.env) fp) (.Name x p') (gName i))
    (ht : ∀ (s : Shared) (H : Hp) (C : Addr) (cl : List (Str × Addr)) (fp : List Addr), DTs (X.blk s H scope (compEnvC scope cl C X.env) fp) ifs tt)
    (he : ∀ (s : Shared) (H : Hp) (C : Addr) (cl : List (Str × Addr)) (fp : List Addr), DE (X.blk s H scope (compEnvC scope cl C X.env) fp) elt te) (hs : ∀ x, foldedSetIterable iter X.env x = pure x := by intro _; rfl) :
    DE X (.ListComp elt [⟨.Name x p', iter, ifs, 0⟩] scope pos) (e3Lc ti i tt te (own.map (·.2))) := fun W2 tk =>
  (pe_lc hc hN (hi W2 tk) ok hg (fun s H C cl fp => ht s H C cl fp _ takesF) (fun s H C cl fp => he s H C cl fp _ takesF) hs).imp fun σ H Q2 h => lc_low hv rfl h
theorem ds_setLc {y : Str} {py : Pos} {j : Nat} {spos : Pos} {elt iter : Expr} {ifs : List Expr} {scope : Scope} {x : Str} {i : Nat} {p' : Pos} {ti : I3} {tt : T3} {te : E3} (own : List (Str × Nat)) (hc : X.calm = true) (hN : X.N.Nodup) (hi : DI X (.Name x p') iter ti) (ok : BlkOk X.N X.env.scope scope own) (hv : i ∈ own.map (·.2))
    (hg : ∀ (s : Shared) (H : Hp) (C : Addr) (cl : List (Str × Addr)) (fp : List Addr), PG (X.blk s H scope (compEnvC scope cl C X.env) fp) (.Name x p') (gName i))
    (ht : ∀ (s : Shared) (H : Hp) (C : Addr) (cl : List (Str × Addr)) (fp : List Addr), DTs (X.blk s H scope (compEnvC scope cl C X.env) fp) ifs tt)
    (he : ∀ (s : Shared) (H : Hp) (C : Addr) (cl : List (Str × Addr)) (fp : List Addr), DE (X.blk s H scope (compEnvC scope cl C X.env) fp) elt te)
    (hy : X.N[j]? = some y := by rfl) (hyl : X.env.scope.names.lookup y = some .local := by rfl)
    (hsw : swapsWith (.ListComp elt [⟨.Name x p', iter, ifs, 0⟩] scope pos) (some (.Name y py)) spos.line X.env = pure true := by exact sw_true rfl rfl rfl (by decide +kernel)) (hs : ∀ x, foldedSetIterable iter X.env x = pure x := by intro _; rfl) :
    DS X (.Assign [.Name y py] (.ListComp elt [⟨.Name x p', iter, ifs, 0⟩] scope pos) spos) (s3Asg (e3Lc ti i tt te (own.map (·.2))) j) := fun W2 tk hp =>
  (ps_setLc hc hN hy hyl hsw (hi W2 tk) ok hg (fun s H C cl fp => ht s H C cl fp _ takesF) (fun s H C cl fp => he s H C cl fp _ takesF) hs).imp fun D2 σ H ⟨env, M, W, D3, s, a, l, q, le⟩ =>
    lc_low (Q2 := fun x H1 => gName j x σ H1 D2.nx) hv rfl ⟨env, M, W, _, s, a, l, q, fun d v H1 M1 t1 a1 r1 q1 => le.nx _ H1 _ M1 t1 ((s.mono t1).set j r1) a1 q1⟩
end
end L3

namespace L3
open PySem PySem.Spec PyProof.Rows L2
section
variable {X : Cx} {e a b c o : Expr} {es : List Expr} {pos p : Pos} {t ta tb tc to te : E3} {u : A3} {K : Fg} {st : Stmt} {sts body : List Stmt} {s1 s2 : S3} {tA tB : T3}
/-! ### methods of lists -/
/-- the receiver is a list that may change; the arguments; what the method does -/
def e3Bm (m : Addr → List D → MH → Q3 → Prop) (to : E3) (u : A3) : E3 := fun W env M Q => to W env M fun od M1 => match od with
  | .ref l => (∃ ds, LstM M1 l ds) ∧ u W env M1 fun xs M2 => m l xs M2 Q
  | _ => False
def MtL (K : Fg) (r : V → List V → Hp → VK → Prop) (m : Addr → List D → MH → Q3 → Prop) : Prop := ∀ l xs vs H M Q Q2, Rvs K H xs vs → Abs K M H → m l xs M Q → Got K H Q Q2 → r (.ref l) vs H Q2
theorem bm_low {r : V → List V → Hp → VK → Prop} {m : Addr → List D → MH → Q3 → Prop} {W2 : WX} (hl : MtL X.K r m) {σ : L2.St} {H : Hp} {Q2 : VK} (h : lowE X.K W2 (e3Bm m to u) σ H Q2) : tBM X.K "list" r (lowE X.K W2 to) (lowA X.K W2 u) σ H Q2 := by
  obtain ⟨env, M, W, Q, s, a, l, q, g⟩ := h
  refine ⟨env, M, W, _, s, a, l, q, fun od v H1 M1 t1 a1 r1 q1 => ?_⟩
  split at q1
  · obtain ⟨⟨ds, hl'⟩, q1⟩ := q1
    cases r1.ref_inv
    obtain ⟨vs, hs, _⟩ := a1.rd hl'
    refine ⟨.inl ⟨rfl, vs, hs⟩, env, M1, W, _, s.mono t1, a1, l.mono t1, q1, fun xs ws H2 M2 t2 a2 r2 q2 => ?_⟩
    exact hl _ xs ws H2 M2 Q Q2 r2 a2 q2 (g.mono (t1.trans t2))
  · exact q1.elim
theorem d_bm {name : Str} {id : String} {r : V → List V → Hp → VK → Prop} {m : Addr → List D → MH → Q3 → Prop} {apos cpos : Pos} (slot : Slot "list" name id) (hty : typeOf (.builtin id) = pure (.type "method_descriptor")) (hm : MtR X id r) (hl : MtL X.K r m) (ho : DE X o to) (ha : DA X (e :: es) u)
    (hbase : attributeBase o name X.env (eval o X.env) = eval o X.env := by rfl)
    (hfew : ((backTo cpos (starEach (e :: es) X.env)).all (fun x => !x.1) && (backToKw cpos (keywordEach [] X.env)).all (fun x => x.1.isSome)
      && decide ((e :: es).length + ([] : List Keyword).length + (if ([] : List Keyword).isEmpty then 0 else 1) < 30)) = true := by rfl)
    (hline : (apos.endLine == cpos.line) = true := by rfl) (hs : starEach (e :: es) X.env = (false, eval e X.env) :: starEach es X.env := by rfl) (hplain : (backTo cpos (starEach es X.env)).any (·.1) = false := by rfl) :
    DE X (.Call (.Attribute o name apos) (e :: es) [] cpos) (e3Bm m to u) := fun W2 tk => (pe_bm PySem.F.plainAttrs_list slot hty hm (ho W2 tk) (ha W2 tk) hbase hfew hline hs hplain).imp fun σ H Q2 h => bm_low hl h
def m3App (l : Addr) : List D → MH → Q3 → Prop
  | [d], M, Q => ∃ ds, M l = some (.lst ds) ∧ ds.length < sizeLine ∧ Q .non (updM M l (.lst (ds ++ [d])))
  | _, _, _ => False
theorem ml_app : MtL K rAppend m3App := by
  intro l xs vs H M Q Q2 r a q g
  unfold m3App at q
  split at q
  · obtain ⟨v, rfl, rr⟩ := one_inv r
    obtain ⟨ds, h1, hz, q⟩ := q
    obtain ⟨ws, hw, rw'⟩ := a.lst h1
    exact ⟨l, ws, v, rfl, rfl, hw, by rw [← rw'.length]; exact hz, g _ _ _ _ (Tps.lst hw) (a.lstU hw (rw'.app (Rvs.cons rr Rvs.nil))) Rv.non q⟩
  · exact q.elim
theorem d_append {apos cpos : Pos} (ho : DE X o to) (ha : DA X [e] u) (hbase : attributeBase o "append" X.env (eval o X.env) = eval o X.env := by rfl)
    (hfew : ((backTo cpos (starEach (e :: []) X.env)).all (fun x => !x.1) && (backToKw cpos (keywordEach [] X.env)).all (fun x => x.1.isSome)
      && decide ((e :: []).length + ([] : List Keyword).length + (if ([] : List Keyword).isEmpty then 0 else 1) < 30)) = true := by rfl)
    (hline : (apos.endLine == cpos.line) = true := by rfl) (hs : starEach (e :: []) X.env = (false, eval e X.env) :: starEach [] X.env := by rfl) (hplain : (backTo cpos (starEach [] X.env)).any (·.1) = false := by rfl) :
    DE X (.Call (.Attribute o "append" apos) [e] [] cpos) (e3Bm m3App to u) := d_bm PySem.F.slot_list_append PySem.F.type_list_append mt_append ml_app ho ha hbase hfew hline hs hplain
/-! ### the rule of a def -/
def startE (N : List Str) (ds : List D) : En := ds.map some ++ List.replicate (N.length - ds.length) none
def rtX (E : Value → Option Addr → MH → Prop) : W3 := fun cls dd _ M' => ∃ M'', Sub M'' M' ∧ E cls dd M''
def rtD (Q : Q3) : Ends3 := { nx := fun _ M' => ∃ M'', Sub M'' M' ∧ Q .non M'', rt := fun d M' => ∃ M'', Sub M'' M' ∧ Q d M'' }
/-- the body's reading keeps the promise -/
def Rd3 (N : List Str) (t : S3) (sp : Sp3) : Prop := ∀ ds M Q E, sp ds M Q E → t (rtX E) (rtD Q) (startE N ds) M
theorem fn3_ok {P : Program} {w : World} {K : Fg} {mg : Str → Option Value} {base : Heap} {x qual : Str} {st : Stmt} {f : Addr} {fd : FuncData} {N ps : List Str} {k : Nat} {sp : Sp3} {t : S3} (F : Fun K x qual st f fd) (S : FnScope N ps (defScope st)) (len : ∀ ds M Q E, sp ds M Q E → ds.length = ps.length)
    (hbody : ∀ (cdv : Value) (A : Around) (outer : List Env) (s : Shared) (H : Hp) (E : XK), Room k (A.deeper (envOfC qual (defScope st) s.heap.objs.size f cdv)) → DSs (cxOf (L2.CX P w) P w K mg base N qual (defScope st) f cdv A outer s H E) (defBody st) t)
    (rd : Rd3 N t sp) : Fn3 P w K mg base (k + 1) f fd ps sp := by
  refine F.okX S (fun vs H Q E h => ?_) (fun cdv A outer s H vs Q2 E2 hr h => ?_)
  · obtain ⟨ds, M, Q3', E3', r, a, h, _⟩ := h
    rw [← r.length]
    exact len _ _ _ _ h
  · obtain ⟨ds, M, Q, E, r, a, h, g, ge⟩ := h
    have tk : Takes (cxOf (L2.CX P w) P w K mg base N qual (defScope st) f cdv A outer s H E2) (fun cls d _ H => E2 cls d H) := takes_of rfl rfl rfl rfl
    have hp : Pass (cxOf (L2.CX P w) P w K mg base N qual (defScope st) f cdv A outer s H E2) := PassesOwn.leaving
    refine ⟨_, hbody cdv A outer s H E2 hr _ tk hp, startE N ds, M, rtX E, rtD Q, SE.start N r, a, fun cls dd σ' H' env' M' t s' a' ⟨M'', sub, e⟩ => ge cls dd H' M'' t (a'.sub sub) e, rd ds M Q E h, ?_⟩
    exact ⟨fun σ' H' env' M' t s' a' ⟨M'', sub, q⟩ => g .non .non H' M'' t (a'.sub sub) Rv.non q, fun d v H' M' t a' r' ⟨M'', sub, q⟩ => g d v H' M'' t (a'.sub sub) r' q, fun _ _ _ _ _ _ _ z => z.elim, fun _ _ _ _ _ _ _ z => z.elim⟩
/-! ### raise, try -/
def s3Raise (C : Addr) : S3 := fun W _ env M => W (.ref C) none env M
theorem ds_raise {C : Addr} {bmB : List Value} {B newId initId : String} {x m : Str} {j : Nat} {p p2 pos' pos2 : Pos} (F : ExcBaseFacts B newId initId bmB) (q : PySem.W.excIn X.K C bmB newId = true) (gC : X.mg x = some (.ref C)) (kC : PySem.W.keepIn X.K (.ref C) = true) (r : Raises X (.ref C)) (hc : X.calm = true) (hg : Gl X x := by rfl)
    (hdb : (x == ("__debug__" : Str)) = false := by decide) : DS X (.Raise (some (.Call (.Name x p) [.Constant (.str m) j p2] [] pos')) none pos2) (s3Raise C) := fun W2 tk hp =>
  (ps_raise hc tk (pmk_own F q gC kC r hg hdb)).imp fun D2 σ H ⟨env, M, W, D3, s, a, l, q, le⟩ => l _ _ σ H env M (Tps.refl H) s a q
def s3Try (K : Fg) (c : Value) (body hd : S3) : S3 := fun W D env M => body (fun cls dd env' M' => ∃ b, PySem.W.exmOne K cls c = some b ∧ (b = true → hd W0 D env' M') ∧ (b = false → W cls dd env' M')) D env M
theorem ds_try {x : Str} {c : Value} {b₀ : Stmt} {suite : List Stmt} {np pos' : Pos} (hs : X.stack = X.env :: X.outer) (hf : X.env.frame = some X.env.locals) (hc : Names X x c)
    (hb : ∀ (pn : List (Addr × Obj)) (xe : Value → Shared → Prop), DSs (X.tr pn xe) body s1)
    (hsu : ∀ (a : Addr) (oe : Obj) (pn : List (Addr × Obj)), DSs (X.suite a ((a, oe) :: pn)) (b₀ :: suite) s2) :
    DS X (.Try body [.ExceptHandler (some (.Name x np)) none (b₀ :: suite) pos'] [] [] pos) (s3Try X.K c s1 s2) := fun W2 tk hp =>
  (ps_try_only (tb := fun W => lowS X.K W s1) (ts := fun _ _ _ => lowS X.K (fun _ _ _ _ => False) s2) (Wout := W2) hs hf hc tk (fun W pn xe tk' hp' => hb pn xe W tk' hp') (fun a oe cls d pn _ _ => hsu a oe pn _ takes0 PassesOwn.never)).imp fun D2 σ H ⟨env, M, W, D3, s, a, l, q, le⟩ =>
    ⟨env, M, _, D3, s, a, fun cls dd σ' H' env' M' t s' a' ⟨b, e, h1, h2⟩ => ⟨b, e, fun hb a0 na => ⟨env', M', W0, D3, s', a', LW0, h1 hb, le.mono t⟩, fun hb => l cls dd σ' H' env' M' t s' a' (h2 hb)⟩, q, le⟩
end
/-! ### steps of a reading -/
theorem Rd3.intro {N : List Str} {t : S3} {sp : Sp3} (h : ∀ ds M Q E, sp ds M Q E → t (rtX E) (rtD Q) (startE N ds) M) : Rd3 N t sp := h
end L3
namespace L3
open PySem PySem.Spec PyProof.Rows L2
/-- a def that may be called -/
structure Cal (P : Program) (w : World) (K : Fg) (mg : Str → Option Value) (base : Heap) (k : Nat) (f : Addr) (fd : FuncData) (x : Str) (ps : List Str) (sp : Sp3) : Prop where
  F : Fn3 P w K mg base k f fd ps sp
  m : mg x = some (.ref f)
  kp : PySem.W.keepIn K (.ref f) = true
  b : Binds K fd ps []
theorem Cal.mono {P : Program} {w : World} {K : Fg} {mg : Str → Option Value} {base : Heap} {k j : Nat} {f : Addr} {fd : FuncData} {x : Str} {ps : List Str} {sp : Sp3} (C : Cal P w K mg base k f fd x ps sp) (h : k ≤ j) : Cal P w K mg base j f fd x ps sp := ⟨FnOk.mono C.F h, C.m, C.kp, C.b⟩
theorem d_callC {X : Cx} {k j : Nat} {f : Addr} {fd : FuncData} {ps : List Str} {sp : Sp3} {x : Str} {e : Expr} {es : List Expr} {u : A3} {p pos : Pos} (C : Cal X.prog X.w X.K X.mg X.base k f fd x ps sp) (hr : Room j X.A) (ha : DA X (e :: es) u) (hj : k ≤ j := by decide) (hg : Gl X x := by rfl) (hdb : (x == ("__debug__" : Str)) = false := by decide)
    (he : starEach (e :: es) X.env = (false, eval e X.env) :: starEach es X.env := by rfl) (hpl : (backTo pos (starEach es X.env)).any (·.1) = false := by rfl) : DE X (.Call (.Name x p) (e :: es) [] pos) (e3Call sp u) := d_call C.F (hr.mono hj) C.m C.kp C.b ha hg hdb he hpl
theorem fn3_none {P : Program} {w : World} {K : Fg} {mg : Str → Option Value} {base : Heap} {k : Nat} {f : Addr} {fd : FuncData} {ps : List Str} : Fn3 P w K mg base k f fd ps (fun _ _ _ _ => False) :=
  ⟨fun vs H Q E ⟨_, _, _, _, _, _, h, _⟩ => h.elim, fun A outer s H args us vs Q E _ _ _ _ ⟨_, _, _, _, _, _, h, _⟩ => h.elim⟩
/-- a constant of the module -/
def Cst (mg : Str → Option Value) (x : Str) (v : V) : Prop := ∃ u, mg x = some u ∧ RelV v u
theorem d_cst {X : Cx} {x : Str} {i : Int} {pos : Pos} (h : Cst X.mg x (.int i)) (hg : Gl X x := by rfl) (hd : (x == ("__debug__" : Str)) = false := by decide) : DE X (.Name x pos) (e3C (.int i)) := by
  obtain ⟨u, hm, r⟩ := h
  exact d_globI hg hm r hd
/-- what is known of an own exception's class -/
structure ExcT (K : Fg) (mg : Str → Option Value) (x : Str) (C : Addr) : Prop where
  g : mg x = some (.ref C)
  x : PySem.W.excIn K C [.type "ValueError", .type "Exception", .type "BaseException", .type "object"] "ValueError.__new__" = true
  k : PySem.W.keepIn K (.ref C) = true
  b : PySem.W.subIn K (.ref C) (.type "BaseException") = some true
  t : PySem.W.typeIn K (.ref C) = some (.type "type")
theorem ds_raiseT {X : Cx} {C : Addr} {x m : Str} {j : Nat} {p p2 pos' pos2 : Pos} (T : ExcT X.K X.mg x C) (hc : X.calm = true := by rfl) (hg : Gl X x := by rfl)
    (hdb : (x == ("__debug__" : Str)) = false := by decide) : DS X (.Raise (some (.Call (.Name x p) [.Constant (.str m) j p2] [] pos')) none pos2) (s3Raise C) := ds_raise PySem.F.excBase_ValueError T.x T.g T.k (raises_own T.b T.t) hc hg hdb
/-- an error of the class at S is what «except S» names -/
theorem exm_of {K : Fg} {S C : Addr} (h1 : PySem.W.subIn K (.ref C) (.type "BaseException") = some true) (h2 : PySem.W.isClsIn K C = true) (h3 : PySem.W.typeIn K (.ref C) = some (.type "type")) {b : Bool} (h4 : PySem.W.subIn K (.ref S) (.ref C) = some b) :
    PySem.W.exmOne K (.ref S) (.ref C) = some b := by
  have e1 : (PySem.W.subIn K (.ref C) (.type "BaseException") == some true) = true := by rw [h1] <;> rfl
  have e2 : ((PySem.W.clsIn K C).isSome && PySem.W.typeIn K (.ref C) == some (.type "type")) = true := by
    have h2' : (PySem.W.clsIn K C).isSome = true := h2
    rw [h2', h3] <;> rfl
  show (if (PySem.W.subIn K (.ref C) (.type "BaseException") == some true) = true then (if ((PySem.W.clsIn K C).isSome && PySem.W.typeIn K (.ref C) == some (.type "type")) = true then PySem.W.subIn K (.ref S) (.ref C) else none) else none) = some b
  rw [if_pos e1, if_pos e2]
  exact h4
/-! ### the law -/
def noList (K : Fg) : Bool := K.all fun p => p.2.cls != .type "list"
theorem mem_of_lookup' : ∀ {K : Fg} {a : Addr} {o : Obj}, K.lookup a = some o → (a, o) ∈ K
  | [], _, _, h => by simp at h
  | (b, u) :: K, a, o, h => by
    rw [List.lookup_cons] at h
    cases hb : a == b with
    | true =>
      rw [hb] at h
      cases h
      have : a = b := by simpa using hb
      subst this
      exact List.mem_cons_self
    | false =>
      rw [hb] at h
      exact List.mem_cons_of_mem _ (mem_of_lookup' h)
theorem script_frz {K : Fg} {H : Hp} {a : Addr} {vs : List V} (hk : noList K = true) (hO : Only H) (hS : SqL K H a vs) : ∃ o, H a = some (.frz o (.lst vs)) := by
  rcases hS with (h | ⟨o, h⟩) | ⟨o, its, n, h, hc, _⟩
  · rcases hO a with z | ⟨o, xs, z⟩
    · rw [h] at z; cases z
    · rw [h] at z; cases z
  · exact ⟨o, h⟩
  · have := List.all_eq_true.mp hk _ (mem_of_lookup' h)
    rw [hc] at this
    simp at this
/-- the law's promise: from the script alone -/
def spLaw3 (n : Nat) : Sp3 := fun ds M Q _ => ∃ (a : Addr) (ns : List Int), ds = [.ref a] ∧ ns.length ≤ n ∧ M a = some (.ro (ns.map D.int)) ∧ (∀ b, b ≠ a → M b = none) ∧ ∀ M', Q (.bl true) M'
def spTop (n : Nat) (K : Fg) : Sp := fun vs H Q _ => ∃ (a : Addr) (ns : List Int), vs = [.ref a] ∧ ns.length ≤ n ∧ Only H ∧ SqL K H a (ns.map V.int) ∧ noList K = true ∧ ∀ H', Q (.bl true) H'
theorem fn_top {P : Program} {w : World} {K : Fg} {mg : Str → Option Value} {base : Heap} {k n : Nat} {f : Addr} {fd : FuncData} (F : Fn3 P w K mg base k f fd ["script"] (spLaw3 n)) : FnOk P w K mg base (L2.CX P w) k f fd ["script"] (spTop n K) :=
  FnOk.imp F fun vs H Q E ⟨a, ns, e, hl, hO, hS, hk, q⟩ => by
    obtain ⟨o, hf⟩ := script_frz hk hO hS
    subst e
    refine ⟨[.ref a], fun b => if b = a then some (.ro (ns.map D.int)) else none, fun d _ => d = .bl true, fun _ _ _ => False, Rvs.cons Rv.ref Rvs.nil, fun b u z => ?_, ⟨a, ns, rfl, hl, if_pos rfl, fun b hb => if_neg hb, fun _ => rfl⟩, fun d v H' M' _ _ r q' => ?_, fun _ _ _ _ _ _ z => z.elim⟩
    · by_cases hb : b = a
      · subst hb
        simp only [if_pos rfl] at z
        cases z
        exact ⟨_, o, hf, Rvs.ints⟩
      · simp only [if_neg hb] at z
        cases z
    · subst q'
      rw [r.bl_inv]
      exact q H'

/-! ### a call by keywords alone, in the parameters' order -/
def BindsK (K : Fg) (fd : FuncData) (ps : List Str) : Prop := ∀ (s : Shared) (ws : List Value), K.In s.heap → ws.length = ps.length → BindsTo s fd ⟨[], ps.zip ws⟩ (ps.zip ws)
theorem BindsK.all {K : Fg} {fd : FuncData} {ps : List Str} (h : ∀ us : List Value, us.length = ps.length → bindArgs fd ⟨[], ps.zip us⟩ = pure (ps.zip us)) : BindsK K fd ps := fun s us _ hl => .of_eq (h us hl)
def DK (X : Cx) (kws : List Keyword) (t : A3) : Prop := ∀ W2, Takes X W2 → PK X kws (lowA X.K W2 t)
section
variable {X : Cx} {e : Expr} {kws : List Keyword} {t : E3} {u : A3} {nm : Option Str} {kpos p pos : Pos} {k j : Nat} {f : Addr} {fd : FuncData} {ps : List Str} {sp : Sp3} {x : Str}
theorem _root_.L2.PK.imp {X : Cx} {e : List Keyword} {t t' : TA} (h : PK X e t) (k : ∀ σ H Q, t' σ H Q → t σ H Q) : PK X e t' := ⟨fun pos pins s σ H Q I q => h.run pos pins s σ H Q I (k σ H Q q)⟩
theorem dk_nil : DK X [] a3Nil := fun W2 _ => pk_nil.imp fun σ H Q2 ⟨env, M, W, Q, s, a, l, q, g⟩ => g [] [] H M (Tps.refl H) a Rvs.nil q
theorem dk_cons (ha : DE X e t) (hr : DK X kws u) : DK X (⟨nm, e, kpos⟩ :: kws) (a3Cons t u) := fun W2 tk =>
  (pk_cons (ha W2 tk) (hr W2 tk)).imp fun σ H Q2 ⟨env, M, W, Q, s, a, l, q, g⟩ => ⟨env, M, W, _, s, a, l, q, fun d v H1 M1 t1 a1 r1 q1 =>
    ⟨env, M1, W, _, s.mono t1, a1, l.mono t1, q1, fun ds vs H2 M2 t2 a2 r2 q2 => g _ _ H2 M2 (t1.trans t2) a2 (Rvs.cons (r1.mono t2) r2) q2⟩⟩
theorem d_callKw (C : Cal X.prog X.w X.K X.mg X.base k f fd x ps sp) (bk : BindsK X.K fd ps) (hr : Room j X.A) (ha : DK X kws u) (hj : k ≤ j := by decide) (hg : Gl X x := by rfl) (hdb : (x == ("__debug__" : Str)) = false := by decide)
    (hall : (backToKw pos (keywordEach kws X.env)).all (·.1.isSome) = true := by rfl) (hks : (backToKw pos (keywordEach kws X.env)).filterMap (·.1) = ps := by rfl)
    (hpl : ((backTo pos (starEach [] X.env)).any (·.1) || (backToKw pos (keywordEach kws X.env)).any (·.1.isNone)) = false := by rfl) : DE X (.Call (.Name x p) [] kws pos) (e3Call sp u) := fun W2 tk => by
  refine ⟨fun pins s σ H Q2 I h => ?_⟩
  obtain ⟨env, M, W, Q, se, a, l, q, g⟩ := h
  refine wpAny_Call_Name_kw (ld_glob I hg C.m ?_ hdb)
  refine PySem.W.callWith_KW0 (h₀ := X.base) I.ok.mod.kin C.kp hall (thn ((ha W2 tk).run pos pins s σ H (fun vs H1 => lowF X.K sp vs H1 Q2 (WE W2 σ)) I ⟨env, M, W, _, se, a, l, q, fun ds vs H1 M1 t1 a1 r1 q1 => ⟨ds, M1, Q, _, r1, a1, q1, g.mono t1, fun cls dd H' M' t2 a2 w => l cls dd σ H' env M' (t1.trans t2) (se.mono (t1.trans t2)) a2 w⟩⟩) fun ws s1 ⟨zs, H1, I1, rz, q2⟩ => ⟨I1.kIn, ?_⟩) hpl
  rw [hks]
  have hl : ws.length = ps.length := by rw [← rz.length]; exact C.F.len _ _ _ _ q2
  refine wpAny_call (codeAny_mono (C.F.run X.A X.stack s1 H1 ⟨[], ps.zip ws⟩ ws zs Q2 (WE W2 σ) (hr.mono hj) I1.env0 (bk s1 ws I1.kIn hl) rz q2) fun r s' hq => ?_)
  cases r with
  | error e => exact passAt tk σ pins H1 s1 e s' I1 hq
  | ok fl =>
    cases fl with
    | ret u => exact I1.after hq
    | next => exact False.elim hq
    | brk => exact False.elim hq
    | cont => exact False.elim hq
end
/-! ### the end of a row -/
theorem walk3 {l : PySem.W.OpenLaw} {n k : Nat} {q : Program} {loose : List Str} {XP : (Str → Option Value) → Heap → Prop} {YP : World → Heap → Prop} {d : DefRec} {K : Params → PySem.W.Frag}
    (hn : l.most = some n) (hn2 : n ≤ sizeLine) (hdf : d.params.defaults = []) (hr : Room k callerA) (hY : ∀ (w : World) (h : Heap), YP w h → (K w.params).In h) (hN : ∀ w : World, noList (K w.params) = true)
    (F : ∀ (w : World) (mg : Str → Option Value) (fa : Addr) (h : Heap), (K w.params).In h → h.Ns mainGlobals mg → mg d.name = some (.ref fa) →
      ∃ fd : FuncData, (∀ (s : Shared) (u : Value), BindsTo s fd ⟨[u], []⟩ [("script", u)]) ∧
        ∀ base : Heap, (K w.params).In base → base.Ns mainGlobals mg → FnOk l.prog w (K w.params) mg base (L2.CX l.prog w) k fa fd ["script"] (spTop n (K w.params))) :
    PySem.W.WalkO q loose XP YP l.row.toRowW d [] (fun f vs => PySem.call f vs) :=
  L2.walk_of (n := n) (k := k) (x := "script") (K := K) (CX := fun w => L2.CX l.prog w) (sp := fun w => spTop n (K w.params)) hn hn2 hdf hr hY F (fun w H a ns hl hO hS => ⟨a, ns, rfl, hl, hO, hS, hN w, fun _ => rfl⟩)
    (fun w H s e s' h => by
      obtain ⟨_, _, _, _, _, _, _, _, _, _, _, _, z⟩ := h
      exact z.elim)
end L3

namespace L3
open PySem PySem.Spec PyProof.Rows L2
theorem szLt {n : Nat} (h : n ≤ 1000000) : n < sizeLine := Nat.lt_of_le_of_lt h (by decide)
theorem szLe {n : Nat} (h : n ≤ 1000000) : n ≤ sizeLine := Nat.le_of_lt (szLt h)
/-! ### comprehensions by a function -/
theorem lcMap {ds : List D} {keep : MH → Prop} {i : Nat} {te : E3} {env : En} {p : Addr} {M : MH} {Q : MH → Prop} (f : D → D) (hp : M p = none) (hk : ∀ M', Sub M M' → keep M')
    (he : ∀ (k : Nat) (d : D) (M' : MH) (R : Q3), ds[k]? = some d → Sub M M' → (∀ M'', Sub M' M'' → R (f d) M'') → te W0 (env.set i (some d)) M' R) (hsz : ds.length < sizeLine)
    (hq : ∀ M', Sub M M' → M' p = some (.lst (ds.map f)) → Q M') : LoopC ds keep i t3Yes te env p M Q := by
  refine ⟨fun k acc M' => acc = (ds.take k).map f ∧ Sub M M', ⟨by simp, (Sub.refl M).new hp⟩, ?_, ?_⟩
  · rintro k d acc M' hd ⟨rfl, sub⟩ hpM
    refine ⟨hk M' sub, Br.tt (he k d M' _ hd sub fun M'' s2 => ⟨(ds.take k).map f, s2 p _ hpM, ?_, ?_, (sub.trans s2).new hp⟩)⟩
    · rw [List.length_map, List.length_take]
      exact Nat.lt_of_le_of_lt (Nat.min_le_right _ _) hsz
    · rw [List.take_add_one, hd, List.map_append]
      rfl
  · rintro acc M' ⟨rfl, sub⟩ hpM
    rw [List.take_length] at hpM
    exact ⟨hk M' sub, hq M' sub hpM⟩
theorem lcFilter {ds : List D} {keep : MH → Prop} {i : Nat} {tt : T3} {te : E3} {env : En} {p : Addr} {M : MH} {Q : MH → Prop} (b : D → Bool) (f : D → D) (hp : M p = none) (hk : ∀ M', Sub M M' → keep M')
    (ht : ∀ (k : Nat) (d : D) (M' : MH) (R : Bool → MH → Prop), ds[k]? = some d → Sub M M' → (∀ M'', Sub M' M'' → R (b d) M'') → tt W0 (env.set i (some d)) M' R)
    (he : ∀ (k : Nat) (d : D) (M' : MH) (R : Q3), ds[k]? = some d → b d = true → Sub M M' → (∀ M'', Sub M' M'' → R (f d) M'') → te W0 (env.set i (some d)) M' R) (hsz : ds.length < sizeLine)
    (hq : ∀ M', Sub M M' → M' p = some (.lst ((ds.filter b).map f)) → Q M') : LoopC ds keep i tt te env p M Q := by
  refine ⟨fun k acc M' => acc = ((ds.take k).filter b).map f ∧ Sub M M', ⟨by simp, (Sub.refl M).new hp⟩, ?_, ?_⟩
  · rintro k d acc M' hd ⟨rfl, sub⟩ hpM
    have e : ((ds.take (k + 1)).filter b).map f = ((ds.take k).filter b).map f ++ (if b d = true then [f d] else []) := by
      rw [List.take_add_one, hd]
      simp only [Option.toList_some, List.filter_append, List.map_append, List.filter_cons, List.filter_nil]
      split <;> rfl
    refine ⟨hk M' sub, ht k d M' _ hd sub fun M3 s3 => ⟨fun hb => he k d M3 _ hd hb (sub.trans s3) fun M'' s2 => ⟨_, s2 p _ (s3 p _ hpM), ?_, ?_, ((sub.trans s3).trans s2).new hp⟩, fun hb => ⟨_, s3 p _ hpM, ?_, sub.trans s3⟩⟩⟩
    · rw [List.length_map]
      have h1 := List.length_filter_le b (ds.take k)
      rw [List.length_take] at h1
      exact Nat.lt_of_le_of_lt (Nat.le_trans h1 (Nat.min_le_right _ _)) hsz
    · rw [e, if_pos hb]
    · rw [e, if_neg (by rw [hb]; decide), List.append_nil]
  · rintro acc M' ⟨rfl, sub⟩ hpM
    rw [List.take_length] at hpM
    exact ⟨hk M' sub, hq M' sub hpM⟩
theorem get_ints {xs : List Int} {i : Nat} {d : D} (h : (xs.map D.int)[i]? = some d) : ∃ x, xs[i]? = some x ∧ d = .int x := by
  rw [List.getElem?_map] at h
  cases e : xs[i]? with
  | none => rw [e] at h; cases h
  | some x => rw [e] at h; exact ⟨x, rfl, (Option.some.inj h).symm⟩
theorem at_ints {xs : List Int} {i : Int} (h0 : 0 ≤ i) (h1 : i < xs.length) : ∃ x, x ∈ xs ∧ atI (xs.map D.int) i = some (.int x) ∧ ∃ j : Nat, i = (j : Int) ∧ j < xs.length ∧ xs[j]? = some x := by
  obtain ⟨j, rfl⟩ := Int.eq_ofNat_of_zero_le h0
  have hj : j < xs.length := by omega
  have e : xs[j]? = some xs[j] := List.getElem?_eq_getElem hj
  exact ⟨xs[j], List.getElem_mem hj, atI_nat (by rw [List.getElem?_map, e]; rfl), j, rfl, hj, e⟩
theorem lstM_sub {M M' : MH} {a : Addr} {ds : List D} (s : Sub M M') (h : LstM M a ds) : LstM M' a ds := h.elim (fun e => .inl (s _ _ e)) fun e => .inr (s _ _ e)
/-! ### the laws' draws -/
def tDraws : S3 :=
    (s3Seq (s3Asg (e3Lc (i3Seq (e3Var 0)) 5 t3Yes (e3CB c3Abs (a3Cons (e3CB c3Int (a3Cons (e3Var 5) a3Nil)) a3Nil)) [5]) 2)
    (s3Seq (s3Asg (e3Lst a3Nil) 3)
    (s3Seq (s3For (i3Rng1 (a3Cons (e3Var 1) a3Nil)) (g3Name 4) (s3Seq (s3Asg (e3Var 4) 5)
    (s3Seq (s3If (t3Test (e3Op r3Gt (e3CB c3Len (a3Cons (e3Var 0) a3Nil)) (e3C (.int 0)))) (s3Seq (s3Asg (e3Op r3Mod (e3Var 4) (e3CB c3Len (a3Cons (e3Var 0) a3Nil))) 7)
    (s3Seq (s3Asg (e3CB c3Int (a3Cons (e3Op r3Ix (e3Var 0) (e3Var 7)) a3Nil)) 5)
    (s3If (t3And (t3Test (e3Op r3Ge (e3Var 5) (e3Op r3Pow (e3C (.int 10)) (e3C (.int 18))))) (t3Test (e3Op r3Gt (e3Op r3Ix (e3Var 2) (e3Var 7)) (e3C (.int 0))))) (s3Seq (s3Expr (e3Bm m3App (e3Var 3) (a3Cons (e3Op r3Mod (e3CB c3Int (a3Cons (e3Op r3Ix (e3Var 2) (e3Var 7)) a3Nil)) (e3C (.int 1000003))) a3Nil)))
    (s3Seq (s3AsgG (e3Op r3Div (e3CB c3Int (a3Cons (e3Op r3Ix (e3Var 2) (e3Var 7)) a3Nil)) (e3C (.int 1000003))) (g3SubL (e3Var 2) (e3Var 7)))
    s3Cont)) s3Nil))) s3Nil)
    (s3Seq (s3Asg (e3Op r3Mod (e3CB c3Int (a3Cons (e3Op r3Add (e3Op r3Add (e3Op r3Mul (e3Var 5) (e3C (.int 48271))) (e3Op r3Mul (e3Var 4) (e3C (.int 69621)))) (e3C (.int 11))) a3Nil)) (e3C (.int 2147483647))) 6)
    (s3Seq (s3Asg (e3Op r3Mod (e3CB c3Int (a3Cons (e3Op r3Add (e3Op r3Div (e3Op r3Mul (e3Var 6) (e3Var 6)) (e3C (.int 4096))) (e3Var 6)) a3Nil)) (e3C (.int 2147483629))) 6)
    (s3Expr (e3Bm m3App (e3Var 3) (a3Cons (e3Op r3Mod (e3CB c3Int (a3Cons (e3Op r3Add (e3Op r3Div (e3Op r3Mul (e3Var 6) (e3Var 6)) (e3C (.int 4096))) (e3Op r3Mul (e3Var 4) (e3C (.int 7919)))) a3Nil)) (e3C (.int 2147483629))) a3Nil))))))))
    (s3Ret (e3Var 3)))))
abbrev NDraws : List Str := ["script", "many", "rests", "draws", "k", "cell", "mixed", "at"]
def spDraws : Sp3 := fun ds M Q _ => ∃ (a : Addr) (n : Int) (ns : List Int), ds = [.ref a, .int n] ∧ 0 ≤ n ∧ n ≤ 100000 ∧ ns.length ≤ 1000 ∧ M a = some (.ro (ns.map D.int)) ∧
  ∀ (p : Addr) (xs : List Int), M p = none → (xs.length : Int) = n → (∀ x ∈ xs, (0 : Int) ≤ x ∧ x < 2147483629) → Q (.ref p) (updM M p (.lst (xs.map D.int)))
theorem mem_set {xs : List Int} {j : Nat} {y x : Int} (h : x ∈ xs.set j y) : x ∈ xs ∨ x = y := by
  rcases List.mem_or_eq_of_mem_set h with h | h
  · exact .inl h
  · exact .inr h
theorem rdDraws : Rd3 NDraws tDraws spDraws := by
  rintro ds M Q E ⟨a, n, ns, rfl, n0, n1, hl, ha, q⟩
  -- rests = [abs(int(cell)) for cell in script]
  refine ⟨_, .inr ha, fun r nr => lcMap (fun d => match d with | .int i => .int (if i < 0 then -i else i) | d => d) nr (fun M' s => .inr (s a _ ha)) (fun k d M' R hd s k2 => ?_) (szLt (by rw [List.length_map]; omega)) fun M1 s1 h1 => ?_⟩
  · obtain ⟨x, _, rfl⟩ := get_ints hd
    exact k2 M' (Sub.refl _)
  have e1 : (ns.map D.int).map (fun d => match d with | .int i => .int (if i < 0 then -i else i) | d => d) = (ns.map fun i => if i < 0 then -i else i).map D.int := by
    rw [List.map_map, List.map_map]; rfl
  rw [e1] at h1
  -- draws = []
  refine ⟨szLe (by simp), fun w nw => ?_⟩
  have nwM : M w = none := s1.free nw
  have nrw : r ≠ w := neM h1 nw
  -- for k in range(many)
  refine ⟨by omega, by omega, fun i env' M' => ∃ (s4 s5 s6 s7 : Option D) (rs xs : List Int), env' = [some (.ref a), some (.int n), some (.ref r), some (.ref w), s4, s5, s6, s7] ∧ Sub M M' ∧ M' r = some (.lst (rs.map D.int)) ∧ M' w = some (.lst (xs.map D.int)) ∧
    rs.length = ns.length ∧ (∀ x ∈ rs, (0 : Int) ≤ x) ∧ xs.length = i ∧ ∀ x ∈ xs, (0 : Int) ≤ x ∧ x < 2147483629, ?_, ?_, ?_⟩
  · refine ⟨none, none, none, none, _, [], rfl, s1.new nwM, (updM_ne nrw).trans h1, updM_same, by simp, ?_, rfl, by simp⟩
    intro x hx
    obtain ⟨y, _, rfl⟩ := List.mem_map.mp hx
    show 0 ≤ if y < 0 then -y else y
    split <;> omega
  · rintro i d env' M' hd ⟨s4, s5, s6, s7, rs, xs, rfl, sub, hr, hw, lr, pr, lx, px⟩
    obtain ⟨hi, rfl⟩ := rngD_get hd
    have hi' : (i : Int) < n := by omega
    refine ⟨trivial, ?_⟩
    have ha' : M' a = some (.ro (ns.map D.int)) := sub a _ ha
    -- the last rows
    have tail : ∀ (s5' s7' : Option D) (c : Int), s5' = some (.int c) →
        (s3Seq (s3Asg (e3Op r3Mod (e3CB c3Int (a3Cons (e3Op r3Add (e3Op r3Add (e3Op r3Mul (e3Var 5) (e3C (.int 48271))) (e3Op r3Mul (e3Var 4) (e3C (.int 69621)))) (e3C (.int 11))) a3Nil)) (e3C (.int 2147483647))) 6)
    (s3Seq (s3Asg (e3Op r3Mod (e3CB c3Int (a3Cons (e3Op r3Add (e3Op r3Div (e3Op r3Mul (e3Var 6) (e3Var 6)) (e3C (.int 4096))) (e3Var 6)) a3Nil)) (e3C (.int 2147483629))) 6)
    (s3Expr (e3Bm m3App (e3Var 3) (a3Cons (e3Op r3Mod (e3CB c3Int (a3Cons (e3Op r3Add (e3Op r3Div (e3Op r3Mul (e3Var 6) (e3Var 6)) (e3C (.int 4096))) (e3Op r3Mul (e3Var 4) (e3C (.int 7919)))) a3Nil)) (e3C (.int 2147483629))) a3Nil)))))
          (rtX E) { nx := fun env' M' => ∃ (s4 s5 s6 s7 : Option D) (rs xs : List Int), env' = [some (.ref a), some (.int n), some (.ref r), some (.ref w), s4, s5, s6, s7] ∧ Sub M M' ∧ M' r = some (.lst (rs.map D.int)) ∧ M' w = some (.lst (xs.map D.int)) ∧
    rs.length = ns.length ∧ (∀ x ∈ rs, (0 : Int) ≤ x) ∧ xs.length = i + 1 ∧ ∀ x ∈ xs, (0 : Int) ≤ x ∧ x < 2147483629, rt := (rtD Q).rt } [some (.ref a), some (.int n), some (.ref r), some (.ref w), some (.int (0 + (i : Nat))), s5', s6, s7'] M' := by
      rintro s5' s7' c rfl
      refine ⟨.inr ⟨by decide, by decide⟩, .inr ⟨by decide, by decide⟩, by decide, ?_⟩
      generalize hm : (c * 48271 + (0 + ((i : Nat) : Int)) * 69621 + 11) % 2147483647 = m1
      have m0 : 0 ≤ m1 := by rw [← hm]; exact Int.emod_nonneg _ (by decide)
      have m1' : m1 < 2147483647 := by rw [← hm]; exact Int.emod_lt_of_pos _ (by decide)
      refine ⟨.inl ⟨by omega, by omega⟩, ⟨by decide, by decide⟩, by decide, ?_⟩
      generalize hm2 : (m1 * m1 / 4096 + m1) % 2147483629 = m2
      have m20 : 0 ≤ m2 := by rw [← hm2]; exact Int.emod_nonneg _ (by decide)
      have m21 : m2 < 2147483629 := by rw [← hm2]; exact Int.emod_lt_of_pos _ (by decide)
      refine ⟨⟨_, .inl hw⟩, .inl ⟨by omega, by omega⟩, ⟨by decide, by decide⟩, .inr ⟨by decide, by decide⟩, by decide, _, hw, szLt (by rw [List.length_map]; omega), ?_⟩
      refine ⟨_, _, _, _, rs, xs ++ [_], rfl, sub.new nwM, (updM_ne nrw).trans hr, by rw [updM_same, List.map_append]; rfl, lr, pr, by simp [lx], ?_⟩
      intro x hx
      rcases List.mem_append.mp hx with hx | hx
      · exact px x hx
      · rw [List.mem_singleton] at hx
        rw [hx]
        exact ⟨Int.emod_nonneg _ (by decide), Int.emod_lt_of_pos _ (by decide)⟩
    refine ⟨_, .inr ha', fun e => ?_, fun e => ?_⟩
    · -- there are cells
      have hpos : 0 < ns.length := by
        have := of_decide_eq_true e
        rw [List.length_map] at this
        omega
      refine ⟨_, .inr ha', by rw [List.length_map]; omega, ?_⟩
      rw [List.length_map]
      have ht0 : 0 ≤ (0 + ((i : Nat) : Int)) % (ns.length : Int) := Int.emod_nonneg _ (by omega)
      have ht1 : (0 + ((i : Nat) : Int)) % (ns.length : Int) < ns.length := Int.emod_lt_of_pos _ (by omega)
      generalize (0 + ((i : Nat) : Int)) % (ns.length : Int) = at_ at ht0 ht1 ⊢
      obtain ⟨c, _, hc, _⟩ := at_ints ht0 ht1
      obtain ⟨y, hy, hyr, j, hj, hjl, hjr⟩ := at_ints (xs := rs) ht0 (by omega)
      refine ⟨_, _, .inr ha', hc, ⟨by decide, by decide, by decide⟩, fun e2 => ?_, fun e2 => ?_⟩
      · refine ⟨_, _, .inl hr, hyr, fun e3 => ?_, fun e3 => ?_⟩
        · refine ⟨⟨_, .inl hw⟩, _, _, .inl hr, hyr, by decide, _, hw, szLt (by rw [List.length_map]; omega), ?_⟩
          have hr2 : updM M' w (.lst (xs.map D.int ++ [.int (y % 1000003)])) r = some (.lst (rs.map D.int)) := (updM_ne nrw).trans hr
          refine ⟨_, _, .inl hr2, hyr, ⟨by decide, by decide⟩, _, j, hr2, ?_, ?_⟩
          · rw [List.length_map, hj]
            unfold ixN
            rw [if_pos (by omega), if_pos (by omega)]
            simp
          · refine ⟨_, _, _, _, rs.set j (y / 1000003), xs ++ [y % 1000003], rfl, (sub.new nwM).new nr, ?_, ?_, by simp [lr], ?_, by simp [lx], ?_⟩
            · rw [updM_same, List.map_set]
            · rw [updM_ne nrw.symm, updM_same, List.map_append]
              rfl
            · intro x hx
              rcases mem_set hx with hx | rfl
              · exact pr x hx
              · exact Int.ediv_nonneg (pr y hy) (by decide)
            · intro x hx
              rcases List.mem_append.mp hx with hx | hx
              · exact px x hx
              · rw [List.mem_singleton] at hx
                rw [hx]
                exact ⟨Int.emod_nonneg _ (by decide), Int.lt_trans (Int.emod_lt_of_pos _ (by decide)) (by decide)⟩
        · exact tail _ _ _ rfl
      · exact Br.ff (tail _ _ _ rfl)
    · exact tail _ _ _ rfl
  · rintro env' M' ⟨s4, s5, s6, s7, rs, xs, rfl, sub, hr, hw, lr, pr, lx, px⟩
    refine ⟨trivial, updM M w (.lst (xs.map D.int)), ?_, q w xs nwM ?_ px⟩
    · intro b o e
      by_cases hb : b = w
      · subst hb
        rw [updM_same] at e
        cases e
        exact hw
      · rw [updM_ne hb] at e
        exact sub b o e
    · rw [lx, rngD_length]
      omega
/-! ### the laws' take -/
def tTake : S3 :=
    (s3Seq (s3Asg (e3Op r3Ix (e3Var 0) (e3C (.int 1))) 2)
    (s3Seq (s3AsgG (e3Op r3Add (e3Var 2) (e3C (.int 1))) (g3SubL (e3Var 0) (e3C (.int 1))))
    (s3Seq (s3Asg (e3Op r3Ix (e3Var 0) (e3C (.int 0))) 3)
    (s3Seq (s3If (t3Test (e3Op r3Ge (e3Var 2) (e3CB c3Len (a3Cons (e3Var 3) a3Nil)))) (s3Ret (e3C (.int 0))) s3Nil)
    (s3Ret (e3Op r3Mod (e3Op r3Div (e3CB c3Int (a3Cons (e3Op r3Ix (e3Var 3) (e3Var 2)) a3Nil)) (e3C (.int 7))) (e3Var 1)))))))
abbrev NTake : List Str := ["hand", "many", "at", "draws"]
/-- the hand: the draws, how many are taken -/
def Hand (M : MH) (h : Addr) : Prop := ∃ (d : Addr) (n : Int) (xs : List Int), M h = some (.lst [.ref d, .int n]) ∧ M d = some (.lst (xs.map D.int)) ∧ d ≠ h ∧ 0 ≤ n ∧ ∀ x ∈ xs, (0 : Int) ≤ x
/-- all but the hand -/
def But (h : Addr) (M M' : MH) : Prop := ∀ b, b ≠ h → M' b = M b
def spTake : Sp3 := fun ds M Q _ => ∃ (h : Addr) (m : Int), ds = [.ref h, .int m] ∧ Hand M h ∧ 0 < m ∧ ∀ v M', 0 ≤ v → v < m → Hand M' h → But h M M' → Q (.int v) M'
theorem rdTake : Rd3 NTake tTake spTake := by
  rintro ds M Q E ⟨h, m, rfl, ⟨d, n, xs, hh, hd, hne, h0, hx⟩, hm, q⟩
  refine ⟨_, .int n, .inl hh, rfl, _, 1, hh, rfl, _, .ref d, .inl updM_same, rfl, ?_⟩
  have hd' : (updM M h (.lst [.ref d, .int (n + 1)])) d = some (.lst (xs.map D.int)) := (updM_ne hne).trans hd
  have fin : ∀ v, 0 ≤ v → v < m → (rtD Q).rt (.int v) (updM M h (.lst [.ref d, .int (n + 1)])) := fun v v0 v1 =>
    ⟨_, Sub.refl _, q v _ v0 v1 ⟨d, n + 1, xs, updM_same, hd', hne, by omega, hx⟩ fun b hb => updM_ne hb⟩
  refine ⟨_, .inl hd', fun e => ?_, fun e => ?_⟩
  · exact fin 0 (Int.le_refl _) hm
  · have e' := of_decide_eq_false e
    rw [List.length_map] at e'
    obtain ⟨x, hxm, hat, _⟩ := at_ints (xs := xs) h0 (by omega)
    exact ⟨_, _, .inl hd', hat, ⟨by decide, by decide⟩, hm, fin _ (Int.emod_nonneg _ (by omega)) (Int.emod_lt_of_pos _ hm)⟩
theorem hand_ne {M : MH} {h p : Addr} (hH : Hand M h) (np : M p = none) : h ≠ p := by
  obtain ⟨d, n, xs, h1, _⟩ := hH
  exact neM h1 np
/-- the hand stays where other things are made -/
theorem Hand.new {M : MH} {h p : Addr} {o : MO} (hH : Hand M h) (np : M p = none) : Hand (updM M p o) h := by
  obtain ⟨d, n, xs, h1, h2, h3⟩ := hH
  exact ⟨d, n, xs, (updM_ne (neM h1 np)).trans h1, (updM_ne (neM h2 np)).trans h2, h3⟩
theorem Hand.sub {M M' : MH} {h : Addr} (hH : Hand M h) (s : Sub M M') : Hand M' h := by
  obtain ⟨d, n, xs, h1, h2, h3⟩ := hH
  exact ⟨d, n, xs, s _ _ h1, s _ _ h2, h3⟩
end L3

namespace L3
open PySem PySem.Spec PyProof.Rows L2
/-! ### lists and rows of ints as data -/
theorem pys_ints {M : MH} : ∀ xs : List Int, Pys M (xs.map D.int) (xs.map PyData.int)
  | [] => .nil
  | x :: xs => .cons (.int x) (pys_ints xs)
theorem lay_ints : ∀ xs : List Int, PyData.canLayAll0 (xs.map PyData.int) = true
  | [] => by simp [PyData.canLayAll0]
  | x :: xs => by simp [PyData.canLayAll0, PyData.canLay0, lay_ints xs]
theorem depth_ints : ∀ xs : List Int, PyData.depthAll (xs.map PyData.int) ≤ 1
  | [] => by simp [PyData.depthAll]
  | x :: xs => by
    have := depth_ints xs
    simp only [List.map_cons, PyData.depthAll, PyData.depth]
    omega
theorem eqv_ints : ∀ xs ys : List Int, PyData.eqvAll (xs.map PyData.int) (ys.map PyData.int) = decide (xs = ys)
  | [], [] => by simp [PyData.eqvAll]
  | [], y :: ys => by simp [PyData.eqvAll]
  | x :: xs, [] => by simp [PyData.eqvAll]
  | x :: xs, y :: ys => by
    simp only [List.map_cons, PyData.eqvAll, PyData.eqv, eqv_ints xs ys]
    by_cases h : x = y
    · subst h; simp
    · simp [h]
theorem shaped_of {d : PyData} (h1 : d.canLay0 = true) (h2 : d.depth ≤ 64) : SeqAt.shaped d = true := by
  show (d.canLay0 && decide (d.depth ≤ 64)) = true
  rw [h1, decide_eq_true h2]
  rfl
theorem shaped_ints (xs : List Int) : SeqAt.shaped (.list (xs.map PyData.int)) = true :=
  shaped_of (by simp only [PyData.canLay0]; exact lay_ints xs) (by have := depth_ints xs; simp only [PyData.depth]; omega)
theorem shaped_row (xs : List Int) : SeqAt.shaped (.tuple (xs.map PyData.int)) = true :=
  shaped_of (by simp only [PyData.canLay0]; exact lay_ints xs) (by have := depth_ints xs; simp only [PyData.depth]; omega)
/-- a row of ints -/
def rowD (r : List Int) : D := .tup (r.map D.int)
def rowP (r : List Int) : PyData := .tuple (r.map PyData.int)
theorem pys_rows {M : MH} : ∀ rs : List (List Int), Pys M (rs.map rowD) (rs.map rowP)
  | [] => .nil
  | r :: rs => .cons (.tup (pys_ints r)) (pys_rows rs)
theorem lay_rows : ∀ rs : List (List Int), PyData.canLayAll0 (rs.map rowP) = true
  | [] => by simp [PyData.canLayAll0]
  | r :: rs => by simp [PyData.canLayAll0, PyData.canLay0, rowP, lay_ints r]; exact lay_rows rs
theorem depth_rows : ∀ rs : List (List Int), PyData.depthAll (rs.map rowP) ≤ 2
  | [] => by simp [PyData.depthAll]
  | r :: rs => by
    have h1 := depth_rows rs
    have h2 := depth_ints r
    simp only [List.map_cons, PyData.depthAll, rowP, PyData.depth]
    omega
theorem shaped_rowsL (rs : List (List Int)) : SeqAt.shaped (.list (rs.map rowP)) = true :=
  shaped_of (by simp only [PyData.canLay0]; exact lay_rows rs) (by have := depth_rows rs; simp only [PyData.depth]; omega)
theorem shaped_rowsT (rs : List (List Int)) : SeqAt.shaped (.tuple (rs.map rowP)) = true :=
  shaped_of (by simp only [PyData.canLay0]; exact lay_rows rs) (by have := depth_rows rs; simp only [PyData.depth]; omega)
theorem eqv_row (r s : List Int) : PyData.eqv (rowP r) (rowP s) = decide (r = s) := by
  unfold rowP
  simp only [PyData.eqv]
  exact eqv_ints r s
theorem any_rows (r : List Int) : ∀ rs : List (List Int), ((rs.map rowP).any fun z => PyData.eqv z (rowP r)) = decide (r ∈ rs)
  | [] => by simp
  | s :: rs => by
    rw [List.map_cons, List.any_cons, eqv_row, any_rows r rs]
    by_cases h : s = r
    · subst h; simp
    · have h' : ¬ r = s := fun z => h z.symm
      simp [h, h']
/-- row in rows -/
theorem in_rows {neg : Bool} {M : MH} {Q : Q3} {e : D} {r : List Int} {rs : List (List Int)} (h : Seq3 M (rs.map rowD) e) (q : Q (.bl (neg ^^ decide (r ∈ rs))) M) : r3In neg (rowD r) e M Q := by
  unfold r3In
  exact ⟨rowP r, rs.map rowD, rs.map rowP, .tup (pys_ints r), h, pys_rows rs, shaped_row r, shaped_rowsL rs, shaped_rowsT rs, by rw [any_rows]; exact q⟩
theorem any_ints (x : Int) : ∀ xs : List Int, ((xs.map PyData.int).any fun z => PyData.eqv z (.int x)) = decide (x ∈ xs)
  | [] => by simp
  | y :: xs => by
    rw [List.map_cons, List.any_cons, any_ints x xs]
    simp only [PyData.eqv]
    by_cases h : y = x
    · subst h; simp
    · have h' : ¬ x = y := fun z => h z.symm
      simp [h, h']
theorem in_ints {neg : Bool} {M : MH} {Q : Q3} {e : D} {x : Int} {xs : List Int} (h : Seq3 M (xs.map D.int) e) (q : Q (.bl (neg ^^ decide (x ∈ xs))) M) : r3In neg (.int x) e M Q := by
  unfold r3In
  exact ⟨.int x, xs.map D.int, xs.map PyData.int, .int x, h, pys_ints xs, shaped_of (by simp [PyData.canLay0]) (by simp [PyData.depth]), shaped_ints xs, shaped_row xs, by rw [any_ints]; exact q⟩
/-- lists of ints compared -/
theorem eq_lists {M : MH} {Q : Q3} {a b : Addr} {xs ys : List Int} (ha : LstM M a (xs.map D.int)) (hb : LstM M b (ys.map D.int)) (q : Q (.bl (decide (xs = ys))) M) : r3Eq (.ref a) (.ref b) M Q := by
  unfold r3Eq
  exact ⟨_, _, .ref ha (pys_ints xs), .ref hb (pys_ints ys), shaped_ints xs, shaped_ints ys, by simp only [PyData.eqv]; rw [eqv_ints]; exact q⟩
theorem ne_lists {M : MH} {Q : Q3} {a b : Addr} {xs ys : List Int} (ha : LstM M a (xs.map D.int)) (hb : LstM M b (ys.map D.int)) (q : Q (.bl (!decide (xs = ys))) M) : r3Ne (.ref a) (.ref b) M Q := by
  unfold r3Ne
  exact ⟨_, _, .ref ha (pys_ints xs), .ref hb (pys_ints ys), shaped_ints xs, shaped_ints ys, by simp only [PyData.eqv]; rw [eqv_ints]; exact q⟩
/-! ### numbers -/
/-- is_number -/
def isNum (d : D) (lo hi : Int) : Bool := match d with | .int i => decide (lo ≤ i) && decide (i ≤ hi) | _ => false
/-- a value by itself -/
def Own : D → Prop
  | .ref _ | .ty _ => False
  | _ => True
def tyName : D → String
  | .non => "NoneType" | .bl _ => "bool" | .int _ => "int" | .str _ => "str" | .tup _ => "tuple" | _ => ""
theorem ty_own {M : MH} {d : D} (h : Own d) : tyD M d (tyName d) := by
  cases d <;> first | rfl | exact h.elim
def tIsNumber : S3 :=
    (s3Ret (e3And (e3CB c3Isi (a3Cons (e3Var 0) (a3Cons (e3C (.ty "int")) a3Nil))) (e3And (e3Not (e3CB c3Isi (a3Cons (e3Var 0) (a3Cons (e3C (.ty "bool")) a3Nil)))) (e3Chain r3Le r3Le (e3Var 1) (e3Var 0) (e3Var 2)))))
/-- the type of a value: list or dict by what is known -/
def TyKnown (M : MH) (d : D) : Prop := ∃ n, tyD M d n ∧ (n = tyName d ∨ n = "list" ∨ n = "dict") ∧ ((∃ a, d = .ref a) ∨ n = tyName d)
theorem own_known {M : MH} {d : D} (h : Own d) : TyKnown M d := ⟨tyName d, ty_own h, .inl rfl, .inr rfl⟩
theorem lst_known {M : MH} {a : Addr} {ds : List D} (h : LstM M a ds) : TyKnown M (.ref a) := ⟨"list", .inl ⟨rfl, ds, h⟩, .inr (.inl rfl), .inl ⟨a, rfl⟩⟩
def spIsNumber : Sp3 := fun ds M Q _ => ∃ (d : D) (lo hi : Int), ds = [d, .int lo, .int hi] ∧ TyKnown M d ∧ Q (.bl (isNum d lo hi)) M
theorem isi_int {M : MH} {Q : Q3} {d : D} (h : TyKnown M d) (q1 : ∀ i, d = .int i → Q (.bl true) M) (q2 : ∀ b, d = .bl b → Q (.bl true) M) (q3 : (∀ i, d ≠ .int i) → (∀ b, d ≠ .bl b) → Q (.bl false) M) : c3Isi [d, .ty "int"] M Q := by
  obtain ⟨n, hn, _, h3⟩ := h
  unfold c3Isi
  cases d with
  | int i => exact ⟨"int", true, rfl, by decide +kernel, q1 i rfl⟩
  | bl b => exact ⟨"bool", true, rfl, by decide +kernel, q2 b rfl⟩
  | non => exact ⟨_, false, rfl, by decide +kernel, q3 (by intro i z; cases z) (by intro i z; cases z)⟩
  | str x => exact ⟨_, false, rfl, by decide +kernel, q3 (by intro i z; cases z) (by intro i z; cases z)⟩
  | tup x => exact ⟨_, false, rfl, by decide +kernel, q3 (by intro i z; cases z) (by intro i z; cases z)⟩
  | ref a =>
    rcases hn with ⟨rfl, h⟩ | ⟨rfl, h⟩
    · exact ⟨"list", false, .inl ⟨rfl, h⟩, by decide +kernel, q3 (by intro i z; cases z) (by intro i z; cases z)⟩
    · exact ⟨"dict", false, .inr ⟨rfl, h⟩, by decide +kernel, q3 (by intro i z; cases z) (by intro i z; cases z)⟩
  | ty x => exact hn.elim
theorem isi_bool {M : MH} {Q : Q3} {d : D} (h : TyKnown M d) (q2 : ∀ b, d = .bl b → Q (.bl true) M) (q3 : (∀ b, d ≠ .bl b) → Q (.bl false) M) : c3Isi [d, .ty "bool"] M Q := by
  obtain ⟨n, hn, _, h3⟩ := h
  unfold c3Isi
  cases d with
  | int i => exact ⟨"int", false, rfl, by decide +kernel, q3 (by intro i z; cases z)⟩
  | bl b => exact ⟨"bool", true, rfl, by decide +kernel, q2 b rfl⟩
  | non => exact ⟨_, false, rfl, by decide +kernel, q3 (by intro i z; cases z)⟩
  | str x => exact ⟨_, false, rfl, by decide +kernel, q3 (by intro i z; cases z)⟩
  | tup x => exact ⟨_, false, rfl, by decide +kernel, q3 (by intro i z; cases z)⟩
  | ref a =>
    rcases hn with ⟨rfl, h⟩ | ⟨rfl, h⟩
    · exact ⟨"list", false, .inl ⟨rfl, h⟩, by decide +kernel, q3 (by intro i z; cases z)⟩
    · exact ⟨"dict", false, .inr ⟨rfl, h⟩, by decide +kernel, q3 (by intro i z; cases z)⟩
  | ty x => exact hn.elim
theorem isi_tuple {M : MH} {Q : Q3} {d : D} (h : TyKnown M d) (q2 : ∀ b, d = .tup b → Q (.bl true) M) (q3 : (∀ b, d ≠ .tup b) → Q (.bl false) M) : c3Isi [d, .ty "tuple"] M Q := by
  obtain ⟨n, hn, _, h3⟩ := h
  unfold c3Isi
  cases d with
  | int i => exact ⟨"int", false, rfl, by decide +kernel, q3 (by intro i z; cases z)⟩
  | tup b => exact ⟨"tuple", true, rfl, by decide +kernel, q2 b rfl⟩
  | non => exact ⟨_, false, rfl, by decide +kernel, q3 (by intro i z; cases z)⟩
  | str x => exact ⟨_, false, rfl, by decide +kernel, q3 (by intro i z; cases z)⟩
  | bl x => exact ⟨_, false, rfl, by decide +kernel, q3 (by intro i z; cases z)⟩
  | ref a =>
    rcases hn with ⟨rfl, h⟩ | ⟨rfl, h⟩
    · exact ⟨"list", false, .inl ⟨rfl, h⟩, by decide +kernel, q3 (by intro i z; cases z)⟩
    · exact ⟨"dict", false, .inr ⟨rfl, h⟩, by decide +kernel, q3 (by intro i z; cases z)⟩
  | ty x => exact hn.elim
theorem isi_str {M : MH} {Q : Q3} {d : D} (h : TyKnown M d) (q2 : ∀ b, d = .str b → Q (.bl true) M) (q3 : (∀ b, d ≠ .str b) → Q (.bl false) M) : c3Isi [d, .ty "str"] M Q := by
  obtain ⟨n, hn, _, h3⟩ := h
  unfold c3Isi
  cases d with
  | int i => exact ⟨"int", false, rfl, by decide +kernel, q3 (by intro i z; cases z)⟩
  | str b => exact ⟨"str", true, rfl, by decide +kernel, q2 b rfl⟩
  | non => exact ⟨_, false, rfl, by decide +kernel, q3 (by intro i z; cases z)⟩
  | tup x => exact ⟨_, false, rfl, by decide +kernel, q3 (by intro i z; cases z)⟩
  | bl x => exact ⟨_, false, rfl, by decide +kernel, q3 (by intro i z; cases z)⟩
  | ref a =>
    rcases hn with ⟨rfl, h⟩ | ⟨rfl, h⟩
    · exact ⟨"list", false, .inl ⟨rfl, h⟩, by decide +kernel, q3 (by intro i z; cases z)⟩
    · exact ⟨"dict", false, .inr ⟨rfl, h⟩, by decide +kernel, q3 (by intro i z; cases z)⟩
  | ty x => exact hn.elim
theorem rdIsNumber : Rd3 ["value", "least", "most"] tIsNumber spIsNumber := by
  rintro ds M Q E ⟨d, lo, hi, rfl, hk, q⟩
  conv => whnf
  refine isi_int hk ?_ ?_ ?_
  · intro i e
    subst e
    refine Br.tt ?_
    conv => whnf
    refine isi_bool hk (fun b e => nomatch e) ?_
    intro _
    refine Br.tt ⟨fun e1 => ?_, fun e1 => ?_⟩
    · refine ⟨M, Sub.refl _, ?_⟩
      have : isNum (.int i) lo hi = decide (i ≤ hi) := by
        show (decide (lo ≤ i) && decide (i ≤ hi)) = _
        rw [e1]; rfl
      rw [this] at q
      exact q
    · refine ⟨M, Sub.refl _, ?_⟩
      have : isNum (.int i) lo hi = false := by
        show (decide (lo ≤ i) && decide (i ≤ hi)) = _
        rw [e1]; rfl
      rw [this] at q
      exact q
  · intro b e
    subst e
    refine Br.tt ?_
    conv => whnf
    refine isi_bool hk ?_ ?_
    · exact fun b' e => Br.ff ⟨M, Sub.refl _, q⟩
    · exact fun h => absurd rfl (h b)
  · intro h1 h2
    refine Br.ff ⟨M, Sub.refl _, ?_⟩
    have : isNum d lo hi = false := by
      cases d with
      | int i => exact absurd rfl (h1 i)
      | _ => rfl
    rw [this] at q
    exact q
def tWhole : S3 :=
    (s3Ret (e3And (e3CB c3Isi (a3Cons (e3Var 0) (a3Cons (e3C (.ty "int")) a3Nil))) (e3Not (e3CB c3Isi (a3Cons (e3Var 0) (a3Cons (e3C (.ty "bool")) a3Nil))))))
def isIntD : D → Bool
  | .int _ => true
  | _ => false
def spWhole : Sp3 := fun ds M Q _ => ∃ d, ds = [d] ∧ TyKnown M d ∧ Q (.bl (isIntD d)) M
theorem rdWhole : Rd3 ["found"] tWhole spWhole := by
  rintro ds M Q E ⟨d, rfl, hk, q⟩
  conv => whnf
  refine isi_int hk ?_ ?_ ?_
  · intro i e
    subst e
    refine Br.tt ?_
    conv => whnf
    refine isi_bool hk (fun b e => nomatch e) ?_
    exact fun _ => ⟨M, Sub.refl _, q⟩
  · intro b e
    subst e
    refine Br.tt ?_
    conv => whnf
    refine isi_bool hk ?_ ?_
    · exact fun b' e => ⟨M, Sub.refl _, q⟩
    · exact fun h => absurd rfl (h b)
  · intro h1 h2
    refine Br.ff ⟨M, Sub.refl _, ?_⟩
    have : isIntD d = false := by
      cases d with
      | int i => exact absurd rfl (h1 i)
      | _ => rfl
    rw [this] at q
    exact q

theorem eq_int {M : MH} {Q : Q3} {i j : Int} (q : Q (.bl (decide (i = j))) M) : r3Eq (.int i) (.int j) M Q := by unfold r3Eq; exact q
theorem ne_int {M : MH} {Q : Q3} {i j : Int} (q : Q (.bl (!decide (i = j))) M) : r3Ne (.int i) (.int j) M Q := by unfold r3Ne; exact q
theorem eq_bl {M : MH} {Q : Q3} {i j : Bool} (q : Q (.bl (i == j)) M) : r3Eq (.bl i) (.bl j) M Q := by unfold r3Eq; exact q
theorem ne_bl {M : MH} {Q : Q3} {i j : Bool} (q : Q (.bl (!(i == j))) M) : r3Ne (.bl i) (.bl j) M Q := by unfold r3Ne; exact q
theorem eq_str {M : MH} {Q : Q3} {i j : Str} (q : Q (.bl (decide (i = j))) M) : r3Eq (.str i) (.str j) M Q := by unfold r3Eq; exact q
theorem ne_str {M : MH} {Q : Q3} {i j : Str} (q : Q (.bl (!decide (i = j))) M) : r3Ne (.str i) (.str j) M Q := by unfold r3Ne; exact q
/-- what is known, with one more object -/
theorem Sub.put {M M' : MH} {p : Addr} {o : MO} (s : Sub M M') (h : M' p = some o) : Sub (updM M p o) M' := fun b u e => by
  by_cases hb : b = p
  · subst hb
    rw [updM_same] at e
    cases e
    exact h
  · rw [updM_ne hb] at e
    exact s b u e
theorem rng_map {f : D → D} {g : Nat → D} {n : Nat} (h : ∀ i : Nat, f (.int (i : Int)) = g i) : (rngD 0 n).map f = (List.range n).map g := by
  unfold rngD
  rw [List.map_map]
  refine List.map_congr_left fun i _ => ?_
  show f (.int (0 + (i : Int))) = g i
  rw [Int.zero_add]
  exact h i
theorem cut_from1 (xs : List D) : cutD xs (some 1) none = xs.drop 1 := by
  unfold cutD
  rw [show HT.sIx xs.length 0 (some 1) = min 1 xs.length from HT.sIx_nat xs.length 0 1, HT.sIx_none]
  cases xs with
  | nil => rfl
  | cons x r =>
    rw [show min 1 (x :: r).length = 1 by rw [List.length_cons]; omega]
    show (List.take ((x :: r).length - 1) r) = r
    rw [List.length_cons, Nat.add_sub_cancel]
    exact List.take_length
end L3

namespace My
open PySem PySem.Spec PyProof.Rows L2 L3

def topS (i : Nat) : Stmt := PySem.Challenge.pw_looksfar_k39_relay.main.body.getD i (.Pass ⟨0, 0, 0, 0⟩)
abbrev s_is_number : Stmt := topS 4
abbrev N_is_number : List Str := ["value", "least", "most"]
theorem sc_is_number : FnScope N_is_number ["value", "least", "most"] (defScope s_is_number) := ⟨rfl, rfl, rfl, by decide +kernel, rfl, by decide +kernel, by decide +kernel⟩
abbrev s_relay : Stmt := topS 7
abbrev N_relay : List Str := ["steps", "many", "white", "number", "black", "label"]
theorem sc_relay : FnScope N_relay ["steps"] (defScope s_relay) := ⟨rfl, rfl, rfl, by decide +kernel, rfl, by decide +kernel, by decide +kernel⟩
abbrev s_law_draws : Stmt := topS 9
abbrev N_law_draws : List Str := ["script", "many", "rests", "draws", "k", "cell", "mixed", "at"]
theorem sc_law_draws : FnScope N_law_draws ["script", "many"] (defScope s_law_draws) := ⟨rfl, rfl, rfl, by decide +kernel, rfl, by decide +kernel, by decide +kernel⟩
abbrev s_law_take : Stmt := topS 10
abbrev N_law_take : List Str := ["hand", "many", "at", "draws"]
theorem sc_law_take : FnScope N_law_take ["hand", "many"] (defScope s_law_take) := ⟨rfl, rfl, rfl, by decide +kernel, rfl, by decide +kernel, by decide +kernel⟩
abbrev s_law_whole : Stmt := topS 11
abbrev N_law_whole : List Str := ["found"]
theorem sc_law_whole : FnScope N_law_whole ["found"] (defScope s_law_whole) := ⟨rfl, rfl, rfl, by decide +kernel, rfl, by decide +kernel, by decide +kernel⟩
abbrev s_law_like : Stmt := topS 12
abbrev N_law_like : List Str := ["found", "due", "k"]
theorem sc_law_like : FnScope N_law_like ["found", "due"] (defScope s_law_like) := ⟨rfl, rfl, rfl, by decide +kernel, rfl, by decide +kernel, by decide +kernel⟩
abbrev s_law_refused : Stmt := topS 13
abbrev N_law_refused : List Str := ["steps"]
theorem sc_law_refused : FnScope N_law_refused ["steps"] (defScope s_law_refused) := ⟨rfl, rfl, rfl, by decide +kernel, rfl, by decide +kernel, by decide +kernel⟩
abbrev s_law_figures : Stmt := topS 14
abbrev N_law_figures : List Str := ["number", "steps", "k"]
theorem sc_law_figures : FnScope N_law_figures ["number", "steps"] (defScope s_law_figures) := ⟨rfl, rfl, rfl, by decide +kernel, rfl, by decide +kernel, by decide +kernel⟩
abbrev s_law_due : Stmt := topS 15
abbrev N_law_due : List Str := ["steps", "many", "white", "x", "a"]
theorem sc_law_due : FnScope N_law_due ["steps"] (defScope s_law_due) := ⟨rfl, rfl, rfl, by decide +kernel, rfl, by decide +kernel, by decide +kernel⟩
abbrev s_law_road : Stmt := topS 16
abbrev N_law_road : List Str := ["hand", "found", "steps", "label", "figures", "turn", "x", "labels", "row"]
theorem sc_law_road : FnScope N_law_road ["hand", "found", "steps"] (defScope s_law_road) := ⟨rfl, rfl, rfl, by decide +kernel, rfl, by decide +kernel, by decide +kernel⟩
abbrev s_law_asked : Stmt := topS 17
abbrev N_law_asked : List Str := ["script", "hand", "steps", "found", "turn", "wrong", "row", "x", "near"]
theorem sc_law_asked : FnScope N_law_asked ["script"] (defScope s_law_asked) := ⟨rfl, rfl, rfl, by decide +kernel, rfl, by decide +kernel, by decide +kernel⟩
abbrev s_law : Stmt := topS 18
abbrev N_law : List Str := ["script"]
theorem sc_law : FnScope N_law ["script"] (defScope s_law) := ⟨rfl, rfl, rfl, by decide +kernel, rfl, by decide +kernel, by decide +kernel⟩
structure Gm where
  K : Fg
  LookError : Addr
  BadReach : Addr
structure Txt (G : Gm) (mg : Str → Option Value) : Prop where
  nol : noList G.K = true
  n_abs : mg "abs" = none
  n_all : mg "all" = none
  n_bool : mg "bool" = none
  n_int : mg "int" = none
  n_isinstance : mg "isinstance" = none
  n_len : mg "len" = none
  n_range : mg "range" = none
  n_str : mg "str" = none
  n_tuple : mg "tuple" = none
  c_MOST_RELAYED : Cst mg "MOST_RELAYED" (.int 5)
  x_LookError : ExcT G.K mg "LookError" G.LookError
  x_BadReach : ExcT G.K mg "BadReach" G.BadReach
  e_BadReach_BadReach : PySem.W.exmOne G.K (.ref G.BadReach) (.ref G.BadReach) = some true
  e_BadReach_LookError : PySem.W.exmOne G.K (.ref G.BadReach) (.ref G.LookError) = some true
  e_LookError_BadReach : PySem.W.exmOne G.K (.ref G.LookError) (.ref G.BadReach) = some false
  e_LookError_LookError : PySem.W.exmOne G.K (.ref G.LookError) (.ref G.LookError) = some true
end My

namespace My
open PySem PySem.Spec PyProof.Rows L2 L3
/-! ### the mathematics -/
def mS (s : Int) : Int := 1 * 2 ^ s.toNat
def rowsW (m x : Int) : List (List Int) := (List.range m.toNat).map fun a : Nat => [(a : Int), (2 * (a : Int) + x) % m]
def rowsB (m : Int) : List (List Int) := (List.range m.toNat).map fun a : Nat => [(a : Int), (a : Int)]
def dueT (s : Int) : D := .tup [.str "task", .int 2, .tup [.int (mS s), .int (mS s)], .tup [.tup ((rowsW (mS s) 0).map rowD), .tup ((rowsW (mS s) 1).map rowD)], .tup [.tup ((rowsB (mS s)).map rowD)]]
def figs (n s : Int) : List Int := (List.range s.toNat).map fun k : Nat => Builtin.bitAnd (n / 2 ^ (s - 1 - (k : Int)).toNat) 1
theorem small_s {s : Int} (h1 : 1 ≤ s) (h5 : s ≤ 5) : ∃ k : Nat, s = (k : Int) ∧ 1 ≤ k ∧ k < 6 := by
  obtain ⟨k, rfl⟩ := Int.eq_ofNat_of_zero_le (show 0 ≤ s by omega)
  exact ⟨k, rfl, by omega, by omega⟩
theorem mS_bd {s : Int} (h1 : 1 ≤ s) (h5 : s ≤ 5) : 2 ≤ mS s ∧ mS s ≤ 32 := by
  obtain ⟨k, rfl, a, b⟩ := small_s h1 h5
  have : k = 1 ∨ k = 2 ∨ k = 3 ∨ k = 4 ∨ k = 5 := by omega
  rcases this with rfl | rfl | rfl | rfl | rfl <;> decide
theorem near_fact : ∀ s : Nat, s < 6 → ∀ a : Nat, a < 2 ^ s → ∀ b : Nat, b < 2 ^ s → ∀ x : Nat, x < 2 → decide (s = 0) = false → decide ((figs (a : Int) (s : Int)).drop 1 ++ [(x : Int)] = figs (b : Int) (s : Int)) = decide ((b : Int) = (2 * (a : Int) + (x : Int)) % (2 ^ s : Int)) := by decide +kernel
theorem mS_nat (k : Nat) : mS (k : Int) = ((2 ^ k : Nat) : Int) := by
  unfold mS
  rw [Int.toNat_natCast, Int.one_mul, Int.natCast_pow]
  rfl
theorem near_eq {s a b x : Int} (h1 : 1 ≤ s) (h5 : s ≤ 5) (a0 : 0 ≤ a) (a1 : a < mS s) (b0 : 0 ≤ b) (b1 : b < mS s) (x0 : 0 ≤ x) (x1 : x < 2) :
    decide ((figs a s).drop 1 ++ [x] = figs b s) = decide (b = (2 * a + x) % mS s) := by
  obtain ⟨k, rfl, k1, k6⟩ := small_s h1 h5
  obtain ⟨a, rfl⟩ := Int.eq_ofNat_of_zero_le a0
  obtain ⟨b, rfl⟩ := Int.eq_ofNat_of_zero_le b0
  obtain ⟨x, rfl⟩ := Int.eq_ofNat_of_zero_le x0
  rw [mS_nat] at a1 b1 ⊢
  have := near_fact k k6 a (by omega) b (by omega) x (by omega) (decide_eq_false (by omega))
  rw [Int.natCast_pow]
  exact this
theorem mem_rowsW {m x a b : Int} (m0 : 0 ≤ m) (a0 : 0 ≤ a) (a1 : a < m) : [a, b] ∈ rowsW m x ↔ b = (2 * a + x) % m := by
  unfold rowsW
  rw [List.mem_map]
  constructor
  · rintro ⟨c, _, e⟩
    simp only [List.cons.injEq, and_true] at e
    rw [← e.2, e.1]
  · rintro rfl
    obtain ⟨c, rfl⟩ := Int.eq_ofNat_of_zero_le a0
    exact ⟨c, List.mem_range.mpr (by omega), rfl⟩
theorem mem_rowsB {m a b : Int} (a0 : 0 ≤ a) (a1 : a < m) : [a, b] ∈ rowsB m ↔ a = b := by
  unfold rowsB
  rw [List.mem_map]
  constructor
  · rintro ⟨c, _, e⟩
    simp only [List.cons.injEq, and_true] at e
    rw [← e.2, e.1]
  · rintro rfl
    obtain ⟨c, rfl⟩ := Int.eq_ofNat_of_zero_le a0
    exact ⟨c, List.mem_range.mpr (by omega), rfl⟩
theorem range_pick (l : Nat) : ∀ n, l < n → (List.range n).filter (fun a : Nat => decide ((a : Int) = (l : Int))) = [l]
  | 0, h => by omega
  | n + 1, h => by
    rw [List.range_succ, List.filter_append]
    by_cases hl : l < n
    · rw [range_pick l n hl]
      have : ¬ (n : Int) = (l : Int) := by omega
      simp [this]
    · have e : l = n := by omega
      subst e
      have : (List.range l).filter (fun a : Nat => decide ((a : Int) = (l : Int))) = [] := by
        rw [List.filter_eq_nil_iff]
        intro a ha
        have := List.mem_range.mp ha
        simp
        omega
      rw [this]
      simp
def pickB (l : Int) : D → Bool
  | .tup (.int a :: _) => decide (a = l)
  | _ => false
def pickF : D → D
  | .tup [_, e] => e
  | d => d
theorem pick_rows {m x l : Int} (l0 : 0 ≤ l) (l1 : l < m) : (((rowsW m x).map rowD).filter (pickB l)).map pickF = [.int ((2 * l + x) % m)] := by
  obtain ⟨k, rfl⟩ := Int.eq_ofNat_of_zero_le l0
  unfold rowsW
  rw [List.map_map, List.filter_map, List.map_map]
  have e : (pickB (k : Int) ∘ (rowD ∘ fun a : Nat => [(a : Int), (2 * (a : Int) + x) % m])) = fun a : Nat => decide ((a : Int) = (k : Int)) := rfl
  rw [e, range_pick k _ (by omega)]
  rfl
/-- data of ints, texts, None and tuples, to a depth -/
def plain : Nat → D → Prop
  | 0, _ => False
  | n + 1, d => match d with
    | .int _ | .str _ | .non => True
    | .tup ds => ds.length ≤ 1000 ∧ ∀ x ∈ ds, plain n x
    | _ => False
theorem plain_row {n : Nat} {r : List Int} (h : r.length ≤ 1000) : plain (n + 2) (rowD r) := by
  refine ⟨by simpa using h, fun x hx => ?_⟩
  obtain ⟨i, _, rfl⟩ := List.mem_map.mp hx
  trivial
theorem plain_rows {n : Nat} {rs : List (List Int)} (h : rs.length ≤ 1000) (h2 : ∀ r ∈ rs, r.length ≤ 1000) : plain (n + 3) (.tup (rs.map rowD)) := by
  refine ⟨by simpa using h, fun x hx => ?_⟩
  obtain ⟨r, hr, rfl⟩ := List.mem_map.mp hx
  exact plain_row (h2 r hr)
theorem rowsW_len {m x : Int} : (rowsW m x).length = m.toNat := by unfold rowsW; simp
theorem rowsB_len {m : Int} : (rowsB m).length = m.toNat := by unfold rowsB; simp
theorem rowsW_row {m x : Int} {r : List Int} (h : r ∈ rowsW m x) : r.length ≤ 1000 := by
  obtain ⟨a, _, rfl⟩ := List.mem_map.mp h
  show 2 ≤ 1000
  decide
theorem rowsB_row {m : Int} {r : List Int} (h : r ∈ rowsB m) : r.length ≤ 1000 := by
  obtain ⟨a, _, rfl⟩ := List.mem_map.mp h
  show 2 ≤ 1000
  decide
theorem plain_due {s : Int} (h1 : 1 ≤ s) (h5 : s ≤ 5) : plain 5 (dueT s) := by
  obtain ⟨b1, b2⟩ := mS_bd h1 h5
  refine ⟨by show 5 ≤ 1000; decide, fun x hx => ?_⟩
  simp only [List.mem_cons, List.not_mem_nil, or_false] at hx
  rcases hx with rfl | rfl | rfl | rfl | rfl
  · trivial
  · trivial
  · refine ⟨by show 2 ≤ 1000; decide, fun x hx => ?_⟩
    simp only [List.mem_cons, List.not_mem_nil, or_false] at hx
    rcases hx with rfl | rfl <;> trivial
  · refine ⟨by show 2 ≤ 1000; decide, fun x hx => ?_⟩
    simp only [List.mem_cons, List.not_mem_nil, or_false] at hx
    rcases hx with rfl | rfl <;> exact plain_rows (by rw [rowsW_len]; omega) fun r hr => rowsW_row hr
  · refine ⟨by show 1 ≤ 1000; decide, fun x hx => ?_⟩
    simp only [List.mem_cons, List.not_mem_nil, or_false] at hx
    subst hx
    exact plain_rows (by rw [rowsB_len]; omega) fun r hr => rowsB_row hr
/-! ### the promises -/
def sp_is_number (G : Gm) : Sp3 := spIsNumber
def sp_law_draws (G : Gm) : Sp3 := spDraws
def sp_law_take (G : Gm) : Sp3 := spTake
def sp_law_whole (G : Gm) : Sp3 := spWhole
def sp_law_figures (G : Gm) : Sp3 := fun ds M Q _ => ∃ (n s : Int), ds = [.int n, .int s] ∧ 1 ≤ s ∧ s ≤ 5 ∧ ∀ p, M p = none → Q (.ref p) (updM M p (.lst ((figs n s).map D.int)))
def sp_law_due (G : Gm) : Sp3 := fun ds M Q _ => ∃ (s : Int), ds = [.int s] ∧ 1 ≤ s ∧ s ≤ 5 ∧ Q (dueT s) M
def sp_relay (G : Gm) : Sp3 := fun ds M Q E => ∃ d, ds = [d] ∧ Own d ∧ (∀ s, d = .int s → isNum d 1 5 = true → Q (dueT s) M) ∧ (isNum d 1 5 = false → E (.ref G.BadReach) none M)
def sp_law_refused (G : Gm) : Sp3 := fun ds M Q _ => ∃ d, ds = [d] ∧ Own d ∧ isNum d 1 5 = false ∧ Q (.bl true) M
def sp_law_road (G : Gm) : Sp3 := fun ds M Q _ => ∃ (h : Addr) (s : Int), ds = [.ref h, dueT s, .int s] ∧ 1 ≤ s ∧ s ≤ 5 ∧ Hand M h ∧ ∀ M', Q (.bl true) M'
def spLike (n : Nat) : Sp3 := fun ds M Q _ => ∃ d, ds = [d, d] ∧ plain n d ∧ Q (.bl true) M
def sp_law_like (G : Gm) : Sp3 := spLike 5
def sp_law_asked (G : Gm) : Sp3 := spLaw3 63
def sp_law (G : Gm) : Sp3 := spLaw3 63
end My

namespace My
open PySem PySem.Spec PyProof.Rows L2 L3

variable {P : Program} {w : World} {G : Gm} {mg : Str → Option Value} {base : Heap}
def t_is_number (G : Gm) : S3 :=
    (s3Ret (e3And (e3CB c3Isi (a3Cons (e3Var 0) (a3Cons (e3C (.ty "int")) a3Nil))) (e3And (e3Not (e3CB c3Isi (a3Cons (e3Var 0) (a3Cons (e3C (.ty "bool")) a3Nil)))) (e3Chain r3Le r3Le (e3Var 1) (e3Var 0) (e3Var 2)))))
theorem der_is_number (T : Txt G mg) (f : Addr) (cdv : Value) (A : Around) (outer : List Env) (s : Shared) (H : Hp) (E : XK) (hr : Room 0 (A.deeper (envOfC "is_number" (defScope s_is_number) s.heap.objs.size f cdv))) :
    DSs (cxOf (L2.CX P w) P w G.K mg base N_is_number "is_number" (defScope s_is_number) f cdv A outer s H E) (defBody s_is_number) (t_is_number G) :=
    (dss_one (ds_ret (d_and (d_isi T.n_isinstance (da_cons (dv 0) (da_cons (d_ty (n := "int") rfl T.n_int (by decide +kernel)) da_nil))) (d_and (d_not (d_isi T.n_isinstance (da_cons (dv 0) (da_cons (d_ty (n := "bool") rfl T.n_bool (by decide +kernel)) da_nil)))) (d_one (d_chain op_le opl_Le op_le opl_Le (dv 1) (dv 0) (dv 2)))))))
def t_law_draws (G : Gm) : S3 :=
    (s3Seq (s3Asg (e3Lc (i3Seq (e3Var 0)) 5 t3Yes (e3CB c3Abs (a3Cons (e3CB c3Int (a3Cons (e3Var 5) a3Nil)) a3Nil)) [5]) 2)
    (s3Seq (s3Asg (e3Lst a3Nil) 3)
    (s3Seq (s3For (i3Rng1 (a3Cons (e3Var 1) a3Nil)) (g3Name 4) (s3Seq (s3Asg (e3Var 4) 5)
    (s3Seq (s3If (t3Test (e3Op r3Gt (e3CB c3Len (a3Cons (e3Var 0) a3Nil)) (e3C (.int 0)))) (s3Seq (s3Asg (e3Op r3Mod (e3Var 4) (e3CB c3Len (a3Cons (e3Var 0) a3Nil))) 7)
    (s3Seq (s3Asg (e3CB c3Int (a3Cons (e3Op r3Ix (e3Var 0) (e3Var 7)) a3Nil)) 5)
    (s3If (t3And (t3Test (e3Op r3Ge (e3Var 5) (e3Op r3Pow (e3C (.int 10)) (e3C (.int 18))))) (t3Test (e3Op r3Gt (e3Op r3Ix (e3Var 2) (e3Var 7)) (e3C (.int 0))))) (s3Seq (s3Expr (e3Bm m3App (e3Var 3) (a3Cons (e3Op r3Mod (e3CB c3Int (a3Cons (e3Op r3Ix (e3Var 2) (e3Var 7)) a3Nil)) (e3C (.int 1000003))) a3Nil)))
    (s3Seq (s3AsgG (e3Op r3Div (e3CB c3Int (a3Cons (e3Op r3Ix (e3Var 2) (e3Var 7)) a3Nil)) (e3C (.int 1000003))) (g3SubL (e3Var 2) (e3Var 7)))
    s3Cont)) s3Nil))) s3Nil)
    (s3Seq (s3Asg (e3Op r3Mod (e3CB c3Int (a3Cons (e3Op r3Add (e3Op r3Add (e3Op r3Mul (e3Var 5) (e3C (.int 48271))) (e3Op r3Mul (e3Var 4) (e3C (.int 69621)))) (e3C (.int 11))) a3Nil)) (e3C (.int 2147483647))) 6)
    (s3Seq (s3Asg (e3Op r3Mod (e3CB c3Int (a3Cons (e3Op r3Add (e3Op r3Div (e3Op r3Mul (e3Var 6) (e3Var 6)) (e3C (.int 4096))) (e3Var 6)) a3Nil)) (e3C (.int 2147483629))) 6)
    (s3Expr (e3Bm m3App (e3Var 3) (a3Cons (e3Op r3Mod (e3CB c3Int (a3Cons (e3Op r3Add (e3Op r3Div (e3Op r3Mul (e3Var 6) (e3Var 6)) (e3C (.int 4096))) (e3Op r3Mul (e3Var 4) (e3C (.int 7919)))) a3Nil)) (e3C (.int 2147483629))) a3Nil))))))))
    (s3Ret (e3Var 3)))))
theorem der_law_draws (T : Txt G mg) (f : Addr) (cdv : Value) (A : Around) (outer : List Env) (s : Shared) (H : Hp) (E : XK) (hr : Room 0 (A.deeper (envOfC "_law_draws" (defScope s_law_draws) s.heap.objs.size f cdv))) :
    DSs (cxOf (L2.CX P w) P w G.K mg base N_law_draws "_law_draws" (defScope s_law_draws) f cdv A outer s H E) (defBody s_law_draws) (t_law_draws G) :=
    (dss_cons (by first | exact ds_setLc (j := 2) [("cell", 5)] rfl sc_law_draws.nd (di_seq (dv 0)) (blkOk_by (own := [("cell", 5)]) (N := N_law_draws) (sc := defScope s_law_draws) (by decide +kernel)) (by decide) (fun _ _ _ _ _ => pg_name (i := 5) sc_law_draws.nd rfl (by first | exact Or.inl rfl | exact Or.inr rfl) (by first | exact .inl rfl | exact .inr rfl)) (fun _ _ _ _ _ => dts_nil) (fun _ _ _ _ _ => (d_abs T.n_abs (da_cons (d_intc T.n_int (da_cons (dv 5) da_nil)) da_nil))) | exact ds_set (i := 2) sc_law_draws.nd (d_lc [("cell", 5)] rfl sc_law_draws.nd (di_seq (dv 0)) (blkOk_by (own := [("cell", 5)]) (N := N_law_draws) (sc := defScope s_law_draws) (by decide +kernel)) (by decide) (fun _ _ _ _ _ => pg_name (i := 5) sc_law_draws.nd rfl (by first | exact Or.inl rfl | exact Or.inr rfl) (by first | exact .inl rfl | exact .inr rfl)) (fun _ _ _ _ _ => dts_nil) (fun _ _ _ _ _ => (d_abs T.n_abs (da_cons (d_intc T.n_int (da_cons (dv 5) da_nil)) da_nil)))))
    (dss_cons (ds_set (i := 3) sc_law_draws.nd (d_lst da_nil))
    (dss_cons (ds_for rfl (di_rng1 T.n_range (da_cons (dv 1) da_nil)) (dg_name (i := 4) sc_law_draws.nd) (dss_cons (ds_set (i := 5) sc_law_draws.nd (dv 4))
    (dss_cons (ds_if (t_cmp op_gt opl_Gt (d_len T.n_len (da_cons (dv 0) da_nil)) d_int) (dss_cons (ds_set (i := 7) sc_law_draws.nd (d_mod (dv 4) (d_len T.n_len (da_cons (dv 0) da_nil))))
    (dss_cons (ds_set (i := 5) sc_law_draws.nd (d_intc T.n_int (da_cons (d_ix (dv 0) (dv 7)) da_nil)))
    (dss_one (ds_if (t_w (w_and (t_cmp op_ge opl_Ge (dv 5) (d_pow d_int d_int)) (w_one (t_cmp op_gt opl_Gt (d_ix (dv 2) (dv 7)) d_int)))) (dss_cons (ds_expr (d_append (dv 3) (da_cons (d_mod (d_intc T.n_int (da_cons (d_ix (dv 2) (dv 7)) da_nil)) d_int) da_nil)))
    (dss_cons (ds_asg (d_fdiv (d_intc T.n_int (da_cons (d_ix (dv 2) (dv 7)) da_nil)) d_int) (dg_subL (dv 2) (dv 7)))
    (dss_one ds_continue))) dss_nil)))) dss_nil)
    (dss_cons (ds_set (i := 6) sc_law_draws.nd (d_mod (d_intc T.n_int (da_cons (d_add (d_add (d_mul (dv 5) d_int) (d_mul (dv 4) d_int)) d_int) da_nil)) d_int))
    (dss_cons (ds_set (i := 6) sc_law_draws.nd (d_mod (d_intc T.n_int (da_cons (d_add (d_fdiv (d_mul (dv 6) (dv 6)) d_int) (dv 6)) da_nil)) d_int))
    (dss_one (ds_expr (d_append (dv 3) (da_cons (d_mod (d_intc T.n_int (da_cons (d_add (d_fdiv (d_mul (dv 6) (dv 6)) d_int) (d_mul (dv 4) d_int)) da_nil)) d_int) da_nil)))))))))
    (dss_one (ds_ret (dv 3))))))
def t_law_take (G : Gm) : S3 :=
    (s3Seq (s3Asg (e3Op r3Ix (e3Var 0) (e3C (.int 1))) 2)
    (s3Seq (s3AsgG (e3Op r3Add (e3Var 2) (e3C (.int 1))) (g3SubL (e3Var 0) (e3C (.int 1))))
    (s3Seq (s3Asg (e3Op r3Ix (e3Var 0) (e3C (.int 0))) 3)
    (s3Seq (s3If (t3Test (e3Op r3Ge (e3Var 2) (e3CB c3Len (a3Cons (e3Var 3) a3Nil)))) (s3Ret (e3C (.int 0))) s3Nil)
    (s3Ret (e3Op r3Mod (e3Op r3Div (e3CB c3Int (a3Cons (e3Op r3Ix (e3Var 3) (e3Var 2)) a3Nil)) (e3C (.int 7))) (e3Var 1)))))))
theorem der_law_take (T : Txt G mg) (f : Addr) (cdv : Value) (A : Around) (outer : List Env) (s : Shared) (H : Hp) (E : XK) (hr : Room 0 (A.deeper (envOfC "_law_take" (defScope s_law_take) s.heap.objs.size f cdv))) :
    DSs (cxOf (L2.CX P w) P w G.K mg base N_law_take "_law_take" (defScope s_law_take) f cdv A outer s H E) (defBody s_law_take) (t_law_take G) :=
    (dss_cons (ds_set (i := 2) sc_law_take.nd (d_ix (dv 0) d_int))
    (dss_cons (ds_asg (d_add (dv 2) d_int) (dg_subL (dv 0) d_int))
    (dss_cons (ds_set (i := 3) sc_law_take.nd (d_ix (dv 0) d_int))
    (dss_cons (ds_if (t_cmp op_ge opl_Ge (dv 2) (d_len T.n_len (da_cons (dv 3) da_nil))) (dss_one (ds_ret d_int)) dss_nil)
    (dss_one (ds_ret (d_mod (d_fdiv (d_intc T.n_int (da_cons (d_ix (dv 3) (dv 2)) da_nil)) d_int) (dv 1))))))))
def t_law_whole (G : Gm) : S3 :=
    (s3Ret (e3And (e3CB c3Isi (a3Cons (e3Var 0) (a3Cons (e3C (.ty "int")) a3Nil))) (e3Not (e3CB c3Isi (a3Cons (e3Var 0) (a3Cons (e3C (.ty "bool")) a3Nil))))))
theorem der_law_whole (T : Txt G mg) (f : Addr) (cdv : Value) (A : Around) (outer : List Env) (s : Shared) (H : Hp) (E : XK) (hr : Room 0 (A.deeper (envOfC "_law_whole" (defScope s_law_whole) s.heap.objs.size f cdv))) :
    DSs (cxOf (L2.CX P w) P w G.K mg base N_law_whole "_law_whole" (defScope s_law_whole) f cdv A outer s H E) (defBody s_law_whole) (t_law_whole G) :=
    (dss_one (ds_ret (d_and (d_isi T.n_isinstance (da_cons (dv 0) (da_cons (d_ty (n := "int") rfl T.n_int (by decide +kernel)) da_nil))) (d_one (d_not (d_isi T.n_isinstance (da_cons (dv 0) (da_cons (d_ty (n := "bool") rfl T.n_bool (by decide +kernel)) da_nil))))))))
def t_law_figures (G : Gm) : S3 :=
    (s3Ret (e3Lc (i3Rng1 (a3Cons (e3Var 1) a3Nil)) 2 t3Yes (e3Op r3Band (e3Op r3Shr (e3Var 0) (e3Op r3Sub (e3Op r3Sub (e3Var 1) (e3C (.int 1))) (e3Var 2))) (e3C (.int 1))) [2]))
theorem der_law_figures (T : Txt G mg) (f : Addr) (cdv : Value) (A : Around) (outer : List Env) (s : Shared) (H : Hp) (E : XK) (hr : Room 0 (A.deeper (envOfC "_law_figures" (defScope s_law_figures) s.heap.objs.size f cdv))) :
    DSs (cxOf (L2.CX P w) P w G.K mg base N_law_figures "_law_figures" (defScope s_law_figures) f cdv A outer s H E) (defBody s_law_figures) (t_law_figures G) :=
    (dss_one (ds_ret (d_lc [("k", 2)] rfl sc_law_figures.nd (di_rng1 T.n_range (da_cons (dv 1) da_nil)) (blkOk_by (own := [("k", 2)]) (N := N_law_figures) (sc := defScope s_law_figures) (by decide +kernel)) (by decide) (fun _ _ _ _ _ => pg_name (i := 2) sc_law_figures.nd rfl (by first | exact Or.inl rfl | exact Or.inr rfl) (by first | exact .inl rfl | exact .inr rfl)) (fun _ _ _ _ _ => dts_nil) (fun _ _ _ _ _ => (d_band (d_shr (dv 0) (d_sub (d_sub (dv 1) d_int) (dv 2))) d_int)))))
def t_law_due (G : Gm) : S3 :=
    (s3Seq (s3Asg (e3Op r3Shl (e3C (.int 1)) (e3Var 0)) 1)
    (s3Seq (s3Asg (e3Lst a3Nil) 2)
    (s3Seq (s3For (i3Rng1 (a3Cons (e3C (.int 2)) a3Nil)) (g3Name 3) (s3Expr (e3Bm m3App (e3Var 2) (a3Cons (e3TupOf (e3Lc (i3Rng1 (a3Cons (e3Var 1) a3Nil)) 4 t3Yes (e3Tup (a3Cons (e3Var 4) (a3Cons (e3Op r3Mod (e3CB c3Int (a3Cons (e3Op r3Add (e3Op r3Mul (e3C (.int 2)) (e3Var 4)) (e3Var 3)) a3Nil)) (e3Var 1)) a3Nil))) [4])) a3Nil))))
    (s3Ret (e3Tup (a3Cons (e3C (.str "task")) (a3Cons (e3C (.int 2)) (a3Cons (e3Tup (a3Cons (e3Var 1) (a3Cons (e3Var 1) a3Nil))) (a3Cons (e3TupOf (e3Var 2)) (a3Cons (e3Tup (a3Cons (e3TupOf (e3Lc (i3Rng1 (a3Cons (e3Var 1) a3Nil)) 4 t3Yes (e3Tup (a3Cons (e3Var 4) (a3Cons (e3Var 4) a3Nil))) [4])) a3Nil)) a3Nil))))))))))
theorem der_law_due (T : Txt G mg) (f : Addr) (cdv : Value) (A : Around) (outer : List Env) (s : Shared) (H : Hp) (E : XK) (hr : Room 0 (A.deeper (envOfC "_law_due" (defScope s_law_due) s.heap.objs.size f cdv))) :
    DSs (cxOf (L2.CX P w) P w G.K mg base N_law_due "_law_due" (defScope s_law_due) f cdv A outer s H E) (defBody s_law_due) (t_law_due G) :=
    (dss_cons (ds_set (i := 1) sc_law_due.nd (d_shl d_int (dv 0)))
    (dss_cons (ds_set (i := 2) sc_law_due.nd (d_lst da_nil))
    (dss_cons (ds_for rfl (di_rng1 T.n_range (da_cons d_int da_nil)) (dg_name (i := 3) sc_law_due.nd) (dss_one (ds_expr (d_append (dv 2) (da_cons (d_tuple T.n_tuple (d_lc [("a", 4)] rfl sc_law_due.nd (di_rng1 T.n_range (da_cons (dv 1) da_nil)) (blkOk_by (own := [("a", 4)]) (N := N_law_due) (sc := defScope s_law_due) (by decide +kernel)) (by decide) (fun _ _ _ _ _ => pg_name (i := 4) sc_law_due.nd rfl (by first | exact Or.inl rfl | exact Or.inr rfl) (by first | exact .inl rfl | exact .inr rfl)) (fun _ _ _ _ _ => dts_nil) (fun _ _ _ _ _ => (d_tup (da_cons (dv 4) (da_cons (d_mod (d_intc T.n_int (da_cons (d_add (d_mul d_int (dv 4)) (dv 3)) da_nil)) (dv 1)) da_nil)))))) da_nil)))))
    (dss_one (ds_ret (d_tup (da_cons d_str (da_cons d_int (da_cons (d_tup (da_cons (dv 1) (da_cons (dv 1) da_nil))) (da_cons (d_tuple T.n_tuple (dv 2)) (da_cons (d_tup (da_cons (d_tuple T.n_tuple (d_lc [("a", 4)] rfl sc_law_due.nd (di_rng1 T.n_range (da_cons (dv 1) da_nil)) (blkOk_by (own := [("a", 4)]) (N := N_law_due) (sc := defScope s_law_due) (by decide +kernel)) (by decide) (fun _ _ _ _ _ => pg_name (i := 4) sc_law_due.nd rfl (by first | exact Or.inl rfl | exact Or.inr rfl) (by first | exact .inl rfl | exact .inr rfl)) (fun _ _ _ _ _ => dts_nil) (fun _ _ _ _ _ => (d_tup (da_cons (dv 4) (da_cons (dv 4) da_nil)))))) da_nil)) da_nil)))))))))))
def t_relay (G : Gm) : S3 :=
    (s3Seq (s3If (t3Not (t3Test (e3Call (sp_is_number G) (a3Cons (e3Var 0) (a3Cons (e3C (.int 1)) (a3Cons (e3C (.int 5)) a3Nil)))))) (s3Raise G.BadReach) s3Nil)
    (s3Seq (s3Asg (e3Op r3Shl (e3C (.int 1)) (e3Var 0)) 1)
    (s3Seq (s3Asg (e3Lst a3Nil) 2)
    (s3Seq (s3For (i3Seq (e3Tup (a3Cons (e3C (.int 0)) (a3Cons (e3C (.int 1)) a3Nil)))) (g3Name 3) (s3Expr (e3Bm m3App (e3Var 2) (a3Cons (e3TupOf (e3Lc (i3Rng1 (a3Cons (e3Var 1) a3Nil)) 5 t3Yes (e3Tup (a3Cons (e3Var 5) (a3Cons (e3Op r3Mod (e3CB c3Int (a3Cons (e3Op r3Add (e3Op r3Mul (e3C (.int 2)) (e3Var 5)) (e3Var 3)) a3Nil)) (e3Var 1)) a3Nil))) [5])) a3Nil))))
    (s3Seq (s3Asg (e3Tup (a3Cons (e3TupOf (e3Lc (i3Rng1 (a3Cons (e3Var 1) a3Nil)) 5 t3Yes (e3Tup (a3Cons (e3Var 5) (a3Cons (e3Var 5) a3Nil))) [5])) a3Nil)) 4)
    (s3Ret (e3Tup (a3Cons (e3C (.str "task")) (a3Cons (e3C (.int 2)) (a3Cons (e3Tup (a3Cons (e3Var 1) (a3Cons (e3Var 1) a3Nil))) (a3Cons (e3TupOf (e3Var 2)) (a3Cons (e3Var 4) a3Nil))))))))))))
theorem der_relay (T : Txt G mg) {f_is_number : Addr} {fd_is_number : FuncData} (C_is_number : Cal P w G.K mg base 1 f_is_number fd_is_number "is_number" ["value", "least", "most"] (sp_is_number G)) (f : Addr) (cdv : Value) (A : Around) (outer : List Env) (s : Shared) (H : Hp) (E : XK) (hr : Room 1 (A.deeper (envOfC "relay" (defScope s_relay) s.heap.objs.size f cdv))) :
    DSs (cxOf (L2.CX P w) P w G.K mg base N_relay "relay" (defScope s_relay) f cdv A outer s H E) (defBody s_relay) (t_relay G) :=
    (dss_cons (ds_if (t_not (t_val (d_callC C_is_number hr (da_cons (dv 0) (da_cons d_int (da_cons (d_cst T.c_MOST_RELAYED) da_nil)))))) (dss_one (ds_raiseT T.x_BadReach)) dss_nil)
    (dss_cons (ds_set (i := 1) sc_relay.nd (d_shl d_int (dv 0)))
    (dss_cons (ds_set (i := 2) sc_relay.nd (d_lst da_nil))
    (dss_cons (ds_for rfl (di_seq (d_tup (da_cons d_int (da_cons d_int da_nil)))) (dg_name (i := 3) sc_relay.nd) (dss_one (ds_expr (d_append (dv 2) (da_cons (d_tuple T.n_tuple (d_lc [("label", 5)] rfl sc_relay.nd (di_rng1 T.n_range (da_cons (dv 1) da_nil)) (blkOk_by (own := [("label", 5)]) (N := N_relay) (sc := defScope s_relay) (by decide +kernel)) (by decide) (fun _ _ _ _ _ => pg_name (i := 5) sc_relay.nd rfl (by first | exact Or.inl rfl | exact Or.inr rfl) (by first | exact .inl rfl | exact .inr rfl)) (fun _ _ _ _ _ => dts_nil) (fun _ _ _ _ _ => (d_tup (da_cons (dv 5) (da_cons (d_mod (d_intc T.n_int (da_cons (d_add (d_mul d_int (dv 5)) (dv 3)) da_nil)) (dv 1)) da_nil)))))) da_nil)))))
    (dss_cons (ds_set (i := 4) sc_relay.nd (d_tup (da_cons (d_tuple T.n_tuple (d_lc [("label", 5)] rfl sc_relay.nd (di_rng1 T.n_range (da_cons (dv 1) da_nil)) (blkOk_by (own := [("label", 5)]) (N := N_relay) (sc := defScope s_relay) (by decide +kernel)) (by decide) (fun _ _ _ _ _ => pg_name (i := 5) sc_relay.nd rfl (by first | exact Or.inl rfl | exact Or.inr rfl) (by first | exact .inl rfl | exact .inr rfl)) (fun _ _ _ _ _ => dts_nil) (fun _ _ _ _ _ => (d_tup (da_cons (dv 5) (da_cons (dv 5) da_nil)))))) da_nil)))
    (dss_one (ds_ret (d_tup (da_cons d_str (da_cons d_int (da_cons (d_tup (da_cons (dv 1) (da_cons (dv 1) da_nil))) (da_cons (d_tuple T.n_tuple (dv 2)) (da_cons (dv 4) da_nil)))))))))))))
def t_law_road (G : Gm) : S3 :=
    (s3Seq (s3Asg (e3Call (sp_law_take G) (a3Cons (e3Var 0) (a3Cons (e3Op r3Shl (e3C (.int 1)) (e3Var 2)) a3Nil))) 3)
    (s3Seq (s3Asg (e3Call (sp_law_figures G) (a3Cons (e3Var 3) (a3Cons (e3Var 2) a3Nil))) 4)
    (s3Seq (s3For (i3Rng1 (a3Cons (e3C (.int 8)) a3Nil)) (g3Name 5) (s3Seq (s3Asg (e3Call (sp_law_take G) (a3Cons (e3Var 0) (a3Cons (e3C (.int 2)) a3Nil))) 6)
    (s3Seq (s3Asg (e3Lc (i3Seq (e3Op r3Ix (e3Op r3Ix (e3Var 1) (e3C (.int 3))) (e3Var 6))) 8 (t3Test (e3Op r3Eq (e3Op r3Ix (e3Var 8) (e3C (.int 0))) (e3Var 3))) (e3Op r3Ix (e3Var 8) (e3C (.int 1))) [8]) 7)
    (s3Seq (s3Asg (e3Op r3Add (e3Sl (e3Var 4) (o3Some (e3C (.int 1))) o3None) (e3Lst (a3Cons (e3Var 6) a3Nil))) 4)
    (s3Seq (s3If (t3Or (t3Test (e3Op r3Ne (e3CB c3Len (a3Cons (e3Var 7) a3Nil)) (e3C (.int 1)))) (t3Or (t3Test (e3Op r3Ne (e3Call (sp_law_figures G) (a3Cons (e3Op r3Ix (e3Var 7) (e3C (.int 0))) (a3Cons (e3Var 2) a3Nil))) (e3Var 4))) (t3Test (e3Op (r3In true) (e3Tup (a3Cons (e3Op r3Ix (e3Var 7) (e3C (.int 0))) (a3Cons (e3Op r3Ix (e3Var 7) (e3C (.int 0))) a3Nil))) (e3Op r3Ix (e3Op r3Ix (e3Var 1) (e3C (.int 4))) (e3C (.int 0))))))) (s3Ret (e3C (.bl false))) s3Nil)
    (s3Asg (e3Op r3Ix (e3Var 7) (e3C (.int 0))) 3))))))
    (s3Ret (e3C (.bl true))))))
theorem der_law_road (T : Txt G mg) {f_law_take : Addr} {fd_law_take : FuncData} (C_law_take : Cal P w G.K mg base 1 f_law_take fd_law_take "_law_take" ["hand", "many"] (sp_law_take G)) {f_law_figures : Addr} {fd_law_figures : FuncData} (C_law_figures : Cal P w G.K mg base 1 f_law_figures fd_law_figures "_law_figures" ["number", "steps"] (sp_law_figures G)) (f : Addr) (cdv : Value) (A : Around) (outer : List Env) (s : Shared) (H : Hp) (E : XK) (hr : Room 1 (A.deeper (envOfC "_law_road" (defScope s_law_road) s.heap.objs.size f cdv))) :
    DSs (cxOf (L2.CX P w) P w G.K mg base N_law_road "_law_road" (defScope s_law_road) f cdv A outer s H E) (defBody s_law_road) (t_law_road G) :=
    (dss_cons (ds_set (i := 3) sc_law_road.nd (d_callC C_law_take hr (da_cons (dv 0) (da_cons (d_shl d_int (dv 2)) da_nil))))
    (dss_cons (ds_set (i := 4) sc_law_road.nd (d_callC C_law_figures hr (da_cons (dv 3) (da_cons (dv 2) da_nil))))
    (dss_cons (ds_for rfl (di_rng1 T.n_range (da_cons d_int da_nil)) (dg_name (i := 5) sc_law_road.nd) (dss_cons (ds_set (i := 6) sc_law_road.nd (d_callC C_law_take hr (da_cons (dv 0) (da_cons d_int da_nil))))
    (dss_cons (by first | exact ds_setLc (j := 7) [("row", 8)] rfl sc_law_road.nd (di_seq (d_ix (d_ix (dv 1) d_int) (dv 6))) (blkOk_by (own := [("row", 8)]) (N := N_law_road) (sc := defScope s_law_road) (by decide +kernel)) (by decide) (fun _ _ _ _ _ => pg_name (i := 8) sc_law_road.nd rfl (by first | exact Or.inl rfl | exact Or.inr rfl) (by first | exact .inl rfl | exact .inr rfl)) (fun _ _ _ _ _ => (dts_one (t_cmp (ho_eq hr) opl_eq (d_ix (dv 8) d_int) (dv 3)))) (fun _ _ _ _ _ => (d_ix (dv 8) d_int)) | exact ds_set (i := 7) sc_law_road.nd (d_lc [("row", 8)] rfl sc_law_road.nd (di_seq (d_ix (d_ix (dv 1) d_int) (dv 6))) (blkOk_by (own := [("row", 8)]) (N := N_law_road) (sc := defScope s_law_road) (by decide +kernel)) (by decide) (fun _ _ _ _ _ => pg_name (i := 8) sc_law_road.nd rfl (by first | exact Or.inl rfl | exact Or.inr rfl) (by first | exact .inl rfl | exact .inr rfl)) (fun _ _ _ _ _ => (dts_one (t_cmp (ho_eq hr) opl_eq (d_ix (dv 8) d_int) (dv 3)))) (fun _ _ _ _ _ => (d_ix (dv 8) d_int))))
    (dss_cons (ds_set (i := 4) sc_law_road.nd (d_add (d_sl (dv 4) (do_some d_int) do_none) (d_lst (da_cons (dv 6) da_nil))))
    (dss_cons (ds_if (t_w (w_or (t_cmp (ho_ne hr) opl_ne (d_len T.n_len (da_cons (dv 7) da_nil)) d_int) (w_or (t_cmp (ho_ne hr) opl_ne (d_callC C_law_figures hr (da_cons (d_ix (dv 7) d_int) (da_cons (dv 2) da_nil))) (dv 4)) (w_one (t_cmp (ho_notin hr) opl_notin (d_tup (da_cons (d_ix (dv 7) d_int) (da_cons (d_ix (dv 7) d_int) da_nil))) (d_ix (d_ix (dv 1) d_int) d_int)))))) (dss_one (ds_ret d_bl)) dss_nil)
    (dss_one (ds_set (i := 3) sc_law_road.nd (d_ix (dv 7) d_int))))))))
    (dss_one (ds_ret d_bl)))))
def t_law_refused (G : Gm) : S3 :=
    (s3Seq (s3Try G.K (.ref G.BadReach) (s3Expr (e3Call (sp_relay G) (a3Cons (e3Var 0) a3Nil))) (s3Ret (e3C (.bl true))))
    (s3Ret (e3C (.bl false))))
theorem der_law_refused (T : Txt G mg) {f_relay : Addr} {fd_relay : FuncData} (C_relay : Cal P w G.K mg base 2 f_relay fd_relay "relay" ["steps"] (sp_relay G)) (f : Addr) (cdv : Value) (A : Around) (outer : List Env) (s : Shared) (H : Hp) (E : XK) (hr : Room 2 (A.deeper (envOfC "_law_refused" (defScope s_law_refused) s.heap.objs.size f cdv))) :
    DSs (cxOf (L2.CX P w) P w G.K mg base N_law_refused "_law_refused" (defScope s_law_refused) f cdv A outer s H E) (defBody s_law_refused) (t_law_refused G) :=
    (dss_cons (ds_try rfl rfl ⟨rfl, by decide, .inl T.x_BadReach.g⟩ (fun _ _ => (dss_one (ds_expr (d_callC C_relay hr (da_cons (dv 0) da_nil))))) (fun _ _ _ => (dss_one (ds_ret d_bl))))
    (dss_one (ds_ret d_bl)))
def t_law_like (G : Gm) (sf : Sp3) : S3 :=
    (s3Seq (s3If (t3Test (e3CB c3Isi (a3Cons (e3Var 1) (a3Cons (e3C (.ty "tuple")) a3Nil)))) (s3Seq (s3If (t3Or (t3Not (t3Test (e3CB c3Isi (a3Cons (e3Var 0) (a3Cons (e3C (.ty "tuple")) a3Nil))))) (t3Test (e3Op r3Ne (e3CB c3Len (a3Cons (e3Var 0) a3Nil)) (e3CB c3Len (a3Cons (e3Var 1) a3Nil))))) (s3Ret (e3C (.bl false))) s3Nil)
    (s3Ret (e3CB c3All (a3Cons (e3Lc (i3Rng1 (a3Cons (e3CB c3Len (a3Cons (e3Var 1) a3Nil)) a3Nil)) 2 t3Yes (e3Call sf (a3Cons (e3Op r3Ix (e3Var 0) (e3Var 2)) (a3Cons (e3Op r3Ix (e3Var 1) (e3Var 2)) a3Nil))) [2]) a3Nil)))) s3Nil)
    (s3Seq (s3If (t3Test (e3Op r3Is (e3Var 1) (e3C .non))) (s3Ret (e3Op r3Is (e3Var 0) (e3C .non))) s3Nil)
    (s3Seq (s3If (t3Test (e3CB c3Isi (a3Cons (e3Var 1) (a3Cons (e3C (.ty "int")) a3Nil)))) (s3Ret (e3And (e3Call (sp_law_whole G) (a3Cons (e3Var 0) a3Nil)) (e3Op r3Eq (e3Var 0) (e3Var 1)))) s3Nil)
    (s3Ret (e3And (e3CB c3Isi (a3Cons (e3Var 0) (a3Cons (e3C (.ty "str")) a3Nil))) (e3Op r3Eq (e3Var 0) (e3Var 1)))))))
theorem der_law_like (T : Txt G mg) {f_law_whole : Addr} {fd_law_whole : FuncData} (C_law_whole : Cal P w G.K mg base 1 f_law_whole fd_law_whole "_law_whole" ["found"] (sp_law_whole G)) {kk : Nat} {sf : Sp3} {f_law_like : Addr} {fd_law_like : FuncData} (C_law_like : Cal P w G.K mg base kk f_law_like fd_law_like "_law_like" ["found", "due"] sf) (hkk : 1 ≤ kk) (f : Addr) (cdv : Value) (A : Around) (outer : List Env) (s : Shared) (H : Hp) (E : XK) (hr : Room kk (A.deeper (envOfC "_law_like" (defScope s_law_like) s.heap.objs.size f cdv))) :
    DSs (cxOf (L2.CX P w) P w G.K mg base N_law_like "_law_like" (defScope s_law_like) f cdv A outer s H E) (defBody s_law_like) (t_law_like G sf) :=
    (dss_cons (ds_if (t_val (d_isi T.n_isinstance (da_cons (dv 1) (da_cons (d_ty (n := "tuple") rfl T.n_tuple (by decide +kernel)) da_nil)))) (dss_cons (ds_if (t_w (w_or (t_not (t_val (d_isi T.n_isinstance (da_cons (dv 0) (da_cons (d_ty (n := "tuple") rfl T.n_tuple (by decide +kernel)) da_nil))))) (w_one (t_cmp (ho_ne hr) opl_ne (d_len T.n_len (da_cons (dv 0) da_nil)) (d_len T.n_len (da_cons (dv 1) da_nil)))))) (dss_one (ds_ret d_bl)) dss_nil)
    (dss_one (ds_ret (d_all rfl T.n_all (da_cons (d_lc [("k", 2)] rfl sc_law_like.nd (di_rng1 T.n_range (da_cons (d_len T.n_len (da_cons (dv 1) da_nil)) da_nil)) (blkOk_by (own := [("k", 2)]) (N := N_law_like) (sc := defScope s_law_like) (by decide +kernel)) (by decide) (fun _ _ _ _ _ => pg_name (i := 2) sc_law_like.nd rfl (by first | exact Or.inl rfl | exact Or.inr rfl) (by first | exact .inl rfl | exact .inr rfl)) (fun _ _ _ _ _ => dts_nil) (fun _ _ _ _ _ => (d_callC (hj := Nat.le_refl _) C_law_like hr (da_cons (d_ix (dv 0) (dv 2)) (da_cons (d_ix (dv 1) (dv 2)) da_nil))))) da_nil))))) dss_nil)
    (dss_cons (ds_if (t_cmp op_isN opl_is (dv 1) d_non) (dss_one (ds_ret (d_cmp op_isN opl_is (dv 0) d_non))) dss_nil)
    (dss_cons (ds_if (t_val (d_isi T.n_isinstance (da_cons (dv 1) (da_cons (d_ty (n := "int") rfl T.n_int (by decide +kernel)) da_nil)))) (dss_one (ds_ret (d_and (d_callC (hj := Nat.le_trans (by decide) hkk) C_law_whole hr (da_cons (dv 0) da_nil)) (d_one (d_cmp (ho_eq hr) opl_eq (dv 0) (dv 1)))))) dss_nil)
    (dss_one (ds_ret (d_and (d_isi T.n_isinstance (da_cons (dv 0) (da_cons (d_ty (n := "str") rfl T.n_str (by decide +kernel)) da_nil))) (d_one (d_cmp (ho_eq hr) opl_eq (dv 0) (dv 1)))))))))
def t_law_asked (G : Gm) : S3 :=
    (s3Seq (s3Asg (e3Lst (a3Cons (e3Call (sp_law_draws G) (a3Cons (e3Var 0) (a3Cons (e3C (.int 200)) a3Nil))) (a3Cons (e3C (.int 0)) a3Nil))) 1)
    (s3Seq (s3For (i3Rng2 (a3Cons (e3C (.int 1)) (a3Cons (e3C (.int 6)) a3Nil))) (g3Name 2) (s3If (t3Not (t3Test (e3Call (sp_law_like G) (a3Cons (e3Call (sp_relay G) (a3Cons (e3Var 2) a3Nil)) (a3Cons (e3Call (sp_law_due G) (a3Cons (e3Var 2) a3Nil)) a3Nil))))) (s3Ret (e3C (.bl false))) s3Nil))
    (s3Seq (s3Asg (e3Op r3Add (e3C (.int 1)) (e3Call (sp_law_take G) (a3Cons (e3Var 1) (a3Cons (e3C (.int 5)) a3Nil)))) 2)
    (s3Seq (s3Asg (e3Call (sp_relay G) (a3Cons (e3Var 2) a3Nil)) 3)
    (s3Seq (s3For (i3Rng1 (a3Cons (e3C (.int 6)) a3Nil)) (g3Name 4) (s3Seq (s3Asg (e3Tup (a3Cons (e3Call (sp_law_take G) (a3Cons (e3Var 1) (a3Cons (e3Op r3Shl (e3C (.int 1)) (e3Var 2)) a3Nil))) (a3Cons (e3Call (sp_law_take G) (a3Cons (e3Var 1) (a3Cons (e3Op r3Shl (e3C (.int 1)) (e3Var 2)) a3Nil))) a3Nil))) 6)
    (s3Seq (s3Asg (e3Call (sp_law_take G) (a3Cons (e3Var 1) (a3Cons (e3C (.int 2)) a3Nil))) 7)
    (s3Seq (s3Asg (e3Op r3Eq (e3Op r3Add (e3Sl (e3Call (sp_law_figures G) (a3Cons (e3Op r3Ix (e3Var 6) (e3C (.int 0))) (a3Cons (e3Var 2) a3Nil))) (o3Some (e3C (.int 1))) o3None) (e3Lst (a3Cons (e3Var 7) a3Nil))) (e3Call (sp_law_figures G) (a3Cons (e3Op r3Ix (e3Var 6) (e3C (.int 1))) (a3Cons (e3Var 2) a3Nil)))) 8)
    (s3If (t3Or (t3Test (e3Op r3Ne (e3Var 8) (e3Op (r3In false) (e3Var 6) (e3Op r3Ix (e3Op r3Ix (e3Var 3) (e3C (.int 3))) (e3Var 7))))) (t3Test (e3Op r3Ne (e3Op (r3In false) (e3Var 6) (e3Op r3Ix (e3Op r3Ix (e3Var 3) (e3C (.int 4))) (e3C (.int 0)))) (e3Op r3Eq (e3Op r3Ix (e3Var 6) (e3C (.int 0))) (e3Op r3Ix (e3Var 6) (e3C (.int 1))))))) (s3Ret (e3C (.bl false))) s3Nil)))))
    (s3Seq (s3Asg (e3Op r3Ix (e3Lst (a3Cons (e3C (.int 0)) (a3Cons (e3C (.int 6)) (a3Cons (e3Neg (e3C (.int 1))) (a3Cons (e3C (.bl true)) (a3Cons (e3C .non) (a3Cons (e3C (.str "1")) (a3Cons (e3Op r3Pow (e3C (.int 10)) (e3C (.int 40))) (a3Cons (e3Tup (a3Cons (e3C (.int 1)) a3Nil)) (a3Cons (e3C (.bl false)) (a3Cons (e3C (.int 7)) a3Nil))))))))))) (e3Call (sp_law_take G) (a3Cons (e3Var 1) (a3Cons (e3C (.int 10)) a3Nil)))) 5)
    (s3Ret (e3And (e3Call (sp_law_refused G) (a3Cons (e3Var 5) a3Nil)) (e3And (e3Call (sp_law_road G) (a3Cons (e3Var 1) (a3Cons (e3Var 3) (a3Cons (e3Var 2) a3Nil)))) (e3Call (sp_law_like G) (a3Cons (e3Call (sp_relay G) (a3Cons (e3Var 2) a3Nil)) (a3Cons (e3Call (sp_law_due G) (a3Cons (e3Var 2) a3Nil)) a3Nil))))))))))))
theorem der_law_asked (T : Txt G mg) {f_law_draws : Addr} {fd_law_draws : FuncData} (C_law_draws : Cal P w G.K mg base 1 f_law_draws fd_law_draws "_law_draws" ["script", "many"] (sp_law_draws G)) {f_law_like : Addr} {fd_law_like : FuncData} (C_law_like : Cal P w G.K mg base 7 f_law_like fd_law_like "_law_like" ["found", "due"] (sp_law_like G)) {f_relay : Addr} {fd_relay : FuncData} (C_relay : Cal P w G.K mg base 2 f_relay fd_relay "relay" ["steps"] (sp_relay G)) (K_relay : BindsK G.K fd_relay ["steps"]) {f_law_due : Addr} {fd_law_due : FuncData} (C_law_due : Cal P w G.K mg base 1 f_law_due fd_law_due "_law_due" ["steps"] (sp_law_due G)) {f_law_take : Addr} {fd_law_take : FuncData} (C_law_take : Cal P w G.K mg base 1 f_law_take fd_law_take "_law_take" ["hand", "many"] (sp_law_take G)) {f_law_figures : Addr} {fd_law_figures : FuncData} (C_law_figures : Cal P w G.K mg base 1 f_law_figures fd_law_figures "_law_figures" ["number", "steps"] (sp_law_figures G)) {f_law_refused : Addr} {fd_law_refused : FuncData} (C_law_refused : Cal P w G.K mg base 3 f_law_refused fd_law_refused "_law_refused" ["steps"] (sp_law_refused G)) {f_law_road : Addr} {fd_law_road : FuncData} (C_law_road : Cal P w G.K mg base 2 f_law_road fd_law_road "_law_road" ["hand", "found", "steps"] (sp_law_road G)) (f : Addr) (cdv : Value) (A : Around) (outer : List Env) (s : Shared) (H : Hp) (E : XK) (hr : Room 7 (A.deeper (envOfC "_law_asked" (defScope s_law_asked) s.heap.objs.size f cdv))) :
    DSs (cxOf (L2.CX P w) P w G.K mg base N_law_asked "_law_asked" (defScope s_law_asked) f cdv A outer s H E) (defBody s_law_asked) (t_law_asked G) :=
    (dss_cons (ds_set (i := 1) sc_law_asked.nd (d_lst (da_cons (d_callC C_law_draws hr (da_cons (dv 0) (da_cons d_int da_nil))) (da_cons d_int da_nil))))
    (dss_cons (ds_for rfl (di_rng2 T.n_range (da_cons d_int (da_cons d_int da_nil))) (dg_name (i := 2) sc_law_asked.nd) (dss_one (ds_if (t_not (t_val (d_callC C_law_like hr (da_cons (d_callC C_relay hr (da_cons (dv 2) da_nil)) (da_cons (d_callC C_law_due hr (da_cons (dv 2) da_nil)) da_nil))))) (dss_one (ds_ret d_bl)) dss_nil)))
    (dss_cons (ds_set (i := 2) sc_law_asked.nd (d_add d_int (d_callC C_law_take hr (da_cons (dv 1) (da_cons d_int da_nil)))))
    (dss_cons (ds_set (i := 3) sc_law_asked.nd (d_callKw C_relay K_relay hr (dk_cons (dv 2) dk_nil)))
    (dss_cons (ds_for rfl (di_rng1 T.n_range (da_cons d_int da_nil)) (dg_name (i := 4) sc_law_asked.nd) (dss_cons (ds_set (i := 6) sc_law_asked.nd (d_tup (da_cons (d_callC C_law_take hr (da_cons (dv 1) (da_cons (d_shl d_int (dv 2)) da_nil))) (da_cons (d_callC C_law_take hr (da_cons (dv 1) (da_cons (d_shl d_int (dv 2)) da_nil))) da_nil))))
    (dss_cons (ds_set (i := 7) sc_law_asked.nd (d_callC C_law_take hr (da_cons (dv 1) (da_cons d_int da_nil))))
    (dss_cons (ds_set (i := 8) sc_law_asked.nd (d_cmp (ho_eq hr) opl_eq (d_add (d_sl (d_callC C_law_figures hr (da_cons (d_ix (dv 6) d_int) (da_cons (dv 2) da_nil))) (do_some d_int) do_none) (d_lst (da_cons (dv 7) da_nil))) (d_callC C_law_figures hr (da_cons (d_ix (dv 6) d_int) (da_cons (dv 2) da_nil)))))
    (dss_one (ds_if (t_w (w_or (t_cmp (ho_ne hr) opl_ne (dv 8) (d_cmp (ho_in hr) opl_in (dv 6) (d_ix (d_ix (dv 3) d_int) (dv 7)))) (w_one (t_cmp (ho_ne hr) opl_ne (d_cmp (ho_in hr) opl_in (dv 6) (d_ix (d_ix (dv 3) d_int) d_int)) (d_cmp (ho_eq hr) opl_eq (d_ix (dv 6) d_int) (d_ix (dv 6) d_int)))))) (dss_one (ds_ret d_bl)) dss_nil))))))
    (dss_cons (ds_set (i := 5) sc_law_asked.nd (d_ix (d_lst (da_cons d_int (da_cons d_int (da_cons (d_neg d_int) (da_cons d_bl (da_cons d_non (da_cons d_str (da_cons (d_pow d_int d_int) (da_cons (d_tup (da_cons d_int da_nil)) (da_cons d_bl (da_cons d_int da_nil))))))))))) (d_callC C_law_take hr (da_cons (dv 1) (da_cons d_int da_nil)))))
    (dss_one (ds_ret (d_and (d_callC C_law_refused hr (da_cons (dv 5) da_nil)) (d_and (d_callC C_law_road hr (da_cons (dv 1) (da_cons (dv 3) (da_cons (dv 2) da_nil)))) (d_one (d_callC C_law_like hr (da_cons (d_callC C_relay hr (da_cons (dv 2) da_nil)) (da_cons (d_callC C_law_due hr (da_cons (dv 2) da_nil)) da_nil))))))))))))))
def t_law (G : Gm) : S3 :=
    (s3Try G.K (.ref G.LookError) (s3Ret (e3Call (sp_law_asked G) (a3Cons (e3Var 0) a3Nil))) (s3Ret (e3C (.bl false))))
theorem der_law (T : Txt G mg) {f_law_asked : Addr} {fd_law_asked : FuncData} (C_law_asked : Cal P w G.K mg base 8 f_law_asked fd_law_asked "_law_asked" ["script"] (sp_law_asked G)) (f : Addr) (cdv : Value) (A : Around) (outer : List Env) (s : Shared) (H : Hp) (E : XK) (hr : Room 8 (A.deeper (envOfC "law" (defScope s_law) s.heap.objs.size f cdv))) :
    DSs (cxOf (L2.CX P w) P w G.K mg base N_law "law" (defScope s_law) f cdv A outer s H E) (defBody s_law) (t_law G) :=
    (dss_one (ds_try rfl rfl ⟨rfl, by decide, .inl T.x_LookError.g⟩ (fun _ _ => (dss_one (ds_ret (d_callC C_law_asked hr (da_cons (dv 0) da_nil))))) (fun _ _ _ => (dss_one (ds_ret d_bl)))))
end My

namespace My
open PySem PySem.Spec PyProof.Rows L2 L3
variable {P : Program} {w : World} {G : Gm} {mg : Str → Option Value} {base : Heap}
theorem len_is_number : ∀ ds M Q E, sp_is_number G ds M Q E → ds.length = 3 := fun ds M Q E ⟨_, _, _, e, _⟩ => by rw [e]; rfl
theorem len_law_draws : ∀ ds M Q E, sp_law_draws G ds M Q E → ds.length = 2 := fun ds M Q E ⟨_, _, _, e, _⟩ => by rw [e]; rfl
theorem len_law_take : ∀ ds M Q E, sp_law_take G ds M Q E → ds.length = 2 := fun ds M Q E ⟨_, _, e, _⟩ => by rw [e]; rfl
theorem len_law_whole : ∀ ds M Q E, sp_law_whole G ds M Q E → ds.length = 1 := fun ds M Q E ⟨_, e, _⟩ => by rw [e]; rfl
theorem len_law_figures : ∀ ds M Q E, sp_law_figures G ds M Q E → ds.length = 2 := fun ds M Q E ⟨_, _, e, _⟩ => by rw [e]; rfl
theorem len_law_due : ∀ ds M Q E, sp_law_due G ds M Q E → ds.length = 1 := fun ds M Q E ⟨_, e, _⟩ => by rw [e]; rfl
theorem len_relay : ∀ ds M Q E, sp_relay G ds M Q E → ds.length = 1 := fun ds M Q E ⟨_, e, _⟩ => by rw [e]; rfl
theorem len_law_refused : ∀ ds M Q E, sp_law_refused G ds M Q E → ds.length = 1 := fun ds M Q E ⟨_, e, _⟩ => by rw [e]; rfl
theorem len_law_road : ∀ ds M Q E, sp_law_road G ds M Q E → ds.length = 3 := fun ds M Q E ⟨_, _, e, _⟩ => by rw [e]; rfl
theorem len_law_asked : ∀ ds M Q E, sp_law_asked G ds M Q E → ds.length = 1 := fun ds M Q E ⟨_, _, e, _⟩ => by rw [e]; rfl
theorem len_law : ∀ ds M Q E, sp_law G ds M Q E → ds.length = 1 := fun ds M Q E ⟨_, _, e, _⟩ => by rw [e]; rfl
theorem rd_is_number (T : Txt G mg) : Rd3 N_is_number (t_is_number G) (sp_is_number G) := rdIsNumber
theorem rd_law_draws (T : Txt G mg) : Rd3 N_law_draws (t_law_draws G) (sp_law_draws G) := rdDraws
theorem rd_law_take (T : Txt G mg) : Rd3 N_law_take (t_law_take G) (sp_law_take G) := rdTake
theorem rd_law_whole (T : Txt G mg) : Rd3 N_law_whole (t_law_whole G) (sp_law_whole G) := rdWhole
theorem rd_law_figures (T : Txt G mg) : Rd3 N_law_figures (t_law_figures G) (sp_law_figures G) := by
  rintro ds M Q E ⟨n, s, rfl, s1, s5, q⟩
  refine ⟨by omega, by omega, fun p np => lcMap (fun d => match d with | .int k => .int (Builtin.bitAnd (n / 2 ^ (s - 1 - k).toNat) 1) | d => d) np (fun _ _ => trivial) (fun k d M' R hd sub k2 => ?_) (szLt (by rw [rngD_length]; omega)) fun M1 sub h1 => ?_⟩
  · obtain ⟨hk, rfl⟩ := rngD_get hd
    exact ⟨by omega, k2 M' (Sub.refl _)⟩
  · refine ⟨_, sub.put (h1.trans ?_), q p np⟩
    unfold figs
    rw [List.map_map]
    refine congrArg (fun l => some (MO.lst l)) (rng_map fun i => rfl)
theorem rowsW_map {m x : Int} : (rngD 0 m.toNat).map (fun d => match d with | .int a => rowD [a, (2 * a + x) % m] | d => d) = (rowsW m x).map rowD := by
  unfold rowsW
  rw [List.map_map]
  exact rng_map fun i => rfl
theorem rowsB_map {m : Int} : (rngD 0 m.toNat).map (fun d => match d with | .int a => rowD [a, a] | d => d) = (rowsB m).map rowD := by
  unfold rowsB
  rw [List.map_map]
  exact rng_map fun i => rfl

theorem loopW {m : Int} {i : Nat} {M2 : MH} {w : Addr} : updM M2 w (.lst (((List.range i).map fun x : Nat => D.tup ((rowsW m (x : Int)).map rowD)) ++ [.tup ((rngD 0 m.toNat).map (fun d => match d with | .int a => rowD [a, (2 * a + (i : Int)) % m] | d => d))])) w =
    some (.lst ((List.range (i + 1)).map fun x : Nat => D.tup ((rowsW m (x : Int)).map rowD))) := by
  rw [updM_same, List.range_succ, List.map_append, rowsW_map]
  rfl
theorem rd_law_due (T : Txt G mg) : Rd3 N_law_due (t_law_due G) (sp_law_due G) := by
  rintro ds M Q E ⟨s, rfl, s1, s5, q⟩
  obtain ⟨b1, b2⟩ := mS_bd s1 s5
  refine ⟨⟨by omega, by omega, by decide⟩, szLe (by simp), fun w nw => ⟨by decide, by decide, ?_⟩⟩
  refine ⟨fun i env' M' => ∃ s3, env' = [some (.int s), some (.int (mS s)), some (.ref w), s3, none] ∧ Sub M M' ∧ M' w = some (.lst ((List.range i).map fun x : Nat => .tup ((rowsW (mS s) (x : Int)).map rowD))), ⟨none, rfl, (Sub.refl M).new nw, updM_same⟩, ?_, ?_⟩
  · rintro i d env' M' hd ⟨s3, rfl, sub, hw⟩
    obtain ⟨hi, rfl⟩ := rngD_get hd
    have hi2 : i < 2 := hi
    rw [Int.zero_add]
    refine ⟨trivial, ⟨_, .inl hw⟩, by omega, by omega, fun p np => lcMap (fun d => match d with | .int a => rowD [a, (2 * a + (i : Int)) % mS s] | d => d) np (fun _ _ => trivial) (fun k d M2 R hd sub2 k2 => ?_) (szLt (by rw [rngD_length]; omega)) fun M2 sub2 h2 => ?_⟩
    · obtain ⟨hk, rfl⟩ := rngD_get hd
      exact ⟨.inl ⟨by decide, by decide⟩, by omega, szLe (by show 2 ≤ 1000000; decide), k2 M2 (Sub.refl _)⟩
    · have hw2 := sub2 w _ hw
      exact ⟨_, .inl h2, _, hw2, szLt (by rw [List.length_map, List.length_range]; omega), _, rfl, (sub.trans sub2).new nw, loopW⟩
  · rintro env' M' ⟨s3, rfl, sub, hw⟩
    refine ⟨trivial, szLe (by show 2 ≤ 1000000; decide), _, .inl hw, by omega, by omega, fun p np => lcMap (fun d => match d with | .int a => rowD [a, a] | d => d) np (fun _ _ => trivial) (fun k d M2 R hd sub2 k2 => ?_) (szLt (by rw [rngD_length]; omega)) fun M2 sub2 h2 => ?_⟩
    · obtain ⟨hk, rfl⟩ := rngD_get hd
      exact ⟨szLe (by show 2 ≤ 1000000; decide), k2 M2 (Sub.refl _)⟩
    · refine ⟨_, .inl h2, szLe (by show 1 ≤ 1000000; decide), szLe (by show 5 ≤ 1000000; decide), M, sub.trans sub2, ?_⟩
      rw [rowsB_map]
      exact q
theorem rd_relay (T : Txt G mg) : Rd3 N_relay (t_relay G) (sp_relay G) := by
  rintro ds M Q E ⟨d, rfl, own, q, qe⟩
  refine ⟨d, 1, 5, rfl, own_known own, fun e => ?_, fun e => ?_⟩
  · refine ⟨M, Sub.refl _, qe ?_⟩
    cases h : isNum d 1 5 with
    | true => rw [h] at e; cases e
    | false => rfl
  have hn : isNum d 1 5 = true := by
    cases h : isNum d 1 5 with
    | true => rfl
    | false => rw [h] at e; cases e
  cases d with
  | int s =>
    have hs : (decide (1 ≤ s) && decide (s ≤ 5)) = true := hn
    rw [Bool.and_eq_true, decide_eq_true_eq, decide_eq_true_eq] at hs
    obtain ⟨s1, s5⟩ := hs
    obtain ⟨b1, b2⟩ := mS_bd s1 s5
    have q := q s rfl hn
    refine ⟨⟨by omega, by omega, by decide⟩, szLe (by simp), fun w nw => ⟨szLe (by show 2 ≤ 1000000; decide), ?_⟩⟩
    refine ⟨fun i env' M' => ∃ s3, env' = [some (.int s), some (.int (mS s)), some (.ref w), s3, none, none] ∧ Sub M M' ∧ M' w = some (.lst ((List.range i).map fun x : Nat => .tup ((rowsW (mS s) (x : Int)).map rowD))), ⟨none, rfl, (Sub.refl M).new nw, updM_same⟩, ?_, ?_⟩
    · rintro i d env' M' hd ⟨s3, rfl, sub, hw⟩
      obtain ⟨hi2, rfl⟩ : i < 2 ∧ d = .int (i : Int) := by
        match i, hd with
        | 0, hd => cases hd; exact ⟨by decide, rfl⟩
        | 1, hd => cases hd; exact ⟨by decide, rfl⟩
        | i + 2, hd => simp at hd
      refine ⟨trivial, ⟨_, .inl hw⟩, by omega, by omega, fun p np => lcMap (fun d => match d with | .int a => rowD [a, (2 * a + (i : Int)) % mS s] | d => d) np (fun _ _ => trivial) (fun k d M2 R hd sub2 k2 => ?_) (szLt (by rw [rngD_length]; omega)) fun M2 sub2 h2 => ?_⟩
      · obtain ⟨hk, rfl⟩ := rngD_get hd
        exact ⟨.inl ⟨by decide, by decide⟩, by omega, szLe (by show 2 ≤ 1000000; decide), k2 M2 (Sub.refl _)⟩
      · have hw2 := sub2 w _ hw
        exact ⟨_, .inl h2, _, hw2, szLt (by rw [List.length_map, List.length_range]; omega), _, rfl, (sub.trans sub2).new nw, loopW⟩
    · rintro env' M' ⟨s3, rfl, sub, hw⟩
      refine ⟨trivial, by omega, by omega, fun p np => lcMap (fun d => match d with | .int a => rowD [a, a] | d => d) np (fun _ _ => trivial) (fun k d M2 R hd sub2 k2 => ?_) (szLt (by rw [rngD_length]; omega)) fun M2 sub2 h2 => ?_⟩
      · obtain ⟨hk, rfl⟩ := rngD_get hd
        exact ⟨szLe (by show 2 ≤ 1000000; decide), k2 M2 (Sub.refl _)⟩
      · refine ⟨_, .inl h2, szLe (by show 1 ≤ 1000000; decide), szLe (by show 2 ≤ 1000000; decide), _, .inl (sub2 w _ hw), szLe (by show 5 ≤ 1000000; decide), M, sub.trans sub2, ?_⟩
        rw [rowsB_map]
        exact q
  | _ => cases hn
theorem rd_law_refused (T : Txt G mg) : Rd3 N_law_refused (t_law_refused G) (sp_law_refused G) := by
  rintro ds M Q E ⟨d, rfl, own, hn, q⟩
  refine ⟨d, rfl, own, fun s e h => ?_, fun _ => ⟨true, T.e_BadReach_BadReach, fun _ => ⟨M, Sub.refl _, q⟩, fun z => nomatch z⟩⟩
  rw [hn] at h
  cases h
theorem rd_law_like {n : Nat} : Rd3 N_law_like (t_law_like G (spLike n)) (spLike (n + 1)) := by
  rintro ds M Q E ⟨d, rfl, hp, q⟩
  have own : Own d := by cases d <;> first | trivial | exact hp.elim
  have fin : (rtD Q).rt (.bl true) M := ⟨M, Sub.refl _, q⟩
  refine isi_tuple (own_known own) ?_ ?_
  · rintro es rfl
    obtain ⟨hl, he⟩ := hp
    refine Br.tt ?_
    refine isi_tuple (own_known own) ?_ ?_
    · intro _ _
      refine Br.ff ?_
      refine ne_int (Br.no (by simp) ?_)
      refine ⟨by omega, by omega, fun p np => lcMap (fun _ => .bl true) np (fun _ _ => trivial) (fun k d M2 R hd sub2 k2 => ?_) (szLt (by rw [rngD_length]; omega)) fun M2 sub2 h2 => ?_⟩
      · obtain ⟨hk, rfl⟩ := rngD_get hd
        rw [Int.toNat_natCast] at hk
        have hx : es[k]? = some es[k] := List.getElem?_eq_getElem hk
        have ha : atI es (0 + (k : Int)) = some es[k] := by rw [Int.zero_add]; exact atI_nat hx
        exact ⟨_, ha, _, ha, _, rfl, he _ (List.getElem_mem hk), k2 M2 (Sub.refl _)⟩
      · refine ⟨List.replicate es.length true, .inl (h2.trans ?_), M, sub2, ?_⟩
        · unfold bls
          rw [List.map_replicate, List.map_const', rngD_length, Int.toNat_natCast]
        · rw [show (List.replicate es.length true).all id = true by simp]
          exact q
    · intro h
      exact absurd rfl (h es)
  · intro h
    refine Br.ff ?_
    cases d with
    | non => exact Br.tt fin
    | int i =>
      refine Br.ff ?_
      refine isi_int (own_known own) ?_ ?_ ?_
      · intro _ _
        refine Br.tt ⟨_, rfl, own_known own, ?_⟩
        refine Br.tt (eq_int ?_)
        rw [decide_eq_true rfl]
        exact fin
      · intro b z; cases z
      · intro h1; exact absurd rfl (h1 i)
    | str x =>
      refine Br.ff ?_
      refine isi_int (own_known own) ?_ ?_ ?_
      · intro b z; cases z
      · intro b z; cases z
      · intro _ _
        refine Br.ff ?_
        refine isi_str (own_known own) ?_ ?_
        · intro _ _
          refine Br.tt (eq_str ?_)
          rw [decide_eq_true rfl]
          exact fin
        · intro h1; exact absurd rfl (h1 x)
    | tup es => exact absurd rfl (h es)
    | _ => exact hp.elim

theorem like_all (T : Txt G mg) {f_law_whole : Addr} {fd_law_whole : FuncData} (C_law_whole : Cal P w G.K mg base 1 f_law_whole fd_law_whole "_law_whole" ["found"] (sp_law_whole G)) {f : Addr} {fd : FuncData} (F : Fun G.K "_law_like" "_law_like" s_law_like f fd) (m : mg "_law_like" = some (.ref f)) (kp : PySem.W.keepIn G.K (.ref f) = true) (b : Binds G.K fd ["found", "due"] []) :
    ∀ n, Fn3 P w G.K mg base (1 + n) f fd ["found", "due"] (spLike n)
  | 0 => ⟨fun vs H Q E ⟨_, _, _, _, _, _, ⟨_, _, h, _⟩, _⟩ => h.elim, fun A outer s H args us vs Q E _ _ _ _ ⟨_, _, _, _, _, _, ⟨_, _, h, _⟩, _⟩ => h.elim⟩
  | n + 1 => by
    have ih := like_all T C_law_whole F m kp b n
    exact fn3_ok F sc_law_like (fun ds M Q E ⟨_, e, _⟩ => by rw [e]; rfl) (fun cdv A outer s H E hr => der_law_like T C_law_whole ⟨ih, m, kp, b⟩ (Nat.le_add_right 1 n) f cdv A outer s H E hr) rd_law_like
theorem fn_law_like (T : Txt G mg) {f_law_whole : Addr} {fd_law_whole : FuncData} (C_law_whole : Cal P w G.K mg base 1 f_law_whole fd_law_whole "_law_whole" ["found"] (sp_law_whole G)) {f : Addr} {fd : FuncData} (F : Fun G.K "_law_like" "_law_like" s_law_like f fd) (m : mg "_law_like" = some (.ref f)) (kp : PySem.W.keepIn G.K (.ref f) = true) (b : Binds G.K fd ["found", "due"] []) :
    Fn3 P w G.K mg base 7 f fd ["found", "due"] (sp_law_like G) := FnOk.mono (like_all T C_law_whole F m kp b 5) (by decide)
theorem two_rows {s x : Int} (x0 : 0 ≤ x) (x1 : x < 2) : atI [D.tup ((rowsW (mS s) 0).map rowD), .tup ((rowsW (mS s) 1).map rowD)] x = some (.tup ((rowsW (mS s) x).map rowD)) := by
  have : x = 0 ∨ x = 1 := by omega
  rcases this with rfl | rfl <;> rfl
theorem rd_law_road (T : Txt G mg) : Rd3 N_law_road (t_law_road G) (sp_law_road G) := by
  rintro ds M Q E ⟨h, s, rfl, s1, s5, hH, q⟩
  obtain ⟨b1, b2⟩ := mS_bd s1 s5
  -- label, figures
  refine ⟨⟨by omega, by omega, by decide⟩, h, mS s, rfl, hH, by omega, fun l M1 l0 l1 hH1 bt1 => ?_⟩
  refine ⟨l, s, rfl, s1, s5, fun p np => ⟨by decide, by decide, ?_⟩⟩
  refine ⟨fun i env' M' => ∃ (l : Int) (p : Addr) (s5 s6 s7 s8 : Option D), env' = [some (.ref h), some (dueT s), some (.int s), some (.int l), some (.ref p), s5, s6, s7, s8] ∧ 0 ≤ l ∧ l < mS s ∧ Hand M' h ∧ M' p = some (.lst ((figs l s).map D.int)) ∧ p ≠ h,
    ⟨l, p, none, none, none, none, rfl, l0, l1, hH1.new np, updM_same, (hand_ne hH1 np).symm⟩, ?_, ?_⟩
  · rintro i d env' M' hd ⟨l, p, s5', s6, s7, s8, rfl, l0, l1, hH', hp, hph⟩
    refine ⟨trivial, h, 2, rfl, hH', by decide, fun x M2 x0 x1 hH2 bt2 => ?_⟩
    have hp2 : M2 p = some (.lst ((figs l s).map D.int)) := (bt2 p hph).trans hp
    -- labels
    refine ⟨_, rfl, _, two_rows x0 x1, fun r nr => lcFilter (pickB l) pickF nr (fun _ _ => trivial) (fun k d M3 R hd sub k2 => ?_) (fun k d M3 R hd hb sub k2 => ?_) (szLt (by rw [List.length_map, rowsW_len]; omega)) fun M3 sub3 h3 => ?_⟩
    · rw [List.getElem?_map] at hd
      cases e : (rowsW (mS s) x)[k]? with
      | none => rw [e] at hd; cases hd
      | some row =>
        rw [e] at hd
        cases hd
        obtain ⟨a, _, rfl⟩ := List.mem_map.mp (List.mem_of_getElem? e)
        refine ⟨_, rfl, eq_int ?_⟩
        exact k2 M3 (Sub.refl _)
    · rw [List.getElem?_map] at hd
      cases e : (rowsW (mS s) x)[k]? with
      | none => rw [e] at hd; cases hd
      | some row =>
        rw [e] at hd
        cases hd
        obtain ⟨a, _, rfl⟩ := List.mem_map.mp (List.mem_of_getElem? e)
        exact ⟨_, rfl, k2 M3 (Sub.refl _)⟩
    rw [pick_rows l0 l1] at h3
    have hH3 := hH2.sub sub3
    have hp3 := sub3 p _ hp2
    -- figures = figures[1:] + [x]
    refine ⟨_, .inl hp3, fun c nc => ⟨szLe (by show 1 ≤ 1000000; decide), fun y ny => ⟨_, _, (updM_ne (neM updM_same ny)).trans updM_same, updM_same, szLe (by rw [cut_from1]; simp [figs]; omega), fun z nz => ?_⟩⟩⟩
    have hr4 : ∀ {o1 o2 o3 : MO}, updM (updM (updM M3 c o1) y o2) z o3 r = some (.lst [D.int ((2 * l + x) % mS s)]) := fun {o1 o2 o3} => by
      have hrc := neM h3 nc
      have hry : r ≠ y := fun e => by subst e; rw [updM_ne hrc, h3] at ny; cases ny
      have hrz : r ≠ z := fun e => by subst e; rw [updM_ne hry, updM_ne hrc, h3] at nz; cases nz
      rw [updM_ne hrz, updM_ne hry, updM_ne hrc, h3]
    -- the tests
    refine ⟨_, .inl hr4, ne_int (Br.ff ?_)⟩
    refine ⟨_, _, .inl hr4, rfl, _, s, rfl, s1, s5, fun u nu => ?_⟩
    have hl2 : 0 ≤ (2 * l + x) % mS s ∧ (2 * l + x) % mS s < mS s := ⟨Int.emod_nonneg _ (by omega), Int.emod_lt_of_pos _ (by omega)⟩
    have hf : (figs l s).drop 1 ++ [x] = figs ((2 * l + x) % mS s) s := of_decide_eq_true ((near_eq s1 s5 l0 l1 hl2.1 hl2.2 x0 x1).trans (decide_eq_true rfl))
    have hz : ∀ {M : MH}, updM M z (.lst (cutD ((figs l s).map D.int) (some 1) none ++ [D.int x])) z = some (.lst ((figs ((2 * l + x) % mS s) s).map D.int)) := fun {M} => by
      rw [updM_same, cut_from1, ← hf, List.map_append, List.map_drop]
      rfl
    have hzu : z ≠ u := neM updM_same nu
    refine ne_lists (.inl updM_same) (.inl ((updM_ne hzu).trans hz)) ?_
    rw [decide_eq_true rfl]
    refine Br.ff ?_
    have hr5 : updM (updM (updM (updM M3 c (.lst (cutD ((figs l s).map D.int) (some 1) none))) y (.lst [D.int x])) z (.lst (cutD ((figs l s).map D.int) (some 1) none ++ [D.int x]))) u (.lst ((figs ((2 * l + x) % mS s) s).map D.int)) r = some (.lst [D.int ((2 * l + x) % mS s)]) := by
      have hru : r ≠ u := fun e => by subst e; rw [hr4] at nu; cases nu
      rw [updM_ne hru]
      exact hr4
    refine ⟨_, _, .inl hr5, rfl, _, _, .inl hr5, rfl, szLe (by show 2 ≤ 1000000; decide), _, rfl, _, rfl, ?_⟩
    refine in_rows (r := [(2 * l + x) % mS s, (2 * l + x) % mS s]) (rs := rowsB (mS s)) rfl ?_
    rw [decide_eq_true ((mem_rowsB hl2.1 hl2.2).mpr rfl)]
    refine Br.ff ?_
    refine ⟨_, _, .inl hr5, rfl, (2 * l + x) % mS s, z, _, _, _, _, rfl, hl2.1, hl2.2, (((hH3.new nc).new ny).new nz).new nu, (updM_ne hzu).trans hz, ?_⟩
    have := hand_ne (((hH3.new nc).new ny)) nz
    exact this.symm
  · rintro env' M' ⟨l, p, s5', s6, s7, s8, rfl, l0, l1, hH', hp, hph⟩
    exact ⟨trivial, M', Sub.refl _, q M'⟩
def wrongs : List D := [.int 0, .int 6, .int (-1), .bl true, .non, .str "1", .int (10 ^ (40 : Int).toNat), .tup [.int 1], .bl false, .int 7]
theorem wrong_at {v : Int} (v0 : 0 ≤ v) (v1 : v < 10) : ∃ d, atI wrongs v = some d ∧ Own d ∧ isNum d 1 5 = false := by
  have : v = 0 ∨ v = 1 ∨ v = 2 ∨ v = 3 ∨ v = 4 ∨ v = 5 ∨ v = 6 ∨ v = 7 ∨ v = 8 ∨ v = 9 := by omega
  rcases this with rfl | rfl | rfl | rfl | rfl | rfl | rfl | rfl | rfl | rfl <;> exact ⟨_, rfl, trivial, rfl⟩
theorem rd_law_asked (T : Txt G mg) : Rd3 N_law_asked (t_law_asked G) (sp_law_asked G) := by
  rintro ds M Q E ⟨a, ns, rfl, hl, ha, hM, q⟩
  refine ⟨a, 200, ns, rfl, by decide, by decide, by omega, ha, fun p xs np lx px => ⟨szLe (by show 2 ≤ 1000000; decide), fun h nh => ?_⟩⟩
  have hph : p ≠ h := neM updM_same nh
  have hH : Hand (updM (updM M p (.lst (xs.map D.int))) h (.lst [.ref p, .int 0])) h := ⟨p, 0, xs, updM_same, (updM_ne hph).trans updM_same, hph, Int.le_refl _, fun x hx => (px x hx).1⟩
  generalize updM (updM M p (.lst (xs.map D.int))) h (.lst [.ref p, .int 0]) = M2 at hH
  -- for steps in range(1, 6)
  refine ⟨⟨by decide, by decide, by decide, by decide⟩, ?_⟩
  refine ⟨fun i env' M' => ∃ s2, env' = [some (.ref a), some (.ref h), s2, none, none, none, none, none, none] ∧ M' = M2, ⟨none, rfl, rfl⟩, ?_, ?_⟩
  · rintro i d env' M' hd ⟨s2, rfl, rfl⟩
    obtain ⟨hi, rfl⟩ := rngD_get hd
    have hi5 : i < 5 := hi
    refine ⟨trivial, .int (1 + i), rfl, trivial, fun s e _ => ?_, fun e => ?_⟩
    · cases e
      refine ⟨1 + i, rfl, by omega, by omega, dueT (1 + i), rfl, plain_due (by omega) (by omega), Br.ff ⟨_, rfl, rfl⟩⟩
    · have : isNum (.int (1 + (i : Int))) 1 5 = true := by
        show (decide _ && decide _) = true
        rw [decide_eq_true (by omega), decide_eq_true (by omega)]
        rfl
      rw [this] at e
      cases e
  rintro env' M' ⟨s2, rfl, rfl⟩
  refine ⟨trivial, h, 5, rfl, hH, by decide, fun v M3 v0 v1 hH3 bt3 => ?_⟩
  have num : isNum (.int (1 + v)) 1 5 = true := by
    show (decide _ && decide _) = true
    rw [decide_eq_true (by omega), decide_eq_true (by omega)]
    rfl
  refine ⟨.int (1 + v), rfl, trivial, fun s e _ => ?_, fun e => by rw [num] at e; cases e⟩
  cases e
  have s1 : 1 ≤ 1 + v := by omega
  have s5 : 1 + v ≤ 5 := by omega
  generalize 1 + v = s at num s1 s5
  obtain ⟨b1, b2⟩ := mS_bd s1 s5
  -- for turn in range(6)
  refine ⟨by decide, by decide, ?_⟩
  refine ⟨fun i env' M' => ∃ s4 s6 s7 s8, env' = [some (.ref a), some (.ref h), some (.int s), some (dueT s), s4, none, s6, s7, s8] ∧ Hand M' h, ⟨none, none, none, none, rfl, hH3⟩, ?_, ?_⟩
  · rintro i d env' M' hd ⟨s4, s6, s7, s8, rfl, hH'⟩
    refine ⟨trivial, ⟨by omega, by omega, by decide⟩, h, mS s, rfl, hH', by omega, fun x M4 x0 x1 hH4 _ => ?_⟩
    refine ⟨⟨by omega, by omega, by decide⟩, h, mS s, rfl, hH4, by omega, fun y M5 y0 y1 hH5 _ => ⟨szLe (by show 2 ≤ 1000000; decide), ?_⟩⟩
    refine ⟨h, 2, rfl, hH5, by decide, fun z M6 z0 z1 hH6 _ => ?_⟩
    -- near
    refine ⟨_, rfl, x, s, rfl, s1, s5, fun p1 n1 => ⟨_, .inl updM_same, fun p2 n2 => ⟨szLe (by show 1 ≤ 1000000; decide), fun p3 n3 => ⟨_, _, (updM_ne (neM updM_same n3)).trans updM_same, updM_same, szLe (by rw [cut_from1]; simp [figs]; omega), fun p4 n4 => ?_⟩⟩⟩⟩
    refine ⟨_, rfl, y, s, rfl, s1, s5, fun p5 n5 => ?_⟩
    have h45 : p4 ≠ p5 := neM updM_same n5
    refine eq_lists (xs := (figs x s).drop 1 ++ [z]) (.inl ?_) (.inl updM_same) ?_
    · rw [updM_ne h45, updM_same, cut_from1, List.map_append, List.map_drop]
      rfl
    rw [near_eq s1 s5 x0 x1 y0 y1 z0 z1]
    -- the tests
    refine ⟨_, rfl, _, two_rows z0 z1, in_rows (r := [x, y]) (rs := rowsW (mS s) z) rfl (ne_bl ?_)⟩
    have e1 : decide ([x, y] ∈ rowsW (mS s) z) = decide (y = (2 * x + z) % mS s) := by
      rw [Bool.eq_iff_iff, decide_eq_true_eq, decide_eq_true_eq]
      exact mem_rowsW (by omega) x0 x1
    rw [e1, Bool.false_xor, beq_self_eq_true]
    refine Br.ff ⟨_, rfl, _, rfl, in_rows (r := [x, y]) (rs := rowsB (mS s)) rfl ?_⟩
    have e2 : decide ([x, y] ∈ rowsB (mS s)) = decide (x = y) := by
      rw [Bool.eq_iff_iff, decide_eq_true_eq, decide_eq_true_eq]
      exact mem_rowsB x0 x1
    rw [e2, Bool.false_xor]
    refine ⟨_, rfl, _, rfl, eq_int (ne_bl ?_)⟩
    rw [beq_self_eq_true]
    refine Br.ff ⟨_, _, _, _, rfl, ((((hH6.new n1).new n2).new n3).new n4).new n5⟩
  rintro env' M' ⟨s4, s6, s7, s8, rfl, hH'⟩
  -- wrong
  refine ⟨trivial, ⟨by decide, by decide, by decide⟩, szLe (by show 1 ≤ 1000000; decide), szLe (by show 10 ≤ 1000000; decide), fun p np => ?_⟩
  refine ⟨h, 10, rfl, hH'.new np, by decide, fun v M4 v0 v1 hH4 bt4 => ?_⟩
  obtain ⟨d, hd, own, hn⟩ := wrong_at v0 v1
  refine ⟨_, d, .inl ((bt4 p (hand_ne hH' np).symm).trans updM_same), hd, d, rfl, own, hn, Br.tt ?_⟩
  refine ⟨h, s, rfl, s1, s5, hH4, fun M5 => Br.tt ?_⟩
  refine ⟨.int s, rfl, trivial, fun s' e _ => ?_, fun e => by rw [num] at e; cases e⟩
  cases e
  exact ⟨s, rfl, s1, s5, dueT s, rfl, plain_due s1 s5, M5, Sub.refl _, q M5⟩
theorem rd_law (T : Txt G mg) : Rd3 N_law (t_law G) (sp_law G) := by
  rintro ds M Q E ⟨a, ns, rfl, hl, ha, hM, q⟩
  exact ⟨a, ns, rfl, hl, ha, hM, fun M' => ⟨M', Sub.refl _, q M'⟩⟩
end My

namespace My
open PySem PySem.Spec PyProof.Rows L2 L3

variable {P : Program} {w : World} {G : Gm} {mg : Str → Option Value} {base : Heap}
theorem fn_is_number (T : Txt G mg) {f : Addr} {fd : FuncData} (F : Fun G.K "is_number" "is_number" s_is_number f fd) : Fn3 P w G.K mg base 1 f fd ["value", "least", "most"] (sp_is_number G) :=
  fn3_ok F sc_is_number len_is_number (fun cdv A outer s H E hr => der_is_number T  f cdv A outer s H E hr) (rd_is_number T)
theorem fn_law_draws (T : Txt G mg) {f : Addr} {fd : FuncData} (F : Fun G.K "_law_draws" "_law_draws" s_law_draws f fd) : Fn3 P w G.K mg base 1 f fd ["script", "many"] (sp_law_draws G) :=
  fn3_ok F sc_law_draws len_law_draws (fun cdv A outer s H E hr => der_law_draws T  f cdv A outer s H E hr) (rd_law_draws T)
theorem fn_law_take (T : Txt G mg) {f : Addr} {fd : FuncData} (F : Fun G.K "_law_take" "_law_take" s_law_take f fd) : Fn3 P w G.K mg base 1 f fd ["hand", "many"] (sp_law_take G) :=
  fn3_ok F sc_law_take len_law_take (fun cdv A outer s H E hr => der_law_take T  f cdv A outer s H E hr) (rd_law_take T)
theorem fn_law_whole (T : Txt G mg) {f : Addr} {fd : FuncData} (F : Fun G.K "_law_whole" "_law_whole" s_law_whole f fd) : Fn3 P w G.K mg base 1 f fd ["found"] (sp_law_whole G) :=
  fn3_ok F sc_law_whole len_law_whole (fun cdv A outer s H E hr => der_law_whole T  f cdv A outer s H E hr) (rd_law_whole T)
theorem fn_law_figures (T : Txt G mg) {f : Addr} {fd : FuncData} (F : Fun G.K "_law_figures" "_law_figures" s_law_figures f fd) : Fn3 P w G.K mg base 1 f fd ["number", "steps"] (sp_law_figures G) :=
  fn3_ok F sc_law_figures len_law_figures (fun cdv A outer s H E hr => der_law_figures T  f cdv A outer s H E hr) (rd_law_figures T)
theorem fn_law_due (T : Txt G mg) {f : Addr} {fd : FuncData} (F : Fun G.K "_law_due" "_law_due" s_law_due f fd) : Fn3 P w G.K mg base 1 f fd ["steps"] (sp_law_due G) :=
  fn3_ok F sc_law_due len_law_due (fun cdv A outer s H E hr => der_law_due T  f cdv A outer s H E hr) (rd_law_due T)
theorem fn_relay (T : Txt G mg) {f_is_number : Addr} {fd_is_number : FuncData} (C_is_number : Cal P w G.K mg base 1 f_is_number fd_is_number "is_number" ["value", "least", "most"] (sp_is_number G)) {f : Addr} {fd : FuncData} (F : Fun G.K "relay" "relay" s_relay f fd) : Fn3 P w G.K mg base 2 f fd ["steps"] (sp_relay G) :=
  fn3_ok F sc_relay len_relay (fun cdv A outer s H E hr => der_relay T C_is_number f cdv A outer s H E hr) (rd_relay T)
theorem fn_law_road (T : Txt G mg) {f_law_take : Addr} {fd_law_take : FuncData} (C_law_take : Cal P w G.K mg base 1 f_law_take fd_law_take "_law_take" ["hand", "many"] (sp_law_take G)) {f_law_figures : Addr} {fd_law_figures : FuncData} (C_law_figures : Cal P w G.K mg base 1 f_law_figures fd_law_figures "_law_figures" ["number", "steps"] (sp_law_figures G)) {f : Addr} {fd : FuncData} (F : Fun G.K "_law_road" "_law_road" s_law_road f fd) : Fn3 P w G.K mg base 2 f fd ["hand", "found", "steps"] (sp_law_road G) :=
  fn3_ok F sc_law_road len_law_road (fun cdv A outer s H E hr => der_law_road T C_law_take C_law_figures f cdv A outer s H E hr) (rd_law_road T)
theorem fn_law_refused (T : Txt G mg) {f_relay : Addr} {fd_relay : FuncData} (C_relay : Cal P w G.K mg base 2 f_relay fd_relay "relay" ["steps"] (sp_relay G)) {f : Addr} {fd : FuncData} (F : Fun G.K "_law_refused" "_law_refused" s_law_refused f fd) : Fn3 P w G.K mg base 3 f fd ["steps"] (sp_law_refused G) :=
  fn3_ok F sc_law_refused len_law_refused (fun cdv A outer s H E hr => der_law_refused T C_relay f cdv A outer s H E hr) (rd_law_refused T)
theorem fn_law_asked (T : Txt G mg) {f_law_draws : Addr} {fd_law_draws : FuncData} (C_law_draws : Cal P w G.K mg base 1 f_law_draws fd_law_draws "_law_draws" ["script", "many"] (sp_law_draws G)) {f_law_like : Addr} {fd_law_like : FuncData} (C_law_like : Cal P w G.K mg base 7 f_law_like fd_law_like "_law_like" ["found", "due"] (sp_law_like G)) {f_relay : Addr} {fd_relay : FuncData} (C_relay : Cal P w G.K mg base 2 f_relay fd_relay "relay" ["steps"] (sp_relay G)) (K_relay : BindsK G.K fd_relay ["steps"]) {f_law_due : Addr} {fd_law_due : FuncData} (C_law_due : Cal P w G.K mg base 1 f_law_due fd_law_due "_law_due" ["steps"] (sp_law_due G)) {f_law_take : Addr} {fd_law_take : FuncData} (C_law_take : Cal P w G.K mg base 1 f_law_take fd_law_take "_law_take" ["hand", "many"] (sp_law_take G)) {f_law_figures : Addr} {fd_law_figures : FuncData} (C_law_figures : Cal P w G.K mg base 1 f_law_figures fd_law_figures "_law_figures" ["number", "steps"] (sp_law_figures G)) {f_law_refused : Addr} {fd_law_refused : FuncData} (C_law_refused : Cal P w G.K mg base 3 f_law_refused fd_law_refused "_law_refused" ["steps"] (sp_law_refused G)) {f_law_road : Addr} {fd_law_road : FuncData} (C_law_road : Cal P w G.K mg base 2 f_law_road fd_law_road "_law_road" ["hand", "found", "steps"] (sp_law_road G)) {f : Addr} {fd : FuncData} (F : Fun G.K "_law_asked" "_law_asked" s_law_asked f fd) : Fn3 P w G.K mg base 8 f fd ["script"] (sp_law_asked G) :=
  fn3_ok F sc_law_asked len_law_asked (fun cdv A outer s H E hr => der_law_asked T C_law_draws C_law_like C_relay K_relay C_law_due C_law_take C_law_figures C_law_refused C_law_road f cdv A outer s H E hr) (rd_law_asked T)
theorem fn_law (T : Txt G mg) {f_law_asked : Addr} {fd_law_asked : FuncData} (C_law_asked : Cal P w G.K mg base 8 f_law_asked fd_law_asked "_law_asked" ["script"] (sp_law_asked G)) {f : Addr} {fd : FuncData} (F : Fun G.K "law" "law" s_law f fd) : Fn3 P w G.K mg base 9 f fd ["script"] (sp_law G) :=
  fn3_ok F sc_law len_law (fun cdv A outer s H E hr => der_law T C_law_asked f cdv A outer s H E hr) (rd_law T)
theorem all_mk {l : PySem.W.OpenLaw} {w : World} {K : PySem.W.Frag} {h : Heap} {mg : Str → Option Value} {fa : Addr} (X : K.In h) (GG : h.Ns mainGlobals mg) (hfa : mg "law" = some (.ref fa))
    {od0 an0 : Option Addr} {sl0 : Array (Option Value)} {oc0 kV0 dc0 pm0 cd0 ct0 : Value} {f0 : Addr} {od1 an1 : Option Addr} {sl1 : Array (Option Value)} {oc1 kV1 dc1 pm1 cd1 ct1 : Value} {f1 : Addr} {od2 an2 : Option Addr} {sl2 : Array (Option Value)} {oc2 kV2 dc2 pm2 cd2 ct2 : Value} {f2 : Addr} {od3 an3 : Option Addr} {sl3 : Array (Option Value)} {oc3 kV3 dc3 pm3 cd3 ct3 : Value} {f3 : Addr} {od4 an4 : Option Addr} {sl4 : Array (Option Value)} {oc4 kV4 dc4 pm4 cd4 ct4 : Value} {f4 : Addr} {od5 an5 : Option Addr} {sl5 : Array (Option Value)} {oc5 kV5 dc5 pm5 cd5 ct5 : Value} {f5 : Addr} {od6 an6 : Option Addr} {sl6 : Array (Option Value)} {oc6 kV6 dc6 pm6 cd6 ct6 : Value} {f6 : Addr} {od7 an7 : Option Addr} {sl7 : Array (Option Value)} {oc7 kV7 dc7 pm7 cd7 ct7 : Value} {f7 : Addr} {od8 an8 : Option Addr} {sl8 : Array (Option Value)} {oc8 kV8 dc8 pm8 cd8 ct8 : Value} {f8 : Addr} {od9 an9 : Option Addr} {sl9 : Array (Option Value)} {oc9 kV9 dc9 pm9 cd9 ct9 : Value} {f9 : Addr} {od10 an10 : Option Addr} {sl10 : Array (Option Value)} {oc10 kV10 dc10 pm10 cd10 ct10 : Value} {f10 : Addr} {od11 an11 : Option Addr} {sl11 : Array (Option Value)} {oc11 kV11 dc11 pm11 cd11 ct11 : Value} {f11 : Addr}
    (a0 : PySem.W.nsIn K mainGlobals "is_number" = some (some (.ref f0))) (l0 : K.lookup f0 = some ⟨oc0, od0, .func (PySem.W.fnOf "is_number" "is_number" (defArgs s_is_number) (defBody s_is_number) (defScope s_is_number) .none kV0 dc0 pm0 an0 cd0 ct0), sl0⟩) (c0 : PySem.W.codeIn K cd0 "is_number" = true) (k0 : PySem.W.keepIn K (.ref f0) = true)
    (a1 : PySem.W.nsIn K mainGlobals "relay" = some (some (.ref f1))) (l1 : K.lookup f1 = some ⟨oc1, od1, .func (PySem.W.fnOf "relay" "relay" (defArgs s_relay) (defBody s_relay) (defScope s_relay) .none kV1 dc1 pm1 an1 cd1 ct1), sl1⟩) (c1 : PySem.W.codeIn K cd1 "relay" = true) (k1 : PySem.W.keepIn K (.ref f1) = true)
    (a2 : PySem.W.nsIn K mainGlobals "_law_draws" = some (some (.ref f2))) (l2 : K.lookup f2 = some ⟨oc2, od2, .func (PySem.W.fnOf "_law_draws" "_law_draws" (defArgs s_law_draws) (defBody s_law_draws) (defScope s_law_draws) .none kV2 dc2 pm2 an2 cd2 ct2), sl2⟩) (c2 : PySem.W.codeIn K cd2 "_law_draws" = true) (k2 : PySem.W.keepIn K (.ref f2) = true)
    (a3 : PySem.W.nsIn K mainGlobals "_law_take" = some (some (.ref f3))) (l3 : K.lookup f3 = some ⟨oc3, od3, .func (PySem.W.fnOf "_law_take" "_law_take" (defArgs s_law_take) (defBody s_law_take) (defScope s_law_take) .none kV3 dc3 pm3 an3 cd3 ct3), sl3⟩) (c3 : PySem.W.codeIn K cd3 "_law_take" = true) (k3 : PySem.W.keepIn K (.ref f3) = true)
    (a4 : PySem.W.nsIn K mainGlobals "_law_whole" = some (some (.ref f4))) (l4 : K.lookup f4 = some ⟨oc4, od4, .func (PySem.W.fnOf "_law_whole" "_law_whole" (defArgs s_law_whole) (defBody s_law_whole) (defScope s_law_whole) .none kV4 dc4 pm4 an4 cd4 ct4), sl4⟩) (c4 : PySem.W.codeIn K cd4 "_law_whole" = true) (k4 : PySem.W.keepIn K (.ref f4) = true)
    (a5 : PySem.W.nsIn K mainGlobals "_law_like" = some (some (.ref f5))) (l5 : K.lookup f5 = some ⟨oc5, od5, .func (PySem.W.fnOf "_law_like" "_law_like" (defArgs s_law_like) (defBody s_law_like) (defScope s_law_like) .none kV5 dc5 pm5 an5 cd5 ct5), sl5⟩) (c5 : PySem.W.codeIn K cd5 "_law_like" = true) (k5 : PySem.W.keepIn K (.ref f5) = true)
    (a6 : PySem.W.nsIn K mainGlobals "_law_refused" = some (some (.ref f6))) (l6 : K.lookup f6 = some ⟨oc6, od6, .func (PySem.W.fnOf "_law_refused" "_law_refused" (defArgs s_law_refused) (defBody s_law_refused) (defScope s_law_refused) .none kV6 dc6 pm6 an6 cd6 ct6), sl6⟩) (c6 : PySem.W.codeIn K cd6 "_law_refused" = true) (k6 : PySem.W.keepIn K (.ref f6) = true)
    (a7 : PySem.W.nsIn K mainGlobals "_law_figures" = some (some (.ref f7))) (l7 : K.lookup f7 = some ⟨oc7, od7, .func (PySem.W.fnOf "_law_figures" "_law_figures" (defArgs s_law_figures) (defBody s_law_figures) (defScope s_law_figures) .none kV7 dc7 pm7 an7 cd7 ct7), sl7⟩) (c7 : PySem.W.codeIn K cd7 "_law_figures" = true) (k7 : PySem.W.keepIn K (.ref f7) = true)
    (a8 : PySem.W.nsIn K mainGlobals "_law_due" = some (some (.ref f8))) (l8 : K.lookup f8 = some ⟨oc8, od8, .func (PySem.W.fnOf "_law_due" "_law_due" (defArgs s_law_due) (defBody s_law_due) (defScope s_law_due) .none kV8 dc8 pm8 an8 cd8 ct8), sl8⟩) (c8 : PySem.W.codeIn K cd8 "_law_due" = true) (k8 : PySem.W.keepIn K (.ref f8) = true)
    (a9 : PySem.W.nsIn K mainGlobals "_law_road" = some (some (.ref f9))) (l9 : K.lookup f9 = some ⟨oc9, od9, .func (PySem.W.fnOf "_law_road" "_law_road" (defArgs s_law_road) (defBody s_law_road) (defScope s_law_road) .none kV9 dc9 pm9 an9 cd9 ct9), sl9⟩) (c9 : PySem.W.codeIn K cd9 "_law_road" = true) (k9 : PySem.W.keepIn K (.ref f9) = true)
    (a10 : PySem.W.nsIn K mainGlobals "_law_asked" = some (some (.ref f10))) (l10 : K.lookup f10 = some ⟨oc10, od10, .func (PySem.W.fnOf "_law_asked" "_law_asked" (defArgs s_law_asked) (defBody s_law_asked) (defScope s_law_asked) .none kV10 dc10 pm10 an10 cd10 ct10), sl10⟩) (c10 : PySem.W.codeIn K cd10 "_law_asked" = true) (k10 : PySem.W.keepIn K (.ref f10) = true)
    (a11 : PySem.W.nsIn K mainGlobals "law" = some (some (.ref f11))) (l11 : K.lookup f11 = some ⟨oc11, od11, .func (PySem.W.fnOf "law" "law" (defArgs s_law) (defBody s_law) (defScope s_law) .none kV11 dc11 pm11 an11 cd11 ct11), sl11⟩) (c11 : PySem.W.codeIn K cd11 "law" = true) (k11 : PySem.W.keepIn K (.ref f11) = true)
    {CLookError : Addr} (gLookError : PySem.W.nsIn K mainGlobals "LookError" = some (some (.ref CLookError)))
    (xLookError : PySem.W.excIn K CLookError [.type "ValueError", .type "Exception", .type "BaseException", .type "object"] "ValueError.__new__" = true) (kkLookError : PySem.W.keepIn K (.ref CLookError) = true) (bLookError : PySem.W.subIn K (.ref CLookError) (.type "BaseException") = some true) (tLookError : PySem.W.typeIn K (.ref CLookError) = some (.type "type")) (iLookError : PySem.W.isClsIn K CLookError = true)
    {CBadReach : Addr} (gBadReach : PySem.W.nsIn K mainGlobals "BadReach" = some (some (.ref CBadReach)))
    (xBadReach : PySem.W.excIn K CBadReach [.type "ValueError", .type "Exception", .type "BaseException", .type "object"] "ValueError.__new__" = true) (kkBadReach : PySem.W.keepIn K (.ref CBadReach) = true) (bBadReach : PySem.W.subIn K (.ref CBadReach) (.type "BaseException") = some true) (tBadReach : PySem.W.typeIn K (.ref CBadReach) = some (.type "type")) (iBadReach : PySem.W.isClsIn K CBadReach = true)
    (sBadReach_BadReach : PySem.W.subIn K (.ref CBadReach) (.ref CBadReach) = some true)
    (sBadReach_LookError : PySem.W.subIn K (.ref CBadReach) (.ref CLookError) = some true)
    (sLookError_BadReach : PySem.W.subIn K (.ref CLookError) (.ref CBadReach) = some false)
    (sLookError_LookError : PySem.W.subIn K (.ref CLookError) (.ref CLookError) = some true)
    (z_abs : PySem.W.nsIn K mainGlobals "abs" = some none)
    (z_all : PySem.W.nsIn K mainGlobals "all" = some none)
    (z_bool : PySem.W.nsIn K mainGlobals "bool" = some none)
    (z_int : PySem.W.nsIn K mainGlobals "int" = some none)
    (z_isinstance : PySem.W.nsIn K mainGlobals "isinstance" = some none)
    (z_len : PySem.W.nsIn K mainGlobals "len" = some none)
    (z_range : PySem.W.nsIn K mainGlobals "range" = some none)
    (z_str : PySem.W.nsIn K mainGlobals "str" = some none)
    (z_tuple : PySem.W.nsIn K mainGlobals "tuple" = some none)
    {tk_MOST_RELAYED : Tok} (m_MOST_RELAYED : PySem.W.nsIn K mainGlobals "MOST_RELAYED" = some (some (.int 5 tk_MOST_RELAYED)))
    (nol : noList K = true) :
    ∃ fd : FuncData, (∀ (s : Shared) (v : Value), BindsTo s fd ⟨[v], []⟩ [("script", v)]) ∧ ∀ base : Heap, K.In base → base.Ns mainGlobals mg → FnOk l.prog w K mg base (L2.CX l.prog w) 9 fa fd ["script"] (spTop 63 K) := by
  have e := hfa.symm.trans (PySem.W.mg_of X GG a11)
  cases e
  let G : Gm := ⟨K, CLookError, CBadReach⟩
  have T : Txt G mg := {
    nol := nol
    n_abs := PySem.W.mg_none_of X GG z_abs
    n_all := PySem.W.mg_none_of X GG z_all
    n_bool := PySem.W.mg_none_of X GG z_bool
    n_int := PySem.W.mg_none_of X GG z_int
    n_isinstance := PySem.W.mg_none_of X GG z_isinstance
    n_len := PySem.W.mg_none_of X GG z_len
    n_range := PySem.W.mg_none_of X GG z_range
    n_str := PySem.W.mg_none_of X GG z_str
    n_tuple := PySem.W.mg_none_of X GG z_tuple
    c_MOST_RELAYED := ⟨_, PySem.W.mg_of X GG m_MOST_RELAYED, ⟨_, rfl⟩⟩
    x_LookError := ⟨PySem.W.mg_of X GG gLookError, xLookError, kkLookError, bLookError, tLookError⟩
    x_BadReach := ⟨PySem.W.mg_of X GG gBadReach, xBadReach, kkBadReach, bBadReach, tBadReach⟩
    e_BadReach_BadReach := exm_of bBadReach iBadReach tBadReach sBadReach_BadReach
    e_BadReach_LookError := exm_of bLookError iLookError tLookError sBadReach_LookError
    e_LookError_BadReach := exm_of bBadReach iBadReach tBadReach sLookError_BadReach
    e_LookError_LookError := exm_of bLookError iLookError tLookError sLookError_LookError
  }
  have F0 := fun_mk (st := s_is_number) l0 c0 k0
  have b0 := F0.binds (ps := ["value", "least", "most"]) fun _ _ _ _ _ _ us hl => match us, hl with | [_, _, _], _ => rfl
  have F1 := fun_mk (st := s_relay) l1 c1 k1
  have b1 := F1.binds (ps := ["steps"]) fun _ _ _ _ _ _ us hl => match us, hl with | [_], _ => rfl
  have K_relay : BindsK G.K _ ["steps"] := .all (fd := PySem.W.fnOf "relay" "relay" (defArgs s_relay) (defBody s_relay) (defScope s_relay) .none kV1 dc1 pm1 an1 cd1 ct1) fun us hl => match us, hl with | [_], _ => by first | rfl | with_unfolding_all rfl
  have F2 := fun_mk (st := s_law_draws) l2 c2 k2
  have b2 := F2.binds (ps := ["script", "many"]) fun _ _ _ _ _ _ us hl => match us, hl with | [_, _], _ => rfl
  have F3 := fun_mk (st := s_law_take) l3 c3 k3
  have b3 := F3.binds (ps := ["hand", "many"]) fun _ _ _ _ _ _ us hl => match us, hl with | [_, _], _ => rfl
  have F4 := fun_mk (st := s_law_whole) l4 c4 k4
  have b4 := F4.binds (ps := ["found"]) fun _ _ _ _ _ _ us hl => match us, hl with | [_], _ => rfl
  have F5 := fun_mk (st := s_law_like) l5 c5 k5
  have b5 := F5.binds (ps := ["found", "due"]) fun _ _ _ _ _ _ us hl => match us, hl with | [_, _], _ => rfl
  have F6 := fun_mk (st := s_law_refused) l6 c6 k6
  have b6 := F6.binds (ps := ["steps"]) fun _ _ _ _ _ _ us hl => match us, hl with | [_], _ => rfl
  have F7 := fun_mk (st := s_law_figures) l7 c7 k7
  have b7 := F7.binds (ps := ["number", "steps"]) fun _ _ _ _ _ _ us hl => match us, hl with | [_, _], _ => rfl
  have F8 := fun_mk (st := s_law_due) l8 c8 k8
  have b8 := F8.binds (ps := ["steps"]) fun _ _ _ _ _ _ us hl => match us, hl with | [_], _ => rfl
  have F9 := fun_mk (st := s_law_road) l9 c9 k9
  have b9 := F9.binds (ps := ["hand", "found", "steps"]) fun _ _ _ _ _ _ us hl => match us, hl with | [_, _, _], _ => rfl
  have F10 := fun_mk (st := s_law_asked) l10 c10 k10
  have b10 := F10.binds (ps := ["script"]) fun _ _ _ _ _ _ us hl => match us, hl with | [_], _ => rfl
  have F11 := fun_mk (st := s_law) l11 c11 k11
  have b11 := F11.binds (ps := ["script"]) fun _ _ _ _ _ _ us hl => match us, hl with | [_], _ => rfl
  refine ⟨PySem.W.fnOf "law" "law" (defArgs s_law) (defBody s_law) (defScope s_law) .none kV11 dc11 pm11 an11 cd11 ct11, fun s v => .of_eq rfl, fun base _ _ => ?_⟩
  have G_is_number : Fn3 l.prog w G.K mg base 1 _ _ ["value", "least", "most"] (sp_is_number G) := fn_is_number T  F0
  have C_is_number : Cal l.prog w G.K mg base 1 _ _ "is_number" ["value", "least", "most"] (sp_is_number G) := ⟨G_is_number, PySem.W.mg_of X GG a0, k0, b0⟩
  have G_law_draws : Fn3 l.prog w G.K mg base 1 _ _ ["script", "many"] (sp_law_draws G) := fn_law_draws T  F2
  have C_law_draws : Cal l.prog w G.K mg base 1 _ _ "_law_draws" ["script", "many"] (sp_law_draws G) := ⟨G_law_draws, PySem.W.mg_of X GG a2, k2, b2⟩
  have G_law_take : Fn3 l.prog w G.K mg base 1 _ _ ["hand", "many"] (sp_law_take G) := fn_law_take T  F3
  have C_law_take : Cal l.prog w G.K mg base 1 _ _ "_law_take" ["hand", "many"] (sp_law_take G) := ⟨G_law_take, PySem.W.mg_of X GG a3, k3, b3⟩
  have G_law_whole : Fn3 l.prog w G.K mg base 1 _ _ ["found"] (sp_law_whole G) := fn_law_whole T  F4
  have C_law_whole : Cal l.prog w G.K mg base 1 _ _ "_law_whole" ["found"] (sp_law_whole G) := ⟨G_law_whole, PySem.W.mg_of X GG a4, k4, b4⟩
  have G_law_figures : Fn3 l.prog w G.K mg base 1 _ _ ["number", "steps"] (sp_law_figures G) := fn_law_figures T  F7
  have C_law_figures : Cal l.prog w G.K mg base 1 _ _ "_law_figures" ["number", "steps"] (sp_law_figures G) := ⟨G_law_figures, PySem.W.mg_of X GG a7, k7, b7⟩
  have G_law_due : Fn3 l.prog w G.K mg base 1 _ _ ["steps"] (sp_law_due G) := fn_law_due T  F8
  have C_law_due : Cal l.prog w G.K mg base 1 _ _ "_law_due" ["steps"] (sp_law_due G) := ⟨G_law_due, PySem.W.mg_of X GG a8, k8, b8⟩
  have G_relay : Fn3 l.prog w G.K mg base 2 _ _ ["steps"] (sp_relay G) := fn_relay T C_is_number F1
  have C_relay : Cal l.prog w G.K mg base 2 _ _ "relay" ["steps"] (sp_relay G) := ⟨G_relay, PySem.W.mg_of X GG a1, k1, b1⟩
  have G_law_road : Fn3 l.prog w G.K mg base 2 _ _ ["hand", "found", "steps"] (sp_law_road G) := fn_law_road T C_law_take C_law_figures F9
  have C_law_road : Cal l.prog w G.K mg base 2 _ _ "_law_road" ["hand", "found", "steps"] (sp_law_road G) := ⟨G_law_road, PySem.W.mg_of X GG a9, k9, b9⟩
  have G_law_refused : Fn3 l.prog w G.K mg base 3 _ _ ["steps"] (sp_law_refused G) := fn_law_refused T C_relay F6
  have C_law_refused : Cal l.prog w G.K mg base 3 _ _ "_law_refused" ["steps"] (sp_law_refused G) := ⟨G_law_refused, PySem.W.mg_of X GG a6, k6, b6⟩
  have G_law_like : Fn3 l.prog w G.K mg base 7 _ _ ["found", "due"] (sp_law_like G) := fn_law_like T C_law_whole F5 (PySem.W.mg_of X GG a5) k5 b5
  have C_law_like : Cal l.prog w G.K mg base 7 _ _ "_law_like" ["found", "due"] (sp_law_like G) := ⟨G_law_like, PySem.W.mg_of X GG a5, k5, b5⟩
  have G_law_asked : Fn3 l.prog w G.K mg base 8 _ _ ["script"] (sp_law_asked G) := fn_law_asked T C_law_draws C_law_like C_relay K_relay C_law_due C_law_take C_law_figures C_law_refused C_law_road F10
  have C_law_asked : Cal l.prog w G.K mg base 8 _ _ "_law_asked" ["script"] (sp_law_asked G) := ⟨G_law_asked, PySem.W.mg_of X GG a10, k10, b10⟩
  have G_law : Fn3 l.prog w G.K mg base 9 _ _ ["script"] (sp_law G) := fn_law T C_law_asked F11
  exact fn_top G_law
end My
open PySem PySem.W PyProof.Rows
set_option maxRecDepth 100000 in
set_option maxHeartbeats 0 in
theorem PySem.Challenge.cw_looksfar_k39_relay_holds : PySem.Challenge.rw_looksfar_k39_relay.Holds := by
  w_on; o_law; k_head; (case hw => w_witness2)
  k_fill
  refine L3.walk3 (l := PySem.Challenge.rw_looksfar_k39_relay) (n := 63) (k := 9) rfl (by decide) rfl ⟨rfl, by decide, by decide⟩ (fun w h Y => PySem.W.kIn_of Y) ?hnoL ?hFF
  case hnoL => intro w; first | rfl | decide +kernel | k_is
  case hFF =>
    intro w mg fa h KX G hmg
    refine' My.all_mk KX G hmg ?a0 ?l0 ?c0 ?k0 ?a1 ?l1 ?c1 ?k1 ?a2 ?l2 ?c2 ?k2 ?a3 ?l3 ?c3 ?k3 ?a4 ?l4 ?c4 ?k4 ?a5 ?l5 ?c5 ?k5 ?a6 ?l6 ?c6 ?k6 ?a7 ?l7 ?c7 ?k7 ?a8 ?l8 ?c8 ?k8 ?a9 ?l9 ?c9 ?k9 ?a10 ?l10 ?c10 ?k10 ?a11 ?l11 ?c11 ?k11 ?gLookError ?xLookError ?kkLookError ?bLookError ?tLookError ?iLookError ?gBadReach ?xBadReach ?kkBadReach ?bBadReach ?tBadReach ?iBadReach ?sBadReach_BadReach ?sBadReach_LookError ?sLookError_BadReach ?sLookError_LookError ?z_abs ?z_all ?z_bool ?z_int ?z_isinstance ?z_len ?z_range ?z_str ?z_tuple ?m_MOST_RELAYED ?nol
    (case a0 => k_is)
    (case l0 => k_is)
    (case c0 => k_is)
    (case k0 => k_is)
    (case a1 => k_is)
    (case l1 => k_is)
    (case c1 => k_is)
    (case k1 => k_is)
    (case a2 => k_is)
    (case l2 => k_is)
    (case c2 => k_is)
    (case k2 => k_is)
    (case a3 => k_is)
    (case l3 => k_is)
    (case c3 => k_is)
    (case k3 => k_is)
    (case a4 => k_is)
    (case l4 => k_is)
    (case c4 => k_is)
    (case k4 => k_is)
    (case a5 => k_is)
    (case l5 => k_is)
    (case c5 => k_is)
    (case k5 => k_is)
    (case a6 => k_is)
    (case l6 => k_is)
    (case c6 => k_is)
    (case k6 => k_is)
    (case a7 => k_is)
    (case l7 => k_is)
    (case c7 => k_is)
    (case k7 => k_is)
    (case a8 => k_is)
    (case l8 => k_is)
    (case c8 => k_is)
    (case k8 => k_is)
    (case a9 => k_is)
    (case l9 => k_is)
    (case c9 => k_is)
    (case k9 => k_is)
    (case a10 => k_is)
    (case l10 => k_is)
    (case c10 => k_is)
    (case k10 => k_is)
    (case a11 => k_is)
    (case l11 => k_is)
    (case c11 => k_is)
    (case k11 => k_is)
    (case gLookError => k_is)
    (case xLookError => k_exc)
    (case kkLookError => k_is)
    (case bLookError => k_is)
    (case tLookError => k_is)
    (case iLookError => k_is)
    (case gBadReach => k_is)
    (case xBadReach => k_exc)
    (case kkBadReach => k_is)
    (case bBadReach => k_is)
    (case tBadReach => k_is)
    (case iBadReach => k_is)
    (case sBadReach_BadReach => k_is)
    (case sBadReach_LookError => k_is)
    (case sLookError_BadReach => k_is)
    (case sLookError_LookError => k_is)
    (case z_abs => k_is)
    (case z_all => k_is)
    (case z_bool => k_is)
    (case z_int => k_is)
    (case z_isinstance => k_is)
    (case z_len => k_is)
    (case z_range => k_is)
    (case z_str => k_is)
    (case z_tuple => k_is)
    (case m_MOST_RELAYED => k_is)
    (case nol => first | rfl | decide +kernel | k_is)
