import PyProof.Rows.All
import Wide.All
import OpenK.AllK
import Wide.FinOn
import PyProof.EqAt
import PyProof.EqKinds
import PyProof.TupleCall
import HandS.ForMost
import HandS.Exc
import HandS.TryOnly
import HandS.ExcOwn
import HandS.WordsExc
import HandS.Zip
import HandS.Star
import HandS.IsInst
import HandS.Conv
import HandS.Deep
import HandS.TupAny
import HandS.Style
import HandS.Wide
import HandS.SortInts
import KE.KTupSum
import KE.DataMinMax
import HandS.DictSubView
import KE.DatumOrd
import KE.GoesMore
import PyProof.EnumMake
import PySem.Challenge.RW_struckboards_k18_whole_rising_boards
set_option Elab.async false
set_option linter.all false
set_option maxRecDepth 100000
set_option maxHeartbeats 1000000
namespace K8
open PySem PySem.Spec PyProof.Rows L2

/-! ### what is owned and may turn -/
structure Rho where
  adr : Addr → Bool
  ok : Hp → Prop
  th : ∀ H b, ok H → adr b = true → H b ≠ none
  up : ∀ H H', ok H → (∀ b, adr b = true → H' b = H b) → ok H'
def R0 : Rho := ⟨fun _ => false, fun _ => True, fun _ _ _ h => (Bool.noConfusion h), fun _ _ _ _ => True.intro⟩
theorem Rho.same {ρ : Rho} {H H' : Hp} (k : ρ.ok H) (s : Same H H') : ρ.ok H' := ρ.up H H' k fun b hb => by
  cases e : H b with
  | none => exact absurd e (ρ.th H b k hb)
  | some o => exact s b o e
theorem Rho.new {ρ : Rho} {H : Hp} {p : Addr} (k : ρ.ok H) (hp : H p = none) : ρ.adr p = false := by
  cases e : ρ.adr p with
  | false => rfl
  | true => exact absurd hp (ρ.th H p k e)
theorem same_new {H : Hp} {p : Addr} {o : HO} (h : H p = none) : Same H (upd H p o) := fun b x e => by
  rw [upd_ne (ne_of_none e h)]
  exact e
theorem same_mut {H0 H : Hp} {p : Addr} {o : HO} (s : Same H0 H) (h : H0 p = none) : Same H0 (upd H p o) := fun b x e => by
  rw [upd_ne (ne_of_none e h)]
  exact s b x e

/-! ### from one state to a later one: H0 what is known and stands, H all -/
structure Frm (ρ : Rho) (H0 H H0' H' : Hp) : Prop where
  ex0 : Same H0 H0'
  sub : Same H0' H'
  fr : ∀ b o, ρ.adr b = false → H b = some o → H' b = some o
  sep : ∀ b, H0 b = none → H b ≠ none → H0' b = none
  ok : ρ.ok H → ρ.ok H'
section
variable {ρ : Rho} {H0 H H1 H1' H2 H2' : Hp} {p : Addr} {o : HO}
theorem Frm.refl (s : Same H0 H) : Frm ρ H0 H H0 H := ⟨Same.refl _, s, fun _ _ _ h => h, fun _ h _ => h, fun h => h⟩
theorem Frm.th (f : Frm ρ H0 H H1 H1') (k : ρ.ok H) {b : Addr} (h : H b ≠ none) : H1' b ≠ none := by
  cases e : ρ.adr b with
  | true => exact ρ.th _ _ (f.ok k) e
  | false =>
    cases q : H b with
    | none => exact absurd q h
    | some o => rw [f.fr b o e q]; exact fun z => nomatch z
theorem Frm.trans (f : Frm ρ H0 H H1 H1') (g : Frm ρ H1 H1' H2 H2') (k : ρ.ok H) : Frm ρ H0 H H2 H2' :=
  ⟨f.ex0.trans g.ex0, g.sub, fun b o e h => g.fr b o e (f.fr b o e h), fun b h1 h2 => g.sep b (f.sep b h1 h2) (f.th k h2), fun h => g.ok (f.ok h)⟩
theorem Frm.new (s : Same H0 H) (h : H p = none) : Frm ρ H0 H (upd H0 p o) (upd H p o) where
  ex0 := same_new (s.free h)
  sub := fun b x e => by
    by_cases hb : b = p
    · subst hb
      rw [upd_same] at e ⊢
      exact e
    · rw [upd_ne hb] at e ⊢
      exact s b x e
  fr := fun b x _ e => same_new h b x e
  sep := fun b h1 h2 => by
    rw [upd_ne (fun z => h2 (by rw [z]; exact h))]
    exact h1
  ok := fun k => Rho.same k (same_new h)
theorem Frm.pure (f : Frm R0 H0 H H1 H1') : Frm ρ H0 H H1 H1' :=
  ⟨f.ex0, f.sub, fun b o _ h => f.fr b o rfl h, f.sep, fun k => Rho.same k fun b o h => f.fr b o rfl h⟩
theorem Frm.all (f : Frm R0 H0 H H1 H1') : Same H H1' := fun b o h => f.fr b o rfl h
end

/-! ### data -/
theorem rd_same {H H' : Hp} {a : Addr} {u : HO} (s : Same H H') (h : Rd H a u) : Rd H' a u := by
  rcases h with h | ⟨o, h⟩
  · exact .inl (s _ _ h)
  · exact .inr ⟨o, s _ _ h⟩
theorem Same.tup {K : PySem.W.Frag} {H H' : Hp} {a : Addr} {xs : List V} (s : Same H H') (h : SqT K H a xs) : SqT K H' a xs := by
  rcases h with h | h
  · exact .inl (rd_same s h)
  · exact .inr h
mutual
inductive Ds (K : PySem.W.Frag) (H : Hp) : V → PyData → Prop
  | non : Ds K H .non .none
  | bl (b : Bool) : Ds K H (.bl b) (.bool b)
  | int (i : Int) : Ds K H (.int i) (.int i)
  | str (x : Str) : Ds K H (.str x) (.str x)
  | lst {a : Addr} {xs : List V} {ds : List PyData} : H a = some (.lst xs) → DsAll K H xs ds → Ds K H (.ref a) (.list ds)
  | tup {a : Addr} {xs : List V} {ds : List PyData} : H a = some (.tup xs) → DsAll K H xs ds → Ds K H (.ref a) (.tuple ds)
inductive DsAll (K : PySem.W.Frag) (H : Hp) : List V → List PyData → Prop
  | nil : DsAll K H [] []
  | cons {v : V} {vs : List V} {d : PyData} {ds : List PyData} : Ds K H v d → DsAll K H vs ds → DsAll K H (v :: vs) (d :: ds)
end
section
variable {K : PySem.W.Frag} {H H' : Hp}
mutual
theorem ds_dp : ∀ {v : V} {d : PyData}, Ds K H v d → Dp K H v d
  | _, _, .non => .non
  | _, _, .bl b => .bl b
  | _, _, .int i => .int i
  | _, _, .str x => .str x
  | _, _, .lst h k => .lst (SqL.of h) (ds_dpa k)
  | _, _, .tup h k => .tup (SqT.of h) (ds_dpa k)
theorem ds_dpa : ∀ {vs : List V} {ds : List PyData}, DsAll K H vs ds → DpAll K H vs ds
  | _, _, .nil => .nil
  | _, _, .cons h k => .cons (ds_dp h) (ds_dpa k)
end
mutual
theorem dp_mono (s : Same H H') : ∀ {v : V} {d : PyData}, Ds K H v d → Ds K H' v d
  | _, _, .non => .non
  | _, _, .bl b => .bl b
  | _, _, .int i => .int i
  | _, _, .str x => .str x
  | _, _, .lst h k => .lst (s _ _ h) (dpa_mono s k)
  | _, _, .tup h k => .tup (s _ _ h) (dpa_mono s k)
theorem dpa_mono (s : Same H H') : ∀ {vs : List V} {ds : List PyData}, DsAll K H vs ds → DsAll K H' vs ds
  | _, _, .nil => .nil
  | _, _, .cons h k => .cons (dp_mono s h) (dpa_mono s k)
end
theorem dpa_len : ∀ {vs : List V} {ds : List PyData}, DsAll K H vs ds → vs.length = ds.length
  | _, _, .nil => rfl
  | _, _, .cons _ k => by rw [List.length_cons, List.length_cons, dpa_len k]
theorem dpa_at : ∀ {vs : List V} {ds : List PyData} {i : Nat} {d : PyData}, DsAll K H vs ds → ds[i]? = some d → ∃ v, vs[i]? = some v ∧ Ds K H v d
  | _, _, _, _, .nil, h => by simp at h
  | _, _, 0, _, .cons h _, e => by
    simp at e
    subst e
    exact ⟨_, rfl, h⟩
  | _, _, i + 1, d, .cons _ k, e => by
    obtain ⟨v, h1, h2⟩ := dpa_at (i := i) (d := d) k (by simpa using e)
    exact ⟨v, by simpa using h1, h2⟩
theorem dpa_at' : ∀ {vs : List V} {ds : List PyData} {i : Nat} {v : V}, DsAll K H vs ds → vs[i]? = some v → ∃ d, ds[i]? = some d ∧ Ds K H v d
  | _, _, _, _, .nil, h => by simp at h
  | _, _, 0, _, .cons h _, e => by
    simp at e
    subst e
    exact ⟨_, rfl, h⟩
  | _, _, i + 1, v, .cons _ k, e => by
    obtain ⟨d, h1, h2⟩ := dpa_at' (i := i) (v := v) k (by simpa using e)
    exact ⟨d, by simpa using h1, h2⟩
theorem dpa_app : ∀ {vs ws : List V} {ds es : List PyData}, DsAll K H vs ds → DsAll K H ws es → DsAll K H (vs ++ ws) (ds ++ es)
  | _, _, _, _, .nil, k => k
  | _, _, _, _, .cons h r, k => .cons h (dpa_app r k)
theorem dpa_drop : ∀ {vs : List V} {ds : List PyData} (n : Nat), DsAll K H vs ds → DsAll K H (vs.drop n) (ds.drop n)
  | _, _, 0, k => k
  | _, _, _ + 1, .nil => .nil
  | _, _, n + 1, .cons _ k => dpa_drop n k
theorem dpa_take : ∀ {vs : List V} {ds : List PyData} (n : Nat), DsAll K H vs ds → DsAll K H (vs.take n) (ds.take n)
  | _, _, 0, _ => .nil
  | _, _, _ + 1, .nil => .nil
  | _, _, n + 1, .cons h k => .cons h (dpa_take n k)
theorem dpa_ints : ∀ (ns : List Int), DsAll K H (ns.map V.int) (ns.map PyData.int)
  | [] => .nil
  | n :: ns => .cons (.int n) (dpa_ints ns)
theorem dpa_ints_eq : ∀ {ns : List Int} {vs : List V}, DsAll K H vs (ns.map PyData.int) → vs = ns.map V.int
  | [], _, .nil => rfl
  | n :: ns, _, .cons h k => by
    cases h
    rw [dpa_ints_eq k]
    rfl
theorem dpa_bools_eq : ∀ {bs : List Bool} {vs : List V}, DsAll K H vs (bs.map PyData.bool) → vs = bs.map V.bl
  | [], _, .nil => rfl
  | b :: bs, _, .cons h k => by
    cases h
    rw [dpa_bools_eq k]
    rfl
end

/-! ### what a slot is known to hold -/
inductive Ent where
  | d (x : PyData)
  | v (x : V)
  | own (xs : List PyData)
  | dk (kvs : List (Int × Int))
abbrev DEnv := List (Option Ent)
def EntOk (K : PySem.W.Frag) (ρ : Rho) (He H0 H : Hp) (v : V) : Ent → Prop
  | .d x => Ds K H0 v x
  | .v x => v = x
  | .own xs => ∃ a vs, v = .ref a ∧ H a = some (.lst vs) ∧ H0 a = none ∧ He a = none ∧ ρ.adr a = false ∧ DsAll K H0 vs xs
  | .dk kvs => ∃ a, v = .ref a ∧ H0 a = some (.dK (kvs.map fun p => (Sum.inl p.1, V.int p.2)))
structure Sat (K : PySem.W.Frag) (ρ : Rho) (He H0 H : Hp) (σ : L2.St) (ds : DEnv) : Prop where
  sub : Same H0 H
  ok : ρ.ok H
  len : σ.length = ds.length
  get : ∀ (i : Nat) (e : Ent), ds[i]? = some (some e) → ∃ v, σ[i]? = some (some v) ∧ EntOk K ρ He H0 H v e
  apart : ∀ (i j : Nat) (xs ys : List PyData) (a : Addr), ds[i]? = some (some (.own xs)) → ds[j]? = some (some (.own ys)) → σ[i]? = some (some (.ref a)) → σ[j]? = some (some (.ref a)) → i = j
  rho : ∀ b, ρ.adr b = true → H0 b = none
section
variable {K : PySem.W.Frag} {ρ : Rho} {He H0 H H0' H' : Hp} {σ σ' : L2.St} {ds ds' : DEnv} {v : V} {e : Ent}
theorem EntOk.fr (h : EntOk K ρ He H0 H v e) (f : Frm ρ H0 H H0' H') : EntOk K ρ He H0' H' v e := by
  cases e with
  | d x => exact dp_mono f.ex0 h
  | v x => exact h
  | own xs =>
    obtain ⟨a, vs, rfl, h1, h2, h3, h4, h5⟩ := h
    exact ⟨a, vs, rfl, f.fr a _ h4 h1, f.sep a h2 (by rw [h1]; exact fun z => nomatch z), h3, h4, dpa_mono f.ex0 h5⟩
  | dk kvs =>
    obtain ⟨a, rfl, h1⟩ := h
    exact ⟨a, rfl, f.ex0 _ _ h1⟩
theorem Sat.fr (S : Sat K ρ He H0 H σ ds) (f : Frm ρ H0 H H0' H') : Sat K ρ He H0' H' σ ds :=
  ⟨f.sub, f.ok S.ok, S.len, fun i e h => let ⟨v, h1, h2⟩ := S.get i e h; ⟨v, h1, h2.fr f⟩, S.apart, fun b hb => f.sep b (S.rho b hb) (ρ.th _ _ S.ok hb)⟩
theorem Sat.set (S : Sat K ρ He H0 H σ ds) {i : Nat} {d : PyData} (h : Ds K H0 v d) : Sat K ρ He H0 H (σ.set i (some v)) (ds.set i (some (.d d))) where
  sub := S.sub
  ok := S.ok
  len := by rw [List.length_set, List.length_set]; exact S.len
  get := fun j e q => by
    by_cases hj : i = j
    · subst hj
      by_cases hi : i < ds.length
      · rw [List.getElem?_set_self hi] at q
        cases q
        exact ⟨v, by rw [List.getElem?_set_self (by rw [S.len]; exact hi)], h⟩
      · rw [List.getElem?_eq_none (by rw [List.length_set]; omega)] at q
        cases q
    · rw [List.getElem?_set_ne hj] at q ⊢
      exact S.get j e q
  apart := fun j k xs ys a q1 q2 q3 q4 => by
    have ne : ∀ j xs, (ds.set i (some (.d d)))[j]? = some (some (.own xs)) → i ≠ j := fun j xs q z => by
      subst z
      by_cases hi : i < ds.length
      · rw [List.getElem?_set_self hi] at q
        cases q
      · rw [List.getElem?_eq_none (by rw [List.length_set]; omega)] at q
        cases q
    have n1 := ne j xs q1
    have n2 := ne k ys q2
    rw [List.getElem?_set_ne n1] at q1 q3
    rw [List.getElem?_set_ne n2] at q2 q4
    exact S.apart j k xs ys a q1 q2 q3 q4
  rho := S.rho
/-- fewer slots told -/
inductive EnvLe : DEnv → DEnv → Prop
  | nil : EnvLe [] []
  | skip {r s : DEnv} {x : Option Ent} : EnvLe r s → EnvLe (none :: r) (x :: s)
  | keep {r s : DEnv} {x : Option Ent} : EnvLe r s → EnvLe (x :: r) (x :: s)
theorem EnvLe.rfl' : ∀ {r : DEnv}, EnvLe r r
  | [] => .nil
  | _ :: _ => .keep EnvLe.rfl'
theorem EnvLe.get : ∀ {r s : DEnv} {i : Nat} {e : Ent}, EnvLe r s → r[i]? = some (some e) → s[i]? = some (some e)
  | _, _, _, _, .nil, h => by simp at h
  | _, _, 0, _, .skip _, h => by simp at h
  | _, _, 0, _, .keep _, h => by simpa using h
  | _, _, i + 1, _, .skip k, h => by
    have := EnvLe.get (i := i) k (by simpa using h)
    simpa using this
  | _, _, i + 1, _, .keep k, h => by
    have := EnvLe.get (i := i) k (by simpa using h)
    simpa using this
theorem EnvLe.len : ∀ {r s : DEnv}, EnvLe r s → r.length = s.length
  | _, _, .nil => rfl
  | _, _, .skip k => by rw [List.length_cons, List.length_cons, EnvLe.len k]
  | _, _, .keep k => by rw [List.length_cons, List.length_cons, EnvLe.len k]
theorem Sat.weak (S : Sat K ρ He H0 H σ ds) (l : EnvLe ds' ds) : Sat K ρ He H0 H σ ds' :=
  ⟨S.sub, S.ok, S.len.trans l.len.symm, fun i e h => S.get i e (l.get h), fun i j xs ys a h1 h2 => S.apart i j xs ys a (l.get h1) (l.get h2), S.rho⟩
/-- the block's names forgotten -/
def wipeE (ds : DEnv) : List Nat → DEnv
  | [] => ds
  | v :: vs => (wipeE ds vs).set v none
theorem wipeE_len (ds : DEnv) : ∀ vs, (wipeE ds vs).length = ds.length
  | [] => rfl
  | v :: vs => by unfold wipeE; rw [List.length_set, wipeE_len ds vs]
theorem wipeE_get {ds : DEnv} {i : Nat} {e : Ent} : ∀ {vs : List Nat}, (wipeE ds vs)[i]? = some (some e) → ds[i]? = some (some e) ∧ i ∉ vs
  | [], h => ⟨h, by simp⟩
  | v :: vs, h => by
    unfold wipeE at h
    by_cases hi : v = i
    · subst hi
      by_cases hv : v < (wipeE ds vs).length
      · rw [List.getElem?_set_self hv] at h; cases h
      · rw [List.getElem?_eq_none (by simpa using hv)] at h; cases h
    · rw [List.getElem?_set_ne hi] at h
      obtain ⟨h1, h2⟩ := wipeE_get h
      exact ⟨h1, by simp only [List.mem_cons, not_or]; exact ⟨fun e => hi e.symm, h2⟩⟩
theorem wipe_out {σ : L2.St} {i : Nat} : ∀ {vs : List Nat}, i ∉ vs → (wipe σ vs)[i]? = σ[i]?
  | [], _ => rfl
  | v :: vs, h => by
    unfold wipe
    have h1 : v ≠ i := fun z => h (by rw [z]; exact List.mem_cons_self)
    rw [List.getElem?_set_ne h1]
    exact wipe_out fun z => h (List.mem_cons_of_mem _ z)
theorem wipe_in {σ : L2.St} {i : Nat} : ∀ {vs : List Nat}, i ∈ vs → i < σ.length → (wipe σ vs)[i]? = some none
  | [], h, _ => by simp at h
  | v :: vs, h, hl => by
    unfold wipe
    by_cases hv : v = i
    · subst hv
      rw [List.getElem?_set_self (by rw [wipe_length]; exact hl)]
    · rw [List.getElem?_set_ne hv]
      exact wipe_in ((List.mem_cons.mp h).resolve_left fun z => hv z.symm) hl
theorem wipe_again {σ σ2 : L2.St} {vs tgs : List Nat} (hl : σ2.length = (wipe σ vs).length) (h : ∀ k, k ∉ tgs → σ2[k]? = (wipe σ vs)[k]?) (ht : ∀ j ∈ tgs, j ∈ vs) : wipe σ2 vs = wipe σ vs := by
  have hl' : σ2.length = σ.length := by rw [hl, wipe_length]
  refine List.ext_getElem? fun k => ?_
  by_cases hk : k ∈ vs
  · by_cases hs : k < σ.length
    · rw [wipe_in hk (by omega), wipe_in hk hs]
    · rw [List.getElem?_eq_none (by rw [wipe_length]; omega), List.getElem?_eq_none (by rw [wipe_length]; omega)]
  · rw [wipe_out hk]
    exact h k fun z => hk (ht k z)
theorem Sat.wiped (S : Sat K ρ He H0 H σ ds) (vs : List Nat) : Sat K ρ He H0 H (wipe σ vs) (wipeE ds vs) where
  sub := S.sub
  ok := S.ok
  len := by rw [wipe_length, wipeE_len]; exact S.len
  get := fun i e h => by
    obtain ⟨h1, h2⟩ := wipeE_get h
    obtain ⟨v, q1, q2⟩ := S.get i e h1
    exact ⟨v, by rw [wipe_out h2]; exact q1, q2⟩
  apart := fun i j xs ys a h1 h2 q1 q2 => by
    obtain ⟨e1, n1⟩ := wipeE_get h1
    obtain ⟨e2, n2⟩ := wipeE_get h2
    rw [wipe_out n1] at q1
    rw [wipe_out n2] at q2
    exact S.apart i j xs ys a e1 e2 q1 q2
  rho := S.rho
end

/-! ### what the code itself asks: the weakest readings -/
def tW (X : Cx) (e : Expr) : TE := fun σ H Q => ∀ (pins : List (Addr × Obj)) (s : Shared), Inv X pins σ H s → wpAny (model X.prog X.w) X.A (eval e X.env) (EP X pins σ Q) X.xe s
def tWt (X : Cx) (e : Expr) : TT := fun σ H Q => ∀ (pins : List (Addr × Obj)) (s : Shared), Inv X pins σ H s → wpAny (model X.prog X.w) X.A (isTrue e X.env (eval e X.env)) (TP X pins σ Q) X.xe s
def tWp (X : Cx) (e : Expr) : TT := fun σ H Q => ∀ (whole : Sem Value) (pins : List (Addr × Obj)) (s : Shared), Inv X pins σ H s → wpAny (model X.prog X.w) X.A (isTrue e X.env whole) (TP X pins σ Q) X.xe s
def tWa (X : Cx) (es : List Expr) : TA := fun σ H Q => ∀ (pos : Pos) (pins : List (Addr × Obj)) (s : Shared), Inv X pins σ H s → wpAny (model X.prog X.w) X.A (spliced (backTo pos (starEach es X.env))) (AP X pins σ Q) X.xe s
def tWs (X : Cx) (ss : List Stmt) : TS := fun D σ H => ∀ (pins : List (Addr × Obj)) (s : Shared), Inv X pins σ H s → wpAny (model X.prog X.w) X.A (execs ss X.env) (SP X pins D) X.xe s
section
variable {X : Cx} {e : Expr} {es : List Expr} {ss : List Stmt} {σ : L2.St} {H : Hp}
theorem pe_w : PE X e (tW X e) := ⟨fun pins s _ _ _ I h => h pins s I⟩
theorem pt_w : PT X e (tWt X e) := ⟨fun pins s _ _ _ I h => h pins s I⟩
theorem pw_w : PW X e (tWp X e) := ⟨fun wh pins s _ _ _ I h => h wh pins s I⟩
theorem pa_w : PA X es (tWa X es) := ⟨fun pos pins s _ _ _ I h => h pos pins s I⟩
theorem pss_w : PSs X ss (tWs X ss) := ⟨fun pins s _ _ _ I h => h pins s I⟩
theorem w_of {t : TE} {Q : VK} (h : PE X e t) (q : t σ H Q) : tW X e σ H Q := fun pins s I => h.run pins s σ H Q I q
theorem wt_of {t : TT} {Q : Bool → Hp → Prop} (h : PT X e t) (q : t σ H Q) : tWt X e σ H Q := fun pins s I => h.run pins s σ H Q I q
theorem wp_of {t : TT} {Q : Bool → Hp → Prop} (h : PW X e t) (q : t σ H Q) : tWp X e σ H Q := fun wh pins s I => h.run wh pins s σ H Q I q
theorem wa_of {t : TA} {Q : List V → Hp → Prop} (h : PA X es t) (q : t σ H Q) : tWa X es σ H Q := fun pos pins s I => h.run pos pins s σ H Q I q
theorem ws_of {t : TS} {D : Ends} (h : PSs X ss t) (q : t D σ H) : tWs X ss D σ H := fun pins s I => h.run pins s σ H D I q
end

/-! ### the judgements over data -/
def EvD (ρ : Rho) (K : PySem.W.Frag) (t : TE) (ds : DEnv) (d : PyData) : Prop := ∀ He σ H0 H, Sat K ρ He H0 H σ ds → ∀ Q : VK, (∀ v H0' H', Frm ρ H0 H H0' H' → Ds K H0' v d → Q v H') → t σ H Q
def EvT (ρ : Rho) (K : PySem.W.Frag) (t : TT) (ds : DEnv) (b : Bool) : Prop := ∀ He σ H0 H, Sat K ρ He H0 H σ ds → ∀ Q : Bool → Hp → Prop, (∀ H0' H', Frm ρ H0 H H0' H' → Q b H') → t σ H Q
def EvA (ρ : Rho) (K : PySem.W.Frag) (t : TA) (ds : DEnv) (xs : List PyData) : Prop := ∀ He σ H0 H, Sat K ρ He H0 H σ ds → ∀ Q : List V → Hp → Prop, (∀ vs H0' H', Frm ρ H0 H H0' H' → DsAll K H0' vs xs → Q vs H') → t σ H Q
abbrev Dv (ρ : Rho) (X : Cx) (ds : DEnv) (e : Expr) (d : PyData) : Prop := EvD ρ X.K (tW X e) ds d
abbrev Tv (ρ : Rho) (X : Cx) (ds : DEnv) (e : Expr) (b : Bool) : Prop := EvT ρ X.K (tWt X e) ds b
abbrev Pv (ρ : Rho) (X : Cx) (ds : DEnv) (e : Expr) (b : Bool) : Prop := EvT ρ X.K (tWp X e) ds b
abbrev Av (ρ : Rho) (X : Cx) (ds : DEnv) (es : List Expr) (xs : List PyData) : Prop := EvA ρ X.K (tWa X es) ds xs
/-- an operation on two values, a call -/
def RvD (ρ : Rho) (K : PySem.W.Frag) (r : R2) (x y z : PyData) : Prop := ∀ H0 H v u, Same H0 H → ρ.ok H → Ds K H0 v x → Ds K H0 u y → ∀ Q : VK, (∀ w H0' H', Frm ρ H0 H H0' H' → Ds K H0' w z → Q w H') → r v u H Q
def RuD (ρ : Rho) (K : PySem.W.Frag) (r : V → Hp → VK → Prop) (x z : PyData) : Prop := ∀ H0 H v, Same H0 H → ρ.ok H → Ds K H0 v x → ∀ Q : VK, (∀ w H0' H', Frm ρ H0 H H0' H' → Ds K H0' w z → Q w H') → r v H Q
def RcD (ρ : Rho) (K : PySem.W.Frag) (r : List V → Hp → VK → Prop) (xs : List PyData) (z : PyData) : Prop := ∀ H0 H vs, Same H0 H → ρ.ok H → DsAll K H0 vs xs → ∀ Q : VK, (∀ w H0' H', Frm ρ H0 H H0' H' → Ds K H0' w z → Q w H') → r vs H Q
section
variable {ρ : Rho} {X : Cx} {ds : DEnv} {a b c e : Expr} {es : List Expr} {x y z d : PyData} {xs : List PyData} {pos : Pos} {K : PySem.W.Frag} {r r' : R2} {p q : Bool}
theorem dv_of {t : TE} (h : PE X e t) (k : EvD ρ X.K t ds d) : Dv ρ X ds e d := fun He σ H0 H S Q q => w_of h (k He σ H0 H S Q q)
theorem tv_of {t : TT} (h : PT X e t) (k : EvT ρ X.K t ds p) : Tv ρ X ds e p := fun He σ H0 H S Q q => wt_of h (k He σ H0 H S Q q)
theorem pv_of {t : TT} (h : PW X e t) (k : EvT ρ X.K t ds p) : Pv ρ X ds e p := fun He σ H0 H S Q q => wp_of h (k He σ H0 H S Q q)
theorem tv_pv (k : Pv ρ X ds e p) : Tv ρ X ds e p := tv_of pw_w.pt k
theorem av_of {t : TA} (h : PA X es t) (k : EvA ρ X.K t ds xs) : Av ρ X ds es xs := fun He σ H0 H S Q q => wa_of h (k He σ H0 H S Q q)
theorem dv_is (h : Dv ρ X ds e d) (q : d = z) : Dv ρ X ds e z := q ▸ h
theorem tv_is (h : Tv ρ X ds e p) (k : p = q) : Tv ρ X ds e q := k ▸ h
theorem ed_op {ta tb : TE} (ha : EvD ρ K ta ds x) (hb : EvD ρ K tb ds y) (hr : RvD ρ K r x y z) : EvD ρ K (tOp r ta tb) ds z := by
  intro He σ H0 H S Q q
  refine ha He σ H0 H S _ fun v H1 H1' f1 d1 => ?_
  refine hb He σ H1 H1' (S.fr f1) _ fun u H2 H2' f2 d2 => ?_
  have S2 := (S.fr f1).fr f2
  refine hr H2 H2' v u S2.sub S2.ok (dp_mono f2.ex0 d1) d2 Q fun w H3 H3' f3 d3 => ?_
  exact q w H3 H3' ((f1.trans f2 S.ok).trans f3 S.ok) d3
theorem ed_un {ta : TE} {r : V → Hp → VK → Prop} (ha : EvD ρ K ta ds x) (hr : RuD ρ K r x z) : EvD ρ K (tUn r ta) ds z := by
  intro He σ H0 H S Q q
  refine ha He σ H0 H S _ fun v H1 H1' f1 d1 => ?_
  have S1 := S.fr f1
  exact hr H1 H1' v S1.sub S1.ok d1 Q fun w H3 H3' f3 d3 => q w H3 H3' (f1.trans f3 S.ok) d3
theorem ea_nil : EvA ρ K tNil ds [] := fun He σ H0 H S Q q => q [] H0 H (.refl S.sub) .nil
theorem ea_cons {ta : TE} {tr : TA} (ha : EvD ρ K ta ds x) (hr : EvA ρ K tr ds xs) : EvA ρ K (tCons ta tr) ds (x :: xs) := by
  intro He σ H0 H S Q q
  refine ha He σ H0 H S _ fun v H1 H1' f1 d1 => ?_
  exact hr He σ H1 H1' (S.fr f1) _ fun vs H2 H2' f2 d2 => q _ H2 H2' (f1.trans f2 S.ok) (.cons (dp_mono f2.ex0 d1) d2)
theorem ed_cb {t : TA} {rc : List V → Hp → VK → Prop} (ha : EvA ρ K t ds xs) (hr : RcD ρ K rc xs z) : EvD ρ K (tCB rc t) ds z := by
  intro He σ H0 H S Q q
  refine ha He σ H0 H S _ fun vs H1 H1' f1 d1 => ?_
  have S1 := S.fr f1
  exact hr H1 H1' vs S1.sub S1.ok d1 Q fun w H3 H3' f3 d3 => q w H3 H3' (f1.trans f3 S.ok) d3
theorem ed_c {v : V} {K : PySem.W.Frag} (h : ∀ H, Ds K H v d) : EvD ρ K (tC v) ds d := fun He σ H0 H S Q q => q v H0 H (.refl S.sub) (h H0)
/-- names and constants -/
theorem dv_name (i : Nat) {x : Str} (hd : ds[i]? = some (some (.d d)) := by rfl) (hN : X.N[i]? = some x := by rfl) (hv : Vis X.env.scope x := by first | exact Or.inl rfl | exact Or.inr (Or.inl rfl) | exact Or.inr (Or.inr rfl)) (h1 : (x == ("__debug__" : Str)) = false := by decide)
    (h2 : (x == ("__classdict__" : Str)) = false := by decide) : Dv ρ X ds (.Name x pos) d := dv_of (pe_var hN hv h1 h2) fun He σ H0 H S Q q => by
  obtain ⟨v, e, k⟩ := S.get i _ hd
  exact ⟨v, e, q v H0 H (.refl S.sub) k⟩
theorem dv_int {i : Int} {j} : Dv ρ X ds (.Constant (.int i) j pos) (.int i) := dv_of pe_int (ed_c fun _ => .int i)
theorem dv_bl {i : Bool} {j} : Dv ρ X ds (.Constant (.bool i) j pos) (.bool i) := dv_of pe_bl (ed_c fun _ => .bl i)
theorem dv_non {j} : Dv ρ X ds (.Constant .none j pos) .none := dv_of pe_non (ed_c fun _ => .non)
theorem dv_str {i : Str} {j} : Dv ρ X ds (.Constant (.str i) j pos) (.str i) := dv_of pe_str (ed_c fun _ => .str i)
theorem dv_glob {x : Str} {i : Int} {u : Value} (hm : X.mg x = some u) (r : RelV (.int i) u) (hg : Gl X x := by rfl) (hd : (x == ("__debug__" : Str)) = false := by decide) : Dv ρ X ds (.Name x pos) (.int i) := dv_of (pe_glob hg hm r hd) (ed_c fun _ => .int i)
/-- int operators -/
theorem rv_int {g : Int → Int → V} {i j : Int} (h : ∀ H, Ds K H (g i j) z) : RvD ρ K (rI0 g) (.int i) (.int j) z := fun H0 H v u s k d1 d2 Q q => by
  cases d1
  cases d2
  exact ⟨i, j, rfl, rfl, q _ H0 H (.refl s) (h H0)⟩
theorem rv_intC {C : Int → Int → Prop} {g : Int → Int → V} {i j : Int} (hc : C i j) (h : ∀ H, Ds K H (g i j) z) : RvD ρ K (rI C g) (.int i) (.int j) z := fun H0 H v u s k d1 d2 Q q => by
  cases d1
  cases d2
  exact ⟨i, j, rfl, rfl, hc, q _ H0 H (.refl s) (h H0)⟩
theorem dv_add {i j : Int} (ha : Dv ρ X ds a (.int i)) (hb : Dv ρ X ds b (.int j)) : Dv ρ X ds (.BinOp a .Add b pos) (.int (i + j)) := dv_of (pe_op op_add pe_w pe_w) (ed_op ha hb (rv_int fun _ => .int _))
theorem dv_sub {i j : Int} (ha : Dv ρ X ds a (.int i)) (hb : Dv ρ X ds b (.int j)) : Dv ρ X ds (.BinOp a .Sub b pos) (.int (i - j)) := dv_of (pe_op op_sub pe_w pe_w) (ed_op ha hb (rv_int fun _ => .int _))
theorem dv_mul {i j : Int} (ha : Dv ρ X ds a (.int i)) (hb : Dv ρ X ds b (.int j)) (h : -(2 ^ 64) < i ∧ i < 2 ^ 64) : Dv ρ X ds (.BinOp a .Mult b pos) (.int (i * j)) := dv_of (pe_mul pe_w pe_w) fun He σ H0 H S Q q => by
  refine ha He σ H0 H S _ fun v H1 H1' f1 d1 => ?_
  refine hb He σ H1 H1' (S.fr f1) _ fun u H2 H2' f2 d2 => ?_
  cases d1
  cases d2
  exact ⟨i, j, rfl, rfl, h, q _ H2 H2' (f1.trans f2 S.ok) (.int _)⟩
theorem dv_neg {i : Int} (ha : Dv ρ X ds a (.int i)) : Dv ρ X ds (.UnaryOp .USub a pos) (.int (-i)) := dv_of (pe_un un_neg pe_w) (ed_un ha fun H0 H v s k d1 Q q => by
  cases d1
  exact ⟨i, rfl, q _ H0 H (.refl s) (.int _)⟩)
/-- comparisons of ints, as values and as tests -/
theorem dv_lt {i j : Int} (ha : Dv ρ X ds a (.int i)) (hb : Dv ρ X ds b (.int j)) : Dv ρ X ds (.Compare a [.Lt] [b] pos) (.bool (decide (i < j))) := dv_of (pe_cmpR op_lt pe_w pe_w (nomark _)) (ed_op ha hb (rv_int fun _ => .bl _))
theorem dv_le {i j : Int} (ha : Dv ρ X ds a (.int i)) (hb : Dv ρ X ds b (.int j)) : Dv ρ X ds (.Compare a [.LtE] [b] pos) (.bool (decide (i ≤ j))) := dv_of (pe_cmpR op_le pe_w pe_w (nomark _)) (ed_op ha hb (rv_int fun _ => .bl _))
theorem dv_gt {i j : Int} (ha : Dv ρ X ds a (.int i)) (hb : Dv ρ X ds b (.int j)) : Dv ρ X ds (.Compare a [.Gt] [b] pos) (.bool (decide (j < i))) := dv_of (pe_cmpR op_gt pe_w pe_w (nomark _)) (ed_op ha hb (rv_int fun _ => .bl _))
theorem dv_ge {i j : Int} (ha : Dv ρ X ds a (.int i)) (hb : Dv ρ X ds b (.int j)) : Dv ρ X ds (.Compare a [.GtE] [b] pos) (.bool (decide (j ≤ i))) := dv_of (pe_cmpR op_ge pe_w pe_w (nomark _)) (ed_op ha hb (rv_int fun _ => .bl _))
theorem et_test {t : TE} (h : EvD ρ K t ds (.bool p)) : EvT ρ K (tTest t) ds p := fun He σ H0 H S Q q => h He σ H0 H S _ fun v H1 H1' f d => by
  cases d
  exact ⟨p, rfl, q H1 H1' f⟩
theorem tv_lt {i j : Int} (ha : Dv ρ X ds a (.int i)) (hb : Dv ρ X ds b (.int j)) : Tv ρ X ds (.Compare a [.Lt] [b] pos) (decide (i < j)) := tv_of (pt_cmpR op_lt pe_w pe_w (nomark _)) (et_test (ed_op ha hb (rv_int fun _ => .bl _)))
theorem tv_le {i j : Int} (ha : Dv ρ X ds a (.int i)) (hb : Dv ρ X ds b (.int j)) : Tv ρ X ds (.Compare a [.LtE] [b] pos) (decide (i ≤ j)) := tv_of (pt_cmpR op_le pe_w pe_w (nomark _)) (et_test (ed_op ha hb (rv_int fun _ => .bl _)))
theorem tv_gt {i j : Int} (ha : Dv ρ X ds a (.int i)) (hb : Dv ρ X ds b (.int j)) : Tv ρ X ds (.Compare a [.Gt] [b] pos) (decide (j < i)) := tv_of (pt_cmpR op_gt pe_w pe_w (nomark _)) (et_test (ed_op ha hb (rv_int fun _ => .bl _)))
theorem tv_ge {i j : Int} (ha : Dv ρ X ds a (.int i)) (hb : Dv ρ X ds b (.int j)) : Tv ρ X ds (.Compare a [.GtE] [b] pos) (decide (j ≤ i)) := tv_of (pt_cmpR op_ge pe_w pe_w (nomark _)) (et_test (ed_op ha hb (rv_int fun _ => .bl _)))
/-- == of flat things -/
theorem rv_eqI {i j : Int} : RvD ρ K rEq (.int i) (.int j) (.bool (decide (i = j))) := fun H0 H v u s k d1 d2 Q q => by
  cases d1
  cases d2
  refine ⟨rfl, q _ H0 H (.refl s) ?_⟩
  have e : decide (V.int i = V.int j) = decide (i = j) := by
    by_cases h : i = j
    · subst h; simp
    · rw [decide_eq_false h, decide_eq_false fun z => h (V.int.inj z)]
  rw [e]
  exact .bl _
theorem rv_neI {i j : Int} : RvD ρ K rNe (.int i) (.int j) (.bool (!decide (i = j))) := fun H0 H v u s k d1 d2 Q q => by
  cases d1
  cases d2
  refine ⟨rfl, q _ H0 H (.refl s) ?_⟩
  have e : decide (V.int i = V.int j) = decide (i = j) := by
    by_cases h : i = j
    · subst h; simp
    · rw [decide_eq_false h, decide_eq_false fun z => h (V.int.inj z)]
  rw [e]
  exact .bl _
theorem rv_eqB {i j : Bool} : RvD ρ K rEq (.bool i) (.bool j) (.bool (i == j)) := fun H0 H v u s k d1 d2 Q q => by
  cases d1
  cases d2
  refine ⟨by cases i <;> cases j <;> rfl, q _ H0 H (.refl s) ?_⟩
  have e : decide (V.bl i = V.bl j) = (i == j) := by cases i <;> cases j <;> rfl
  rw [e]
  exact .bl _
theorem rv_neB {i j : Bool} : RvD ρ K rNe (.bool i) (.bool j) (.bool (!(i == j))) := fun H0 H v u s k d1 d2 Q q => by
  cases d1
  cases d2
  refine ⟨by cases i <;> cases j <;> rfl, q _ H0 H (.refl s) ?_⟩
  have e : decide (V.bl i = V.bl j) = (i == j) := by cases i <;> cases j <;> rfl
  rw [e]
  exact .bl _
theorem dv_eqI {i j : Int} (ha : Dv ρ X ds a (.int i)) (hb : Dv ρ X ds b (.int j)) : Dv ρ X ds (.Compare a [.Eq] [b] pos) (.bool (decide (i = j))) := dv_of (pe_cmpR op_eq pe_w pe_w (nomark _)) (ed_op ha hb rv_eqI)
theorem tv_eqI {i j : Int} (ha : Dv ρ X ds a (.int i)) (hb : Dv ρ X ds b (.int j)) : Tv ρ X ds (.Compare a [.Eq] [b] pos) (decide (i = j)) := tv_of (pt_cmpR op_eq pe_w pe_w (nomark _)) (et_test (ed_op ha hb rv_eqI))
theorem dv_eqB {i j : Bool} (ha : Dv ρ X ds a (.bool i)) (hb : Dv ρ X ds b (.bool j)) : Dv ρ X ds (.Compare a [.Eq] [b] pos) (.bool (i == j)) := dv_of (pe_cmpR op_eq pe_w pe_w (nomark _)) (ed_op ha hb rv_eqB)
theorem dv_neB {i j : Bool} (ha : Dv ρ X ds a (.bool i)) (hb : Dv ρ X ds b (.bool j)) : Dv ρ X ds (.Compare a [.NotEq] [b] pos) (.bool (!(i == j))) := dv_of (pe_cmpR op_ne pe_w pe_w (nomark _)) (ed_op ha hb rv_neB)
theorem tv_neB {i j : Bool} (ha : Dv ρ X ds a (.bool i)) (hb : Dv ρ X ds b (.bool j)) : Tv ρ X ds (.Compare a [.NotEq] [b] pos) (!(i == j)) := tv_of (pt_cmpR op_ne pe_w pe_w (nomark _)) (et_test (ed_op ha hb rv_neB))
/-- == of any data -/
theorem rv_eqD (h1 : SeqAt.shaped x = true) (h2 : SeqAt.shaped y = true) : RvD ρ K (rEqD K) x y (.bool (PyData.eqv x y)) := fun H0 H v u s k d1 d2 Q q =>
  ⟨x, y, ds_dp (dp_mono s d1), ds_dp (dp_mono s d2), h1, h2, q _ H0 H (.refl s) (.bl _)⟩
theorem rv_neD (h1 : SeqAt.shaped x = true) (h2 : SeqAt.shaped y = true) : RvD ρ K (rNeD K) x y (.bool (!PyData.eqv x y)) := fun H0 H v u s k d1 d2 Q q =>
  ⟨x, y, ds_dp (dp_mono s d1), ds_dp (dp_mono s d2), h1, h2, q _ H0 H (.refl s) (.bl _)⟩
theorem dv_eqD {k : Nat} (hr : Room k X.A) (ha : Dv ρ X ds a x) (hb : Dv ρ X ds b y) (h1 : SeqAt.shaped x = true) (h2 : SeqAt.shaped y = true) : Dv ρ X ds (.Compare a [.Eq] [b] pos) (.bool (PyData.eqv x y)) :=
  dv_of (pe_cmpR (op_eqD hr.units) pe_w pe_w (nomark _)) (ed_op ha hb (rv_eqD h1 h2))
theorem tv_eqD {k : Nat} (hr : Room k X.A) (ha : Dv ρ X ds a x) (hb : Dv ρ X ds b y) (h1 : SeqAt.shaped x = true) (h2 : SeqAt.shaped y = true) : Tv ρ X ds (.Compare a [.Eq] [b] pos) (PyData.eqv x y) :=
  tv_of (pt_cmpR (op_eqD hr.units) pe_w pe_w (nomark _)) (et_test (ed_op ha hb (rv_eqD h1 h2)))
theorem tv_neD {k : Nat} (hr : Room k X.A) (ha : Dv ρ X ds a x) (hb : Dv ρ X ds b y) (h1 : SeqAt.shaped x = true) (h2 : SeqAt.shaped y = true) : Tv ρ X ds (.Compare a [.NotEq] [b] pos) (!PyData.eqv x y) :=
  tv_of (pt_cmpR (op_neD hr.units) pe_w pe_w (nomark _)) (et_test (ed_op ha hb (rv_neD h1 h2)))
/-- in, not in a row of ints -/
theorem seq_dp {H : Hp} {v : V} (h : Ds K H v (.list xs)) : ∃ p vs, v = .ref p ∧ H p = some (.lst vs) ∧ DsAll K H vs xs := by
  cases h with
  | lst h k => exact ⟨_, _, rfl, h, k⟩
theorem tup_dp {H : Hp} {v : V} (h : Ds K H v (.tuple xs)) : ∃ p vs, v = .ref p ∧ H p = some (.tup vs) ∧ DsAll K H vs xs := by
  cases h with
  | tup h k => exact ⟨_, _, rfl, h, k⟩
theorem inV_ints (i : Int) : ∀ ns : List Int, inV (.int i) (ns.map V.int) = decide (i ∈ ns)
  | [] => by simp [inV]
  | n :: ns => by
    have ih := inV_ints i ns
    unfold inV at ih ⊢
    rw [List.map_cons, List.any_cons, ih]
    by_cases h : n = i
    · subst h; simp [eqV]
    · have h' : ¬ i = n := fun z => h z.symm
      simp [eqV, h, h']
theorem flat_ints (ns : List Int) : (ns.map V.int).all flatV = true := by
  induction ns with
  | nil => rfl
  | cons n ns ih => rw [List.map_cons, List.all_cons, ih]; rfl
theorem rv_inT {i : Int} {ns : List Int} {neg : Bool} : RvD ρ K (rIn K neg) (.int i) (.tuple (ns.map .int)) (.bool (if neg then !decide (i ∈ ns) else decide (i ∈ ns))) := fun H0 H v u s k d1 d2 Q q => by
  cases d1
  obtain ⟨p, vs, rfl, h1, h2⟩ := tup_dp d2
  have e := dpa_ints_eq h2
  subst e
  refine ⟨p, _, rfl, .inr (SqT.of (s _ _ h1)), rfl, flat_ints ns, ?_⟩
  rw [inV_ints]
  exact q _ H0 H (.refl s) (.bl _)
theorem rv_inL {i : Int} {ns : List Int} {neg : Bool} : RvD ρ K (rIn K neg) (.int i) (.list (ns.map .int)) (.bool (if neg then !decide (i ∈ ns) else decide (i ∈ ns))) := fun H0 H v u s k d1 d2 Q q => by
  cases d1
  obtain ⟨p, vs, rfl, h1, h2⟩ := seq_dp d2
  have e := dpa_ints_eq h2
  subst e
  refine ⟨p, _, rfl, .inl (SqL.of (s _ _ h1)), rfl, flat_ints ns, ?_⟩
  rw [inV_ints]
  exact q _ H0 H (.refl s) (.bl _)
theorem tv_inT {i : Int} {ns : List Int} (ha : Dv ρ X ds a (.int i)) (hb : Dv ρ X ds b (.tuple (ns.map .int))) (hm : behindInMarks .In b = false := by rfl) : Tv ρ X ds (.Compare a [.In] [b] pos) (decide (i ∈ ns)) :=
  tv_of (pt_cmpR op_in_seq pe_w pe_w hm) (et_test (ed_op ha hb (rv_inT (neg := false))))
theorem tv_notinT {i : Int} {ns : List Int} (ha : Dv ρ X ds a (.int i)) (hb : Dv ρ X ds b (.tuple (ns.map .int))) (hm : behindInMarks .NotIn b = false := by rfl) : Tv ρ X ds (.Compare a [.NotIn] [b] pos) (!decide (i ∈ ns)) :=
  tv_of (pt_cmpR op_notIn_seq pe_w pe_w hm) (et_test (ed_op ha hb (rv_inT (neg := true))))
theorem tv_inL {i : Int} {ns : List Int} (ha : Dv ρ X ds a (.int i)) (hb : Dv ρ X ds b (.list (ns.map .int))) (hm : behindInMarks .In b = false := by rfl) : Tv ρ X ds (.Compare a [.In] [b] pos) (decide (i ∈ ns)) :=
  tv_of (pt_cmpR op_in_seq pe_w pe_w hm) (et_test (ed_op ha hb (rv_inL (neg := false))))
theorem tv_notinL {i : Int} {ns : List Int} (ha : Dv ρ X ds a (.int i)) (hb : Dv ρ X ds b (.list (ns.map .int))) (hm : behindInMarks .NotIn b = false := by rfl) : Tv ρ X ds (.Compare a [.NotIn] [b] pos) (!decide (i ∈ ns)) :=
  tv_of (pt_cmpR op_notIn_seq pe_w pe_w hm) (et_test (ed_op ha hb (rv_inL (neg := true))))
theorem tv_notinD {k : Nat} (hr : Room k X.A) (ha : Dv ρ X ds a x) (hb : Dv ρ X ds b (.list xs)) (h1 : SeqAt.shaped x = true) (h2 : SeqAt.shaped (.list xs) = true) (hu : X.A.units + 65 < cLine) (hm : behindInMarks .NotIn b = false := by rfl) : Tv ρ X ds (.Compare a [.NotIn] [b] pos) (!xs.any fun z => PyData.eqv z x) :=
  tv_of (pt_cmpR (op_notInD hu) pe_w pe_w hm) (et_test (ed_op ha hb fun H0 H v u s k d1 d2 Q q => ⟨x, xs, ds_dp (dp_mono s d1), ds_dp (dp_mono s d2), h1, h2, q _ H0 H (.refl s) (.bl _)⟩))
/-- and, or, not; if .. else -/
theorem tv_val (h : Dv ρ X ds e (.bool p)) (he : ∀ whole, isTrue e X.env whole = (do let v ← whole; standAt e.pos; holding [v] (truthy v)) := by intro _; rfl) : Tv ρ X ds e p :=
  tv_of (pt_val pe_w he) fun He σ H0 H S Q q => h He σ H0 H S _ fun v H1 H1' f d => by
    cases d
    exact ⟨p, rfl, q H1 H1' f⟩
theorem tv_not (h : Tv ρ X ds a p) : Tv ρ X ds (.UnaryOp .Not a pos) (!p) := tv_of (pt_not pt_w) fun He σ H0 H S Q q => h He σ H0 H S _ fun H1 H1' f => q H1 H1' f
theorem pv_and1 (h : Tv ρ X ds a p) : Pv ρ X ds (.BoolOp .And [a] pos) p := pv_of (pw_and1 pt_w) h
theorem pv_or1 (h : Tv ρ X ds a p) : Pv ρ X ds (.BoolOp .Or [a] pos) p := pv_of (pw_or1 pt_w) h
theorem pv_and {rest : List Expr} (h : Tv ρ X ds a p) (h2 : p = true → Pv ρ X ds (.BoolOp .And (b :: rest) pos) q) : Pv ρ X ds (.BoolOp .And (a :: b :: rest) pos) (p && q) := pv_of (pw_and pt_w pw_w) fun He σ H0 H S Q k =>
  h He σ H0 H S _ fun H1 H1' f => by
    cases p with
    | true => exact h2 rfl He σ H1 H1' (S.fr f) Q fun H2 H2' f2 => k H2 H2' (f.trans f2 S.ok)
    | false => exact k H1 H1' f
theorem pv_or {rest : List Expr} (h : Tv ρ X ds a p) (h2 : p = false → Pv ρ X ds (.BoolOp .Or (b :: rest) pos) q) : Pv ρ X ds (.BoolOp .Or (a :: b :: rest) pos) (p || q) := pv_of (pw_or pt_w pw_w) fun He σ H0 H S Q k =>
  h He σ H0 H S _ fun H1 H1' f => by
    cases p with
    | false => exact h2 rfl He σ H1 H1' (S.fr f) Q fun H2 H2' f2 => k H2 H2' (f.trans f2 S.ok)
    | true => exact k H1 H1' f
theorem dv_one {op} (h : Dv ρ X ds a d) : Dv ρ X ds (.BoolOp op [a] pos) d := dv_of (pe_one pe_w) h
theorem dv_and {rest : List Expr} (h : Dv ρ X ds a (.bool p)) (h2 : p = true → Dv ρ X ds (.BoolOp .And (b :: rest) pos) (.bool q)) : Dv ρ X ds (.BoolOp .And (a :: b :: rest) pos) (.bool (p && q)) := dv_of (pe_and pe_w pe_w) fun He σ H0 H S Q k =>
  h He σ H0 H S _ fun v H1 H1' f d => by
    cases d
    refine ⟨p, rfl, ?_⟩
    cases p with
    | true => exact h2 rfl He σ H1 H1' (S.fr f) Q fun v H2 H2' f2 d2 => k v H2 H2' (f.trans f2 S.ok) d2
    | false => exact k _ H1 H1' f (.bl _)
theorem dv_or {rest : List Expr} (h : Dv ρ X ds a (.bool p)) (h2 : p = false → Dv ρ X ds (.BoolOp .Or (b :: rest) pos) (.bool q)) : Dv ρ X ds (.BoolOp .Or (a :: b :: rest) pos) (.bool (p || q)) := dv_of (pe_or pe_w pe_w) fun He σ H0 H S Q k =>
  h He σ H0 H S _ fun v H1 H1' f d => by
    cases d
    refine ⟨p, rfl, ?_⟩
    cases p with
    | false => exact h2 rfl He σ H1 H1' (S.fr f) Q fun v H2 H2' f2 d2 => k v H2 H2' (f.trans f2 S.ok) d2
    | true => exact k _ H1 H1' f (.bl _)
theorem dv_not (h : Dv ρ X ds a (.bool p)) : Dv ρ X ds (.UnaryOp .Not a pos) (.bool (!p)) := dv_of (pe_not pe_w) fun He σ H0 H S Q k => h He σ H0 H S _ fun v H1 H1' f d => by
  cases d
  exact ⟨p, rfl, k _ H1 H1' f (.bl _)⟩
theorem dv_if (h : Tv ρ X ds c p) (h1 : p = true → Dv ρ X ds a d) (h2 : p = false → Dv ρ X ds b d) : Dv ρ X ds (.IfExp c a b pos) d := dv_of (pe_ifExp pt_w pe_w pe_w) fun He σ H0 H S Q k => h He σ H0 H S _ fun H1 H1' f => by
  cases p with
  | true => exact h1 rfl He σ H1 H1' (S.fr f) Q fun v H2 H2' f2 d2 => k v H2 H2' (f.trans f2 S.ok) d2
  | false => exact h2 rfl He σ H1 H1' (S.fr f) Q fun v H2 H2' f2 d2 => k v H2 H2' (f.trans f2 S.ok) d2
/-- a op b op' c of ints -/
theorem ed_chain {r r' : R2} {ta tb tc : TE} (ha : EvD ρ K ta ds x) (hb : EvD ρ K tb ds y) (hc : EvD ρ K tc ds z) (h1 : RvD ρ K r x y (.bool p)) (h2 : RvD ρ K r' y z (.bool q)) : EvD ρ K (tChain r r' ta tb tc) ds (.bool (p && q)) := by
  intro He σ H0 H S Q k
  refine ha He σ H0 H S _ fun v H1 H1' f1 d1 => ?_
  refine hb He σ H1 H1' (S.fr f1) _ fun u H2 H2' f2 d2 => ?_
  have S2 := (S.fr f1).fr f2
  refine h1 H2 H2' v u S2.sub S2.ok (dp_mono f2.ex0 d1) d2 _ fun w H3 H3' f3 d3 => ?_
  cases d3
  refine ⟨p, rfl, ?_⟩
  have F3 := (f1.trans f2 S.ok).trans f3 S.ok
  cases p with
  | false => exact k _ H3 H3' F3 (.bl _)
  | true =>
    have S3 := S2.fr f3
    refine hc He σ H3 H3' S3 _ fun w H4 H4' f4 d4 => ?_
    have S4 := S3.fr f4
    refine h2 H4 H4' u w S4.sub S4.ok (dp_mono f4.ex0 (dp_mono f3.ex0 d2)) d4 Q fun w5 H5 H5' f5 d5 => ?_
    exact k w5 H5 H5' ((F3.trans f4 S.ok).trans f5 S.ok) d5
/-- displays -/
theorem ed_tup {t : TA} (h : EvA ρ K t ds xs) (hl : xs.length ≤ 1000) : EvD ρ K (tTup t) ds (.tuple xs) := fun He σ H0 H S Q k => h He σ H0 H S _ fun vs H1 H1' f1 d1 => by
  refine ⟨Nat.le_trans (by rw [dpa_len d1]; exact hl) (by decide), fun p hp => ?_⟩
  have s1 := (S.fr f1).sub
  exact k _ _ _ (f1.trans (Frm.new s1 hp) S.ok) (.tup upd_same (dpa_mono (same_new (s1.free hp)) d1))
theorem ed_lst {t : TA} (h : EvA ρ K t ds xs) (hl : xs.length ≤ 1000) : EvD ρ K (tLst t) ds (.list xs) := fun He σ H0 H S Q k => h He σ H0 H S _ fun vs H1 H1' f1 d1 => by
  refine ⟨Nat.le_trans (by rw [dpa_len d1]; exact hl) (by decide), fun p hp => ?_⟩
  have s1 := (S.fr f1).sub
  exact k _ _ _ (f1.trans (Frm.new s1 hp) S.ok) (.lst upd_same (dpa_mono (same_new (s1.free hp)) d1))
theorem dv_tup {x1} (h : Av ρ X ds es xs) (hl : xs.length ≤ 1000) : Dv ρ X ds (.Tuple es x1 pos) (.tuple xs) := dv_of (pe_tup pa_w) (ed_tup h hl)
theorem dv_lst (h : Av ρ X ds es xs) (hl : xs.length ≤ 1000) : Dv ρ X ds (.List es pos) (.list xs) := dv_of (pe_lst pa_w) (ed_lst h hl)
theorem av_nil : Av ρ X ds [] [] := av_of pa_nil ea_nil
theorem av_cons (h : Dv ρ X ds e x) (hr : Av ρ X ds es xs) (hs : starEach (e :: es) X.env = (false, eval e X.env) :: starEach es X.env := by rfl) : Av ρ X ds (e :: es) (x :: xs) := av_of (pa_cons pe_w pa_w hs) (ea_cons h hr)
end
end K8
set_option maxHeartbeats 1000000
namespace K8
open PySem PySem.Spec PyProof.Rows L2

/-! ### places, slices -/
section
variable {K : PySem.W.Frag} {H : Hp}
theorem dpa_atI {vs : List V} {xs : List PyData} {i : Int} {z : PyData} (h : DsAll K H vs xs) (e : atI xs i = some z) : ∃ v, atI vs i = some v ∧ Ds K H v z := by
  unfold atI at e ⊢
  rw [dpa_len h]
  cases q : ixN xs.length i with
  | none => rw [q] at e; cases e
  | some j =>
    rw [q] at e
    exact dpa_at h e
theorem cutV_from (xs : List V) (k : Nat) : cutV xs (some (k : Int)) none = xs.drop k := by
  unfold cutV
  rw [HT.sIx_nat, HT.sIx_none]
  rcases Nat.le_total k xs.length with h | h
  · rw [Nat.min_eq_left h]
    exact List.take_of_length_le (by rw [List.length_drop]; exact Nat.le_refl _)
  · rw [Nat.min_eq_right h, List.drop_of_length_le (Nat.le_refl _), List.drop_of_length_le h, List.take_nil]
end
section
variable {ρ : Rho} {X : Cx} {ds : DEnv} {a b c e : Expr} {es : List Expr} {x y z d : PyData} {xs : List PyData} {pos p2 : Pos} {K : PySem.W.Frag} {r r' : R2} {p q : Bool} {i : Int}
theorem dv_ixL (ha : Dv ρ X ds a (.list xs)) (hb : Dv ρ X ds b (.int i)) (h : atI xs i = some z) (hs : PlainIx b := by exact fun _ _ => rfl) : Dv ρ X ds (.Subscript a b pos) z :=
  dv_of (pe_ix ix_list pe_w pe_w hs) (ed_op ha hb fun H0 H v u s k d1 d2 Q q => by
    obtain ⟨p, vs, rfl, h1, h2⟩ := seq_dp d1
    cases d2
    obtain ⟨v, e1, e2⟩ := dpa_atI h2 h
    exact ⟨p, vs, i, v, rfl, rfl, SqL.of (s _ _ h1), e1, q v H0 H (.refl s) e2⟩)
theorem dv_ixT (ha : Dv ρ X ds a (.tuple xs)) (hb : Dv ρ X ds b (.int i)) (h : atI xs i = some z) (hs : PlainIx b := by exact fun _ _ => rfl) : Dv ρ X ds (.Subscript a b pos) z :=
  dv_of (pe_ix ix_tup pe_w pe_w hs) (ed_op ha hb fun H0 H v u s k d1 d2 Q q => by
    obtain ⟨p, vs, rfl, h1, h2⟩ := tup_dp d1
    cases d2
    obtain ⟨v, e1, e2⟩ := dpa_atI h2 h
    exact ⟨p, vs, i, v, rfl, rfl, SqT.of (s _ _ h1), e1, q v H0 H (.refl s) e2⟩)
/-- xs[k:] -/
theorem dv_fromL {k : Nat} (ha : Dv ρ X ds a (.list xs)) (hb : Dv ρ X ds b (.int (k : Int))) : Dv ρ X ds (.Subscript a (.Slice (some b) none none p2) pos) (.list (xs.drop k)) :=
  dv_of (pe_slice sl_list pe_w (po_some pe_w) po_none) fun He σ H0 H S Q q => by
    refine ha He σ H0 H S _ fun v H1 H1' f1 d1 => ?_
    refine hb He σ H1 H1' (S.fr f1) _ fun u H2 H2' f2 d2 => ?_
    cases d2
    refine ⟨_, rfl, ?_⟩
    obtain ⟨p, vs, rfl, h1, h2⟩ := seq_dp d1
    have S2 := (S.fr f1).fr f2
    have F2 := f1.trans f2 S.ok
    refine ⟨p, vs, rfl, SqL.of ((f2.ex0.trans S2.sub) _ _ h1), fun l hl => ?_⟩
    rw [cutV_from]
    have n2 := S2.sub.free hl
    exact q _ _ _ (F2.trans (Frm.new S2.sub hl) S.ok) (.lst upd_same (dpa_mono (f2.ex0.trans (same_new n2)) (dpa_drop k h2)))
theorem dv_fromT {k : Nat} (ha : Dv ρ X ds a (.tuple xs)) (hb : Dv ρ X ds b (.int (k : Int))) (h0 : 0 < k) (h1 : 0 < xs.length) : Dv ρ X ds (.Subscript a (.Slice (some b) none none p2) pos) (.tuple (xs.drop k)) :=
  dv_of (pe_slice sl_tup pe_w (po_some pe_w) po_none) fun He σ H0 H S Q q => by
    refine ha He σ H0 H S _ fun v H1 H1' f1 d1 => ?_
    refine hb He σ H1 H1' (S.fr f1) _ fun u H2 H2' f2 d2 => ?_
    cases d2
    refine ⟨_, rfl, ?_⟩
    obtain ⟨p, vs, rfl, q1, q2⟩ := tup_dp d1
    have S2 := (S.fr f1).fr f2
    have F2 := f1.trans f2 S.ok
    have hl := dpa_len q2
    refine ⟨p, vs, rfl, SqT.of ((f2.ex0.trans S2.sub) _ _ q1), fun z => ?_, fun l hl => ?_⟩
    · have z1 := z.1
      rw [HT.sIx_nat] at z1
      omega
    · rw [cutV_from]
      have n2 := S2.sub.free hl
      exact q _ _ _ (F2.trans (Frm.new S2.sub hl) S.ok) (.tup upd_same (dpa_mono (f2.ex0.trans (same_new n2)) (dpa_drop k q2)))

/-! ### calls of built-ins -/
theorem av1 (h : Dv ρ X ds e x) (hs : starEach (e :: []) X.env = (false, eval e X.env) :: starEach [] X.env := by rfl) : Av ρ X ds [e] [x] := av_cons h av_nil hs
theorem av2 (h : Dv ρ X ds a x) (h2 : Dv ρ X ds b y) (hs : starEach (a :: b :: []) X.env = (false, eval a X.env) :: starEach (b :: []) X.env := by rfl) (hs2 : starEach (b :: []) X.env = (false, eval b X.env) :: starEach [] X.env := by rfl) : Av ρ X ds [a, b] [x, y] := av_cons h (av1 h2 hs2) hs
theorem dv_cb {nm : Str} {id : String} {r : List V → Hp → VK → Prop} {p : Pos} (hc : CallR X (.builtin id) r) (hv : bootBuiltins nm = some (.builtin id)) (hr : RcD ρ X.K r xs z) (hm : X.mg nm = none) (ha : Av ρ X ds (e :: es) xs) (hg : Gl X nm := by rfl) (hn : nm ≠ "__name__" := by decide) (hdb : (nm == ("__debug__" : Str)) = false := by decide)
    (he : starEach (e :: es) X.env = (false, eval e X.env) :: starEach es X.env := by rfl) (hpl : (backTo pos (starEach es X.env)).any (·.1) = false := by rfl) : Dv ρ X ds (.Call (.Name nm p) (e :: es) [] pos) z :=
  dv_of (pe_callB hc hg hm hv pa_w hn hdb he hpl) (ed_cb ha hr)
theorem dv_ct {nm : Str} {id : String} {r : List V → Hp → VK → Prop} {p : Pos} (hc : CallR X (.type id) r) (hv : bootBuiltins nm = some (.type id)) (hr : RcD ρ X.K r xs z) (hm : X.mg nm = none) (ha : Av ρ X ds (e :: es) xs) (hg : Gl X nm := by rfl) (hn : nm ≠ "__name__" := by decide) (hdb : (nm == ("__debug__" : Str)) = false := by decide)
    (he : starEach (e :: es) X.env = (false, eval e X.env) :: starEach es X.env := by rfl) (hpl : (backTo pos (starEach es X.env)).any (·.1) = false := by rfl) : Dv ρ X ds (.Call (.Name nm p) (e :: es) [] pos) z :=
  dv_of (pe_callTy hc hg hm hv pa_w hn hdb he hpl) (ed_cb ha hr)
theorem dpa_one {H : Hp} {vs : List V} (h : DsAll K H vs [x]) : ∃ v, vs = [v] ∧ Ds K H v x := by
  cases h with
  | cons d1 d2 =>
    cases d2
    exact ⟨_, rfl, d1⟩
theorem dpa_two {H : Hp} {vs : List V} (h : DsAll K H vs [x, y]) : ∃ v u, vs = [v, u] ∧ Ds K H v x ∧ Ds K H u y := by
  cases h with
  | cons d1 d2 =>
    obtain ⟨u, rfl, d3⟩ := dpa_one d2
    exact ⟨_, u, rfl, d1, d3⟩
theorem rc_lenT : RcD ρ K (fun xs H Q => ∃ p ys, xs = [.ref p] ∧ (SqL K H p ys ∨ SqT K H p ys) ∧ Q (.int ys.length) H) [.tuple xs] (.int xs.length) := fun H0 H vs s k d1 Q q => by
  obtain ⟨v, rfl, d⟩ := dpa_one d1
  obtain ⟨p, vs, rfl, q1, q2⟩ := tup_dp d
  refine ⟨p, vs, rfl, .inr (SqT.of (s _ _ q1)), ?_⟩
  rw [dpa_len q2]
  exact q _ H0 H (.refl s) (.int _)
theorem rc_lenL : RcD ρ K (fun xs H Q => ∃ p ys, xs = [.ref p] ∧ (SqL K H p ys ∨ SqT K H p ys) ∧ Q (.int ys.length) H) [.list xs] (.int xs.length) := fun H0 H vs s k d1 Q q => by
  obtain ⟨v, rfl, d⟩ := dpa_one d1
  obtain ⟨p, vs, rfl, q1, q2⟩ := seq_dp d
  refine ⟨p, vs, rfl, .inl (SqL.of (s _ _ q1)), ?_⟩
  rw [dpa_len q2]
  exact q _ H0 H (.refl s) (.int _)
theorem dv_lenT {p : Pos} (hm : X.mg "len" = none) (ha : Dv ρ X ds a (.tuple xs)) (hg : Gl X "len" := by rfl) (he : starEach (a :: []) X.env = (false, eval a X.env) :: starEach [] X.env := by rfl) (hpl : (backTo pos (starEach [] X.env)).any (·.1) = false := by rfl) : Dv ρ X ds (.Call (.Name "len" p) [a] [] pos) (.int xs.length) :=
  dv_cb call_len_seq PySem.boot_len rc_lenT hm (av1 ha he) hg (by decide) (by decide) he hpl
theorem dv_lenL {p : Pos} (hm : X.mg "len" = none) (ha : Dv ρ X ds a (.list xs)) (hg : Gl X "len" := by rfl) (he : starEach (a :: []) X.env = (false, eval a X.env) :: starEach [] X.env := by rfl) (hpl : (backTo pos (starEach [] X.env)).any (·.1) = false := by rfl) : Dv ρ X ds (.Call (.Name "len" p) [a] [] pos) (.int xs.length) :=
  dv_cb call_len_seq PySem.boot_len rc_lenL hm (av1 ha he) hg (by decide) (by decide) he hpl
theorem dp_bools {H : Hp} {v : V} {bs : List Bool} (h : Ds K H v (.list (bs.map .bool))) : ∃ p, v = .ref p ∧ H p = some (.lst (bs.map V.bl)) := by
  obtain ⟨p, vs, rfl, q1, q2⟩ := seq_dp h
  rw [dpa_bools_eq q2] at q1
  exact ⟨p, rfl, q1⟩
theorem dp_intsL {H : Hp} {v : V} {bs : List Int} (h : Ds K H v (.list (bs.map .int))) : ∃ p, v = .ref p ∧ H p = some (.lst (bs.map V.int)) := by
  obtain ⟨p, vs, rfl, q1, q2⟩ := seq_dp h
  rw [dpa_ints_eq q2] at q1
  exact ⟨p, rfl, q1⟩
theorem dp_intsT {H : Hp} {v : V} {bs : List Int} (h : Ds K H v (.tuple (bs.map .int))) : ∃ p, v = .ref p ∧ H p = some (.tup (bs.map V.int)) := by
  obtain ⟨p, vs, rfl, q1, q2⟩ := tup_dp h
  rw [dpa_ints_eq q2] at q1
  exact ⟨p, rfl, q1⟩
theorem rc_all {bs : List Bool} : RcD ρ K (rAll K) [.list (bs.map .bool)] (.bool (bs.all id)) := fun H0 H vs s k d1 Q q => by
  obtain ⟨v, rfl, d⟩ := dpa_one d1
  obtain ⟨p, rfl, q1⟩ := dp_bools d
  exact ⟨p, bs, rfl, SqL.of (s _ _ q1), q _ H0 H (.refl s) (.bl _)⟩
theorem rc_any {bs : List Bool} : RcD ρ K (rAny K) [.list (bs.map .bool)] (.bool (bs.any id)) := fun H0 H vs s k d1 Q q => by
  obtain ⟨v, rfl, d⟩ := dpa_one d1
  obtain ⟨p, rfl, q1⟩ := dp_bools d
  exact ⟨p, bs, rfl, SqL.of (s _ _ q1), q _ H0 H (.refl s) (.bl _)⟩
theorem rc_min {j : Int} : RcD ρ K (fun xs H Q => ∃ i j, xs = [.int i, .int j] ∧ Q (.int (if j < i then j else i)) H) [.int i, .int j] (.int (if j < i then j else i)) := fun H0 H vs s k d1 Q q => by
  obtain ⟨v, u, rfl, d, d'⟩ := dpa_two d1
  cases d
  cases d'
  exact ⟨i, j, rfl, q _ H0 H (.refl s) (.int _)⟩
theorem rc_int : RcD ρ K (fun xs H Q => (∃ i, xs = [.int i] ∧ Q (.int i) H) ∨ ∃ k, xs = [.bl k] ∧ Q (.int (if k then 1 else 0)) H) [.int i] (.int i) := fun H0 H vs s k d1 Q q => by
  obtain ⟨v, rfl, d⟩ := dpa_one d1
  cases d
  exact .inl ⟨i, rfl, q _ H0 H (.refl s) (.int _)⟩
/-- the greatest of a row of ints -/
def maxI : List Int → Int
  | [] => 0
  | x :: r => r.foldl max x
theorem foldl_max_ge : ∀ (r : List Int) (x : Int), x ≤ r.foldl max x ∧ ∀ y ∈ r, y ≤ r.foldl max x
  | [], x => ⟨Int.le_refl _, by simp⟩
  | y :: r, x => by
    obtain ⟨h1, h2⟩ := foldl_max_ge r (max x y)
    refine ⟨Int.le_trans (Int.le_max_left x y) h1, fun z hz => ?_⟩
    rcases List.mem_cons.mp hz with e | hz
    · rw [e]; exact Int.le_trans (Int.le_max_right x y) h1
    · exact h2 z hz
theorem foldl_max_mem : ∀ (r : List Int) (x : Int), r.foldl max x = x ∨ r.foldl max x ∈ r
  | [], x => .inl rfl
  | y :: r, x => by
    rcases foldl_max_mem r (max x y) with h | h
    · rw [List.foldl_cons, h]
      rcases Int.le_total x y with q | q
      · rw [Int.max_eq_right q]; exact .inr List.mem_cons_self
      · rw [Int.max_eq_left q]; exact .inl rfl
    · exact .inr (List.mem_cons_of_mem _ h)
theorem maxI_mem {l : List Int} (h : l ≠ []) : maxI l ∈ l := by
  cases l with
  | nil => exact absurd rfl h
  | cons x r =>
    rcases foldl_max_mem r x with e | e
    · show r.foldl max x ∈ x :: r
      rw [e]; exact List.mem_cons_self
    · exact List.mem_cons_of_mem _ e
theorem le_maxI {l : List Int} {y : Int} (h : y ∈ l) : y ≤ maxI l := by
  cases l with
  | nil => simp at h
  | cons x r =>
    obtain ⟨h1, h2⟩ := foldl_max_ge r x
    rcases List.mem_cons.mp h with e | h
    · rw [e]; exact h1
    · exact h2 y h
theorem maxI_uniq {l : List Int} {m : Int} (h1 : m ∈ l) (h2 : ∀ y ∈ l, y ≤ m) : m = maxI l :=
  Int.le_antisymm (le_maxI h1) (h2 _ (maxI_mem (List.ne_nil_of_mem h1)))
theorem rc_max {ns : List Int} (hne : ns ≠ []) : RcD ρ K (rMax K) [.list (ns.map .int)] (.int (maxI ns)) := fun H0 H vs s k d1 Q q => by
  obtain ⟨v, rfl, d⟩ := dpa_one d1
  obtain ⟨p, rfl, q1⟩ := dp_intsL d
  refine ⟨p, ns, rfl, SqL.of (s _ _ q1), List.length_pos_iff.mpr hne, fun m h1 h2 => ?_⟩
  rw [maxI_uniq h1 h2]
  exact q _ H0 H (.refl s) (.int _)
/-- sorted: by places, the one rising row -/
def insI (x : Int) : List Int → List Int
  | [] => [x]
  | y :: r => if x ≤ y then x :: y :: r else y :: insI x r
def isort : List Int → List Int
  | [] => []
  | x :: r => insI x (isort r)
theorem insI_perm (x : Int) : ∀ l, (insI x l).Perm (x :: l)
  | [] => List.Perm.refl _
  | y :: r => by
    unfold insI
    split
    · exact List.Perm.refl _
    · exact ((insI_perm x r).cons y).trans (List.Perm.swap x y r)
theorem isort_perm : ∀ l, (isort l).Perm l
  | [] => List.Perm.refl _
  | x :: r => (insI_perm x (isort r)).trans ((isort_perm r).cons x)
theorem insI_up (x : Int) : ∀ {l : List Int}, l.Pairwise (· ≤ ·) → (insI x l).Pairwise (· ≤ ·)
  | [], _ => by simp [insI]
  | y :: r, h => by
    have h' := List.pairwise_cons.mp h
    unfold insI
    split
    · rename_i hxy
      refine List.pairwise_cons.mpr ⟨fun z hz => ?_, h⟩
      rcases List.mem_cons.mp hz with e | hz
      · rw [e]; exact hxy
      · exact Int.le_trans hxy (h'.1 z hz)
    · rename_i hxy
      refine List.pairwise_cons.mpr ⟨fun z hz => ?_, insI_up x h'.2⟩
      rcases List.mem_cons.mp ((insI_perm x r).mem_iff.mp hz) with e | hz
      · rw [e]; omega
      · exact h'.1 z hz
theorem isort_up : ∀ l, (isort l).Pairwise (· ≤ ·)
  | [] => List.Pairwise.nil
  | x :: r => insI_up x (isort_up r)
theorem up_uniq : ∀ {l l' : List Int}, l.Perm l' → l.Pairwise (· ≤ ·) → l'.Pairwise (· ≤ ·) → l = l'
  | [], l', h, _, _ => (List.Perm.nil_eq h)
  | x :: r, [], h, _, _ => by have := h.length_eq; simp at this
  | x :: r, y :: r', h, h1, h2 => by
    have a1 := List.pairwise_cons.mp h1
    have a2 := List.pairwise_cons.mp h2
    have e : x = y := by
      have m1 : x ∈ y :: r' := h.mem_iff.mp List.mem_cons_self
      have m2 : y ∈ x :: r := h.mem_iff.mpr List.mem_cons_self
      rcases List.mem_cons.mp m1 with q | q
      · exact q
      · rcases List.mem_cons.mp m2 with q2 | q2
        · exact q2.symm
        · exact Int.le_antisymm (a1.1 y q2) (a2.1 x q)
    subst e
    rw [up_uniq (List.Perm.cons_inv h) a1.2 a2.2]
theorem rc_sorted {ns : List Int} : RcD ρ K (rSortedI K) [.list (ns.map .int)] (.list ((isort ns).map .int)) := fun H0 H vs s k d1 Q q => by
  obtain ⟨v, rfl, d⟩ := dpa_one d1
  obtain ⟨p, rfl, q1⟩ := dp_intsL d
  refine ⟨p, ns, rfl, SqL.of (s _ _ q1), fun ns' l h1 h2 hl => ?_⟩
  rw [up_uniq (h1.trans (isort_perm ns).symm) h2 (isort_up ns)]
  exact q _ _ _ (Frm.new s hl) (.lst upd_same (dpa_ints _))
/-- tuple(xs), list(range(n)), tuple(range(n)) -/
theorem rc_tupL : RcD ρ K (fun xs H Q => ∃ p ys, xs = [.ref p] ∧ ((SqL K H p ys ∧ ∀ l, H l = none → Q (.ref l) (upd H l (.tup ys))) ∨ (SqT K H p ys ∧ Q (.ref p) H))) [.list xs] (.tuple xs) := fun H0 H vs s k d1 Q q => by
  obtain ⟨v, rfl, d⟩ := dpa_one d1
  obtain ⟨p, vs, rfl, q1, q2⟩ := seq_dp d
  refine ⟨p, vs, rfl, .inl ⟨SqL.of (s _ _ q1), fun l hl => ?_⟩⟩
  exact q _ _ _ (Frm.new s hl) (.tup upd_same (dpa_mono (same_new (s.free hl)) q2))
def rangeI (n : Int) : List Int := (List.range n.toNat).map fun (k : Nat) => (k : Int)
theorem rgV_eq (n : Int) : rgV 0 n = (rangeI n).map V.int := by
  unfold rgV rangeI
  rw [List.map_map, Int.sub_zero]
  refine List.map_congr_left fun k _ => ?_
  show V.int (0 + (k : Int)) = V.int (k : Int)
  rw [Int.zero_add]
theorem ed_tupRg {ta : TE} (ha : EvD ρ K ta ds (.int i)) (h0 : 0 ≤ i) (h1 : i ≤ 1000) : EvD ρ K (tTupRg (tRg1 ta)) ds (.tuple ((rangeI i).map .int)) := fun He σ H0 H S Q q => ha He σ H0 H S _ fun v H1 H1' f d => by
  cases d
  refine ⟨i, rfl, RgOk.of_le (by omega) (by omega) (by omega) (by omega), fun l hl => ?_⟩
  rw [rgV_eq]
  exact q _ _ _ (f.trans (Frm.new f.sub hl) S.ok) (.tup upd_same (dpa_ints _))
theorem ed_lstRg {ta : TE} (ha : EvD ρ K ta ds (.int i)) (h0 : 0 ≤ i) (h1 : i ≤ 1000) : EvD ρ K (tLstRg (tRg1 ta)) ds (.list ((rangeI i).map .int)) := fun He σ H0 H S Q q => ha He σ H0 H S _ fun v H1 H1' f d => by
  cases d
  refine ⟨i, rfl, RgOk.of_le (by omega) (by omega) (by omega) (by omega), fun l hl => ?_⟩
  rw [rgV_eq]
  exact q _ _ _ (f.trans (Frm.new f.sub hl) S.ok) (.lst upd_same (dpa_ints _))
theorem dv_tupRg {p p' : Pos} {pos' : Pos} (hc : X.calm = true) (ht : X.mg "tuple" = none) (hr : X.mg "range" = none) (ha : Dv ρ X ds a (.int i)) (h0 : 0 ≤ i) (h1 : i ≤ 1000) (hg : Gl X "tuple" := by rfl) (hg2 : Gl X "range" := by rfl)
    (n1 : starEach [Expr.Call (.Name "range" p') [a] [] pos'] X.env = (false, eval (.Call (.Name "range" p') [a] [] pos') X.env) :: starEach [] X.env := by rfl) (n2 : starEach [a] X.env = (false, eval a X.env) :: starEach [] X.env := by rfl) :
    Dv ρ X ds (.Call (.Name "tuple" p) [.Call (.Name "range" p') [a] [] pos'] [] pos) (.tuple ((rangeI i).map .int)) := dv_of (pe_tupRg hc hg ht (prg_1 hg2 hr pe_w n2) n1) (ed_tupRg ha h0 h1)
theorem dv_lstRg {p p' : Pos} {pos' : Pos} (hc : X.calm = true) (ht : X.mg "list" = none) (hr : X.mg "range" = none) (ha : Dv ρ X ds a (.int i)) (h0 : 0 ≤ i) (h1 : i ≤ 1000) (hg : Gl X "list" := by rfl) (hg2 : Gl X "range" := by rfl)
    (n1 : starEach [Expr.Call (.Name "range" p') [a] [] pos'] X.env = (false, eval (.Call (.Name "range" p') [a] [] pos') X.env) :: starEach [] X.env := by rfl) (n2 : starEach [a] X.env = (false, eval a X.env) :: starEach [] X.env := by rfl) :
    Dv ρ X ds (.Call (.Name "list" p) [.Call (.Name "range" p') [a] [] pos'] [] pos) (.list ((rangeI i).map .int)) := dv_of (pe_listRg hc hg ht (prg_1 hg2 hr pe_w n2) n1) (ed_lstRg ha h0 h1)
/-- t + u of any tuples; xs + ys of lists; [*t, x] -/
theorem dv_catT {ys : List PyData} (ha : Dv ρ X ds a (.tuple xs)) (hb : Dv ρ X ds b (.tuple ys)) (hz : xs.length + ys.length ≤ 1000) : Dv ρ X ds (.BinOp a .Add b pos) (.tuple (xs ++ ys)) :=
  dv_of (pe_op op_catA pe_w pe_w) (ed_op ha hb fun H0 H v u s k d1 d2 Q q => by
    obtain ⟨p, vs, rfl, q1, q2⟩ := tup_dp d1
    obtain ⟨p', vs', rfl, q3, q4⟩ := tup_dp d2
    have l1 := dpa_len q2
    have l2 := dpa_len q4
    refine ⟨p, p', vs, vs', rfl, rfl, SqT.of (s _ _ q1), SqT.of (s _ _ q3), Nat.le_trans (by rw [l1, l2]; exact hz) (by decide : 1000 ≤ sizeLine), fun e => ?_, fun _ e => ?_, fun _ _ l hl => ?_⟩
    · subst e
      cases q2
      exact q _ H0 H (.refl s) d2
    · subst e
      cases q4
      rw [List.append_nil] at q
      exact q _ H0 H (.refl s) d1
    · have n0 := same_new (o := HO.tup (vs ++ vs')) (s.free hl)
      exact q _ _ _ (Frm.new s hl) (.tup upd_same (dpa_app (dpa_mono n0 q2) (dpa_mono n0 q4))))
theorem dv_catL {ys : List PyData} (ha : Dv ρ X ds a (.list xs)) (hb : Dv ρ X ds b (.list ys)) (hz : xs.length + ys.length ≤ 1000) : Dv ρ X ds (.BinOp a .Add b pos) (.list (xs ++ ys)) :=
  dv_of (pe_op op_cat pe_w pe_w) (ed_op ha hb fun H0 H v u s k d1 d2 Q q => by
    obtain ⟨p, vs, rfl, q1, q2⟩ := seq_dp d1
    obtain ⟨p', vs', rfl, q3, q4⟩ := seq_dp d2
    have l1 := dpa_len q2
    have l2 := dpa_len q4
    refine ⟨p, p', vs, vs', rfl, rfl, s _ _ q1, s _ _ q3, Nat.le_trans (by rw [l1, l2]; exact hz) (by decide : 1000 ≤ sizeLine), fun l hl => ?_⟩
    have n0 := same_new (o := HO.lst (vs ++ vs')) (s.free hl)
    exact q _ _ _ (Frm.new s hl) (.lst upd_same (dpa_app (dpa_mono n0 q2) (dpa_mono n0 q4))))
theorem ea_star {te : TE} {t : TA} {es : List PyData} (h : EvD ρ K te ds (.tuple xs) ∨ EvD ρ K te ds (.list xs)) (hr : EvA ρ K t ds es) : EvA ρ K (StX.tStar K te t) ds (xs ++ es) := fun He σ H0 H S Q q => by
  rcases h with h | h
  · refine h He σ H0 H S _ fun v H1 H1' f1 d1 => ?_
    obtain ⟨p, vs, rfl, q1, q2⟩ := tup_dp d1
    refine ⟨p, vs, rfl, .inl (SqT.of (f1.sub _ _ q1)), ?_⟩
    exact hr He σ H1 H1' (S.fr f1) _ fun ws H2 H2' f2 d2 => q _ H2 H2' (f1.trans f2 S.ok) (dpa_app (dpa_mono f2.ex0 q2) d2)
  · refine h He σ H0 H S _ fun v H1 H1' f1 d1 => ?_
    obtain ⟨p, vs, rfl, q1, q2⟩ := seq_dp d1
    refine ⟨p, vs, rfl, .inr (SqL.of (f1.sub _ _ q1)), ?_⟩
    exact hr He σ H1 H1' (S.fr f1) _ fun ws H2 H2' f2 d2 => q _ H2 H2' (f1.trans f2 S.ok) (dpa_app (dpa_mono f2.ex0 q2) d2)
theorem av_starT {p : Pos} {ys : List PyData} (h : Dv ρ X ds e (.tuple xs)) (hr : Av ρ X ds es ys) (hs : starEach (.Starred e p :: es) X.env = (true, eval e X.env) :: starEach es X.env := by rfl) : Av ρ X ds (.Starred e p :: es) (xs ++ ys) :=
  av_of (StX.pa_star pe_w pa_w hs) (ea_star (.inl h) hr)
theorem av_starL {p : Pos} {ys : List PyData} (h : Dv ρ X ds e (.list xs)) (hr : Av ρ X ds es ys) (hs : starEach (.Starred e p :: es) X.env = (true, eval e X.env) :: starEach es X.env := by rfl) : Av ρ X ds (.Starred e p :: es) (xs ++ ys) :=
  av_of (StX.pa_star pe_w pa_w hs) (ea_star (.inr h) hr)

/-! ### isinstance -/
def tyD : PyData → String
  | .none => "NoneType"
  | .bool _ => "bool"
  | .int _ => "int"
  | .str _ => "str"
  | .list _ => "list"
  | .tuple _ => "tuple"
  | .dict _ => "dict"
theorem ty_of {H : Hp} {v : V} (h : Ds K H v x) : TyX K H v (.type (tyD x)) := by
  cases h with
  | non => exact .base .non
  | bl b => exact .base (.bl b)
  | int i => exact .base (.int i)
  | str s => exact .base (.str s)
  | lst h k => exact .base (.lst h)
  | tup h k => exact .base (.tup h)
theorem rc_isi {cl : String} (h : kitB (tyD x) cl = some p) : ∀ H0 H vs, Same H0 H → ρ.ok H → (∃ v, vs = [v, .ty cl] ∧ Ds K H0 v x) → ∀ Q : VK, (∀ w H0' H', Frm ρ H0 H H0' H' → Ds K H0' w (.bool p) → Q w H') → rIsi K vs H Q := fun H0 H vs s k d1 Q q => by
  obtain ⟨v, rfl, d⟩ := d1
  exact ⟨v, _, _, _, p, rfl, .ty cl, ty_of (dp_mono s d), kit_ty h, q _ H0 H (.refl s) (.bl _)⟩
/-- isinstance(x, T) -/
theorem dv_isi {cl : String} {nm : Str} {p1 p2 : Pos} (ha : Dv ρ X ds a x) (h : kitB (tyD x) cl = some p) (hv : bootBuiltins nm = some (.type cl)) (hm : X.mg "isinstance" = none) (hm2 : X.mg nm = none) (hg : Gl X "isinstance" := by rfl) (hg2 : Gl X nm := by rfl) (hn : nm ≠ "__name__" := by decide) (hdb : (nm == ("__debug__" : Str)) = false := by decide)
    (he : starEach (a :: .Name nm p1 :: []) X.env = (false, eval a X.env) :: starEach (.Name nm p1 :: []) X.env := by rfl) (he2 : starEach (Expr.Name nm p1 :: []) X.env = (false, eval (.Name nm p1) X.env) :: starEach [] X.env := by rfl)
    (hpl : (backTo pos (starEach (Expr.Name nm p1 :: []) X.env)).any (·.1) = false := by rfl) : Dv ρ X ds (.Call (.Name "isinstance" p2) [a, .Name nm p1] [] pos) (.bool p) :=
  dv_of (pe_callB call_isi hg hm PyProof.Rows.boot_isinstance (pa_cons pe_w (pa_cons (pe_bltn (v := .ty cl) hg2 hm2 hv rfl hn hdb) pa_nil he2) he) (by decide) (by decide) he hpl) fun He σ H0 H S Q q => by
    refine ha He σ H0 H S _ fun v H1 H1' f1 d1 => ?_
    have S1 := S.fr f1
    exact rc_isi h H1 H1' _ S1.sub S1.ok ⟨v, rfl, d1⟩ Q fun w H2 H2' f2 d2 => q w H2 H2' (f1.trans f2 S.ok) d2
end
end K8
set_option maxHeartbeats 1000000
namespace K8
open PySem PySem.Spec PyProof.Rows L2

theorem dpa_one_mono {K : PySem.W.Frag} {H H' : Hp} {v : V} {d : PyData} (s : Same H H') (h : Ds K H v d) : Ds K H' v d := dp_mono s h
/-! ### what a loop walks: items as, each bound by bind -/
def Src (ρ : Rho) (K : PySem.W.Frag) (wi : TI) (g : TG) (ds : DEnv) {α : Type} (as : List α) (bind : α → DEnv → DEnv) (tgs : List Nat) : Prop :=
  ∀ He σ H0 H, Sat K ρ He H0 H σ ds → ∀ R : It → Hp → Prop,
    (∀ J H0' H', Frm ρ H0 H H0' H' →
      (∀ (i : Nat) H1 H1', Same H0' H1 → Same H1 H1' → ρ.ok H1' → as.length ≤ i → J.stop i H1') →
      (∀ (i : Nat) (a : α) H1 H1', Same H0' H1 → Same H1 H1' → ρ.ok H1' → as[i]? = some a → J.go i H1' ∧ ∀ x Hy, J.yld i H1' x Hy →
        ∃ H2, Frm ρ H1 H1' H2 Hy ∧ ∀ He' σ' ds', Sat K ρ He' H2 Hy σ' ds' → ∀ Q' : L2.St → Hp → Prop,
          (∀ σ2, Sat K ρ He' H2 Hy σ2 (bind a ds') → (∀ k, k ∉ tgs → σ2[k]? = σ'[k]?) → σ2.length = σ'.length → Q' σ2 Hy) → g x σ' Hy Q') →
      R J H') → wi σ H R
section
variable {ρ : Rho} {K : PySem.W.Frag} {ds : DEnv} {α : Type} {as : List α} {bind : α → DEnv → DEnv} {tgs vs : List Nat} {wi : TI} {g : TG} {tt : TT} {te : TE}
theorem take_more {i : Nat} (h : i < as.length) : as.take (i + 1) = as.take i ++ [as[i]] := by
  rw [List.take_add_one, List.getElem?_eq_getElem h]
  rfl
theorem out_yes {p : α → Bool} {f : α → PyData} {i : Nat} (h : i < as.length) (hp : p as[i] = true) : ((as.take (i + 1)).filter p).map f = ((as.take i).filter p).map f ++ [f as[i]] := by
  rw [take_more h, List.filter_append, List.map_append, List.filter_cons, if_pos hp]
  rfl
theorem out_no {p : α → Bool} {f : α → PyData} {i : Nat} (h : i < as.length) (hp : p as[i] = false) : ((as.take (i + 1)).filter p).map f = ((as.take i).filter p).map f := by
  rw [take_more h, List.filter_append, List.map_append, List.filter_cons, if_neg (by rw [hp]; decide)]
  exact List.append_nil _
theorem out_len {p : α → Bool} {f : α → PyData} {i : Nat} : (((as.take i).filter p).map f).length ≤ as.length := by
  rw [List.length_map]
  refine Nat.le_trans (List.length_filter_le _ _) ?_
  rw [List.length_take]
  exact Nat.min_le_right _ _
theorem ed_lc (src : Src ρ K wi g ds as bind tgs) (htg : ∀ j ∈ tgs, j ∈ vs) (p : α → Bool) (f : α → PyData) (hz : as.length ≤ 1000)
    (ht : ∀ a ∈ as, EvT ρ K tt (bind a (wipeE ds vs)) (p a)) (he : ∀ a ∈ as, p a = true → EvD ρ K te (bind a (wipeE ds vs)) (f a)) : EvD ρ K (tLc wi g tt te vs) ds (.list ((as.filter p).map f)) := by
  intro He σ H0 H S Q q
  refine src He σ H0 H S _ fun J H0' H' f0 stop go => ?_
  intro D hD
  have S0 := S.fr f0
  have aD := Rho.new S0.ok hD
  have nD : H0' D = none := S0.sub.free hD
  refine ⟨fun i m Hc => m = as.length - i ∧ i ≤ as.length ∧ ∃ H1 ws, Frm ρ H0' H' H1 Hc ∧ H1 D = none ∧ Hc D = some (.lst ws) ∧ DsAll K H1 ws (((as.take i).filter p).map f),
    ⟨as.length, rfl, Nat.zero_le _, H0', [], ⟨Same.refl _, S0.sub.trans (same_new hD), fun b o _ e => same_new hD b o e, fun b e _ => e, fun k => Rho.same k (same_new hD)⟩, nD, upd_same, .nil⟩, ?_⟩
  rintro i m Hc ⟨rfl, hi, H1, ws, fr, h1, h2, h3⟩
  have S1 : Sat K ρ He H1 Hc σ ds := S0.fr fr
  by_cases hlt : i < as.length
  · obtain ⟨hgo, hy⟩ := go i as[i] H1 Hc fr.ex0 S1.sub S1.ok (List.getElem?_eq_getElem hlt)
    refine .inr ⟨hgo, fun Hn => ∃ H1 ws, Frm ρ H0' H' H1 Hn ∧ H1 D = none ∧ Hn D = some (.lst ws) ∧ DsAll K H1 ws (((as.take (i + 1)).filter p).map f), fun Hn hn => ⟨as.length - (i + 1), by omega, rfl, hlt, hn⟩, fun x Hy y => ?_⟩
    obtain ⟨H2, f2, hg⟩ := hy x Hy y
    have S2 := (S1.fr f2).wiped vs
    refine hg He (wipe σ vs) (wipeE ds vs) S2 _ fun σ2 S3 hk hl => ⟨wipe_again hl hk htg, ?_⟩
    have hm : as[i] ∈ as := List.getElem_mem hlt
    refine ht _ hm He σ2 H2 Hy S3 _ fun H3 H3' f3 => ?_
    have F2 := fr.trans f2 S0.ok
    have F3 := F2.trans f3 S0.ok
    have d2 : Hy D = some (.lst ws) := f2.fr D _ aD h2
    have n2 : H2 D = none := f2.sep D h1 (by rw [h2]; exact fun z => nomatch z)
    have d3 : H3' D = some (.lst ws) := f3.fr D _ aD d2
    have n3 : H3 D = none := f3.sep D n2 (by rw [d2]; exact fun z => nomatch z)
    show if p as[i] = true then te σ2 H3' fun y H4 => ∃ acc, H4 D = some (.lst acc) ∧ acc.length < sizeLine ∧ ∃ H1 ws, Frm ρ H0' H' H1 (upd H4 D (.lst (acc ++ [y]))) ∧ H1 D = none ∧ (upd H4 D (.lst (acc ++ [y]))) D = some (.lst ws) ∧ DsAll K H1 ws (((as.take (i + 1)).filter p).map f)
      else ∃ H1 ws, Frm ρ H0' H' H1 H3' ∧ H1 D = none ∧ H3' D = some (.lst ws) ∧ DsAll K H1 ws (((as.take (i + 1)).filter p).map f)
    by_cases hp : p as[i] = true
    · rw [if_pos hp]
      refine he _ hm hp He σ2 H3 H3' (S3.fr f3) _ fun v H4 H4' f4 d4 => ?_
      have F4 := F3.trans f4 S0.ok
      have c4 : H4' D = some (.lst ws) := f4.fr D _ aD d3
      have n4 : H4 D = none := f4.sep D n3 (by rw [d3]; exact fun z => nomatch z)
      have hw := dpa_len h3
      have hw2 := out_len (as := as) (p := p) (f := f) (i := i)
      refine ⟨ws, c4, Nat.lt_of_le_of_lt (Nat.le_trans (by rw [hw]; exact hw2) hz) (by decide : 1000 < sizeLine), H4, ws ++ [v], ⟨F4.ex0, same_mut F4.sub n4, fun b o e h => ?_, F4.sep, fun k => ρ.up _ _ (F4.ok k) fun b hb => ?_⟩, n4, upd_same, ?_⟩
      · rw [upd_ne (ne_of_none h hD)]
        exact F4.fr b o e h
      · refine upd_ne fun z => ?_
        rw [z, aD] at hb
        exact Bool.noConfusion hb
      · rw [out_yes hlt hp]
        exact dpa_app (dpa_mono f4.ex0 (dpa_mono f3.ex0 (dpa_mono f2.ex0 h3))) (.cons d4 .nil)
    · have hp' : p as[i] = false := by
        cases e : p as[i] with
        | true => exact absurd e hp
        | false => rfl
      rw [if_neg hp, out_no hlt hp']
      exact ⟨H3, ws, F3, n3, d3, dpa_mono f3.ex0 (dpa_mono f2.ex0 h3)⟩
  · have e : i = as.length := by omega
    subst e
    refine .inl ⟨stop _ H1 Hc fr.ex0 S1.sub S1.ok (Nat.le_refl _), ?_⟩
    rw [List.take_length] at h3
    have F := f0.trans fr S.ok
    refine q _ (upd H1 D (.lst ws)) Hc ⟨F.ex0.trans (same_new h1), fun b o e => ?_, F.fr, fun b e1 e2 => ?_, F.ok⟩ (.lst upd_same (dpa_mono (same_new h1) h3))
    · by_cases hb : b = D
      · subst hb
        rw [upd_same] at e
        rw [h2, ← e]
      · rw [upd_ne hb] at e
        exact fr.sub b o e
    · rw [upd_ne fun z => ?_]
      · exact F.sep b e1 e2
      · have := f0.th S.ok e2
        rw [z] at this
        exact this hD
end
/-! ### sources -/
section
variable {ρ : Rho} {K : PySem.W.Frag} {ds : DEnv} {He H0 H : Hp} {σ : L2.St}
theorem set_out {i k : Nat} {v : Option V} (h : k ∉ [i]) : (σ.set i v)[k]? = σ[k]? := List.getElem?_set_ne fun z => h (by rw [z]; exact List.mem_cons_self)
variable {α : Type}
theorem at_map {xs : List α} {f : α → PyData} {i : Nat} {a : α} (h : xs[i]? = some a) : (xs.map f)[i]? = some (f a) := by rw [List.getElem?_map, h]; rfl
/-- x over a list, over a tuple, over a range -/
theorem src_list {tl : TE} {as : List α} {f : α → PyData} (j : Nat) (h : EvD ρ K tl ds (.list (as.map f))) : Src ρ K (iList K tl) (gName j) ds as (fun x e => e.set j (some (.d (f x)))) [j] := fun He σ H0 H S R k => by
  refine h He σ H0 H S _ fun v H1 H1' g d => ?_
  obtain ⟨p, vs, rfl, q1, q2⟩ := seq_dp d
  have hl := dpa_len q2
  rw [List.length_map] at hl
  refine ⟨p, rfl, ⟨vs, SqL.of (g.sub _ _ q1)⟩, k _ H1 H1' g (fun i H2 H2' s1 s2 _ hi => ⟨vs, SqL.of (s2 _ _ (s1 _ _ q1)), by rw [hl]; exact hi⟩) fun i a H2 H2' s1 s2 _ ha => ?_⟩
  obtain ⟨v, hv, dv⟩ := dpa_at q2 (at_map ha)
  refine ⟨⟨vs, v, SqL.of (s2 _ _ (s1 _ _ q1)), hv⟩, fun x Hy y => ?_⟩
  obtain ⟨rfl, y⟩ := y
  have ex : vs[i]? = some x := y vs (SqL.of (s2 _ _ (s1 _ _ q1)))
  rw [hv] at ex
  cases ex
  exact ⟨H2, .refl s2, fun He' σ' ds' S' Q' k' => k' _ (S'.set (dp_mono s1 dv)) (fun k hk => set_out hk) (by rw [List.length_set])⟩
theorem src_tup {tl : TE} {as : List α} {f : α → PyData} (j : Nat) (h : EvD ρ K tl ds (.tuple (as.map f))) : Src ρ K (iTup K tl) (gName j) ds as (fun x e => e.set j (some (.d (f x)))) [j] := fun He σ H0 H S R k => by
  refine h He σ H0 H S _ fun v H1 H1' g d => ?_
  obtain ⟨p, vs, rfl, q1, q2⟩ := tup_dp d
  have hl := dpa_len q2
  rw [List.length_map] at hl
  refine ⟨p, rfl, ⟨vs, SqT.of (g.sub _ _ q1)⟩, k _ H1 H1' g (fun i H2 H2' s1 s2 _ hi => ⟨vs, SqT.of (s2 _ _ (s1 _ _ q1)), by rw [hl]; exact hi⟩) fun i a H2 H2' s1 s2 _ ha => ?_⟩
  obtain ⟨v, hv, dv⟩ := dpa_at q2 (at_map ha)
  refine ⟨⟨vs, v, SqT.of (s2 _ _ (s1 _ _ q1)), hv⟩, fun x Hy y => ?_⟩
  obtain ⟨rfl, y⟩ := y
  have ex : vs[i]? = some x := y vs (SqT.of (s2 _ _ (s1 _ _ q1)))
  rw [hv] at ex
  cases ex
  exact ⟨H2, .refl s2, fun He' σ' ds' S' Q' k' => k' _ (S'.set (dp_mono s1 dv)) (fun k hk => set_out hk) (by rw [List.length_set])⟩
theorem rangeI_len (n : Int) : (rangeI n).length = n.toNat := by unfold rangeI; rw [List.length_map, List.length_range]
theorem rangeI_at {n : Int} {i : Nat} {a : Int} (h : (rangeI n)[i]? = some a) : i < n.toNat ∧ a = (i : Int) := by
  have hi : i < (rangeI n).length := (List.getElem?_eq_some_iff.mp h).1
  rw [rangeI_len] at hi
  refine ⟨hi, ?_⟩
  unfold rangeI at h
  rw [List.getElem?_map, List.getElem?_range hi] at h
  exact (Option.some.inj h).symm
theorem src_rng {ta : TA} {n : Int} (j : Nat) (h : EvA ρ K ta ds [.int n]) (h1 : n ≤ 1000) (h0 : -1000 ≤ n) : Src ρ K (iRng1 ta) (gName j) ds (rangeI n) (fun x e => e.set j (some (.d (.int x)))) [j] := fun He σ H0 H S R k => by
  refine h He σ H0 H S _ fun vs H1 H1' g d => ?_
  obtain ⟨v, rfl, d2⟩ := dpa_one d
  cases d2
  refine ⟨n, rfl, by omega, by omega, k _ H1 H1' g (fun i H2 H2' s1 s2 _ hi => by rw [rangeI_len] at hi; exact hi) fun i a H2 H2' s1 s2 _ ha => ?_⟩
  obtain ⟨hi, rfl⟩ := rangeI_at ha
  refine ⟨hi, fun x Hy y => ?_⟩
  obtain ⟨rfl, rfl⟩ := y
  refine ⟨H2, .refl s2, fun He' σ' ds' S' Q' k' => k' _ (S'.set ?_) (fun k hk => set_out hk) (by rw [List.length_set])⟩
  rw [Int.zero_add]
  exact .int _
/-- lo, lo + 1, .. below hi -/
def rangeF (lo hi : Int) : List Int := (List.range (hi - lo).toNat).map fun (k : Nat) => lo + (k : Int)
theorem rangeF_len (lo hi : Int) : (rangeF lo hi).length = (hi - lo).toNat := by unfold rangeF; rw [List.length_map, List.length_range]
theorem rangeF_at {lo hi : Int} {i : Nat} {a : Int} (h : (rangeF lo hi)[i]? = some a) : i < (hi - lo).toNat ∧ a = lo + (i : Int) := by
  have hi' : i < (rangeF lo hi).length := (List.getElem?_eq_some_iff.mp h).1
  rw [rangeF_len] at hi'
  refine ⟨hi', ?_⟩
  unfold rangeF at h
  rw [List.getElem?_map, List.getElem?_range hi'] at h
  exact (Option.some.inj h).symm
theorem src_rng2 {ta : TA} {lo n : Int} (j : Nat) (h : EvA ρ K ta ds [.int lo, .int n]) (h1 : n ≤ 1000) (h0 : -1000 ≤ n) (h2 : -1000 ≤ lo) (h3 : lo ≤ 1000) : Src ρ K (iRng2 ta) (gName j) ds (rangeF lo n) (fun x e => e.set j (some (.d (.int x)))) [j] := fun He σ H0 H S R k => by
  refine h He σ H0 H S _ fun vs H1 H1' g d => ?_
  obtain ⟨v, u, rfl, d, d'⟩ := dpa_two d
  cases d
  cases d'
  refine ⟨lo, n, rfl, by omega, k _ H1 H1' g (fun i H2 H2' s1 s2 _ hi => by rw [rangeF_len] at hi; exact hi) fun i a H2 H2' s1 s2 _ ha => ?_⟩
  obtain ⟨hi, rfl⟩ := rangeF_at ha
  refine ⟨hi, fun x Hy y => ?_⟩
  obtain ⟨rfl, rfl⟩ := y
  exact ⟨H2, .refl s2, fun He' σ' ds' S' Q' k' => k' _ (S'.set (.int _)) (fun k hk => set_out hk) (by rw [List.length_set])⟩
/-- two names at once -/
def gPair (K : PySem.W.Frag) (i j : Nat) : TG := gTup K 2 (gCons (gName i) (gCons (gName j) gNil))
theorem pair_set {i j : Nat} {p : Addr} {v u : V} {x y : PyData} {He H0 H : Hp} {σ : L2.St} (S : Sat K ρ He H0 H σ ds) (h : SqT K H p [v, u]) (d1 : Ds K H0 v x) (d2 : Ds K H0 u y) {Q : L2.St → Hp → Prop}
    (k : ∀ σ2, Sat K ρ He H0 H σ2 ((ds.set i (some (.d x))).set j (some (.d y))) → (∀ k, k ∉ [i, j] → σ2[k]? = σ[k]?) → σ2.length = σ.length → Q σ2 H) : gPair K i j (.ref p) σ H Q := by
  refine ⟨p, [v, u], rfl, h, rfl, v, [u], rfl, u, [], rfl, rfl, ?_⟩
  refine k _ ((S.set d1).set d2) (fun k hk => ?_) (by rw [List.length_set, List.length_set])
  rw [List.getElem?_set_ne fun z => hk (by rw [z]; simp), List.getElem?_set_ne fun z => hk (by rw [z]; simp)]
theorem src_pairsL {tl : TE} {as : List α} {f1 f2 : α → PyData} (i j : Nat) (h : EvD ρ K tl ds (.list (as.map fun a => .tuple [f1 a, f2 a]))) : Src ρ K (iList K tl) (gPair K i j) ds as (fun x e => (e.set i (some (.d (f1 x)))).set j (some (.d (f2 x)))) [i, j] := fun He σ H0 H S R k => by
  refine h He σ H0 H S _ fun v H1 H1' g d => ?_
  obtain ⟨p, vs, rfl, q1, q2⟩ := seq_dp d
  have hl := dpa_len q2
  rw [List.length_map] at hl
  refine ⟨p, rfl, ⟨vs, SqL.of (g.sub _ _ q1)⟩, k _ H1 H1' g (fun i H2 H2' s1 s2 _ hi => ⟨vs, SqL.of (s2 _ _ (s1 _ _ q1)), by rw [hl]; exact hi⟩) fun i a H2 H2' s1 s2 _ ha => ?_⟩
  obtain ⟨v, hv, dv⟩ := dpa_at q2 (at_map ha)
  refine ⟨⟨vs, v, SqL.of (s2 _ _ (s1 _ _ q1)), hv⟩, fun x Hy y => ?_⟩
  obtain ⟨rfl, y⟩ := y
  have ex : vs[i]? = some x := y vs (SqL.of (s2 _ _ (s1 _ _ q1)))
  rw [hv] at ex
  cases ex
  obtain ⟨p2, ws, rfl, r1, r2⟩ := tup_dp dv
  obtain ⟨v1, v2, rfl, e1, e2⟩ := dpa_two r2
  exact ⟨H2, .refl s2, fun He' σ' ds' S' Q' k' => pair_set S' (SqT.of (s2 _ _ (s1 _ _ r1))) (dp_mono s1 e1) (dp_mono s1 e2) k'⟩
theorem src_pairsT {tl : TE} {as : List α} {f1 f2 : α → PyData} (i j : Nat) (h : EvD ρ K tl ds (.tuple (as.map fun a => .tuple [f1 a, f2 a]))) : Src ρ K (iTup K tl) (gPair K i j) ds as (fun x e => (e.set i (some (.d (f1 x)))).set j (some (.d (f2 x)))) [i, j] := fun He σ H0 H S R k => by
  refine h He σ H0 H S _ fun v H1 H1' g d => ?_
  obtain ⟨p, vs, rfl, q1, q2⟩ := tup_dp d
  have hl := dpa_len q2
  rw [List.length_map] at hl
  refine ⟨p, rfl, ⟨vs, SqT.of (g.sub _ _ q1)⟩, k _ H1 H1' g (fun i H2 H2' s1 s2 _ hi => ⟨vs, SqT.of (s2 _ _ (s1 _ _ q1)), by rw [hl]; exact hi⟩) fun i a H2 H2' s1 s2 _ ha => ?_⟩
  obtain ⟨v, hv, dv⟩ := dpa_at q2 (at_map ha)
  refine ⟨⟨vs, v, SqT.of (s2 _ _ (s1 _ _ q1)), hv⟩, fun x Hy y => ?_⟩
  obtain ⟨rfl, y⟩ := y
  have ex : vs[i]? = some x := y vs (SqT.of (s2 _ _ (s1 _ _ q1)))
  rw [hv] at ex
  cases ex
  obtain ⟨p2, ws, rfl, r1, r2⟩ := tup_dp dv
  obtain ⟨v1, v2, rfl, e1, e2⟩ := dpa_two r2
  exact ⟨H2, .refl s2, fun He' σ' ds' S' Q' k' => pair_set S' (SqT.of (s2 _ _ (s1 _ _ r1))) (dp_mono s1 e1) (dp_mono s1 e2) k'⟩
/-- zip of two lists, of two tuples -/
theorem zip_len {β : Type} (as : List α) (bs : List β) {i : Nat} (h : (as.zip bs).length ≤ i) : as.length ≤ i ∨ bs.length ≤ i := by
  rw [List.length_zip] at h
  omega
theorem zip_at {β : Type} {as : List α} {bs : List β} {i : Nat} {a : α × β} (h : (as.zip bs)[i]? = some a) : as[i]? = some a.1 ∧ bs[i]? = some a.2 := by
  rw [List.getElem?_zip_eq_some] at h
  exact h
theorem src_zipL {β : Type} {ta : TA} {as : List α} {bs : List β} {f1 : α → PyData} {f2 : β → PyData} (i j : Nat) (h : EvA ρ K ta ds [.list (as.map f1), .list (bs.map f2)]) : Src ρ K (RZ.iZipA K ta) (gPair K i j) ds (as.zip bs) (fun x e => (e.set i (some (.d (f1 x.1)))).set j (some (.d (f2 x.2)))) [i, j] := fun He σ H0 H S R k => by
  refine h He σ H0 H S _ fun vs H1 H1' g d => ?_
  obtain ⟨v, u, rfl, d, d'⟩ := dpa_two d
  obtain ⟨p, vs, rfl, q1, q2⟩ := seq_dp d
  obtain ⟨p', us, rfl, q3, q4⟩ := seq_dp d'
  have hl := dpa_len q2
  have hl' := dpa_len q4
  rw [List.length_map] at hl hl'
  refine ⟨p, p', vs, us, rfl, .inl ⟨SqL.of (g.sub _ _ q1), SqL.of (g.sub _ _ q3), k _ H1 H1' g (fun i H2 H2' s1 s2 _ hi => ⟨vs, us, SqL.of (s2 _ _ (s1 _ _ q1)), SqL.of (s2 _ _ (s1 _ _ q3)), by rw [hl, hl']; exact zip_len as bs hi⟩) fun i a H2 H2' s1 s2 ok ha => ?_⟩⟩
  obtain ⟨ha1, ha2⟩ := zip_at ha
  obtain ⟨v, hv, dv⟩ := dpa_at q2 (at_map ha1)
  obtain ⟨u, hu, du⟩ := dpa_at q4 (at_map ha2)
  refine ⟨⟨vs, us, v, u, SqL.of (s2 _ _ (s1 _ _ q1)), SqL.of (s2 _ _ (s1 _ _ q3)), hv, hu⟩, fun x Hy y => ?_⟩
  obtain ⟨T, x1, x2, rfl, hT, rfl, y1, y2⟩ := y
  have e1 : vs[i]? = some x1 := y1 vs (SqL.of (s2 _ _ (s1 _ _ q1)))
  have e2 : us[i]? = some x2 := y2 us (SqL.of (s2 _ _ (s1 _ _ q3)))
  rw [hv] at e1
  rw [hu] at e2
  cases e1
  cases e2
  have n2 := same_new (o := HO.tup [v, u]) (s2.free hT)
  exact ⟨_, Frm.new s2 hT, fun He' σ' ds' S' Q' k' => pair_set S' (SqT.of upd_same) (dp_mono n2 (dp_mono s1 dv)) (dp_mono n2 (dp_mono s1 du)) k'⟩
theorem src_zipT {β : Type} {ta : TA} {as : List α} {bs : List β} {f1 : α → PyData} {f2 : β → PyData} (i j : Nat) (h : EvA ρ K ta ds [.tuple (as.map f1), .tuple (bs.map f2)]) : Src ρ K (RZ.iZipA K ta) (gPair K i j) ds (as.zip bs) (fun x e => (e.set i (some (.d (f1 x.1)))).set j (some (.d (f2 x.2)))) [i, j] := fun He σ H0 H S R k => by
  refine h He σ H0 H S _ fun vs H1 H1' g d => ?_
  obtain ⟨v, u, rfl, d, d'⟩ := dpa_two d
  obtain ⟨p, vs, rfl, q1, q2⟩ := tup_dp d
  obtain ⟨p', us, rfl, q3, q4⟩ := tup_dp d'
  have hl := dpa_len q2
  have hl' := dpa_len q4
  rw [List.length_map] at hl hl'
  refine ⟨p, p', vs, us, rfl, .inr ⟨SqT.of (g.sub _ _ q1), SqT.of (g.sub _ _ q3), k _ H1 H1' g (fun i H2 H2' s1 s2 _ hi => ⟨vs, us, SqT.of (s2 _ _ (s1 _ _ q1)), SqT.of (s2 _ _ (s1 _ _ q3)), by rw [hl, hl']; exact zip_len as bs hi⟩) fun i a H2 H2' s1 s2 ok ha => ?_⟩⟩
  obtain ⟨ha1, ha2⟩ := zip_at ha
  obtain ⟨v, hv, dv⟩ := dpa_at q2 (at_map ha1)
  obtain ⟨u, hu, du⟩ := dpa_at q4 (at_map ha2)
  refine ⟨⟨vs, us, v, u, SqT.of (s2 _ _ (s1 _ _ q1)), SqT.of (s2 _ _ (s1 _ _ q3)), hv, hu⟩, fun x Hy y => ?_⟩
  obtain ⟨T, x1, x2, rfl, hT, rfl, y1, y2⟩ := y
  have e1 : vs[i]? = some x1 := y1 vs (SqT.of (s2 _ _ (s1 _ _ q1)))
  have e2 : us[i]? = some x2 := y2 us (SqT.of (s2 _ _ (s1 _ _ q3)))
  rw [hv] at e1
  rw [hu] at e2
  cases e1
  cases e2
  have n2 := same_new (o := HO.tup [v, u]) (s2.free hT)
  exact ⟨_, Frm.new s2 hT, fun He' σ' ds' S' Q' k' => pair_set S' (SqT.of upd_same) (dp_mono n2 (dp_mono s1 dv)) (dp_mono n2 (dp_mono s1 du)) k'⟩
end
/-! ### comprehensions as expressions -/
section
variable {ρ : Rho} {X : Cx} {ds : DEnv} {d : PyData} {pos : Pos} {α : Type} {as : List α} {bind : α → DEnv → DEnv} {tgs : List Nat} {wi : TI} {g : TG} {elt tg iter c : Expr} {scope : Scope} {own : List (Str × Nat)}
/-- the block of a comprehension -/
abbrev blkX (X : Cx) (scope : Scope) (s : Shared) (H : Hp) (C : Addr) (cl : List (Str × Addr)) (fp : List Addr) : Cx := X.blk s H scope (compEnvC scope cl C X.env) fp
def tBe (X : Cx) (scope : Scope) (e : Expr) : TE := fun σ H Q => ∀ s H₀ C cl fp, tW (blkX X scope s H₀ C cl fp) e σ H Q
def tBt (X : Cx) (scope : Scope) (e : Expr) : TT := fun σ H Q => ∀ s H₀ C cl fp, tWt (blkX X scope s H₀ C cl fp) e σ H Q
theorem ed_lc0 (hc : X.calm = true) (hN : X.N.Nodup) (hi : PI X tg iter wi) (ok : BlkOk X.N X.env.scope scope own) (hg : ∀ s H C cl fp, PG (blkX X scope s H C cl fp) tg g)
    (src : Src ρ X.K wi g ds as bind tgs) (htg : ∀ j ∈ tgs, j ∈ own.map (·.2)) (f : α → PyData) (hz : as.length ≤ 1000)
    (he : ∀ s H C cl fp, ∀ a ∈ as, Dv ρ (blkX X scope s H C cl fp) (bind a (wipeE ds (own.map (·.2)))) elt (f a)) : EvD ρ X.K (tLc wi g tYes (tBe X scope elt) (own.map (·.2))) ds (.list (as.map f)) := by
  have := ed_lc (tt := tYes) (te := tBe X scope elt) src htg (fun _ => true) f hz (fun a _ He σ H0 H S Q q => q H0 H (.refl S.sub)) (fun a ha _ He σ H0 H S Q q s H₀ C cl fp => he s H₀ C cl fp a ha He σ H0 H S Q q)
  rw [List.filter_eq_self.mpr fun _ _ => rfl] at this
  exact this
theorem dv_lc0 (hc : X.calm = true) (hN : X.N.Nodup) (hi : PI X tg iter wi) (ok : BlkOk X.N X.env.scope scope own) (hg : ∀ s H C cl fp, PG (blkX X scope s H C cl fp) tg g)
    (src : Src ρ X.K wi g ds as bind tgs) (htg : ∀ j ∈ tgs, j ∈ own.map (·.2)) (f : α → PyData) (hz : as.length ≤ 1000)
    (he : ∀ s H C cl fp, ∀ a ∈ as, Dv ρ (blkX X scope s H C cl fp) (bind a (wipeE ds (own.map (·.2)))) elt (f a)) (hs : ∀ x, foldedSetIterable iter X.env x = pure x := by intro _; rfl) : Dv ρ X ds (.ListComp elt [⟨tg, iter, [], 0⟩] scope pos) (.list (as.map f)) :=
  dv_of (pe_lc hc hN hi ok (fun s H C cl fp => hg s H C cl fp) (fun _ _ _ _ _ => pts_nil) (fun s H C cl fp => ⟨fun pins s' σ H' Q I h => h s H C cl fp pins s' I⟩) hs) (ed_lc0 hc hN hi ok hg src htg f hz he)
theorem ed_lc1 (hc : X.calm = true) (hN : X.N.Nodup) (hi : PI X tg iter wi) (ok : BlkOk X.N X.env.scope scope own) (hg : ∀ s H C cl fp, PG (blkX X scope s H C cl fp) tg g)
    (src : Src ρ X.K wi g ds as bind tgs) (htg : ∀ j ∈ tgs, j ∈ own.map (·.2)) (p : α → Bool) (f : α → PyData) (hz : as.length ≤ 1000)
    (ht : ∀ s H C cl fp, ∀ a ∈ as, Tv ρ (blkX X scope s H C cl fp) (bind a (wipeE ds (own.map (·.2)))) c (p a))
    (he : ∀ s H C cl fp, ∀ a ∈ as, p a = true → Dv ρ (blkX X scope s H C cl fp) (bind a (wipeE ds (own.map (·.2)))) elt (f a)) : EvD ρ X.K (tLc wi g (tBt X scope c) (tBe X scope elt) (own.map (·.2))) ds (.list ((as.filter p).map f)) :=
  ed_lc (tt := tBt X scope c) (te := tBe X scope elt) src htg p f hz (fun a ha He σ H0 H S Q q s H₀ C cl fp => ht s H₀ C cl fp a ha He σ H0 H S Q q) (fun a ha hp He σ H0 H S Q q s H₀ C cl fp => he s H₀ C cl fp a ha hp He σ H0 H S Q q)
theorem dv_lc1 (hc : X.calm = true) (hN : X.N.Nodup) (hi : PI X tg iter wi) (ok : BlkOk X.N X.env.scope scope own) (hg : ∀ s H C cl fp, PG (blkX X scope s H C cl fp) tg g)
    (src : Src ρ X.K wi g ds as bind tgs) (htg : ∀ j ∈ tgs, j ∈ own.map (·.2)) (p : α → Bool) (f : α → PyData) (hz : as.length ≤ 1000)
    (ht : ∀ s H C cl fp, ∀ a ∈ as, Tv ρ (blkX X scope s H C cl fp) (bind a (wipeE ds (own.map (·.2)))) c (p a))
    (he : ∀ s H C cl fp, ∀ a ∈ as, p a = true → Dv ρ (blkX X scope s H C cl fp) (bind a (wipeE ds (own.map (·.2)))) elt (f a)) (hs : ∀ x, foldedSetIterable iter X.env x = pure x := by intro _; rfl) : Dv ρ X ds (.ListComp elt [⟨tg, iter, [c], 0⟩] scope pos) (.list ((as.filter p).map f)) :=
  dv_of (pe_lc hc hN hi ok (fun s H C cl fp => hg s H C cl fp) (fun s H C cl fp => pts_one ⟨fun pins s' σ H' Q I h => h s H C cl fp pins s' I⟩) (fun s H C cl fp => ⟨fun pins s' σ H' Q I h => h s H C cl fp pins s' I⟩) hs) (ed_lc1 hc hN hi ok hg src htg p f hz ht he)
end
end K8
set_option maxHeartbeats 1000000
namespace K8
open PySem PySem.Spec PyProof.Rows L2

/-! ### blocks -/
inductive Out where
  | nx (ds : DEnv)
  | ret (d : PyData)
  | pr (N : DEnv → Prop) (R : PyData → Prop)
def After (ρ : Rho) (K : PySem.W.Frag) (He H0e H0 : Hp) (D : Ends) : Out → Prop
  | .nx ds' => ∀ σ' H0' H', Frm ρ H0e He H0' H' → Same H0 H0' → Sat K ρ He H0' H' σ' ds' → D.nx σ' H'
  | .ret d => ∀ v H0' H', Frm ρ H0e He H0' H' → Ds K H0' v d → D.rt v H'
  | .pr N R => (∀ ds' σ' H0' H', N ds' → Frm ρ H0e He H0' H' → Same H0 H0' → Sat K ρ He H0' H' σ' ds' → D.nx σ' H') ∧ ∀ v d H0' H', R d → Frm ρ H0e He H0' H' → Ds K H0' v d → D.rt v H'
def Bl (ρ : Rho) (X : Cx) (ds : DEnv) (ss : List Stmt) (o : Out) : Prop :=
  ∀ He H0e σ H0 H, Frm ρ H0e He H0 H → Sat X.K ρ He H0 H σ ds → ρ.ok He → ∀ D : Ends, After ρ X.K He H0e H0 D o → tWs X ss D σ H
section
variable {ρ : Rho} {X : Cx} {ds ds' ds1 : DEnv} {d d1 d2 : PyData} {pos tp : Pos} {st : Stmt} {rs body orelse : List Stmt} {o : Out} {e a b c : Expr} {i j : Nat} {x y : Str} {p : Bool} {K : PySem.W.Frag} {He H0e H0 H0' : Hp} {D : Ends}
theorem After.more (h : After ρ K He H0e H0 D o) (s : Same H0 H0') : After ρ K He H0e H0' D o := by
  cases o with
  | nx ds' => exact fun σ' H1 H1' f s' S => h σ' H1 H1' f (s.trans s') S
  | ret d => exact h
  | pr N R => exact ⟨fun ds' σ' H1 H1' n f s' S => h.1 ds' σ' H1 H1' n f (s.trans s') S, h.2⟩
theorem bl_nil : Bl ρ X ds [] (.nx ds) := fun He H0e σ H0 H F S k D q => ws_of pss_nil (q σ H0 H F (Same.refl _) S)
theorem bl_weak (l : EnvLe ds' ds) (h : Bl ρ X ds' rs o) : Bl ρ X ds rs o := fun He H0e σ H0 H F S k D q => h He H0e σ H0 H F (S.weak l) k D q
theorem bl_out (l : EnvLe ds' ds1) (h : Bl ρ X ds rs (.nx ds1)) : Bl ρ X ds rs (.nx ds') := fun He H0e σ H0 H F S k D q => h He H0e σ H0 H F S k D fun σ' H1 H1' f s S' => q σ' H1 H1' f s (S'.weak l)
theorem bl_ret (h : Dv ρ X ds e d) : Bl ρ X ds (.Return (some e) pos :: rs) (.ret d) := fun He H0e σ H0 H F S k D q =>
  ws_of (pss_cons (ps_ret pe_w) pss_w) (h He σ H0 H S _ fun v H1 H1' f dv => q v H1 H1' (F.trans f k) dv)
/-- a statement that stores at one place -/
theorem bl_asg {te : TE} (hp : PS X st (tAsg te (gName i))) (he : EvD ρ X.K te ds d) (hr : Bl ρ X (ds.set i (some (.d d))) rs o) : Bl ρ X ds (st :: rs) o := fun He H0e σ H0 H F S k D q =>
  ws_of (pss_cons hp pss_w) (he He σ H0 H S _ fun v H1 H1' f dv => hr He H0e _ H1 H1' (F.trans f k) ((S.fr f).set dv) k D (q.more f.ex0))
theorem bl_set (i : Nat) (hN : X.N.Nodup) (he : Dv ρ X ds e d) (hr : Bl ρ X (ds.set i (some (.d d))) rs o) (hi : X.N[i]? = some x := by rfl) (hx : Loc X.env.scope x := by first | exact Or.inl rfl | exact Or.inr rfl) {pos' : Pos} (hs : swapsWith e (some (.Name x pos')) pos.line X.env = pure false := by rfl)
    (hf : X.fn x = true ∨ X.env.scope.names.lookup x = some .local := by first | exact .inl rfl | exact .inr rfl) : Bl ρ X ds (.Assign [.Name x pos'] e pos :: rs) o :=
  bl_asg (ps_set hN hi hx pe_w hs hf) he hr
theorem bl_expr (he : Dv ρ X ds e d) (hr : Bl ρ X ds rs o) (hs : swapsWith e none pos.line X.env = pure false := by rfl) : Bl ρ X ds (.Expr e pos :: rs) o := fun He H0e σ H0 H F S k D q =>
  ws_of (pss_cons (ps_expr pe_w hs) pss_w) (he He σ H0 H S _ fun v H1 H1' f dv => hr He H0e _ H1 H1' (F.trans f k) (S.fr f) k D (q.more f.ex0))
/-- a, b = e -/
theorem bl_two (i j : Nat) {kt : Nat} (hc : X.calm = true) (hN : X.N.Nodup) (he : Dv ρ X ds e (.tuple [d1, d2])) (hr : Bl ρ X ((ds.set i (some (.d d1))).set j (some (.d d2))) rs o) (hi : X.N[i]? = some x := by rfl) (hj : X.N[j]? = some y := by rfl)
    (hx : Loc X.env.scope x := by first | exact Or.inl rfl | exact Or.inr rfl) (hy : Loc X.env.scope y := by first | exact Or.inl rfl | exact Or.inr rfl) {px py : Pos}
    (hf : X.fn x = true ∨ X.env.scope.names.lookup x = some .local := by first | exact .inl rfl | exact .inr rfl) (hf2 : X.fn y = true ∨ X.env.scope.names.lookup y = some .local := by first | exact .inl rfl | exact .inr rfl)
    (hs : swapsWithSole [.Tuple [.Name x px, .Name y py] kt tp] e pos.line X.env = pure false := by rfl) (hw : swappedStores [.Tuple [.Name x px, .Name y py] kt tp] e X.env = pure none := by rfl) (h1 : (assignEach [Expr.Tuple [.Name x px, .Name y py] kt tp] X.env).map (·.2) = [assign (.Tuple [.Name x px, .Name y py] kt tp) X.env] := by rfl) :
    Bl ρ X ds (.Assign [.Tuple [.Name x px, .Name y py] kt tp] e pos :: rs) o := fun He H0e σ H0 H F S k D q =>
  ws_of (pss_cons (ps_asg pe_w (pg_tup hc (pgs_cons (pg_name hN hi hx hf) (pgs_cons (pg_name hN hj hy hf2) pgs_nil))) hs hw h1) pss_w) (he He σ H0 H S _ fun v H1 H1' f dv => by
    obtain ⟨p, vs, rfl, q1, q2⟩ := tup_dp dv
    obtain ⟨v1, v2, rfl, e1, e2⟩ := dpa_two q2
    exact pair_set (S.fr f) (SqT.of (f.sub _ _ q1)) e1 e2 fun σ2 S2 _ _ => hr He H0e _ H1 H1' (F.trans f k) S2 k D (q.more f.ex0))
/-- a, b = x, y: both names plain locals -/
theorem bl_par (i j : Nat) {kt k2 : Nat} {pt2 : Pos} (hc : X.calm = true) (hN : X.N.Nodup) (ha : Dv ρ X ds a d1) (hb : Dv ρ X ds b d2) (hr : Bl ρ X ((ds.set i (some (.d d1))).set j (some (.d d2))) rs o) (hij : i ≠ j := by decide) (hi : X.N[i]? = some x := by rfl) (hj : X.N[j]? = some y := by rfl)
    (hx : X.env.scope.names.lookup x = some .local := by rfl) (hy : X.env.scope.names.lookup y = some .local := by rfl) {px py : Pos}
    (hs1 : starEach (a :: b :: []) X.env = (false, eval a X.env) :: starEach (b :: []) X.env := by rfl) (hs2 : starEach (b :: []) X.env = (false, eval b X.env) :: starEach [] X.env := by rfl)
    (hw : swappedStores [.Tuple [.Name x px, .Name y py] kt tp] (.Tuple [a, b] k2 pt2) X.env = pure (some [x, y]) := by rfl)
    (hs : swapsWithSole [.Tuple [.Name x px, .Name y py] kt tp] (.Tuple [a, b] k2 pt2) pos.line X.env = pure false := by rfl) :
    Bl ρ X ds (.Assign [.Tuple [.Name x px, .Name y py] kt tp] (.Tuple [a, b] k2 pt2) pos :: rs) o := fun He H0e σ H0 H F S k D q =>
  ws_of (pss_cons (ps_par hc hN hi hj hij hx hy pa_w hw hs) pss_w) (av2 ha hb hs1 hs2 He σ H0 H S _ fun vs H1 H1' f dv => by
    obtain ⟨v1, v2, rfl, e1, e2⟩ := dpa_two dv
    exact ⟨v1, v2, rfl, hr He H0e _ H1 H1' (F.trans f k) (((S.fr f).set e1).set e2) k D (q.more f.ex0)⟩)
/-- if -/
theorem bl_if (hc : Tv ρ X ds c p) (h1 : p = true → Bl ρ X ds body (.nx ds1)) (h2 : p = false → Bl ρ X ds orelse (.nx ds1)) (hr : Bl ρ X ds1 rs o) : Bl ρ X ds (.If c body orelse pos :: rs) o := fun He H0e σ H0 H F S k D q =>
  ws_of (pss_cons (ps_if pt_w pss_w pss_w) pss_w) (hc He σ H0 H S _ fun H1 H1' f => by
    have cont : After ρ X.K He H0e H1 { D with nx := tWs X rs D } (.nx ds1) := fun σ' H2 H2' f2 s2 S2 => hr He H0e σ' H2 H2' f2 S2 k D (q.more (f.ex0.trans s2))
    cases p with
    | true => exact h1 rfl He H0e _ H1 H1' (F.trans f k) (S.fr f) k _ cont
    | false => exact h2 rfl He H0e _ H1 H1' (F.trans f k) (S.fr f) k _ cont)
theorem bl_ifret (hc : Tv ρ X ds c true) (h1 : Bl ρ X ds body (.ret d)) : Bl ρ X ds (.If c body orelse pos :: rs) (.ret d) := fun He H0e σ H0 H F S k D q =>
  ws_of (pss_cons (ps_if pt_w pss_w pss_w) pss_w) (hc He σ H0 H S _ fun H1 H1' f => h1 He H0e _ H1 H1' (F.trans f k) (S.fr f) k { D with nx := tWs X rs D } q)
theorem bl_ifno (hc : Tv ρ X ds c false) (hr : Bl ρ X ds rs o) : Bl ρ X ds (.If c body [] pos :: rs) o := fun He H0e σ H0 H F S k D q =>
  ws_of (pss_cons (ps_if pt_w (pss_w (ss := body)) pss_nil) pss_w) (hc He σ H0 H S _ fun H1 H1' f => hr He H0e _ H1 H1' (F.trans f k) (S.fr f) k D (q.more f.ex0))
theorem bl_ifor (hc : Tv ρ X ds c p) (h1 : p = true → Bl ρ X ds body (.ret d)) (h2 : p = false → Bl ρ X ds rs (.ret d)) : Bl ρ X ds (.If c body [] pos :: rs) (.ret d) := by
  cases p with
  | true => exact bl_ifret hc (h1 rfl)
  | false => exact bl_ifno hc (h2 rfl)
/-- a loop over items: left by a return at the first one with p -/
theorem bl_for {α : Type} {as : List α} {bind : α → DEnv → DEnv} {tgs : List Nat} {wi : TI} {g : TG} {tg iter : Expr} (F : Nat → DEnv) (p : α → Bool) (hp : PassesOwn (model X.prog X.w) X.A X.env X.xe) (hc : X.calm = true) (hi : PI X tg iter wi) (hg : PG X tg g)
    (src : Src ρ X.K wi g (F 0) as bind tgs)
    (hb : ∀ (i : Nat) (a : α), as[i]? = some a → (∀ b ∈ as.take i, p b = false) → Bl ρ X (bind a (F i)) body (if p a = true then .ret d else .nx (F (i + 1)))) (hr : (∀ b ∈ as, p b = false) → Bl ρ X (F as.length) rs o)
    (ho : (∃ b ∈ as, p b = true) → o = .ret d) (hs : ∀ x, foldedSetIterable iter X.env x = pure x := by intro _; rfl) : Bl ρ X (F 0) (.For tg iter body [] pos :: rs) o := fun He H0e σ H0 H Fr S k D q =>
  ws_of (pss_cons (ps_for hp hc hi hg pss_w hs) pss_w) (src He σ H0 H S _ fun J H1 H1' f stop go => by
    refine ⟨fun i m σ' Hc => m = as.length - i ∧ i ≤ as.length ∧ (∀ b ∈ as.take i, p b = false) ∧ ∃ H2, Frm ρ H0e He H2 Hc ∧ Same H1 H2 ∧ Sat X.K ρ He H2 Hc σ' (F i), ⟨as.length, rfl, Nat.zero_le _, by simp, H1, Fr.trans f k, Same.refl _, S.fr f⟩, ?_⟩
    rintro i m σ' Hc ⟨rfl, hi, hno, H2, F2, s2, S2⟩
    by_cases hlt : i < as.length
    · have ha := List.getElem?_eq_getElem hlt
      obtain ⟨hgo, hy⟩ := go i as[i] H2 Hc s2 S2.sub S2.ok ha
      refine .inr ⟨hgo, fun σ' Hc => (∀ b ∈ as.take (i + 1), p b = false) ∧ ∃ H2, Frm ρ H0e He H2 Hc ∧ Same H1 H2 ∧ Sat X.K ρ He H2 Hc σ' (F (i + 1)), fun σ' Hc hn => ⟨as.length - (i + 1), by omega, rfl, hlt, hn⟩, fun x Hy y => ?_⟩
      obtain ⟨H3, f3, hg⟩ := hy x Hy y
      have S3 := S2.fr f3
      have F3 := F2.trans f3 k
      refine hg He σ' (F i) S3 _ fun σ2 S4 _ _ => ?_
      have B := hb i as[i] ha hno
      by_cases hpa : p as[i] = true
      · rw [if_pos hpa] at B
        have ho' := ho ⟨as[i], List.getElem_mem hlt, hpa⟩
        subst ho'
        exact B He H0e σ2 H3 Hy F3 S4 k _ q
      · rw [if_neg hpa] at B
        have hpa' : p as[i] = false := by
          cases e : p as[i] with
          | true => exact absurd e hpa
          | false => rfl
        refine B He H0e σ2 H3 Hy F3 S4 k _ fun σ5 H5 H5' f5 s5 S5 => ⟨fun b hb => ?_, H5, f5, s2.trans (f3.ex0.trans s5), S5⟩
        rw [take_more hlt] at hb
        rcases List.mem_append.mp hb with z | z
        · exact hno b z
        · rw [List.mem_singleton.mp z]; exact hpa'
    · have e : i = as.length := by omega
      subst e
      refine .inl ⟨stop _ H2 Hc s2 S2.sub S2.ok (Nat.le_refl _), ?_⟩
      rw [List.take_length] at hno
      exact hr hno He H0e σ' H2 Hc F2 S2 k D (q.more (f.ex0.trans s2)))
/-- .. never left -/
theorem bl_each {α : Type} {as : List α} {bind : α → DEnv → DEnv} {tgs : List Nat} {wi : TI} {g : TG} {tg iter : Expr} (F : Nat → DEnv) (hp : PassesOwn (model X.prog X.w) X.A X.env X.xe) (hc : X.calm = true) (hi : PI X tg iter wi) (hg : PG X tg g)
    (src : Src ρ X.K wi g (F 0) as bind tgs) (hb : ∀ (i : Nat) (a : α), as[i]? = some a → Bl ρ X (bind a (F i)) body (.nx (F (i + 1)))) (hr : Bl ρ X (F as.length) rs o)
    (hs : ∀ x, foldedSetIterable iter X.env x = pure x := by intro _; rfl) : Bl ρ X (F 0) (.For tg iter body [] pos :: rs) o :=
  bl_for (d := .none) F (fun _ => false) hp hc hi hg src (fun i a h _ => by rw [if_neg (by decide)]; exact hb i a h) (fun _ => hr) (fun ⟨_, _, z⟩ => Bool.noConfusion z) hs
/-- while: so many turns, by the states at their starts; the last one leaves by the test, or by a return -/
theorem bl_while (F : Nat → DEnv) (n : Nat) (hp : PassesOwn (model X.prog X.w) X.A X.env X.xe) (ht : ∀ i, i < n → Tv ρ X (F i) c true) (hb : ∀ i, i < n → Bl ρ X (F i) body (.nx (F (i + 1)))) (hl : Tv ρ X (F n) c false) (hr : Bl ρ X (F n) rs o) : Bl ρ X (F 0) (.While c body [] pos :: rs) o := fun He H0e σ H0 H Fr S k D q =>
  ws_of (pss_cons (ps_while hp pt_w pss_w) pss_w) (by
    refine ⟨fun m σ' Hc => ∃ i, m = n - i ∧ i ≤ n ∧ ∃ H2, Frm ρ H0e He H2 Hc ∧ Same H0 H2 ∧ Sat X.K ρ He H2 Hc σ' (F i), ⟨n, 0, rfl, Nat.zero_le _, H0, Fr, Same.refl _, S⟩, ?_⟩
    rintro m σ' Hc ⟨i, rfl, hi, H2, F2, s2, S2⟩
    by_cases hlt : i < n
    · refine ht i hlt He σ' H2 Hc S2 _ fun H3 H3' f3 => ?_
      show if true = true then _ else _
      rw [if_pos rfl]
      refine ⟨fun σ' Hc => ∃ H2, Frm ρ H0e He H2 Hc ∧ Same H0 H2 ∧ Sat X.K ρ He H2 Hc σ' (F (i + 1)), fun σ' Hc hn => ⟨n - (i + 1), by omega, i + 1, rfl, hlt, hn⟩, ?_⟩
      exact hb i hlt He H0e σ' H3 H3' (F2.trans f3 k) (S2.fr f3) k _ fun σ5 H5 H5' f5 s5 S5 => ⟨H5, f5, s2.trans (f3.ex0.trans s5), S5⟩
    · have e : i = n := by omega
      subst e
      refine hl He σ' H2 Hc S2 _ fun H3 H3' f3 => ?_
      show if false = true then _ else _
      rw [if_neg Bool.false_ne_true]
      exact hr He H0e σ' H3 H3' (F2.trans f3 k) (S2.fr f3) k D (q.more (s2.trans f3.ex0)))
theorem bl_whileret (F : Nat → DEnv) (n : Nat) (hp : PassesOwn (model X.prog X.w) X.A X.env X.xe) (ht : ∀ i, i ≤ n → Tv ρ X (F i) c true) (hb : ∀ i, i < n → Bl ρ X (F i) body (.nx (F (i + 1)))) (hl : Bl ρ X (F n) body (.ret d)) : Bl ρ X (F 0) (.While c body [] pos :: rs) (.ret d) := fun He H0e σ H0 H Fr S k D q =>
  ws_of (pss_cons (ps_while hp pt_w pss_w) pss_w) (by
    refine ⟨fun m σ' Hc => ∃ i, m = n - i ∧ i ≤ n ∧ ∃ H2, Frm ρ H0e He H2 Hc ∧ Same H0 H2 ∧ Sat X.K ρ He H2 Hc σ' (F i), ⟨n, 0, rfl, Nat.zero_le _, H0, Fr, Same.refl _, S⟩, ?_⟩
    rintro m σ' Hc ⟨i, rfl, hi, H2, F2, s2, S2⟩
    refine ht i hi He σ' H2 Hc S2 _ fun H3 H3' f3 => ?_
    show if true = true then _ else _
    rw [if_pos rfl]
    by_cases hlt : i < n
    · refine ⟨fun σ' Hc => ∃ H2, Frm ρ H0e He H2 Hc ∧ Same H0 H2 ∧ Sat X.K ρ He H2 Hc σ' (F (i + 1)), fun σ' Hc hn => ⟨n - (i + 1), by omega, i + 1, rfl, hlt, hn⟩, ?_⟩
      exact hb i hlt He H0e σ' H3 H3' (F2.trans f3 k) (S2.fr f3) k _ fun σ5 H5 H5' f5 s5 S5 => ⟨H5, f5, s2.trans (f3.ex0.trans s5), S5⟩
    · have e : i = n := by omega
      subst e
      refine ⟨fun _ _ => False, fun _ _ z => z.elim, ?_⟩
      exact hl He H0e σ' H3 H3' (F2.trans f3 k) (S2.fr f3) k _ q)
/-- a list of one's own: made, filled, known from then on -/
theorem bl_own (i : Nat) {x : Str} {pos' p2 : Pos} (hN : X.N.Nodup) (hr : ∀ (no : ∀ (j : Nat) ys, ds[j]? = some (some (.own ys)) → j = i), Bl ρ X (ds.set i (some (.own []))) rs o) (no : ∀ (j : Nat) ys, ds[j]? = some (some (.own ys)) → j = i) (hi : X.N[i]? = some x := by rfl) (hx : Loc X.env.scope x := by first | exact Or.inl rfl | exact Or.inr rfl)
    (hs : swapsWith (.List [] p2) (some (.Name x pos')) pos.line X.env = pure false := by rfl) (hf : X.fn x = true ∨ X.env.scope.names.lookup x = some .local := by first | exact .inl rfl | exact .inr rfl) (hii : i < ds.length := by simp) : Bl ρ X ds (.Assign [.Name x pos'] (.List [] p2) pos :: rs) o := fun He H0e σ H0 H F S k D q =>
  ws_of (pss_cons (ps_set hN hi hx (pe_lst pa_nil) hs hf) pss_w) ⟨Nat.zero_le _, fun p hp => by
    have hpe : He p = none := by
      cases z : He p with
      | none => rfl
      | some u => exact absurd hp (F.th k (by rw [z]; exact fun w => nomatch w))
    have ap := Rho.new S.ok hp
    have F' : Frm ρ H0e He H0 (upd H p (.lst [])) := ⟨F.ex0, F.sub.trans (same_new hp), fun b u e h => same_new hp _ _ (F.fr b u e h), F.sep, fun kk => Rho.same (F.ok kk) (same_new hp)⟩
    refine hr no He H0e _ H0 _ F' ⟨F'.sub, F'.ok k, by rw [List.length_set, List.length_set]; exact S.len, fun j u h => ?_, fun j l xs ys b h1 h2 h3 h4 => ?_, S.rho⟩ k D q
    · by_cases hj : i = j
      · subst hj
        rw [List.getElem?_set_self hii] at h
        cases h
        exact ⟨.ref p, by rw [List.getElem?_set_self (by rw [S.len]; exact hii)], p, [], rfl, upd_same, S.sub.free hp, hpe, ap, .nil⟩
      · rw [List.getElem?_set_ne hj] at h ⊢
        obtain ⟨v, h1, h2⟩ := S.get j u h
        refine ⟨v, h1, h2.fr (f := ⟨Same.refl _, F'.sub, fun b u e h => same_new hp _ _ h, fun b h _ => h, fun kk => Rho.same kk (same_new hp)⟩)⟩
    · have n1 : j = i := by
        by_cases z : i = j
        · exact z.symm
        · rw [List.getElem?_set_ne z] at h1
          exact no j xs h1
      have n2 : l = i := by
        by_cases z : i = l
        · exact z.symm
        · rw [List.getElem?_set_ne z] at h2
          exact no l ys h2
      rw [n1, n2]⟩
theorem bl_append (i : Nat) {xs : List PyData} {x : Str} {p1 p2 p3 : Pos} (h : Dv ρ X ds e d) (hds : ds[i]? = some (some (.own xs))) (hz : xs.length < 1000) (hr : Bl ρ X (ds.set i (some (.own (xs ++ [d])))) rs o) (hi : X.N[i]? = some x := by rfl) (hv : Vis X.env.scope x := by first | exact Or.inl rfl | exact Or.inr (Or.inl rfl) | exact Or.inr (Or.inr rfl)) (hd1 : (x == ("__debug__" : Str)) = false := by decide) (hd2 : (x == ("__classdict__" : Str)) = false := by decide)
    (hh : ∀ {te ta : TE}, PE X (.Name x p1) ta → PE X e te → PE X (.Call (.Attribute (.Name x p1) "append" p2) [e] [] p3) (tBM X.K "list" rAppend ta (tCons te tNil))) (hs : swapsWith (.Call (.Attribute (.Name x p1) "append" p2) [e] [] p3) none pos.line X.env = pure false := by rfl) :
    Bl ρ X ds (.Expr (.Call (.Attribute (.Name x p1) "append" p2) [e] [] p3) pos :: rs) o := fun He H0e σ H0 H F S k D q =>
  ws_of (pss_cons (ps_expr (hh (pe_var hi hv hd1 hd2) pe_w) hs) pss_w) (by
    obtain ⟨v, hv, a, vs, rfl, g1, g2, g3, g4, g5⟩ := S.get i _ hds
    refine ⟨.ref a, hv, .inl ⟨rfl, vs, SqL.of g1⟩, ?_⟩
    refine h He σ H0 H S _ fun w H1 H1' f dw => ?_
    have S1 := S.fr f
    have c1 := f.fr _ _ g4 g1
    have n1 : H1 a = none := f.sep a g2 (by rw [g1]; exact fun z => nomatch z)
    have F1 := F.trans f k
    refine ⟨a, vs, w, rfl, rfl, c1, Nat.lt_of_lt_of_le (by rw [dpa_len g5]; exact hz) (by decide : 1000 ≤ sizeLine), ?_⟩
    have F2 : Frm ρ H0e He H1 (upd H1' a (.lst (vs ++ [w]))) := ⟨F1.ex0, same_mut F1.sub n1, fun b u e h => by rw [upd_ne (ne_of_none h g3)]; exact F1.fr b u e h, F1.sep, fun kk => ρ.up _ _ (F1.ok kk) fun b hb => upd_ne fun z => by rw [z, g4] at hb; exact Bool.noConfusion hb⟩
    have hil : i < ds.length := (List.getElem?_eq_some_iff.mp hds).1
    have same_own : ∀ (j : Nat) (ys : List PyData), (ds.set i (some (.own (xs ++ [d]))))[j]? = some (some (.own ys)) → ∃ zs : List PyData, ds[j]? = some (some (.own zs)) := fun j ys h => by
      by_cases hj : i = j
      · subst hj
        exact ⟨_, hds⟩
      · rw [List.getElem?_set_ne hj] at h
        exact ⟨_, h⟩
    refine hr He H0e σ H1 _ F2 ⟨F2.sub, F2.ok k, by rw [List.length_set]; exact S.len, fun j u h => ?_, fun j l ys zs b h1 h2 h3 h4 => ?_, S1.rho⟩ k D (q.more f.ex0)
    · by_cases hj : i = j
      · subst hj
        rw [List.getElem?_set_self hil] at h
        cases h
        exact ⟨_, hv, a, _, rfl, upd_same, n1, g3, g4, dpa_app (dpa_mono f.ex0 g5) (.cons dw .nil)⟩
      · rw [List.getElem?_set_ne hj] at h
        obtain ⟨v2, h1, h2⟩ := S1.get j u h
        refine ⟨v2, h1, ?_⟩
        cases u with
        | d x => exact h2
        | v x => exact h2
        | dk kvs => exact h2
        | own ys =>
          obtain ⟨b, ws, rfl, r1, r2, r3, r4, r5⟩ := h2
          have nb : b ≠ a := fun z => by
            subst z
            exact hj (S.apart i j xs ys b hds h hv h1)
          exact ⟨b, ws, rfl, by rw [upd_ne nb]; exact r1, r2, r3, r4, r5⟩
    · obtain ⟨_, e1⟩ := same_own j ys h1
      obtain ⟨_, e2⟩ := same_own l zs h2
      exact S.apart j l _ _ b e1 e2 h3 h4)
theorem bl_known (i : Nat) {xs : List PyData} (hds : ds[i]? = some (some (.own xs))) (hr : Bl ρ X (ds.set i (some (.d (.list xs)))) rs o) : Bl ρ X ds rs o := fun He H0e σ H0 H F S k D q => by
  obtain ⟨v, hv, a, vs, rfl, g1, g2, g3, g4, g5⟩ := S.get i _ hds
  have hil : i < ds.length := (List.getElem?_eq_some_iff.mp hds).1
  have F' : Frm ρ H0e He (upd H0 a (.lst vs)) H := ⟨F.ex0.trans (same_new g2), fun b u e => by
      by_cases hb : b = a
      · subst hb
        rw [upd_same] at e
        rw [g1, ← e]
      · rw [upd_ne hb] at e
        exact S.sub b u e, F.fr, fun b e1 e2 => by
      rw [upd_ne fun z => by rw [z, g3] at e2; exact e2 rfl]
      exact F.sep b e1 e2, F.ok⟩
  refine hr He H0e σ (upd H0 a (.lst vs)) H F' ⟨F'.sub, S.ok, by rw [List.length_set]; exact S.len, fun j u h => ?_, fun j l ys zs b h1 h2 h3 h4 => ?_, fun b hb => ?_⟩ k D (q.more (same_new g2))
  · by_cases hj : i = j
    · subst hj
      rw [List.getElem?_set_self hil] at h
      cases h
      exact ⟨_, hv, .lst upd_same (dpa_mono (same_new g2) g5)⟩
    · rw [List.getElem?_set_ne hj] at h
      obtain ⟨v2, h1, h2⟩ := S.get j u h
      refine ⟨v2, h1, ?_⟩
      cases u with
      | d x => exact dp_mono (same_new g2) h2
      | v x => exact h2
      | dk kvs =>
        obtain ⟨b, rfl, r1⟩ := h2
        exact ⟨b, rfl, same_new g2 _ _ r1⟩
      | own ys =>
        obtain ⟨b, ws, rfl, r1, r2, r3, r4, r5⟩ := h2
        have nb : b ≠ a := fun z => by
          subst z
          exact hj (S.apart i j xs ys b hds h hv h1)
        exact ⟨b, ws, rfl, r1, by rw [upd_ne nb]; exact r2, r3, r4, dpa_mono (same_new g2) r5⟩
  · have ne : ∀ (j : Nat) (ys : List PyData), (ds.set i (some (.d (.list xs))))[j]? = some (some (.own ys)) → ds[j]? = some (some (.own ys)) := fun j ys q => by
      by_cases hj : i = j
      · subst hj
        rw [List.getElem?_set_self hil] at q
        cases q
      · rw [List.getElem?_set_ne hj] at q
        exact q
    exact S.apart j l _ _ b (ne j ys h1) (ne l zs h2) h3 h4
  · rw [upd_ne fun z => by rw [z, g4] at hb; exact Bool.noConfusion hb]
    exact S.rho b hb
end

/-! ### defs: promises over data -/
def spD (K : PySem.W.Frag) (R : List PyData → PyData → Prop) : Sp := fun vs H Q _ => ∃ H0 ds d, Same H0 H ∧ DsAll K H0 vs ds ∧ R ds d ∧ ∀ v H0' H', Frm R0 H0 H H0' H' → Ds K H0' v d → Q v H'
/-- a def of the module with its promise -/
def FnAt (P : Program) (w : World) (K : PySem.W.Frag) (mg : Str → Option Value) (base : Heap) (CX : CXT) (k : Nat) (x : Str) (ps : List Str) (sp : Sp) : Prop :=
  ∃ f fd, FnOk P w K mg base CX k f fd ps sp ∧ mg x = some (.ref f) ∧ PySem.W.keepIn K (.ref f) = true ∧ Binds K fd ps []
abbrev FnD (P : Program) (w : World) (K : PySem.W.Frag) (mg : Str → Option Value) (base : Heap) (k : Nat) (x : Str) (ps : List Str) (R : List PyData → PyData → Prop) : Prop := FnAt P w K mg base CX0 k x ps (spD K R)
def startE (N : List Str) (ds : List PyData) : DEnv := (ds.map fun d => some (Ent.d d)) ++ List.replicate (N.length - ds.length) none
section
variable {ρ : Rho} {X : Cx} {ds : DEnv} {d : PyData} {xs : List PyData} {pos p : Pos} {e : Expr} {es : List Expr} {x : Str} {k j : Nat} {ps : List Str} {R : List PyData → PyData → Prop}
theorem dv_call (G : FnD X.prog X.w X.K X.mg X.base k x ps R) (hr : Room j X.A) (hk : k ≤ j) (ha : Av ρ X ds (e :: es) xs) (h : R xs d) (hg : Gl X x := by rfl) (hdb : (x == ("__debug__" : Str)) = false := by decide)
    (he : starEach (e :: es) X.env = (false, eval e X.env) :: starEach es X.env := by rfl) (hpl : (backTo pos (starEach es X.env)).any (·.1) = false := by rfl) : Dv ρ X ds (.Call (.Name x p) (e :: es) [] pos) d := by
  obtain ⟨f, fd, F, hm, hkp, hb⟩ := G
  refine dv_of (pe_call (dvs := []) F (hr.mono hk) hg hm hkp hb .nil pass0 pa_w hdb he hpl) fun He σ H0 H S Q q => ?_
  refine ha He σ H0 H S _ fun vs H1 H1' f1 d1 => ?_
  rw [List.append_nil]
  have S1 := S.fr f1
  exact ⟨H1, xs, d, S1.sub, d1, h, fun v H2 H2' f2 d2 => q v H2 H2' (f1.trans f2.pure S.ok) d2⟩
end
theorem startE_get : ∀ {vs : List V} {ds : List PyData} {K : PySem.W.Frag} {H : Hp} {i : Nat} {e : Ent} {n : Nat}, DsAll K H vs ds → ((ds.map fun d => some (Ent.d d)) ++ List.replicate n none)[i]? = some (some e) → ∃ v d, (vs.map some ++ List.replicate n none)[i]? = some (some v) ∧ e = .d d ∧ Ds K H v d
  | _, _, _, _, i, e, n, .nil, h => by
    rw [List.map_nil, List.nil_append, List.getElem?_replicate] at h
    split at h
    · cases h
    · cases h
  | _, _, _, _, 0, e, n, .cons h1 h2, h => by
    simp at h
    exact ⟨_, _, rfl, h.symm, h1⟩
  | _, _, _, _, i + 1, e, n, .cons h1 h2, h => by
    obtain ⟨v, d, q1, q2, q3⟩ := startE_get (i := i) (e := e) (n := n) h2 (by simpa using h)
    exact ⟨v, d, by simpa using q1, q2, q3⟩
theorem startE_sat {K : PySem.W.Frag} {H0 H : Hp} {vs : List V} {ds : List PyData} {N : List Str} (s : Same H0 H) (h : DsAll K H0 vs ds) : Sat K R0 H H0 H (L2.start N vs) (startE N ds) where
  sub := s
  ok := True.intro
  len := by
    unfold L2.start startE
    rw [List.length_append, List.length_append, List.length_map, List.length_map, List.length_replicate, List.length_replicate, dpa_len h]
  get := fun i e q => by
    unfold L2.start startE at *
    rw [dpa_len h]
    obtain ⟨v, d, q1, q2, q3⟩ := startE_get h q
    subst q2
    exact ⟨v, q1, q3⟩
  apart := fun i j xs ys a q1 _ _ _ => by
    unfold startE at q1
    obtain ⟨v, d, _, q2, _⟩ := startE_get h q1
    cases q2
  rho := fun b hb => Bool.noConfusion hb
section
variable {P : Program} {w : World} {K : PySem.W.Frag} {mg : Str → Option Value} {base : Heap} {x : Str} {st : Stmt} {f : Addr} {fd : FuncData} {N ps : List Str} {k : Nat} {R : List PyData → PyData → Prop}
/-- a def's context where nothing is raised -/
abbrev cxN (P : Program) (w : World) (K : PySem.W.Frag) (mg : Str → Option Value) (base : Heap) (N : List Str) (x : Str) (st : Stmt) (f : Addr) (cdv : Value) (A : Around) (outer : List PySem.Env) (s : Shared) (H : Hp) (E : XK) : Cx :=
  (cxOf CX0 P w K mg base N x (defScope st) f cdv A outer s H E).nox
theorem fn_ret (F : Fun K x x st f fd) (S : FnScope N ps (defScope st)) (hm : mg x = some (.ref f)) (hb : Binds K fd ps []) (hl : ∀ ds d, R ds d → ds.length = ps.length)
    (body : ∀ (f : Addr) (cdv : Value) (A : Around) (outer : List PySem.Env) (s : Shared) (H : Hp) (E : XK), Room k (cxN P w K mg base N x st f cdv A outer s H E).A → ∀ ds d, R ds d → Bl R0 (cxN P w K mg base N x st f cdv A outer s H E) (startE N ds) (defBody st) (.ret d)) : FnD P w K mg base (k + 1) x ps R := by
  refine ⟨f, fd, F.ok S (fun vs H Q E h => ?_) (fun cdv A outer s H vs Q E hr h => ?_), hm, F.kp, hb⟩
  · obtain ⟨H0, ds, d, _, h2, h3, _⟩ := h
    rw [dpa_len h2]
    exact hl ds d h3
  · obtain ⟨H0, ds, d, h1, h2, h3, q⟩ := h
    exact ⟨_, pss_w, body f cdv A outer s H E hr ds d h3 H H0 _ H0 H (.refl h1) (startE_sat h1 h2) True.intro _ fun v H0' H' f dv => q v H0' H' f dv⟩
/-- .. that ends without a return -/
theorem fn_non (F : Fun K x x st f fd) (S : FnScope N ps (defScope st)) (hm : mg x = some (.ref f)) (hb : Binds K fd ps []) (hl : ∀ ds d, R ds d → ds.length = ps.length) (hn : ∀ ds d, R ds d → d = .none)
    (body : ∀ (f : Addr) (cdv : Value) (A : Around) (outer : List PySem.Env) (s : Shared) (H : Hp) (E : XK), Room k (cxN P w K mg base N x st f cdv A outer s H E).A → ∀ ds d, R ds d → ∃ ds', Bl R0 (cxN P w K mg base N x st f cdv A outer s H E) (startE N ds) (defBody st) (.nx ds')) : FnD P w K mg base (k + 1) x ps R := by
  refine ⟨f, fd, F.ok S (fun vs H Q E h => ?_) (fun cdv A outer s H vs Q E hr h => ?_), hm, F.kp, hb⟩
  · obtain ⟨H0, ds, d, _, h2, h3, _⟩ := h
    rw [dpa_len h2]
    exact hl ds d h3
  · obtain ⟨H0, ds, d, h1, h2, h3, q⟩ := h
    obtain ⟨ds', B⟩ := body f cdv A outer s H E hr ds d h3
    have e := hn ds d h3
    subst e
    exact ⟨_, pss_w, B H H0 _ H0 H (.refl h1) (startE_sat h1 h2) True.intro _ fun σ' H0' H' f _ _ => q .non H0' H' f .non⟩
end
end K8
set_option maxHeartbeats 1000000
namespace K8
open PySem PySem.Spec PyProof.Rows L2

/-! ### rules that the layer has for lists alone -/
section
variable {prog : Program} {w : World} {A : Around} {E : Value → Shared → Prop} {s : Shared}
/-- the items of a tuple, collected -/
theorem collect_tup {l : Addr} {vs : List Value} {Q : List Value → Shared → Prop} (hl : s.heap.IsTuple l vs.toArray) (hz : vs.length ≤ sizeLine)
    (k : Q vs { s with heap := (s.heap.push (seqObj "list" #[] 0)).update s.heap.objs.size (Obj.mapSeq (· ++ vs.toArray)) }) :
    wpAny (model prog w) A (collect (.ref l)) Q E s := by
  obtain ⟨o, g0, gc, n, gd⟩ := id hl
  have g1 : (s.heap.push (seqObj "list" #[] 0)).get? l = some o := Heap.get?_push_of_some _ g0
  unfold collect; refine wpAny_bind (wpAny_runValue (codeAny_builtin entry_proto_collect' ?_))
  show wpAny (model prog w) _ (do again (.builtin "list.__iadd__" ⟨[← newList [], .ref l], []⟩)) _ _ s
  refine wpAny_bind (wpAny_newList (wpAny_pure ⟨Code.quiet_builtin _ (by decide +kernel), codeAny_builtin entry_list_iadd' ?_⟩) (by decide))
  show wpAny (model prog w) _ (Builtin.List.listExtendWith (.ref s.heap.objs.size) (.ref l) (.ref s.heap.objs.size)) _ _ { s with heap := s.heap.push (seqObj "list" #[] 0) }
  unfold Builtin.List.listExtendWith; refine wpAny_bind (wpAny_typeOf (T := "tuple") ⟨o, g1, gc⟩ ?_)
  have t2 : (Value.type "tuple" == Value.type "tuple") = true := by rfl
  rw [if_pos (by rw [t2]; simp)]; refine wpAny_bind (listItems_at g1 gd ?_)
  refine wpAny_bind (listItems_at (n := 0) (xs := #[]) (Heap.get?_push_size _ rfl) rfl ?_); rw [if_neg (by simp)]
  refine wpAny_bind (listUpdate_at (n := 0) (xs := #[]) (Heap.get?_push_size _ rfl) rfl ?_ (Nat.zero_le _) (by show (#[] ++ vs.toArray).size ≤ sizeLine + 1; simp only [List.length_nil, List.size_toArray, Array.size_append]; omega)); refine wpAny_pure ?_
  show wpAny (model prog w) A (do { let o ← load s.heap.objs.size; match o.data with | .seq xs _ => pure xs.toList | _ => unsupported "internal:collect" }) Q E { s with heap := (s.heap.push (seqObj "list" #[] 0)).update s.heap.objs.size (Obj.mapSeq (· ++ vs.toArray)) }
  refine wpAny_bind (wpAny_load (get?_update_seq (Heap.get?_push_size _ rfl) _) ?_); show wpAny (model prog w) _ (pure ((#[] : Array Value) ++ vs.toArray).toList) Q E _
  have e : ((#[] : Array Value) ++ vs.toArray).toList = vs := by simp
  rw [e]; exact wpAny_pure k
end
section
variable {X : Cx}
/-- sorted(t) of a tuple of ints -/
def rSortTup (K : PySem.W.Frag) : List V → Hp → VK → Prop := fun vs H Q => ∃ (a : Addr) (ns : List Int), vs = [V.ref a] ∧ SqT K H a (ns.map V.int) ∧ ns.length < 64 ∧
  ∀ (ns' : List Int) (p : Addr), ns'.Perm ns → ns'.Pairwise (· ≤ ·) → H p = none → Q (.ref p) (upd H p (.lst (ns'.map V.int)))
theorem cr_sortTup : CallR X (.builtin "sorted") (rSortTup X.K) := by
  intro pins s σ H vs us Q I r h
  obtain ⟨a, ns, rfl, hs, h64, q⟩ := h
  obtain ⟨its, rv, ht, hz⟩ := I.tuple hs
  rw [Vals.ref1 r]
  have hi : IntsAre its ns := rv.ints
  have hl : its.length = ns.length := hi.length
  refine Calls.call_function_entry PyProof.Rows.kind_sorted PyProof.Rows.plain_sorted PyProof.Rows.entry_sorted (PyProof.Rows.args_sorted1 _) ?_
  unfold Builtin.«sorted»
  refine wpAny_bind (m := checkCount "sorted" 1 1 _) (wpAny_pure ?_)
  have hz' : its.length ≤ sizeLine := by rw [hl, sizeLine_eq]; omega
  refine wpAny_bind (collect_tup (show s.heap.IsTuple a its.toArray from ht) hz' ?_)
  refine wpAny_bind (wpAny_newList ?_ hz')
  have hk : ∀ b o, s.heap.get? b = some o → ((s.heap.push (seqObj "list" #[] 0)).update s.heap.objs.size (Obj.mapSeq (· ++ its.toArray))).get? b = some o := fun b o e => by
    rw [Heap.get?_update_ne _ _ _ _ (Nat.ne_of_lt (Heap.lt_size e))]; exact Heap.get?_push_of_some _ e
  have I1 : Inv X pins σ H { s with heap := (s.heap.push (seqObj "list" #[] 0)).update s.heap.objs.size (Obj.mapSeq (· ++ its.toArray)) } := I.kept (t' := s.toks) hk
  generalize (s.heap.push (seqObj "list" #[] 0)).update s.heap.objs.size (Obj.mapSeq (· ++ its.toArray)) = h' at I1 hk
  have hoL : (h'.push (seqObj "list" its.toArray 0)).get? h'.objs.size = some (seqObj "list" its.toArray 0) := Heap.get?_push_size _ rfl
  show wpAny _ _ _ _ _ { s with heap := h'.push (seqObj "list" its.toArray 0) }
  refine wpAny_bind (wpAny_holding (wpAny_call_entry PyProof.Rows.slot_list_sort ⟨_, hoL, rfl⟩ PyProof.Rows.entry_list_sort
    (PyProof.Rows.list_sort_tree (s := { s with heap := h'.push (seqObj "list" its.toArray 0) }) hoL hi (by rw [hl]; exact h64) fun out ys g1 g2 g3 => ⟨_, rfl, ?_⟩) (PyProof.Rows.args_list_sort _)))
  obtain ⟨e', he'⟩ := PyProof.Rows.sortedHeap_at (vs := its) (out := out) hoL
  have hlen : (ys.map V.int).length ≤ sizeLine := by
    rw [List.length_map, g2.length_eq, sizeLine_eq]; omega
  refine wpAny_pure ⟨_, rfl, .ref h'.objs.size, upd H h'.objs.size (.lst (ys.map V.int)), I1.laid (t' := s.toks) (fun b u e => ?_) (Nat.le_refl _)
    (show ObjOk X.prog X.w _ _ _ (.lst (ys.map V.int)) from ⟨hlen, out.toList, e', vals_of_ints g1, by rw [Array.toArray_toList]; exact he'⟩), rfl, q ys _ g2 g3 (I1.hok.fresh (Nat.le_refl _))⟩
  have hb : b < h'.objs.size := Heap.lt_size e
  rw [PyProof.Rows.sortedHeap_old (Nat.ne_of_lt hb) (by rw [size_push']; exact Nat.lt_succ_of_lt hb)]
  exact Heap.get?_push_of_some _ e
/-- sum(t) of a tuple of ints -/
def rSumT (K : PySem.W.Frag) : List V → Hp → VK → Prop := fun vs H Q => ∃ (a : Addr) (ns : List Int), vs = [V.ref a] ∧ SqT K H a (ns.map V.int) ∧ Q (.int ns.sum) H
theorem cr_sumT (hc : X.calm = true) : CallR X (.builtin "sum") (rSumT X.K) := by
  intro pins s σ H vs us Q I r h
  obtain ⟨a, ns, rfl, hs, q⟩ := h
  obtain ⟨its, rv, ht, _⟩ := I.tuple hs
  rw [Vals.ref1 r]
  have hi : IntsAre its ns := rv.ints
  obtain ⟨xs, e⟩ := hi.allInts.items
  have hn : numsOf (intItems xs).toList = ns := by rw [← e]; exact hi.numsOf
  rw [nums_intItems] at hn
  have ht' : s.heap.IsTuple a its.toArray := ht
  rw [e] at ht'
  refine PySem.W.ktm_sumG (I.ok.hd hc) ht' fun h' tk t' hk => ?_
  have z : preSum (numAt xs) xs.size = ns.sum := by
    rw [preSum_eq, List.take_of_length_le (by simp), hn]
  rw [z]
  exact ⟨.int _, H, I.kept hk, ⟨_, rfl⟩, q⟩
/-- d.values(), a view -/
def rDVals : V → List V → Hp → VK → Prop := fun x xs H Q => ∃ a kvs, x = .ref a ∧ xs = [] ∧ H a = some (.dK kvs) ∧ ∀ p, H p = none → Q (.ref p) (upd H p (viewO "dict_values" p a))
theorem mt_dvals : MtR X "dict.values" rDVals := by
  intro pins s σ H x xs v us Q I r rs h
  obtain ⟨a, kvs, rfl, rfl, ha, q⟩ := h
  obtain rfl : v = Value.ref a := r
  cases rs
  obtain ⟨hz, lo, vs, rel, hd⟩ := (show ObjOk X.prog X.w H s.heap a (.dK kvs) from I.hok a _ ha)
  refine call_meetsIn PySem.F.slot_dict_values hd.typeIs PySem.F.entry_dict_values (PySem.F.args_dict_values_1 _) (meets_dict_values (mixKind X.prog X.w) a lo) ⟨⟨vs, hd⟩, ?_⟩
  exact ⟨.ref s.heap.objs.size, _, I.laid (t' := s.toks) (fun b o e => Heap.get?_push_of_some _ e) (Nat.le_refl _) (viewO_ok (Heap.get?_push_size _ rfl)), rfl, q _ (I.hok.fresh (Nat.le_refl _))⟩
/-- max(d.values()) -/
def rMaxVw : List V → Hp → VK → Prop := fun xs H Q => ∃ (p a : Addr) (kvs : List (Key × V)) (ns : List Int), xs = [.ref p] ∧ H p = some (viewO "dict_values" p a) ∧ H a = some (.dK kvs) ∧ kvs.map Prod.snd = ns.map V.int ∧ ns ≠ [] ∧ ∀ m, m ∈ ns → (∀ y, y ∈ ns → y ≤ m) → Q (.int m) H
theorem cr_maxVw (hc : X.calm = true) : CallR X (.builtin "max") rMaxVw := by
  intro pins s σ H xs us Q I rx h
  obtain ⟨p, a, kvs, ns, rfl, hp, ha, hns, hne, q⟩ := h
  rw [Vals.ref1 rx]
  obtain ⟨hz, lo, vs, rel, ⟨od, es, ep, ho, hx, hdd, _, hpr, _⟩⟩ := (show ObjOk X.prog X.w H s.heap a (.dK kvs) from I.hok a _ ha)
  have hv : s.heap.get? p = some (DSub.viewOb "dict_values" a) := (show ObjOk X.prog X.w H s.heap p (viewO "dict_values" p a) from I.hok p _ hp).1
  have l1 : kvs.length = ns.length := by
    have e := congrArg List.length hns
    rw [List.length_map, List.length_map] at e
    exact e
  have l2 : es.size = ns.length := by
    have e := hpr.length
    rw [Array.length_toList] at e
    rw [e, ← rel.length, l1]
  have hpos : 0 < ns.length := List.length_pos_iff.mpr hne
  have hP : ∀ (i : Nat) (e : DictEntry), es[i]? = some e → ∃ t, e.val = .int (ns.getD i 0) t := fun i e he => by
    have hi : i < es.size := by
      rcases Nat.lt_or_ge i es.size with z | z
      · exact z
      · rw [Array.getElem?_eq_none z] at he; cases he
    have hik : kvs[i]? = some kvs[i] := List.getElem?_eq_getElem (by omega)
    obtain ⟨u, hu, ru⟩ := kv_get (k := kvs[i].1) (v := kvs[i].2) rel hik
    obtain ⟨_, h2⟩ := hpr.get? (e := e) (by simpa using he) hu
    have e2 : kvs[i].2 = V.int (ns.getD i 0) := by
      have z : (kvs.map Prod.snd)[i]? = (ns.map V.int)[i]? := by rw [hns]
      rw [List.getElem?_map, hik, List.getElem?_map, List.getElem?_eq_getElem (show i < ns.length by omega)] at z
      have z2 : kvs[i].2 = V.int ns[i] := Option.some.inj z
      rw [z2, List.getD_eq_getElem?_getD, List.getElem?_eq_getElem (show i < ns.length by omega)]
      rfl
    rw [e2] at ru
    rw [h2]
    exact ru
  have la : a < s.heap.objs.size := Heap.lt_size ho
  refine call_max_walk (DSub.iter_vals hv ho hdd ?_)
  refine ⟨s.heap.objs.size, [s.heap.objs.size, a], [s.heap.objs.size], es.size, fun i v => ∃ t, v = .int (ns.getD i 0) t, _, fun i j => decide (ns.getD i 0 > ns.getD j 0), rfl, DSub.walksVal (a := a) (show X.A.in1.handled = none from I.ok.hd hc) (Nat.ne_of_lt la) hdd hP, ⟨Heap.get?_push_size _ rfl, Heap.get?_push_of_some _ ho⟩, fun b hb => ?_, by omega, CmpOf.ints_gt (fun i => ns.getD i 0) (fun i v z => z), fun v h' tk hv' hk => ?_⟩
  · show b < (s.heap.push _).objs.size
    rw [size_push']
    rcases List.mem_cons.mp hb with z | z
    · rw [z]; exact Nat.lt_succ_self _
    · rw [List.mem_singleton.mp z]; exact Nat.lt_succ_of_lt la
  · obtain ⟨t, rfl⟩ := hv'
    obtain ⟨m1', m2'⟩ := argBest_gt (fun i => ns.getD i 0) (es.size - 1)
    have m1 : argBest (fun i j => decide (ns.getD i 0 > ns.getD j 0)) (es.size - 1) ≤ es.size - 1 := m1'
    have m2 : ∀ j, j ≤ es.size - 1 → ns.getD j 0 ≤ ns.getD (argBest (fun i j => decide (ns.getD i 0 > ns.getD j 0)) (es.size - 1)) 0 := m2'
    have hk2 : ∀ b o, s.heap.get? b = some o → h'.get? b = some o := fun b o e => hk b o (fun z => by rw [List.mem_singleton.mp z] at e; exact absurd (Heap.lt_size e) (Nat.lt_irrefl _)) (Heap.get?_push_of_some _ e)
    refine ⟨.int _, H, I.kept (t' := tk) hk2, ⟨t, rfl⟩, q _ (PySem.getD_mem (by omega)) fun y hy => ?_⟩
    obtain ⟨j, hj, e⟩ := List.mem_iff_getElem.mp hy
    have z := m2 j (by omega)
    have e3 : ns.getD j 0 = y := by rw [List.getD_eq_getElem?_getD, List.getElem?_eq_getElem hj, ← e] <;> rfl
    rw [e3] at z
    exact z
end
end K8
set_option maxHeartbeats 1000000
namespace K8
open PySem PySem.Spec PyProof.Rows L2
/-! ### the greatest of a list of pairs -/
def rMaxP (K : PySem.W.Frag) : List V → Hp → VK → Prop := fun vs H Q => ∃ (a : Addr) (ws : List V) (x : Int × Int) (xs : List (Int × Int)), vs = [V.ref a] ∧ H a = some (.lst ws) ∧ DsAll K H ws ((x :: xs).map fun p => .tuple [.int p.1, .int p.2]) ∧
  ∀ (i : Nat) w, ws[i]? = some w → (x :: xs)[i]? = some (PySem.W.maxOf x xs) → Q w H
theorem cr_maxP {k : Nat} {X : Cx} (hr : Room k X.A) (hc : X.calm = true) : CallR X (.builtin "max") (rMaxP X.K) := by
  intro pins s σ H vs us Q I r h
  obtain ⟨a, ws, x, xs, rfl, hs, hd, q⟩ := h
  obtain ⟨its, rv, hl, _⟩ := I.list (SqL.of hs)
  rw [Vals.ref1 r]
  obtain ⟨as, hra⟩ := Dp.readsAll I _ _ its (ds_dpa hd) rv
  refine PySem.W.max_list_data (vs := its.toArray) (x := PySem.W.Datum.toD x) (xs := xs.map PySem.W.Datum.toD) (I.ok.hd hc) hl.isList hra (PySem.W.alikeAll_datum (x :: xs)) (PySem.W.room_all (PySem.W.depthAll_map (x :: xs)) ?_) fun i v h' tk bs hi rd hk => ?_
  · have := hr.un
    show X.A.units + 1 + _ < cLine
    have e : PySem.W.Datum.depth (Int × Int) ≤ 10 := by decide
    omega
  · rw [PySem.W.maxD_map] at rd
    have hi' : its[i]? = some v := by simpa using hi
    have hil : i < ws.length := by rw [rv.length]; exact (List.getElem?_eq_some_iff.mp hi').1
    obtain ⟨u, hu, ru⟩ := rv.get (List.getElem?_eq_getElem hil)
    rw [hi'] at hu
    cases hu
    obtain ⟨d, hd1, hd2⟩ := dpa_at' hd (List.getElem?_eq_getElem hil)
    obtain ⟨bs2, r2⟩ := Dp.reads I d _ v (ds_dp hd2) ru
    have r3 := PySem.W.reads_keeps hk r2
    rw [List.getElem?_map] at hd1
    obtain ⟨p, hp, rfl⟩ := Option.map_eq_some_iff.mp hd1
    have e := SeqAt.Reads.unique _ _ v _ _ (by simp [PyData.canLay0, PyData.canLayAll0]) r3 rd
    have e' : PyData.tuple [.int p.1, .int p.2] = .tuple [.int (PySem.W.maxOf x xs).1, .int (PySem.W.maxOf x xs).2] := e
    have e2 : p = PySem.W.maxOf x xs := by
      injection e' with e'
      injection e' with a1 a2
      injection a1 with a1
      injection a2 with a2
      injection a2 with a2
      exact Prod.ext a1 a2
    refine ⟨_, H, I.kept (t' := tk) hk, ru, q i _ (List.getElem?_eq_getElem hil) ?_⟩
    rw [hp, e2]
theorem maxOf_fst : ∀ (x : Int × Int) (xs : List (Int × Int)), (PySem.W.maxOf x xs).1 = (xs.map (·.1)).foldl max x.1
  | x, [] => rfl
  | x, y :: r => by
    show (PySem.W.maxOf (if (if x.1 = y.1 then decide (x.2 < y.2) else decide (x.1 < y.1)) = true then y else x) r).1 = (r.map (·.1)).foldl max (max x.1 y.1)
    rw [maxOf_fst]
    congr 1
    by_cases e : x.1 = y.1
    · rw [if_pos e]
      split
      · rw [e, Int.max_self]
      · rw [e, Int.max_self]
    · rw [if_neg e]
      split
      · rename_i h
        have h' := of_decide_eq_true h
        rw [Int.max_eq_right (by omega)]
      · rename_i h
        have h' : ¬ x.1 < y.1 := fun z => h (decide_eq_true z)
        rw [Int.max_eq_left (by omega)]
/-! ### enumerate(tuple) -/
theorem meets_enumT (l : Addr) (items : Array Value) (n : Nat) (dct : Option Addr) (sl : Array (Option Value)) :
    Meets (Builtin.«enumerate.__new__» ⟨[.type "enumerate", .ref l], []⟩) (fun _ R s => s.heap.get? l = some { cls := .type "tuple", dict := dct, data := .seq items n, slots := sl } ∧
      R (.ok (.ret (.ref (s.heap.push { cls := .type "tuple_iterator", data := .fields #[.ref l, .int 0 0] }).objs.size)))
        { s with heap := (s.heap.push { cls := .type "tuple_iterator", data := .fields #[.ref l, .int 0 0] }).push { cls := .type "enumerate", data := .fields #[.none, .bool false, .ref s.heap.objs.size, rawInt 0, .none, .none] } }) :=
  .of_wp fun prog w A R s h => by
    obtain ⟨hp, g, d, tk, os⟩ := s
    obtain ⟨hl, h⟩ := h
    have hsub := sub_enumerate
    have hL : Heap.IsTuple (Shared.heap ⟨hp, g, d, tk, os⟩) l items := ⟨_, hl, rfl, n, rfl⟩
    wp_walk using PySem.AutoSeq1.wpAny_loadPart' hl
    refine wpAny_stack_any fun st => wpAny_pure ?_
    split
    · rename_i c _ _ _ _ _
      cases (c == Value.type "enumerate")
      · wp_walk using PySem.AutoSeq1.wpAny_loadPart' hl, wpAny_pyIter_tuple hL
        exact ⟨_, rfl, h⟩
      · wp_walk using PySem.AutoSeq1.wpAny_loadPart' hl, wpAny_pyIter_tuple hL
        exact ⟨_, rfl, h⟩
    · wp_walk using PySem.AutoSeq1.wpAny_loadPart' hl, wpAny_pyIter_tuple hL
      exact ⟨_, rfl, h⟩
section
variable {prog : Program} {w : World} {A : Around} {E : Value → Shared → Prop} {s : Shared}
theorem call_enumT {l : Addr} {items : Array Value} {Q : Value → Shared → Prop} (hL : s.heap.IsTuple l items)
    (h : ∀ h', IsEnum h' (s.heap.objs.size + 1) s.heap.objs.size 0 .none → h'.IsTupleIter s.heap.objs.size l 0 → (∀ b o, s.heap.get? b = some o → h'.get? b = some o) → Q (.ref (s.heap.objs.size + 1)) { s with heap := h' }) :
    wpAny (model prog w) A (call (.type "enumerate") [.ref l]) Q E s := by
  obtain ⟨⟨c, dct, dt, sl⟩, hl, hc, n, hd⟩ := hL
  obtain rfl : c = .type "tuple" := hc
  obtain rfl : dt = .seq items n := hd
  refine callType_new F.called_enumerate (by decide) (F.typeCall_enumerate_1 _) (F.newCall_enumerate_1 _) (fun obj => F.args_object_init_2 obj _) F.entry_enumerate_new (meets_enumT l items n dct sl) ⟨hl, ?_⟩
  have hz : (s.heap.push { cls := .type "tuple_iterator", data := .fields #[.ref l, .int 0 0] }).objs.size = s.heap.objs.size + 1 := Heap.size_push ..
  show _ ∧ _
  rw [hz]
  have he : IsEnum ((s.heap.push { cls := .type "tuple_iterator", data := .fields #[.ref l, .int 0 0] }).push
      { cls := .type "enumerate", data := .fields #[.none, .bool false, .ref s.heap.objs.size, rawInt 0, .none, .none] }) (s.heap.objs.size + 1) s.heap.objs.size 0 .none := by
    have q := Heap.get?_push_size (s.heap.push { cls := .type "tuple_iterator", data := .fields #[.ref l, .int 0 0] }) (o := { cls := .type "enumerate", data := .fields #[.none, .bool false, .ref s.heap.objs.size, rawInt 0, .none, .none] }) rfl
    rw [hz] at q
    exact q
  exact ⟨⟨_, he, rfl⟩, h _ he ⟨_, Heap.get?_push_of_some _ (Heap.get?_push_size _ rfl), rfl, rfl⟩ fun b o x => Heap.get?_push_of_some _ (Heap.get?_push_of_some _ x)⟩
end
section
variable {prog : Program} {w : World} {A : Around} {E : Value → Shared → Prop} {s : Shared}
theorem enumT_end {e it t : Addr} {i : Nat} {items : Array Value} {old : Value} {Q : Option Value → Shared → Prop} (hh : A.handled = none) (he : IsEnum s.heap e it i old) (hit : s.heap.IsTupleIter it t i) (ht : s.heap.IsTuple t items)
    (hx : items[i]? = none) (k : ∀ h', Heap.ExtBut it s.heap h' → Q none { s with heap := h' }) : wpAny (model prog w) A (pyNext (.ref e)) Q E s := by
  have ty : s.TypeIs (.ref e) "enumerate" := ⟨_, he, rfl⟩
  unfold pyNext; refine wpAny_bind (wpAny_attempt (wpAny_callSpecial?_slot (name := Str.ofString "__next__") ty F.slot_enumerate_next (wpAny_call_entry F.slot_enumerate_next ty F.entry_enumerate_next ?_ (F.args_enumerate_next_1 _))))
  show wpAny (model prog w) _ (field (.ref e) 2 >>= _) _ _ s
  refine wpAny_bind (wpAny_field (x := .ref it) he rfl rfl (wpAny_bind (wpAny_nextOf_tuple_end hh hit ht hx fun h' x g1 ⟨o, g2, g3⟩ => ?_)))
  exact wpAny_bind (wpAny_isInstance (b := true) (T := "StopIteration") ⟨o, g2, g3⟩ isSubtype_stop (wpAny_pure (k _ g1)))
end
/-- the tuple at a, each item in a new pair with its place -/
def IteT (K : PySem.W.Frag) (a : Addr) : It :=
  ⟨fun i H => ∃ (xs : List V) (x : V), SqT K H a xs ∧ xs[i]? = some x, fun i H v H' => ∃ T x, v = .ref T ∧ H T = none ∧ H' = upd H T (.tup [.int (i : Nat), x]) ∧ ∀ xs, SqT K H a xs → xs[i]? = some x, fun i H => ∃ xs : List V, SqT K H a xs ∧ xs.length ≤ i⟩
theorem turn_enumT {P : Program} {w : World} {K : PySem.W.Frag} {elts : List Expr} {kk : Nat} {tpos : Pos} (a e it : Addr) (hae : a ≠ e) (hai : a ≠ it) :
    Turn P w K (.Tuple elts kk tpos) (IteT K a) [e, it] e (fun i h => (∃ old, IsEnum h e it ((i : Nat) : Int) old) ∧ h.IsTupleIter it a i ∧ e ≠ it) where
  mem := List.mem_cons_self
  obj := fun i h st b hb => by
    obtain ⟨⟨old, he⟩, ⟨o, ho, hc, hd⟩, _⟩ := st
    rcases List.mem_cons.mp hb with z | z
    · rw [z]; exact ⟨_, he, fun v q => nomatch q⟩
    · rw [List.mem_singleton.mp z]; exact ⟨o, ho, fun v q => by rw [hd] at q; cases q⟩
  keep := fun i h h' st k => by
    obtain ⟨⟨old, he⟩, hi, hne⟩ := st
    exact ⟨⟨old, k e List.mem_cons_self _ he⟩, hi.at fun o q => k it (List.mem_cons_of_mem _ List.mem_cons_self) o q, hne⟩
  item := by
    intro X hP hw hK hc i pins s σ H E I hf st hg
    subst hP hw hK
    obtain ⟨⟨old, he⟩, hit, hne⟩ := st
    obtain ⟨xs, x, hq, hx⟩ := hg
    obtain ⟨its, rv, p, hz⟩ := I.tuple hq
    obtain ⟨u, hu, ru⟩ := rv.get hx
    have hel : e < s.heap.objs.size := Heap.lt_size he
    have hil : it < s.heap.objs.size := by
      obtain ⟨_, q, _⟩ := hit
      exact Heap.lt_size q
    have hlt : i < its.toArray.size := by
      have z := (List.getElem?_eq_some_iff.mp hu).1
      rw [List.size_toArray]
      exact z
    refine wpAny_pyNext_enum_itemD (Draws.tuple (A := X.A.in1) (show X.A.in1.handled = none from I.ok.hd hc) it a hai its.toArray) he ⟨hit, p⟩ hlt hne (fun z => ?_) fun y h' tk hy ho st' hT hsz hk => ?_
    · rcases List.mem_cons.mp z with q | q
      · exact hne q
      · exact hae (List.mem_singleton.mp q).symm
    have ey : y = u := by
      have q : its[i]? = some y := by simpa using hy
      rw [hu] at q
      exact (Option.some.inj q).symm
    subst ey
    refine ⟨_, rfl, wpAny_letOwnedTupleGo_enum (s := { s with heap := h', toks := tk + 1 }) ho fun h'' he' sb => ?_⟩
    have hT2 : h''.get? s.heap.objs.size = some { cls := .type "tuple", data := .seq #[.int i tk, y] } := (sb.2 _ (Nat.ne_of_gt hel)).trans hT
    have new : ObjOk X.prog X.w (upd H s.heap.objs.size (.tup [.int (i : Nat), x])) h'' s.heap.objs.size (.tup [.int (i : Nat), x]) :=
      ⟨(by decide : 2 ≤ sizeLine), [.int i tk, y], .cons ⟨_, rfl⟩ (.cons ru .nil), ⟨_, hT2, rfl, _, rfl⟩⟩
    have I1 : Inv X pins σ (upd H s.heap.objs.size (.tup [.int (i : Nat), x])) { s with heap := h'', toks := tk + 1 } :=
      I.turnedNew (ch := [e, it]) (fun b ob hb q => (sb.2 b (fun z => hb (by rw [z]; exact List.mem_cons_self))).trans (hk b ob (fun z => hb (by rw [z]; exact List.mem_cons_self)) (fun z => hb (by rw [z]; exact List.mem_cons_of_mem _ List.mem_cons_self)) q)) hf (Nat.le_refl _) new
    refine ⟨.ref s.heap.objs.size, _, I1, rfl, ⟨_, x, rfl, I.hok.fresh (Nat.le_refl _), rfl, fun ys hy => by rw [I.tuple_inj hy hq]; exact hx⟩, ⟨⟨y, ?_⟩, st'.1.at fun o q => (sb.2 it (Ne.symm hne)).trans q, hne⟩, fun b hb => ?_⟩
    · have e1 : ((i + 1 : Nat) : Int) = (i : Int) + 1 := by omega
      rw [e1]
      exact he'
    · have hb' : b < s.heap.objs.size := by
        rcases List.mem_cons.mp hb with z | z
        · rw [z]; exact hel
        · rw [List.mem_singleton.mp z]; exact hil
      rw [upd_ne (Nat.ne_of_lt hb')]
      exact (hf b hb).1
  done := by
    intro X hP hw hK hc i pins s σ H E I hf st hg
    subst hP hw hK
    obtain ⟨⟨old, he⟩, hit, hne⟩ := st
    obtain ⟨xs, hq, hx⟩ := hg
    obtain ⟨its, rv, p, hz⟩ := I.tuple hq
    obtain ⟨f0, f1, f2, f3, f4, f5⟩ := hf it (List.mem_cons_of_mem _ List.mem_cons_self)
    have hl := rv.length
    exact enumT_end (I.ok.hd hc) he hit (show s.heap.IsTuple a its.toArray from p) (by simp; omega) fun h' eb => ⟨rfl, I.turned (t' := s.toks) (fun b o hb q => eb b o hb q) f0 f1 f3 f4 f5⟩
  self := fun A i s Q E st h => by
    obtain ⟨⟨_, he⟩, _⟩ := st
    exact wpAny_pyIter_enum he h
def iEnumT (K : PySem.W.Frag) (ta : TA) : TI := fun σ H R => ta σ H fun vs H1 => ∃ a xs, vs = [.ref a] ∧ SqT K H1 a xs ∧ R (IteT K a) H1
theorem pi_enumT {X : Cx} {e : Expr} {ta : TA} {p pos tpos : Pos} {elts : List Expr} {kk : Nat} (hg : Gl X "enumerate") (hm : X.mg "enumerate" = none) (ha : PA X [e] ta) (hs : starEach [e] X.env = [(false, eval e X.env)] := by rfl) :
    PI X (.Tuple elts kk tpos) (.Call (.Name "enumerate" p) [e] [] pos) (iEnumT X.K ta) := by
  refine ⟨fun pins s σ H R I h => ?_⟩
  refine Call_ (ld_blt I hg hm boot_enumerate (PyProof.Rows.callWith_type1 (thn (ha.run pos pins s σ H _ I h) fun us s1 ⟨vs, H1, I1, r1, q1⟩ => ?_) hs rfl))
  obtain ⟨a, xs, rfl, hq, q⟩ := q1
  rw [Vals.ref1 r1]
  obtain ⟨its, rv, ht, hz⟩ := I1.tuple hq
  have la : a < s1.heap.objs.size := ht.lt
  refine call_enumT (show s1.heap.IsTuple a its.toArray from ht) fun h' he hit hk => wpAny_pyIter_enum he ?_
  have I2 : Inv X pins σ H1 { s1 with heap := h' } := I1.kept (t' := s1.toks) hk
  refine ⟨s1.heap.objs.size + 1, [s1.heap.objs.size + 1, s1.heap.objs.size], _, _, H1, rfl, I2, turn_enumT a (s1.heap.objs.size + 1) s1.heap.objs.size (Nat.ne_of_lt (Nat.lt_succ_of_lt la)) (Nat.ne_of_lt la), ⟨⟨.none, he⟩, hit, Nat.succ_ne_self _⟩, fun b hb => ?_, q⟩
  have hle : s1.heap.objs.size ≤ b := by
    rcases List.mem_cons.mp hb with z | z
    · rw [z]; exact Nat.le_succ _
    · rw [List.mem_singleton.mp z]; exact Nat.le_refl _
  exact I1.fpOk hle (I1.hok.fresh hle)
section
variable {ρ : Rho} {K : PySem.W.Frag} {ds : DEnv} {α : Type}
theorem src_enumT {ta : TA} {as : List α} {f : α → PyData} (i j : Nat) (h : EvA ρ K ta ds [.tuple (as.map f)]) : Src ρ K (iEnumT K ta) (gPair K i j) ds ((List.range as.length).zip as) (fun x e => (e.set i (some (.d (.int (x.1 : Int))))).set j (some (.d (f x.2)))) [i, j] := fun He σ H0 H S R k => by
  refine h He σ H0 H S _ fun vs H1 H1' g d => ?_
  obtain ⟨v, rfl, d'⟩ := dpa_one d
  obtain ⟨p, vs, rfl, q1, q2⟩ := tup_dp d'
  have hl := dpa_len q2
  rw [List.length_map] at hl
  have hz : ((List.range as.length).zip as).length = as.length := by
    rw [List.length_zip, List.length_range, Nat.min_self]
  refine ⟨p, vs, rfl, SqT.of (g.sub _ _ q1), k _ H1 H1' g (fun n H2 H2' s1 s2 _ hi => ⟨vs, SqT.of (s2 _ _ (s1 _ _ q1)), by rw [hl, ← hz]; exact hi⟩) fun n a H2 H2' s1 s2 _ ha => ?_⟩
  obtain ⟨h1, h2⟩ := zip_at ha
  have hn : n < as.length := (List.getElem?_eq_some_iff.mp h2).1
  rw [List.getElem?_range hn] at h1
  have ea : n = a.1 := Option.some.inj h1
  obtain ⟨v, hv, dv⟩ := dpa_at q2 (at_map h2)
  refine ⟨⟨vs, v, SqT.of (s2 _ _ (s1 _ _ q1)), hv⟩, fun x Hy y => ?_⟩
  obtain ⟨T, x2, rfl, hT, rfl, y2⟩ := y
  have e2 : vs[n]? = some x2 := y2 vs (SqT.of (s2 _ _ (s1 _ _ q1)))
  rw [hv] at e2
  cases e2
  obtain ⟨a1, a2⟩ := a
  have ea' : n = a1 := ea
  subst ea'
  have n2 := same_new (o := HO.tup [V.int (n : Nat), v]) (s2.free hT)
  exact ⟨_, Frm.new s2 hT, fun He' σ' ds' S' Q' k' => pair_set S' (SqT.of upd_same) (.int _) (dp_mono n2 (dp_mono s1 dv)) k'⟩
end
/-! ### the same over data -/
section
variable {ρ : Rho} {X : Cx} {ds : DEnv} {a b c e : Expr} {es : List Expr} {x y z d : PyData} {xs : List PyData} {pos p2 : Pos} {K : PySem.W.Frag}
theorem rc_sumT {ns : List Int} : RcD ρ K (rSumT K) [.tuple (ns.map .int)] (.int ns.sum) := fun H0 H vs s k d1 Q q => by
  obtain ⟨v, rfl, d⟩ := dpa_one d1
  obtain ⟨p, rfl, q1⟩ := dp_intsT d
  exact ⟨p, ns, rfl, SqT.of (s _ _ q1), q _ H0 H (.refl s) (.int _)⟩
theorem rc_sortTup {ns : List Int} (h : ns.length < 64) : RcD ρ K (rSortTup K) [.tuple (ns.map .int)] (.list ((isort ns).map .int)) := fun H0 H vs s k d1 Q q => by
  obtain ⟨v, rfl, d⟩ := dpa_one d1
  obtain ⟨p, rfl, q1⟩ := dp_intsT d
  refine ⟨p, ns, rfl, SqT.of (s _ _ q1), h, fun ns' l h1 h2 hl => ?_⟩
  rw [up_uniq (h1.trans (isort_perm ns).symm) h2 (isort_up ns)]
  exact q _ _ _ (Frm.new s hl) (.lst upd_same (dpa_ints _))
/-- the pair with the greatest first number -/
def maxPr : List (Int × Int) → Int × Int
  | [] => (0, 0)
  | x :: xs => PySem.W.maxOf x xs
theorem maxPr_fst (l : List (Int × Int)) : (maxPr l).1 = maxI (l.map (·.1)) := by
  cases l with
  | nil => rfl
  | cons x xs => exact maxOf_fst x xs
theorem rc_maxP {l : List (Int × Int)} (h : l ≠ []) : RcD ρ K (rMaxP K) [.list (l.map fun p => .tuple [.int p.1, .int p.2])] (.tuple [.int (maxPr l).1, .int (maxPr l).2]) := fun H0 H vs s k d1 Q q => by
  obtain ⟨v, rfl, d⟩ := dpa_one d1
  obtain ⟨p, ws, rfl, q1, q2⟩ := seq_dp d
  cases l with
  | nil => exact absurd rfl h
  | cons x xs => 
    refine ⟨p, ws, x, xs, rfl, s _ _ q1, dpa_mono s q2, fun i w h1 h2 => ?_⟩
    obtain ⟨v, hv, dv⟩ := dpa_at q2 (at_map (f := fun p : Int × Int => PyData.tuple [.int p.1, .int p.2]) h2)
    rw [h1] at hv
    cases hv
    exact q w H0 H (.refl s) dv
/-- the greatest value of a dict of ints -/
theorem ed_maxVals {te : TE} {d : List (Int × Int)} (hne : d ≠ []) (h : ∀ He σ H0 H, Sat K ρ He H0 H σ ds → ∀ Q : VK, (∀ a, H0 a = some (.dK (d.map fun p => (Sum.inl p.1, V.int p.2))) → Q (.ref a) H) → te σ H Q) :
    EvD ρ K (tCB rMaxVw (tCons (tBM0 K "dict" rDVals te) tNil)) ds (.int (maxI (d.map (·.2)))) := fun He σ H0 H S Q q => by
  refine h He σ H0 H S _ fun a ha => ⟨.inr (.inr (.inl ⟨rfl, .inl ⟨_, S.sub _ _ ha⟩⟩)), a, _, rfl, rfl, S.sub _ _ ha, fun p hp => ?_⟩
  have hap : a ≠ p := ne_of_none (S.sub _ _ ha) hp
  refine ⟨p, a, _, d.map (·.2), rfl, upd_same, by rw [upd_ne hap]; exact S.sub _ _ ha, ?_, by simpa using hne, fun m h1 h2 => ?_⟩
  · rw [List.map_map, List.map_map]
    rfl
  · rw [maxI_uniq h1 h2]
    exact q _ H0 _ ⟨Same.refl _, S.sub.trans (same_new hp), fun b o _ e => same_new hp _ _ e, fun b e _ => e, fun k => Rho.same k (same_new hp)⟩ (.int _)
end
end K8
set_option maxHeartbeats 1000000
namespace K8
open PySem PySem.Spec PyProof.Rows L2
section
variable {K : PySem.W.Frag} {ρ : Rho} {He H0 H : Hp} {σ : L2.St} {ds : DEnv} {v : V} {e : Ent}
theorem Sat.setE (S : Sat K ρ He H0 H σ ds) {i : Nat} (h : EntOk K ρ He H0 H v e) (no : ∀ xs, e ≠ .own xs) : Sat K ρ He H0 H (σ.set i (some v)) (ds.set i (some e)) where
  sub := S.sub
  ok := S.ok
  len := by rw [List.length_set, List.length_set]; exact S.len
  get := fun j u q => by
    by_cases hj : i = j
    · subst hj
      by_cases hi : i < ds.length
      · rw [List.getElem?_set_self hi] at q
        cases q
        exact ⟨v, by rw [List.getElem?_set_self (by rw [S.len]; exact hi)], h⟩
      · rw [List.getElem?_eq_none (by rw [List.length_set]; omega)] at q
        cases q
    · rw [List.getElem?_set_ne hj] at q ⊢
      exact S.get j u q
  apart := fun j k xs ys a q1 q2 q3 q4 => by
    have ne : ∀ (j : Nat) (xs : List PyData), (ds.set i (some e))[j]? = some (some (.own xs)) → i ≠ j := fun j xs q z => by
      subst z
      by_cases hi : i < ds.length
      · rw [List.getElem?_set_self hi] at q
        exact no xs (Option.some.inj (Option.some.inj q))
      · rw [List.getElem?_eq_none (by rw [List.length_set]; omega)] at q
        cases q
    have n1 := ne j xs q1
    have n2 := ne k ys q2
    rw [List.getElem?_set_ne n1] at q1 q3
    rw [List.getElem?_set_ne n2] at q2 q4
    exact S.apart j k xs ys a q1 q2 q3 q4
  rho := S.rho
end
/-! ### a dict of ints in a name -/
theorem bt_dict : bootBuiltins "dict" = some (.type "dict") := by decide +kernel
theorem nd_keys : ∀ {l : List (Int × Int)}, (l.map (·.1)).Nodup → ((l.map fun p => ((Sum.inl p.1 : Key), V.int p.2)).map (·.1)).Nodup := fun {l} h => by
  have e : ((l.map fun p => ((Sum.inl p.1 : Key), V.int p.2)).map (·.1)) = (l.map (·.1)).map (fun k : Int => (Sum.inl k : Key)) := by
    rw [List.map_map, List.map_map]
    rfl
  rw [e]
  exact List.Pairwise.map _ (fun a b h z => h (Sum.inl.inj z)) h
theorem merge_new : ∀ (l acc : List (Key × V)), ((acc ++ l).map (·.1)).Nodup → mergeK acc l = acc ++ l
  | [], acc, _ => by
    rw [List.append_nil]
    rfl
  | p :: r, acc, h => by
    have e : putK acc p.1 p.2 = acc ++ [p] := by
      unfold putK
      have no : (acc.any fun kv => decide (kv.1 = p.1)) = false := by
        rw [List.any_eq_false]
        intro q hq z
        have z' := of_decide_eq_true z
        rw [List.map_append, List.nodup_append] at h
        exact h.2.2 q.1 (List.mem_map_of_mem hq) p.1 (by simp) z'
      rw [no, if_neg Bool.false_ne_true]
    have ih := merge_new r (acc ++ [p]) (by rw [List.append_assoc]; exact h)
    rw [List.append_assoc] at ih
    show mergeK (putK acc p.1 p.2) r = acc ++ p :: r
    rw [e, ih]
    rfl
section
variable {ρ : Rho} {X : Cx} {ds : DEnv} {a b c e : Expr} {es : List Expr} {x y z d : PyData} {xs : List PyData} {pos p2 : Pos} {K : PySem.W.Frag} {rs : List Stmt} {o : Out}
theorem pairs_of {H : Hp} : ∀ {l : List (Int × Int)} {vs : List V}, DsAll K H vs (l.map fun p => .tuple [.int p.1, .int p.2]) → ∃ ps : List Addr, vs = ps.map V.ref ∧ Paired (fun p (kv : Key × V) => SqT K H p [kV kv.1, kv.2]) ps (l.map fun p => ((Sum.inl p.1 : Key), V.int p.2))
  | [], _, .nil => ⟨[], rfl, .nil⟩
  | q :: l, _, .cons h1 h2 => by
    obtain ⟨p, ws, rfl, g1, g2⟩ := tup_dp h1
    obtain ⟨v1, v2, rfl, e1, e2⟩ := dpa_two g2
    cases e1
    cases e2
    obtain ⟨ps, rfl, hp⟩ := pairs_of h2
    exact ⟨p :: ps, rfl, .cons (SqT.of g1) hp⟩
theorem bl_dict (i : Nat) {l : List (Int × Int)} {nm : Str} {p : Pos} (hc : X.calm = true) (hN : X.N.Nodup) (hm : X.mg "dict" = none) (he : Dv ρ X ds e (.list (l.map fun p => .tuple [.int p.1, .int p.2]))) (hnd : (l.map (·.1)).Nodup) (hr : Bl ρ X (ds.set i (some (.dk l))) rs o) (hi : X.N[i]? = some nm := by rfl) (hx : Loc X.env.scope nm := by first | exact Or.inl rfl | exact Or.inr rfl) {pos' : Pos}
    (hg : Gl X "dict" := by rfl) (h1 : starEach (e :: []) X.env = (false, eval e X.env) :: starEach [] X.env := by rfl) (hpl : (backTo p2 (starEach [] X.env)).any (·.1) = false := by rfl)
    (hs : swapsWith (.Call (.Name "dict" p) [e] [] p2) (some (.Name nm pos')) pos.line X.env = pure false := by rfl) (hf : X.fn nm = true ∨ X.env.scope.names.lookup nm = some .local := by first | exact .inl rfl | exact .inr rfl) : Bl ρ X ds (.Assign [.Name nm pos'] (.Call (.Name "dict" p) [e] [] p2) pos :: rs) o := fun He H0e σ H0 H F S k D q =>
  ws_of (pss_cons (ps_set hN hi hx (pe_callTy (call_dictP hc) hg hm bt_dict (pa_cons pe_w pa_nil h1) (by decide) (by decide) h1 hpl) hs hf) pss_w) (he He σ H0 H S _ fun v H1 H1' f dv => by
    obtain ⟨a, vs, rfl, g1, g2⟩ := seq_dp dv
    have S1 := S.fr f
    obtain ⟨ps, rfl, hp⟩ := pairs_of (dpa_mono S1.sub g2)
    refine ⟨a, ps, _, rfl, SqL.of (S1.sub _ _ g1), hp, fun l' hl => ?_⟩
    rw [merge_new _ [] (by rw [List.nil_append]; exact nd_keys hnd), List.nil_append]
    have F1 := F.trans f k
    have F2 : Frm ρ H0e He _ _ := F1.trans (Frm.new (o := .dK (l.map fun p => ((Sum.inl p.1 : Key), V.int p.2))) S1.sub hl) k
    have n1 := same_new (o := HO.dK (l.map fun p => ((Sum.inl p.1 : Key), V.int p.2))) (S1.sub.free hl)
    exact hr He H0e _ _ _ F2 ((S1.fr (Frm.new S1.sub hl)).setE (e := .dk l) ⟨l', rfl, upd_same⟩ (fun xs z => by cases z)) k D (q.more (f.ex0.trans n1)))
/-- d[k] of such a dict -/
theorem dv_dget {l : List (Int × Int)} {n v : Int} {nm : Str} {pn : Pos} {k : Nat} (i : Nat) (hroom : Room k X.A) (hd : ds[i]? = some (some (.dk l))) (hb : Dv ρ X ds b (.int n)) (hv : (l.find? fun p => decide (p.1 = n)) = some (n, v)) (hN : X.N[i]? = some nm := by rfl) (hvis : Vis X.env.scope nm := by first | exact Or.inl rfl | exact Or.inr (Or.inl rfl) | exact Or.inr (Or.inr rfl)) (h1 : (nm == ("__debug__" : Str)) = false := by decide)
    (h2 : (nm == ("__classdict__" : Str)) = false := by decide) (hs : NoSl b := by exact fun _ _ => rfl) : Dv ρ X ds (.Subscript (.Name nm pn) b pos) (.int v) :=
  dv_of (pe_dget (hu_of hroom) (pe_var hN hvis h1 h2) pe_w hs) fun He σ H0 H S Q q => by
    obtain ⟨w, g1, a, rfl, g2⟩ := S.get i _ hd
    refine ⟨.ref a, g1, ?_⟩
    refine hb He σ H0 H S _ fun u H1 H1' f d => ?_
    cases d
    refine ⟨a, .int v, rfl, .inl ⟨_, Sum.inl n, .inl (f.sub _ _ (f.ex0 _ _ g2)), rfl, ?_⟩, q _ H1 H1' f (.int _)⟩
    unfold valV
    rw [List.find?_map]
    have e : ((fun kv : Key × V => decide (kv.1 = (Sum.inl n : Key))) ∘ fun p : Int × Int => ((Sum.inl p.1 : Key), V.int p.2)) = fun p : Int × Int => decide (p.1 = n) := by
      funext p
      show decide ((Sum.inl p.1 : Key) = Sum.inl n) = decide (p.1 = n)
      rw [key_ll, Bool.beq_eq_decide_eq]
    rw [e, hv]
    rfl
/-- sorted(d) -/
theorem ed_sortD {l : List (Int × Int)} {te : TE} (h64 : l.length < 64) (h : ∀ He σ H0 H, Sat K ρ He H0 H σ ds → ∀ Q : VK, (∀ a, H0 a = some (.dK (l.map fun p => (Sum.inl p.1, V.int p.2))) → Q (.ref a) H) → te σ H Q) :
    EvD ρ K (tCB (fun xs H Q => ∃ (a : Addr) (kvs : List (Key × V)) (ks : List Int), xs = [.ref a] ∧ Rd H a (.dK kvs) ∧ kvs.map (·.1) = ks.map Sum.inl ∧ ks.length < 64 ∧ ∀ (ys : List Int) (p : Addr), ys.Perm ks → ys.Pairwise (· ≤ ·) → H p = none → Q (.ref p) (upd H p (.lst (ys.map V.int)))) (tCons te tNil)) ds (.list ((isort (l.map (·.1))).map .int)) := fun He σ H0 H S Q q => by
  refine h He σ H0 H S _ fun a ha => ⟨a, _, l.map (·.1), rfl, .inl (S.sub _ _ ha), ?_, by rw [List.length_map]; exact h64, fun ys p h1 h2 hp => ?_⟩
  · rw [List.map_map, List.map_map]
    rfl
  · rw [up_uniq (h1.trans (isort_perm _).symm) h2 (isort_up _)]
    exact q _ _ _ (Frm.new S.sub hp) (.lst upd_same (dpa_ints _))
theorem ev_dk (i : Nat) {l : List (Int × Int)} (hd : ds[i]? = some (some (.dk l))) : ∀ He σ H0 H, Sat K ρ He H0 H σ ds → ∀ Q : VK, (∀ a, H0 a = some (.dK (l.map fun p => (Sum.inl p.1, V.int p.2))) → Q (.ref a) H) → tVar i σ H Q := fun He σ H0 H S Q q => by
  obtain ⟨w, g1, a, rfl, g2⟩ := S.get i _ hd
  exact ⟨.ref a, g1, q a g2⟩
end
end K8
namespace K8
open PySem

/-! ### boards, as plain data -/
abbrev Bd := List (List (Int × Int))
def hi (B : Bd) : Int := (B.length : Int)
def wi (B : Bd) : Int := ((B.headD []).length : Int)
def cell (B : Bd) (r c : Int) : Int × Int := (B.getD r.toNat []).getD c.toNat (0, 0)
def fs (B : Bd) (r c : Int) : Int := (cell B r c).1
def sn (B : Bd) (r c : Int) : Int := (cell B r c).2
structure Good (B : Bd) : Prop where
  n1 : 1 ≤ hi B
  n6 : hi B ≤ 6
  m1 : 1 ≤ wi B
  m6 : wi B ≤ 6
  rect : ∀ r ∈ B, (r.length : Int) = wi B
  small : ∀ r ∈ B, ∀ p ∈ r, -1000 ≤ p.1 ∧ p.1 ≤ 1000 ∧ -1000 ≤ p.2 ∧ p.2 ≤ 1000
def linesL (B : Bd) : List Int := rangeI (hi B + wi B)
def rowsL (B : Bd) (lot : List Int) : List Int := (rangeI (hi B)).filter fun x => !decide (x ∈ lot)
def colsL (B : Bd) (lot : List Int) : List Int := (rangeF (hi B) (hi B + wi B)).filter fun x => !decide (x ∈ lot)
def numsL (B : Bd) (lot : List Int) (l : Int) : List Int :=
  if l < hi B then (colsL B lot).map fun c => fs B l (c - hi B) else (rowsL B lot).map fun r => sn B r (l - hi B)
def gtL (B : Bd) (lot : List Int) (l o : Int) : Bool := (decide (l < hi B) == decide (o < hi B)) && (((numsL B lot l).zip (numsL B lot o)).map fun p => decide (p.1 < p.2)).all id
def fallL (B : Bd) (lot : List Int) (l : Int) : Bool := (((linesL B).filter fun o => !decide (o ∈ lot ++ [l])).map fun o => gtL B lot l o).any id
def readyL (B : Bd) (lot : List Int) : List Int := (linesL B).filter fun l => !decide (l ∈ lot) && fallL B lot l
def withL (lot : List Int) (l : Int) : List Int := isort (lot ++ [l])
/-- one strike of the first line that can fall -/
def cloStep (B : Bd) (s : List Int × List Int) : List Int × List Int :=
  match readyL B s.1 with
  | [] => s
  | x :: _ => (withL s.1 x, s.2 ++ [x])
def cloAt (B : Bd) : Nat → List Int × List Int
  | 0 => ([], [])
  | k + 1 => cloStep B (cloAt B k)
def lastL (B : Bd) : List Int := isort (cloAt B 12).2
def rndStep (B : Bd) (s : List Int × List (List Int)) : List Int × List (List Int) :=
  match readyL B s.1 with
  | [] => s
  | x :: r => (isort (s.1 ++ (x :: r)), s.2 ++ [x :: r])
def rndAt (B : Bd) : Nat → List Int × List (List Int)
  | 0 => ([], [])
  | k + 1 => rndStep B (rndAt B k)
def roundsL (B : Bd) : List (List Int) := (rndAt B 12).2
def ansL (B : Bd) (lot : List Int) (l : Int) : List Int :=
  if l < hi B then (colsL B lot).filter fun c => decide (sn B l (c - hi B) = maxI ((colsL B lot).map fun c => sn B l (c - hi B)))
  else (rowsL B lot).filter fun r => decide (fs B r (l - hi B) = maxI ((rowsL B lot).map fun r => fs B r (l - hi B)))
def bestL (B : Bd) (lot : List Int) (p : Int × Int) : Bool := decide (p.1 ∈ ansL B lot p.2) && decide (p.2 ∈ ansL B lot p.1)
def bestsL (B : Bd) (lot : List Int) : List (Int × Int) := (rowsL B lot).flatMap fun r => ((colsL B lot).filter fun c => bestL B lot (r, c)).map fun c => (r, c)
/-- the differences do not fall -/
def upB (l : List Int) : Bool := !((l.zip (l.drop 1)).map fun p => decide (p.2 < p.1)).any id
def risesL (B : Bd) : Bool :=
  (!(B.zip (B.drop 1)).any fun p => !upB ((p.1.zip p.2).map fun q => q.2.1 - q.1.1)) &&
    (!(rangeI (wi B - 1)).any fun c => !upB (B.map fun r => (r.getD (c + 1).toNat (0, 0)).2 - (r.getD c.toNat (0, 0)).2))
def goodIn (vals : List Int) : List Int := (((rangeI (vals.length : Int)).zip vals).filter fun p => decide (p.2 = maxI vals)).map (·.1)
def ansIn (B : Bd) (other : Int) (isRow isHigh : Bool) : Int :=
  let vals := if isRow then (rangeI (hi B)).map fun r => fs B r other else (rangeI (wi B)).map fun c => sn B other c
  if isHigh then (goodIn vals).getLastD 0 else (goodIn vals).headD 0
def clStep (B : Bd) (h : Bool) (p : Int × Int) : Int × Int := (ansIn B p.2 true h, ansIn B p.1 false h)
def clAt (B : Bd) (h : Bool) : Nat → Int × Int
  | 0 => if h then (hi B - 1, wi B - 1) else (0, 0)
  | k + 1 => clStep B h (clAt B h k)
def climbL (B : Bd) (h : Bool) : Int × Int := clAt B h 12
def cornersL (B : Bd) : (Int × Int) × (Int × Int) :=
  (((rowsL B (lastL B)).headD 0, (colsL B (lastL B)).headD 0 - hi B), ((rowsL B (lastL B)).getLastD 0, (colsL B (lastL B)).getLastD 0 - hi B))
def weakB (g c : Int) (n : Int) : Bd := (rangeI n).map fun i => (rangeI n).map fun j => (g * (if j < i then j else i) - c * i, g * (if j < i then j else i) - c * j)

/-! ### as Python's data -/
abbrev intsT (l : List Int) : PyData := .tuple (l.map .int)
abbrev intsL (l : List Int) : PyData := .list (l.map .int)
def pairD (p : Int × Int) : PyData := .tuple [.int p.1, .int p.2]
def rowD (r : List (Int × Int)) : PyData := .tuple (r.map pairD)
def bd (B : Bd) : PyData := .tuple (B.map rowD)
end K8
namespace K8
open PySem PySem.Spec PyProof.Rows L2

/-! ### the text -/
def topS (i : Nat) : Stmt := PySem.Challenge.pw_struckboards_k18_whole_rising_boards.main.body.getD i (.Pass ⟨0, 0, 0, 0⟩)
abbrev s_is_int : Stmt := topS 8
abbrev N_is_int : List Str := ["value"]
theorem sc_is_int : FnScope N_is_int ["value"] (defScope s_is_int) := ⟨rfl, rfl, rfl, by decide +kernel, rfl, by decide +kernel, by decide +kernel⟩
abbrev s_is_from : Stmt := topS 9
abbrev N_is_from : List Str := ["value", "least", "most"]
theorem sc_is_from : FnScope N_is_from ["value", "least", "most"] (defScope s_is_from) := ⟨rfl, rfl, rfl, by decide +kernel, rfl, by decide +kernel, by decide +kernel⟩
abbrev s_need_from : Stmt := topS 10
abbrev N_need_from : List Str := ["value", "least", "most"]
theorem sc_need_from : FnScope N_need_from ["value", "least", "most"] (defScope s_need_from) := ⟨rfl, rfl, rfl, by decide +kernel, rfl, by decide +kernel, by decide +kernel⟩
abbrev s_is_place : Stmt := topS 11
abbrev N_is_place : List Str := ["value", "one"]
theorem sc_is_place : FnScope N_is_place ["value"] (defScope s_is_place) := ⟨rfl, rfl, rfl, by decide +kernel, rfl, by decide +kernel, by decide +kernel⟩
abbrev s_need_board : Stmt := topS 12
abbrev N_need_board : List Str := ["value", "index", "row", "place"]
theorem sc_need_board : FnScope N_need_board ["value"] (defScope s_need_board) := ⟨rfl, rfl, rfl, by decide +kernel, rfl, by decide +kernel, by decide +kernel⟩
abbrev s_sides : Stmt := topS 13
abbrev N_sides : List Str := ["board"]
theorem sc_sides : FnScope N_sides ["board"] (defScope s_sides) := ⟨rfl, rfl, rfl, by decide +kernel, rfl, by decide +kernel, by decide +kernel⟩
abbrev s_lines_of : Stmt := topS 14
abbrev N_lines_of : List Str := ["board"]
theorem sc_lines_of : FnScope N_lines_of ["board"] (defScope s_lines_of) := ⟨rfl, rfl, rfl, by decide +kernel, rfl, by decide +kernel, by decide +kernel⟩
abbrev s_left_of : Stmt := topS 15
abbrev N_left_of : List Str := ["board", "lot", "rows", "one"]
theorem sc_left_of : FnScope N_left_of ["board", "lot"] (defScope s_left_of) := ⟨rfl, rfl, rfl, by decide +kernel, rfl, by decide +kernel, by decide +kernel⟩
abbrev s_numbers : Stmt := topS 16
abbrev N_numbers : List Str := ["board", "lot", "line", "rows", "columns", "column", "row"]
theorem sc_numbers : FnScope N_numbers ["board", "lot", "line"] (defScope s_numbers) := ⟨rfl, rfl, rfl, by decide +kernel, rfl, by decide +kernel, by decide +kernel⟩
abbrev s_same_side : Stmt := topS 17
abbrev N_same_side : List Str := ["board", "one", "other"]
theorem sc_same_side : FnScope N_same_side ["board", "one", "other"] (defScope s_same_side) := ⟨rfl, rfl, rfl, by decide +kernel, rfl, by decide +kernel, by decide +kernel⟩
abbrev s_is_greater : Stmt := topS 18
abbrev N_is_greater : List Str := ["board", "lot", "line", "other", "a", "b"]
theorem sc_is_greater : FnScope N_is_greater ["board", "lot", "line", "other"] (defScope s_is_greater) := ⟨rfl, rfl, rfl, by decide +kernel, rfl, by decide +kernel, by decide +kernel⟩
abbrev s_can_fall : Stmt := topS 20
abbrev N_can_fall : List Str := ["board", "lot", "line", "other"]
theorem sc_can_fall : FnScope N_can_fall ["board", "lot", "line"] (defScope s_can_fall) := ⟨rfl, rfl, rfl, by decide +kernel, rfl, by decide +kernel, by decide +kernel⟩
abbrev s_ready_of : Stmt := topS 21
abbrev N_ready_of : List Str := ["board", "lot", "line"]
theorem sc_ready_of : FnScope N_ready_of ["board", "lot"] (defScope s_ready_of) := ⟨rfl, rfl, rfl, by decide +kernel, rfl, by decide +kernel, by decide +kernel⟩
abbrev s_with_line : Stmt := topS 22
abbrev N_with_line : List Str := ["lot", "line"]
theorem sc_with_line : FnScope N_with_line ["lot", "line"] (defScope s_with_line) := ⟨rfl, rfl, rfl, by decide +kernel, rfl, by decide +kernel, by decide +kernel⟩
abbrev s_closure : Stmt := topS 24
abbrev N_closure : List Str := ["board", "within", "lot", "order", "some", "line"]
theorem sc_closure : FnScope N_closure ["board", "within"] (defScope s_closure) := ⟨rfl, rfl, rfl, by decide +kernel, rfl, by decide +kernel, by decide +kernel⟩
abbrev s_last_of : Stmt := topS 25
abbrev N_last_of : List Str := ["board"]
theorem sc_last_of : FnScope N_last_of ["board"] (defScope s_last_of) := ⟨rfl, rfl, rfl, by decide +kernel, rfl, by decide +kernel, by decide +kernel⟩
abbrev s_last_lot : Stmt := topS 26
abbrev N_last_lot : List Str := ["board"]
theorem sc_last_lot : FnScope N_last_lot ["board"] (defScope s_last_lot) := ⟨rfl, rfl, rfl, by decide +kernel, rfl, by decide +kernel, by decide +kernel⟩
abbrev s_rounds_of : Stmt := topS 27
abbrev N_rounds_of : List Str := ["board", "lot", "found", "some"]
theorem sc_rounds_of : FnScope N_rounds_of ["board"] (defScope s_rounds_of) := ⟨rfl, rfl, rfl, by decide +kernel, rfl, by decide +kernel, by decide +kernel⟩
abbrev s_rounds : Stmt := topS 28
abbrev N_rounds : List Str := ["board"]
theorem sc_rounds : FnScope N_rounds ["board"] (defScope s_rounds) := ⟨rfl, rfl, rfl, by decide +kernel, rfl, by decide +kernel, by decide +kernel⟩
abbrev s_answers_of : Stmt := topS 30
abbrev N_answers_of : List Str := ["board", "lot", "line", "rows", "columns", "some", "best", "column", "row", "one"]
theorem sc_answers_of : FnScope N_answers_of ["board", "lot", "line"] (defScope s_answers_of) := ⟨rfl, rfl, rfl, by decide +kernel, rfl, by decide +kernel, by decide +kernel⟩
abbrev s_bests_of : Stmt := topS 31
abbrev N_bests_of : List Str := ["board", "lot", "rows", "columns", "found", "row", "column"]
theorem sc_bests_of : FnScope N_bests_of ["board", "lot"] (defScope s_bests_of) := ⟨rfl, rfl, rfl, by decide +kernel, rfl, by decide +kernel, by decide +kernel⟩
abbrev s_rises : Stmt := topS 33
abbrev N_rises : List Str := ["board", "one", "two", "steps", "at", "a", "b", "row"]
theorem sc_rises : FnScope N_rises ["board"] (defScope s_rises) := ⟨rfl, rfl, rfl, by decide +kernel, rfl, by decide +kernel, by decide +kernel⟩
abbrev s_is_rising : Stmt := topS 34
abbrev N_is_rising : List Str := ["board"]
theorem sc_is_rising : FnScope N_is_rising ["board"] (defScope s_is_rising) := ⟨rfl, rfl, rfl, by decide +kernel, rfl, by decide +kernel, by decide +kernel⟩
abbrev s_need_rising : Stmt := topS 35
abbrev N_need_rising : List Str := ["board"]
theorem sc_need_rising : FnScope N_need_rising ["board"] (defScope s_need_rising) := ⟨rfl, rfl, rfl, by decide +kernel, rfl, by decide +kernel, by decide +kernel⟩
abbrev s_answer_in : Stmt := topS 36
abbrev N_answer_in : List Str := ["board", "own", "other", "is_row", "is_high", "some", "good", "row", "column", "one", "number"]
theorem sc_answer_in : FnScope N_answer_in ["board", "own", "other", "is_row", "is_high"] (defScope s_answer_in) := ⟨rfl, rfl, rfl, by decide +kernel, rfl, by decide +kernel, by decide +kernel⟩
abbrev s_climb : Stmt := topS 37
abbrev N_climb : List Str := ["board", "is_high", "rows", "columns", "now", "row", "column"]
theorem sc_climb : FnScope N_climb ["board", "is_high"] (defScope s_climb) := ⟨rfl, rfl, rfl, by decide +kernel, rfl, by decide +kernel, by decide +kernel⟩
abbrev s_least_best : Stmt := topS 38
abbrev N_least_best : List Str := ["board"]
theorem sc_least_best : FnScope N_least_best ["board"] (defScope s_least_best) := ⟨rfl, rfl, rfl, by decide +kernel, rfl, by decide +kernel, by decide +kernel⟩
abbrev s_greatest_best : Stmt := topS 39
abbrev N_greatest_best : List Str := ["board"]
theorem sc_greatest_best : FnScope N_greatest_best ["board"] (defScope s_greatest_best) := ⟨rfl, rfl, rfl, by decide +kernel, rfl, by decide +kernel, by decide +kernel⟩
abbrev s_corners_left : Stmt := topS 40
abbrev N_corners_left : List Str := ["board", "rows", "columns", "many"]
theorem sc_corners_left : FnScope N_corners_left ["board"] (defScope s_corners_left) := ⟨rfl, rfl, rfl, by decide +kernel, rfl, by decide +kernel, by decide +kernel⟩
abbrev s_count_rising : Stmt := topS 41
abbrev N_count_rising : List Str := ["board"]
theorem sc_count_rising : FnScope N_count_rising ["board"] (defScope s_count_rising) := ⟨rfl, rfl, rfl, by decide +kernel, rfl, by decide +kernel, by decide +kernel⟩
abbrev s_need_effort : Stmt := topS 42
abbrev N_need_effort : List Str := ["value", "one"]
theorem sc_need_effort : FnScope N_need_effort ["value"] (defScope s_need_effort) := ⟨rfl, rfl, rfl, by decide +kernel, rfl, by decide +kernel, by decide +kernel⟩
abbrev s_weakest_board : Stmt := topS 43
abbrev N_weakest_board : List Str := ["effort", "many", "gain", "cost", "rows", "row", "at"]
theorem sc_weakest_board : FnScope N_weakest_board ["effort", "many"] (defScope s_weakest_board) := ⟨rfl, rfl, rfl, by decide +kernel, rfl, by decide +kernel, by decide +kernel⟩
abbrev s_weakest_last : Stmt := topS 44
abbrev N_weakest_last : List Str := ["effort", "many", "gain", "cost"]
theorem sc_weakest_last : FnScope N_weakest_last ["effort", "many"] (defScope s_weakest_last) := ⟨rfl, rfl, rfl, by decide +kernel, rfl, by decide +kernel, by decide +kernel⟩
abbrev s_weakest_rounds : Stmt := topS 45
abbrev N_weakest_rounds : List Str := ["effort", "many", "gain", "cost"]
theorem sc_weakest_rounds : FnScope N_weakest_rounds ["effort", "many"] (defScope s_weakest_rounds) := ⟨rfl, rfl, rfl, by decide +kernel, rfl, by decide +kernel, by decide +kernel⟩
abbrev s_weakest_bests : Stmt := topS 46
abbrev N_weakest_bests : List Str := ["effort", "many", "gain", "cost"]
theorem sc_weakest_bests : FnScope N_weakest_bests ["effort", "many"] (defScope s_weakest_bests) := ⟨rfl, rfl, rfl, by decide +kernel, rfl, by decide +kernel, by decide +kernel⟩
abbrev s_L_taken : Stmt := topS 48
abbrev N_L_taken : List Str := ["_law_row", "_law_many", "_law_found", "_law_cell"]
theorem sc_L_taken : FnScope N_L_taken ["_law_row", "_law_many"] (defScope s_L_taken) := ⟨rfl, rfl, rfl, by decide +kernel, rfl, by decide +kernel, by decide +kernel⟩
abbrev s_L_alike : Stmt := topS 49
abbrev N_L_alike : List Str := ["_law_found", "_law_due", "_law_k"]
theorem sc_L_alike : FnScope N_L_alike ["_law_found", "_law_due"] (defScope s_L_alike) := ⟨rfl, rfl, rfl, by decide +kernel, rfl, by decide +kernel, by decide +kernel⟩
abbrev s_L_is : Stmt := topS 50
abbrev N_L_is : List Str := ["_law_found", "_law_due"]
theorem sc_L_is : FnScope N_L_is ["_law_found", "_law_due"] (defScope s_L_is) := ⟨rfl, rfl, rfl, by decide +kernel, rfl, by decide +kernel, by decide +kernel⟩
abbrev s_L_board : Stmt := topS 51
abbrev N_L_board : List Str := ["_law_row", "_law_rows_here", "_law_columns_here", "_law_many", "_law_high", "_law_wide", "_law_found", "_law_first", "_law_second", "_law_one", "_law_told", "_law_at"]
theorem sc_L_board : FnScope N_L_board ["_law_row", "_law_rows_here", "_law_columns_here", "_law_many"] (defScope s_L_board) := ⟨rfl, rfl, rfl, by decide +kernel, rfl, by decide +kernel, by decide +kernel⟩
abbrev s_L_rows : Stmt := topS 52
abbrev N_L_rows : List Str := ["_law_board_here", "_law_lot", "_law_one"]
theorem sc_L_rows : FnScope N_L_rows ["_law_board_here", "_law_lot"] (defScope s_L_rows) := ⟨rfl, rfl, rfl, by decide +kernel, rfl, by decide +kernel, by decide +kernel⟩
abbrev s_L_columns : Stmt := topS 53
abbrev N_L_columns : List Str := ["_law_board_here", "_law_lot", "_law_one"]
theorem sc_L_columns : FnScope N_L_columns ["_law_board_here", "_law_lot"] (defScope s_L_columns) := ⟨rfl, rfl, rfl, by decide +kernel, rfl, by decide +kernel, by decide +kernel⟩
abbrev s_L_numbers : Stmt := topS 54
abbrev N_L_numbers : List Str := ["_law_board_here", "_law_lot", "_law_line", "_law_one"]
theorem sc_L_numbers : FnScope N_L_numbers ["_law_board_here", "_law_lot", "_law_line"] (defScope s_L_numbers) := ⟨rfl, rfl, rfl, by decide +kernel, rfl, by decide +kernel, by decide +kernel⟩
abbrev s_L_over : Stmt := topS 55
abbrev N_L_over : List Str := ["_law_board_here", "_law_lot", "_law_line", "_law_side", "_law_own", "_law_found", "_law_other", "_law_told", "_law_at"]
theorem sc_L_over : FnScope N_L_over ["_law_board_here", "_law_lot", "_law_line"] (defScope s_L_over) := ⟨rfl, rfl, rfl, by decide +kernel, rfl, by decide +kernel, by decide +kernel⟩
abbrev s_L_ready : Stmt := topS 56
abbrev N_L_ready : List Str := ["_law_board_here", "_law_lot", "_law_line"]
theorem sc_L_ready : FnScope N_L_ready ["_law_board_here", "_law_lot"] (defScope s_L_ready) := ⟨rfl, rfl, rfl, by decide +kernel, rfl, by decide +kernel, by decide +kernel⟩
abbrev s_L_with : Stmt := topS 57
abbrev N_L_with : List Str := ["_law_lot", "_law_line"]
theorem sc_L_with : FnScope N_L_with ["_law_lot", "_law_line"] (defScope s_L_with) := ⟨rfl, rfl, rfl, by decide +kernel, rfl, by decide +kernel, by decide +kernel⟩
abbrev s_L_end : Stmt := topS 58
abbrev N_L_end : List Str := ["_law_board_here", "_law_lot", "_law_turn", "_law_some"]
theorem sc_L_end : FnScope N_L_end ["_law_board_here"] (defScope s_L_end) := ⟨rfl, rfl, rfl, by decide +kernel, rfl, by decide +kernel, by decide +kernel⟩
abbrev s_L_answers : Stmt := topS 59
abbrev N_L_answers : List Str := ["_law_board_here", "_law_lot", "_law_line", "_law_high", "_law_some", "_law_best", "_law_one", "_law_number"]
theorem sc_L_answers : FnScope N_L_answers ["_law_board_here", "_law_lot", "_law_line"] (defScope s_L_answers) := ⟨rfl, rfl, rfl, by decide +kernel, rfl, by decide +kernel, by decide +kernel⟩
abbrev s_L_bests : Stmt := topS 60
abbrev N_L_bests : List Str := ["_law_board_here", "_law_lot", "_law_found", "_law_one", "_law_other"]
theorem sc_L_bests : FnScope N_L_bests ["_law_board_here", "_law_lot"] (defScope s_L_bests) := ⟨rfl, rfl, rfl, by decide +kernel, rfl, by decide +kernel, by decide +kernel⟩
abbrev s_law : Stmt := topS 61
abbrev N_law : List Str := ["_law_script", "_law_row", "_law_board_here", "_law_high", "_law_wide", "_law_told", "_law_first", "_law_second", "_law_slope", "_law_steep", "_law_one", "_law_good", "_law_at", "_law_a", "_law_b", "_law_word", "_law_some", "_law_low", "_law_top", "_law_out", "_law_end_here", "_law_rows_here", "_law_columns_here", "e", "_law_effort", "_law_many", "_law_gain", "_law_cost", "_law_due", "_law_turn", "_law_line"]
theorem sc_law : FnScope N_law ["_law_script"] (defScope s_law) := ⟨rfl, rfl, rfl, by decide +kernel, rfl, by decide +kernel, by decide +kernel⟩
/-- what stands at the module's names -/
structure Txt (mg : Str → Option Value) : Prop where
  isinstance : mg "isinstance" = none
  int : mg "int" = none
  bool : mg "bool" = none
  str : mg "str" = none
  tuple : mg "tuple" = none
  list : mg "list" = none
  dict : mg "dict" = none
  len : mg "len" = none
  all : mg "all" = none
  any : mg "any" = none
  enumerate : mg "enumerate" = none
  range : mg "range" = none
  sum : mg "sum" = none
  zip : mg "zip" = none
  sorted : mg "sorted" = none
  max : mg "max" = none
  min : mg "min" = none
  side : ∃ t, mg "MOST_SIDE" = some (.int 6 t)
  value : ∃ t, mg "MOST_VALUE" = some (.int 1000 t)
/-- a def of the text at its name -/
structure DefAt (K : PySem.W.Frag) (mg : Str → Option Value) (x : Str) (st : Stmt) (f : Addr) (fd : FuncData) : Prop where
  F : Fun K x x st f fd
  hm : mg x = some (.ref f)
end K8
set_option maxHeartbeats 1000000
namespace K8
open PySem PySem.Spec PyProof.Rows L2

theorem bt_int : bootBuiltins "int" = some (.type "int") := by decide +kernel
theorem bt_bool : bootBuiltins "bool" = some (.type "bool") := by decide +kernel
theorem bt_str : bootBuiltins "str" = some (.type "str") := by decide +kernel
theorem bt_tuple : bootBuiltins "tuple" = some (.type "tuple") := by decide +kernel
theorem bt_list : bootBuiltins "list" = some (.type "list") := by decide +kernel
theorem bt_all : bootBuiltins "all" = some (.builtin "all") := by decide +kernel
theorem bt_any : bootBuiltins "any" = some (.builtin "any") := by decide +kernel
theorem bt_sum : bootBuiltins "sum" = some (.builtin "sum") := by decide +kernel
theorem bt_max : bootBuiltins "max" = some (.builtin "max") := by decide +kernel
theorem bt_min : bootBuiltins "min" = some (.builtin "min") := by decide +kernel
theorem bt_sorted : bootBuiltins "sorted" = some (.builtin "sorted") := by decide +kernel
theorem kb_int_int : kitB "int" "int" = some true := by decide +kernel
theorem kb_int_bool : kitB "int" "bool" = some false := by decide +kernel
theorem kb_tup_tup : kitB "tuple" "tuple" = some true := by decide +kernel

section
variable {ρ : Rho} {X : Cx} {ds : DEnv} {a b c e : Expr} {es : List Expr} {x y z d : PyData} {xs : List PyData} {pos p2 p1 : Pos} {K : PySem.W.Frag} {i j k : Int} {B : Bd}
theorem dv_chainLe (ha : Dv ρ X ds a (.int i)) (hb : Dv ρ X ds b (.int j)) (hc : Dv ρ X ds c (.int k)) (hm : lastMarks [CmpOp.LtE, .LtE] [b, c] = false := by rfl) : Dv ρ X ds (.Compare a [.LtE, .LtE] [b, c] pos) (.bool (decide (i ≤ j) && decide (j ≤ k))) :=
  dv_of (pe_chain op_le op_le pe_w pe_w pe_w hm) (ed_chain ha hb hc (rv_int fun _ => .bl _) (rv_int fun _ => .bl _))
theorem tv_chainLe (ha : Dv ρ X ds a (.int i)) (hb : Dv ρ X ds b (.int j)) (hc : Dv ρ X ds c (.int k)) (hm : lastMarks [CmpOp.LtE, .LtE] [b, c] = false := by rfl) : Tv ρ X ds (.Compare a [.LtE, .LtE] [b, c] pos) (decide (i ≤ j) && decide (j ≤ k)) :=
  tv_of (pt_chain op_le op_le pe_w pe_w pe_w hm) (et_test (ed_chain ha hb hc (rv_int fun _ => .bl _) (rv_int fun _ => .bl _)))
theorem tv_neI (ha : Dv ρ X ds a (.int i)) (hb : Dv ρ X ds b (.int j)) : Tv ρ X ds (.Compare a [.NotEq] [b] pos) (!decide (i = j)) := tv_of (pt_cmpR op_ne pe_w pe_w (nomark _)) (et_test (ed_op ha hb rv_neI))
theorem pg_pair {i j : Nat} {x y : Str} {kt : Nat} {px py tp : Pos} (hc : X.calm = true) (hN : X.N.Nodup) (hi : X.N[i]? = some x := by rfl) (hj : X.N[j]? = some y := by rfl) (hx : Loc X.env.scope x := by first | exact Or.inl rfl | exact Or.inr rfl) (hy : Loc X.env.scope y := by first | exact Or.inl rfl | exact Or.inr rfl)
    (hf : X.fn x = true ∨ X.env.scope.names.lookup x = some .local := by first | exact .inl rfl | exact .inr rfl) (hf2 : X.fn y = true ∨ X.env.scope.names.lookup y = some .local := by first | exact .inl rfl | exact .inr rfl) : PG X (.Tuple [.Name x px, .Name y py] kt tp) (gPair X.K i j) :=
  pg_tup hc (pgs_cons (pg_name hN hi hx hf) (pgs_cons (pg_name hN hj hy hf2) pgs_nil))
/-- places of a board -/
theorem row_get (h0 : 0 ≤ i) (h1 : i < hi B) : ∃ r, B[i.toNat]? = some r ∧ B.getD i.toNat [] = r ∧ r ∈ B := by
  unfold hi at h1
  have hl : i.toNat < B.length := by omega
  refine ⟨B[i.toNat], List.getElem?_eq_getElem hl, ?_, List.getElem_mem hl⟩
  rw [List.getD_eq_getElem?_getD, List.getElem?_eq_getElem hl]
  rfl
theorem atI_of {α : Type} {l : List α} {v : α} (h0 : 0 ≤ i) (h : l[i.toNat]? = some v) : atI l i = some v := by
  obtain ⟨n, rfl⟩ := Int.eq_ofNat_of_zero_le h0
  exact atI_nat h
theorem row_at (h0 : 0 ≤ i) (h1 : i < hi B) : atI (B.map rowD) i = some (rowD (B.getD i.toNat [])) := by
  obtain ⟨r, e1, e2, _⟩ := row_get h0 h1
  refine atI_of h0 ?_
  rw [List.getElem?_map, e1, e2]
  rfl
theorem cell_at (G : Good B) (h0 : 0 ≤ i) (h1 : i < hi B) (g0 : 0 ≤ j) (g1 : j < wi B) : atI ((B.getD i.toNat []).map pairD) j = some (pairD (cell B i j)) := by
  obtain ⟨r, e1, e2, e3⟩ := row_get h0 h1
  have hr := G.rect r e3
  have hl : j.toNat < r.length := by omega
  refine atI_of g0 ?_
  unfold cell
  rw [e2, List.getElem?_map, List.getD_eq_getElem?_getD, List.getElem?_eq_getElem hl]
  rfl
theorem dv_row (ha : Dv ρ X ds a (bd B)) (hb : Dv ρ X ds b (.int i)) (h0 : 0 ≤ i) (h1 : i < hi B) (hs : PlainIx b := by exact fun _ _ => rfl) : Dv ρ X ds (.Subscript a b pos) (rowD (B.getD i.toNat [])) := dv_ixT ha hb (row_at h0 h1) hs
theorem dv_pair (G : Good B) (ha : Dv ρ X ds a (bd B)) (hb : Dv ρ X ds b (.int i)) (hc : Dv ρ X ds c (.int j)) (h0 : 0 ≤ i) (h1 : i < hi B) (g0 : 0 ≤ j) (g1 : j < wi B) (hs : PlainIx b := by exact fun _ _ => rfl) (hs2 : PlainIx c := by exact fun _ _ => rfl) :
    Dv ρ X ds (.Subscript (.Subscript a b p1) c pos) (pairD (cell B i j)) := dv_ixT (dv_row ha hb h0 h1 hs) hc (cell_at G h0 h1 g0 g1) hs2
theorem dv_fs (G : Good B) (ha : Dv ρ X ds a (bd B)) (hb : Dv ρ X ds b (.int i)) (hc : Dv ρ X ds c (.int j)) (h0 : 0 ≤ i) (h1 : i < hi B) (g0 : 0 ≤ j) (g1 : j < wi B) {n} {p3 p4 : Pos} (hs : PlainIx b := by exact fun _ _ => rfl) (hs2 : PlainIx c := by exact fun _ _ => rfl) :
    Dv ρ X ds (.Subscript (.Subscript (.Subscript a b p1) c p3) (.Constant (.int 0) n p4) pos) (.int (fs B i j)) := dv_ixT (dv_pair G ha hb hc h0 h1 g0 g1 hs hs2) dv_int rfl
theorem dv_sn (G : Good B) (ha : Dv ρ X ds a (bd B)) (hb : Dv ρ X ds b (.int i)) (hc : Dv ρ X ds c (.int j)) (h0 : 0 ≤ i) (h1 : i < hi B) (g0 : 0 ≤ j) (g1 : j < wi B) {n} {p3 p4 : Pos} (hs : PlainIx b := by exact fun _ _ => rfl) (hs2 : PlainIx c := by exact fun _ _ => rfl) :
    Dv ρ X ds (.Subscript (.Subscript (.Subscript a b p1) c p3) (.Constant (.int 1) n p4) pos) (.int (sn B i j)) := dv_ixT (dv_pair G ha hb hc h0 h1 g0 g1 hs hs2) dv_int rfl
theorem dv_hi {p : Pos} (hm : X.mg "len" = none) (ha : Dv ρ X ds a (bd B)) (hg : Gl X "len" := by rfl) (he : starEach (a :: []) X.env = (false, eval a X.env) :: starEach [] X.env := by rfl) (hpl : (backTo pos (starEach [] X.env)).any (·.1) = false := by rfl) : Dv ρ X ds (.Call (.Name "len" p) [a] [] pos) (.int (hi B)) := by
  have h := dv_lenT (xs := B.map rowD) (pos := pos) (p := p) hm ha hg he hpl
  rw [List.length_map] at h
  exact h
theorem dv_wi (G : Good B) {p q : Pos} {n} {p3 : Pos} (hm : X.mg "len" = none) (ha : Dv ρ X ds a (bd B)) (hg : Gl X "len" := by rfl) (he : starEach (Expr.Subscript a (.Constant (.int 0) n p3) q :: []) X.env = (false, eval (.Subscript a (.Constant (.int 0) n p3) q) X.env) :: starEach [] X.env := by rfl) (hpl : (backTo pos (starEach [] X.env)).any (·.1) = false := by rfl) :
    Dv ρ X ds (.Call (.Name "len" p) [.Subscript a (.Constant (.int 0) n p3) q] [] pos) (.int (wi B)) := by
  have h1 := G.n1
  have hr : Dv ρ X ds (.Subscript a (.Constant (.int 0) n p3) q) (rowD (B.getD (0 : Int).toNat [])) := dv_row ha dv_int (Int.le_refl 0) (by omega) (fun _ _ => rfl)
  have h := dv_lenT (xs := (B.getD (0 : Int).toNat []).map pairD) (pos := pos) (p := p) hm hr hg he hpl
  rw [List.length_map] at h
  have e : (B.getD (0 : Int).toNat []).length = (B.headD []).length := by
    cases B <;> rfl
  rw [e] at h
  exact h
end
/-- ranges -/
theorem mem_rangeI {n x : Int} : x ∈ rangeI n ↔ 0 ≤ x ∧ x < n := by
  unfold rangeI
  rw [List.mem_map]
  constructor
  · rintro ⟨k, hk, rfl⟩
    have := List.mem_range.mp hk
    omega
  · rintro ⟨h1, h2⟩
    exact ⟨x.toNat, List.mem_range.mpr (by omega), by omega⟩
theorem mem_rangeF {lo n x : Int} : x ∈ rangeF lo n ↔ lo ≤ x ∧ x < n := by
  unfold rangeF
  rw [List.mem_map]
  constructor
  · rintro ⟨k, hk, rfl⟩
    have := List.mem_range.mp hk
    omega
  · rintro ⟨h1, h2⟩
    exact ⟨(x - lo).toNat, List.mem_range.mpr (by omega), by omega⟩
theorem drop_rangeI {n m : Int} (h0 : 0 ≤ n) (h1 : 0 ≤ m) : (rangeI (n + m)).drop n.toNat = rangeF n (n + m) := by
  refine List.ext_getElem? fun k => ?_
  rw [List.getElem?_drop]
  by_cases hk : k < m.toNat
  · have a1 : (rangeI (n + m))[n.toNat + k]? = some (((n.toNat + k : Nat)) : Int) := by
      unfold rangeI
      rw [List.getElem?_map, List.getElem?_range (by omega)]
      rfl
    have a2 : (rangeF n (n + m))[k]? = some (n + (k : Int)) := by
      unfold rangeF
      rw [List.getElem?_map, List.getElem?_range (by omega)]
      rfl
    rw [a1, a2]
    congr 1
    omega
  · rw [List.getElem?_eq_none (by rw [rangeI_len]; omega), List.getElem?_eq_none (by rw [rangeF_len]; omega)]
theorem mem_rows {B : Bd} {lot : List Int} {x : Int} : x ∈ rowsL B lot ↔ (0 ≤ x ∧ x < hi B) ∧ x ∉ lot := by
  unfold rowsL
  rw [List.mem_filter, mem_rangeI]
  simp
theorem mem_cols {B : Bd} {lot : List Int} {x : Int} : x ∈ colsL B lot ↔ (hi B ≤ x ∧ x < hi B + wi B) ∧ x ∉ lot := by
  unfold colsL
  rw [List.mem_filter, mem_rangeF]
  simp
end K8
set_option maxHeartbeats 1000000
namespace K8
open PySem PySem.Spec PyProof.Rows L2
local macro_rules | `(tactic| walk_at "envle") => `(tactic| (repeat (first | exact EnvLe.nil | apply EnvLe.keep | apply EnvLe.skip)))
section
variable {P : Program} {w : World} {K : PySem.W.Frag} {mg : Str → Option Value} {base : Heap} {f : Addr} {fd : FuncData}

def R_is_int (ds : List PyData) (d : PyData) : Prop := ∃ i, ds = [.int i] ∧ d = .bool true
theorem ok_is_int (D : DefAt K mg "is_int" s_is_int f fd) (T : Txt mg) : FnD P w K mg base 1 "is_int" ["value"] R_is_int := by
  refine fn_ret D.F sc_is_int D.hm (D.F.binds fun _ _ _ _ _ _ us hl => match us, hl with | [_], _ => rfl) ?_ ?_
  · rintro ds d ⟨i, rfl, rfl⟩
    rfl
  · rintro f cdv A outer s H E hr ds d ⟨i, rfl, rfl⟩
    exact bl_ret (dv_and (p := true) (q := true) (dv_isi (dv_name 0) (by exact kb_int_int) bt_int T.isinstance T.int) fun _ => dv_one (dv_not (p := false) (dv_isi (dv_name 0) (by exact kb_int_bool) bt_bool T.isinstance T.bool)))
def R_is_from (ds : List PyData) (d : PyData) : Prop := ∃ i l m, ds = [.int i, .int l, .int m] ∧ d = .bool (decide (l ≤ i) && decide (i ≤ m))
theorem ok_is_from (D : DefAt K mg "is_from" s_is_from f fd) (T : Txt mg) (G : FnD P w K mg base 1 "is_int" ["value"] R_is_int) : FnD P w K mg base 2 "is_from" ["value", "least", "most"] R_is_from := by
  refine fn_ret D.F sc_is_from D.hm (D.F.binds fun _ _ _ _ _ _ us hl => match us, hl with | [_, _, _], _ => rfl) ?_ ?_
  · rintro ds d ⟨i, l, m, rfl, rfl⟩
    rfl
  · rintro f cdv A outer s H E hr ds d ⟨i, l, m, rfl, rfl⟩
    exact bl_ret (dv_and (p := true) (dv_call G hr (by decide) (av1 (dv_name 0)) ⟨i, rfl, rfl⟩) fun _ => dv_one (dv_chainLe (dv_name 1) (dv_name 0) (dv_name 2)))
def R_need_from (ds : List PyData) (d : PyData) : Prop := ∃ i l m, ds = [.int i, .int l, .int m] ∧ l ≤ i ∧ i ≤ m ∧ d = .none
theorem ok_need_from (D : DefAt K mg "need_from" s_need_from f fd) (T : Txt mg) (G : FnD P w K mg base 2 "is_from" ["value", "least", "most"] R_is_from) : FnD P w K mg base 3 "need_from" ["value", "least", "most"] R_need_from := by
  refine fn_non D.F sc_need_from D.hm (D.F.binds fun _ _ _ _ _ _ us hl => match us, hl with | [_, _, _], _ => rfl) ?_ ?_ ?_
  · rintro ds d ⟨i, l, m, rfl, _, _, rfl⟩
    rfl
  · rintro ds d ⟨i, l, m, rfl, _, _, rfl⟩
    rfl
  · rintro f cdv A outer s H E hr ds d ⟨i, l, m, rfl, h1, h2, rfl⟩
    refine ⟨_, bl_ifno (tv_is (tv_not (tv_val (dv_call G hr (by decide) (av_cons (dv_name 0) (av2 (dv_name 1) (dv_name 2))) ⟨i, l, m, rfl, rfl⟩))) ?_) bl_nil⟩
    rw [decide_eq_true h1, decide_eq_true h2]
    rfl
def R_is_place (ds : List PyData) (d : PyData) : Prop := ∃ p : Int × Int, ds = [pairD p] ∧ (-1000 ≤ p.1 ∧ p.1 ≤ 1000 ∧ -1000 ≤ p.2 ∧ p.2 ≤ 1000) ∧ d = .bool true
theorem ok_is_place (D : DefAt K mg "is_place" s_is_place f fd) (T : Txt mg) (G : FnD P w K mg base 2 "is_from" ["value", "least", "most"] R_is_from) : FnD P w K mg base 3 "is_place" ["value"] R_is_place := by
  refine fn_ret D.F sc_is_place D.hm (D.F.binds fun _ _ _ _ _ _ us hl => match us, hl with | [_], _ => rfl) ?_ ?_
  · rintro ds d ⟨p, rfl, _, rfl⟩
    rfl
  · rintro f cdv A outer s H E hr ds d ⟨⟨a, b⟩, rfl, hp, rfl⟩
    obtain ⟨t, hv⟩ := T.value
    refine bl_ifno (tv_is (tv_pv (pv_or (p := false) (q := false) (tv_not (p := true) (tv_val (dv_isi (dv_name 0) (by exact kb_tup_tup) bt_tuple T.isinstance T.tuple))) fun _ => pv_or1 (tv_is (tv_neI (dv_lenT (xs := [.int a, .int b]) T.len (dv_name 0)) dv_int) rfl))) rfl) ?_
    refine bl_ret (dv_is (dv_cb (cr_all rfl) bt_all (rc_all (bs := [a, b].map fun i => decide (-1000 ≤ i) && decide (i ≤ 1000))) T.all (av1 (dv_is (dv_lc0 (own := [("one", 1)]) (as := [a, b]) rfl sc_is_place.nd (pi_tup pe_w) (blkOk_by (N := N_is_place) (sc := defScope s_is_place) (by decide +kernel)) (fun _ _ _ _ _ => pg_name (i := 1) sc_is_place.nd rfl (Or.inl rfl)) (src_tup (f := .int) 1 (dv_name 0)) (by decide) (fun i => .bool (decide (-1000 ≤ i) && decide (i ≤ 1000))) (by simp)
      fun s H C cl fp i hi => dv_call G hr (by decide) (av_cons (dv_name 1) (av2 (dv_neg (dv_glob hv ⟨t, rfl⟩)) (dv_glob hv ⟨t, rfl⟩))) ⟨i, -1000, 1000, rfl, rfl⟩) rfl))) ?_)
    have e : (List.map (fun i => decide (-1000 ≤ i) && decide (i ≤ 1000)) [a, b]).all id = true := by
      show ((decide (-1000 ≤ a) && decide (a ≤ 1000)) && ((decide (-1000 ≤ b) && decide (b ≤ 1000)) && true)) = true
      rw [decide_eq_true hp.1, decide_eq_true hp.2.1, decide_eq_true hp.2.2.1, decide_eq_true hp.2.2.2]
      rfl
    rw [e]
def R_board (v : Bd → PyData) (ds : List PyData) (d : PyData) : Prop := ∃ B, Good B ∧ ds = [bd B] ∧ d = v B
theorem ok_need_board (D : DefAt K mg "need_board" s_need_board f fd) (T : Txt mg) (G : FnD P w K mg base 3 "is_place" ["value"] R_is_place) : FnD P w K mg base 4 "need_board" ["value"] (R_board fun _ => .none) := by
  refine fn_non D.F sc_need_board D.hm (D.F.binds fun _ _ _ _ _ _ us hl => match us, hl with | [_], _ => rfl) ?_ ?_ ?_
  · rintro ds d ⟨B, _, rfl, rfl⟩
    rfl
  · rintro ds d ⟨B, _, rfl, rfl⟩
    rfl
  · rintro f cdv A outer s H E hr ds d ⟨B, g, rfl, rfl⟩
    obtain ⟨t, hv⟩ := T.side
    refine ⟨_, bl_ifno (tv_is (tv_pv (pv_or (p := false) (q := false) (tv_not (p := true) (tv_val (dv_isi (dv_name 0) (by exact kb_tup_tup) bt_tuple T.isinstance T.tuple))) fun _ => pv_or1 (tv_is (tv_not (tv_chainLe dv_int (dv_hi (B := B) T.len (dv_name 0)) (dv_glob hv ⟨t, rfl⟩))) ?_))) rfl)
      (bl_each (F := fun _ => startE _ [bd B]) PassesOwn.never rfl (pi_enumT rfl T.enumerate pa_w) (pg_pair rfl sc_need_board.nd) (src_enumT (as := B) (f := rowD) 1 2 (av1 (dv_name 0))) ?_ bl_nil)⟩
    · rw [decide_eq_true g.n1, decide_eq_true g.n6]
      rfl
    · rintro i ⟨k, r⟩ h
      have hr' : r ∈ B := List.mem_of_getElem? (zip_at h).2
      have hl := g.rect r hr'
      have w1 := g.m1
      have w6 := g.m6
      refine bl_out (ds1 := _) ?_ (bl_ifno (tv_is (tv_pv (pv_or (p := false) (q := false) (tv_not (p := true) (tv_val (dv_isi (dv_name 2) (by exact kb_tup_tup) bt_tuple T.isinstance T.tuple))) fun _ => pv_or (p := false) (q := false) (tv_is (tv_not (tv_chainLe dv_int (dv_lenT (xs := r.map pairD) T.len (dv_name 2)) (dv_glob hv ⟨t, rfl⟩))) ?_) fun _ => pv_or1 (tv_is (tv_neI (dv_lenT (xs := r.map pairD) T.len (dv_name 2)) (dv_wi g T.len (dv_name 0))) ?_))) rfl)
        (bl_ifno (tv_is (tv_not (p := true) (tv_val (dv_is (dv_cb (cr_all rfl) bt_all (rc_all (bs := r.map fun _ => true)) T.all (av1 (dv_is (dv_lc0 (own := [("place", 3)]) (as := r) rfl sc_need_board.nd (pi_tup pe_w) (blkOk_by (N := N_need_board) (sc := defScope s_need_board) (by decide +kernel)) (fun _ _ _ _ _ => pg_name (i := 3) sc_need_board.nd rfl (Or.inl rfl)) (src_tup (f := pairD) 3 (dv_name 2)) (by decide) (fun _ => .bool true) (by omega)
          fun s H C cl fp p hp => dv_call G hr (by decide) (av1 (dv_name 3)) ⟨p, rfl, g.small r hr' p hp, rfl⟩) ?_))) ?_))) rfl) bl_nil))
      · walk_at "envle"
      · rw [List.length_map, hl, decide_eq_true w1, decide_eq_true w6]
        rfl
      · rw [List.length_map, hl, decide_eq_true rfl]
        rfl
      · rw [List.map_map]
        rfl
      · rw [List.all_map]
        simp
end
end K8
set_option maxHeartbeats 1000000
namespace K8
open PySem PySem.Spec PyProof.Rows L2
section
variable {P : Program} {w : World} {K : PySem.W.Frag} {mg : Str → Option Value} {base : Heap} {f : Addr} {fd : FuncData}

abbrev R_sides : List PyData → PyData → Prop := R_board fun B => .tuple [.int (hi B), .int (wi B)]
theorem ok_sides (D : DefAt K mg "sides" s_sides f fd) (T : Txt mg) : FnD P w K mg base 1 "sides" ["board"] R_sides := by
  refine fn_ret D.F sc_sides D.hm (D.F.binds fun _ _ _ _ _ _ us hl => match us, hl with | [_], _ => rfl) ?_ ?_
  · rintro ds d ⟨B, _, rfl, rfl⟩
    rfl
  · rintro f cdv A outer s H E hr ds d ⟨B, g, rfl, rfl⟩
    exact bl_ret (dv_tup (av2 (dv_hi T.len (dv_name 0)) (dv_wi g T.len (dv_name 0))) (by simp))
abbrev R_lines : List PyData → PyData → Prop := R_board fun B => intsT (linesL B)
theorem ok_lines (D : DefAt K mg "lines_of" s_lines_of f fd) (T : Txt mg) (G : FnD P w K mg base 1 "sides" ["board"] R_sides) : FnD P w K mg base 2 "lines_of" ["board"] R_lines := by
  refine fn_ret D.F sc_lines_of D.hm (D.F.binds fun _ _ _ _ _ _ us hl => match us, hl with | [_], _ => rfl) ?_ ?_
  · rintro ds d ⟨B, _, rfl, rfl⟩
    rfl
  · rintro f cdv A outer s H E hr ds d ⟨B, g, rfl, rfl⟩
    have := g.n1
    have := g.n6
    have := g.m1
    have := g.m6
    have e : [hi B, wi B].sum = hi B + wi B := by
      show hi B + (wi B + 0) = _
      rw [Int.add_zero]
    refine bl_ret (dv_is (dv_tupRg (i := [hi B, wi B].sum) rfl T.tuple T.range (dv_cb (cr_sumT rfl) bt_sum (rc_sumT (ns := [hi B, wi B])) T.sum (av1 (dv_call G hr (by decide) (av1 (dv_name 0)) ⟨B, g, rfl, rfl⟩))) (by rw [e]; omega) (by rw [e]; omega)) ?_)
    rw [e]
    rfl
def R_lot (v : Bd → List Int → PyData) (ds : List PyData) (d : PyData) : Prop := ∃ B lot, Good B ∧ lot.length ≤ 100 ∧ ds = [bd B, intsT lot] ∧ d = v B lot
abbrev R_left : List PyData → PyData → Prop := R_lot fun B lot => .tuple [intsT (rowsL B lot), intsT (colsL B lot)]
theorem ok_left (D : DefAt K mg "left_of" s_left_of f fd) (T : Txt mg) (G : FnD P w K mg base 2 "lines_of" ["board"] R_lines) : FnD P w K mg base 3 "left_of" ["board", "lot"] R_left := by
  refine fn_ret D.F sc_left_of D.hm (D.F.binds fun _ _ _ _ _ _ us hl => match us, hl with | [_, _], _ => rfl) ?_ ?_
  · rintro ds d ⟨B, lot, _, _, rfl, rfl⟩
    rfl
  · rintro f cdv A outer s H E hr ds d ⟨B, lot, g, hz, rfl, rfl⟩
    have := g.n1
    have := g.n6
    have := g.m1
    have := g.m6
    refine bl_set 2 sc_left_of.nd (dv_ct call_tuple_of bt_tuple rc_tupL T.tuple (av1 (dv_lc1 (own := [("one", 3)]) (as := rangeI (hi B)) rfl sc_left_of.nd (pi_range1 (by rfl) T.range pa_w) (blkOk_by (N := N_left_of) (sc := defScope s_left_of) (by decide +kernel)) (fun _ _ _ _ _ => pg_name (i := 3) sc_left_of.nd rfl (Or.inl rfl))
        (src_rng 3 (av1 (dv_hi T.len (dv_name 0))) (by omega) (by omega)) (by decide) (fun x => !decide (x ∈ lot)) PyData.int (by rw [rangeI_len]; omega) (fun s H C cl fp x hx => tv_notinT (dv_name 3) (dv_name 1)) fun s H C cl fp x hx _ => dv_name 3))) ?_
    refine bl_ret (dv_tup (av2 (dv_name 2) (dv_ct call_tuple_of bt_tuple rc_tupL T.tuple (av1 (dv_lc1 (own := [("one", 3)]) (as := rangeF (hi B) (hi B + wi B)) rfl sc_left_of.nd (pi_tup pe_w) (blkOk_by (N := N_left_of) (sc := defScope s_left_of) (by decide +kernel)) (fun _ _ _ _ _ => pg_name (i := 3) sc_left_of.nd rfl (Or.inl rfl))
        (src_tup (f := .int) 3 (dv_is (dv_fromT (k := B.length) (dv_call G hr (by decide) (av1 (dv_name 0)) ⟨B, g, rfl, rfl⟩) (dv_hi T.len (dv_name 0)) (by unfold hi at *; omega) (by rw [List.length_map]; unfold linesL; rw [rangeI_len]; omega)) ?_)) (by decide) (fun x => !decide (x ∈ lot)) PyData.int (by rw [rangeF_len]; omega) (fun s H C cl fp x hx => tv_notinT (dv_name 3) (dv_name 1)) fun s H C cl fp x hx _ => dv_name 3)))) (by simp))
    have e := drop_rangeI (n := hi B) (m := wi B) (by omega) (by omega)
    have e2 : (hi B).toNat = B.length := by unfold hi; omega
    rw [e2] at e
    unfold linesL
    rw [← List.map_drop, e]
def R_line (v : Bd → List Int → Int → PyData) (ds : List PyData) (d : PyData) : Prop := ∃ B lot l, Good B ∧ lot.length ≤ 100 ∧ (0 ≤ l ∧ l < hi B + wi B) ∧ ds = [bd B, intsT lot, .int l] ∧ d = v B lot l
theorem cols_len (B : Bd) (lot : List Int) (g : Good B) : (colsL B lot).length ≤ 6 := by
  have := g.m6
  refine Nat.le_trans (List.length_filter_le _ _) ?_
  rw [rangeF_len]
  omega
theorem rows_len (B : Bd) (lot : List Int) (g : Good B) : (rowsL B lot).length ≤ 6 := by
  have := g.n6
  refine Nat.le_trans (List.length_filter_le _ _) ?_
  rw [rangeI_len]
  omega
theorem nums_len (B : Bd) (lot : List Int) (l : Int) (g : Good B) : (numsL B lot l).length ≤ 6 := by
  unfold numsL
  split
  · rw [List.length_map]; exact cols_len B lot g
  · rw [List.length_map]; exact rows_len B lot g
abbrev R_numbers : List PyData → PyData → Prop := R_line fun B lot l => intsL (numsL B lot l)
theorem ok_numbers (D : DefAt K mg "numbers" s_numbers f fd) (T : Txt mg) (G : FnD P w K mg base 3 "left_of" ["board", "lot"] R_left) : FnD P w K mg base 4 "numbers" ["board", "lot", "line"] R_numbers := by
  refine fn_ret D.F sc_numbers D.hm (D.F.binds fun _ _ _ _ _ _ us hl => match us, hl with | [_, _, _], _ => rfl) ?_ ?_
  · rintro ds d ⟨B, lot, l, _, _, _, rfl, rfl⟩
    rfl
  · rintro f cdv A outer s H E hr ds d ⟨B, lot, l, g, hz, ⟨hl0, hl1⟩, rfl, rfl⟩
    have c6 := cols_len B lot g
    have r6 := rows_len B lot g
    refine bl_two 3 4 rfl sc_numbers.nd (dv_call G hr (by decide) (av2 (dv_name 0) (dv_name 1)) ⟨B, lot, g, hz, rfl, rfl⟩) ?_
    refine bl_ifor (tv_lt (dv_name 2) (dv_hi T.len (dv_name 0))) (fun hp => ?_) fun hp => ?_
    · have hl := of_decide_eq_true hp
      refine bl_ret (dv_is (dv_lc0 (own := [("column", 5)]) (as := colsL B lot) rfl sc_numbers.nd (pi_tup pe_w) (blkOk_by (N := N_numbers) (sc := defScope s_numbers) (by decide +kernel)) (fun _ _ _ _ _ => pg_name (i := 5) sc_numbers.nd rfl (Or.inl rfl))
        (src_tup (f := .int) 5 (dv_name 4)) (by decide) (fun c => .int (fs B l (c - hi B))) (by omega) fun s H C cl fp c hc => ?_) ?_)
      · have h := mem_cols.mp hc
        exact dv_fs g (dv_name 0) (dv_name 2) (dv_sub (dv_name 5) (dv_hi T.len (dv_name 0))) hl0 hl (by omega) (by omega)
      · show _ = intsL (numsL B lot l)
        unfold numsL
        rw [if_pos hl, intsL, List.map_map]
        rfl
    · have hl := of_decide_eq_false hp
      refine bl_ret (dv_is (dv_lc0 (own := [("row", 6)]) (as := rowsL B lot) rfl sc_numbers.nd (pi_tup pe_w) (blkOk_by (N := N_numbers) (sc := defScope s_numbers) (by decide +kernel)) (fun _ _ _ _ _ => pg_name (i := 6) sc_numbers.nd rfl (Or.inl rfl))
        (src_tup (f := .int) 6 (dv_name 3)) (by decide) (fun r => .int (sn B r (l - hi B))) (by omega) fun s H C cl fp r hc => ?_) ?_)
      · have h := mem_rows.mp hc
        exact dv_sn g (dv_name 0) (dv_name 6) (dv_sub (dv_name 2) (dv_hi T.len (dv_name 0))) h.1.1 h.1.2 (by omega) (by omega)
      · show _ = intsL (numsL B lot l)
        unfold numsL
        rw [if_neg hl, intsL, List.map_map]
        rfl
def R_same (ds : List PyData) (d : PyData) : Prop := ∃ B l o, Good B ∧ ds = [bd B, .int l, .int o] ∧ d = .bool (decide (l < hi B) == decide (o < hi B))
theorem ok_same (D : DefAt K mg "same_side" s_same_side f fd) (T : Txt mg) : FnD P w K mg base 1 "same_side" ["board", "one", "other"] R_same := by
  refine fn_ret D.F sc_same_side D.hm (D.F.binds fun _ _ _ _ _ _ us hl => match us, hl with | [_, _, _], _ => rfl) ?_ ?_
  · rintro ds d ⟨B, l, o, _, rfl, rfl⟩
    rfl
  · rintro f cdv A outer s H E hr ds d ⟨B, l, o, g, rfl, rfl⟩
    exact bl_ret (dv_eqB (dv_lt (dv_name 1) (dv_hi T.len (dv_name 0))) (dv_lt (dv_name 2) (dv_hi T.len (dv_name 0))))
def R_greater (ds : List PyData) (d : PyData) : Prop := ∃ B lot l o, Good B ∧ lot.length ≤ 100 ∧ (0 ≤ l ∧ l < hi B + wi B) ∧ (0 ≤ o ∧ o < hi B + wi B) ∧ ds = [bd B, intsT lot, .int l, .int o] ∧ d = .bool (gtL B lot l o)
theorem ok_greater (D : DefAt K mg "is_greater" s_is_greater f fd) (T : Txt mg) (GS : FnD P w K mg base 1 "same_side" ["board", "one", "other"] R_same) (GN : FnD P w K mg base 4 "numbers" ["board", "lot", "line"] R_numbers) : FnD P w K mg base 5 "is_greater" ["board", "lot", "line", "other"] R_greater := by
  refine fn_ret D.F sc_is_greater D.hm (D.F.binds fun _ _ _ _ _ _ us hl => match us, hl with | [_, _, _, _], _ => rfl) ?_ ?_
  · rintro ds d ⟨B, lot, l, o, _, _, _, _, rfl, rfl⟩
    rfl
  · rintro f cdv A outer s H E hr ds d ⟨B, lot, l, o, g, hz, hl, ho, rfl, rfl⟩
    have n6 := nums_len B lot l g
    refine bl_ifor (tv_not (tv_val (dv_call GS hr (by decide) (av_cons (dv_name 0) (av2 (dv_name 2) (dv_name 3))) ⟨B, l, o, g, rfl, rfl⟩))) (fun hp => ?_) fun hp => ?_
    · refine bl_ret (dv_is dv_bl ?_)
      unfold gtL
      rw [Bool.not_eq_true'] at hp
      rw [hp]
      rfl
    · refine bl_ret (dv_is (dv_cb (cr_all rfl) bt_all (rc_all (bs := ((numsL B lot l).zip (numsL B lot o)).map fun p => decide (p.1 < p.2))) T.all (av1 (dv_is (dv_lc0 (own := [("a", 4), ("b", 5)]) (as := (numsL B lot l).zip (numsL B lot o)) rfl sc_is_greater.nd (RZ.pi_zipA (by rfl) T.zip pa_w) (blkOk_by (N := N_is_greater) (sc := defScope s_is_greater) (by decide +kernel)) (fun _ _ _ _ _ => pg_pair (i := 4) (j := 5) rfl sc_is_greater.nd)
        (src_zipL (f1 := .int) (f2 := .int) 4 5 (av2 (dv_call GN hr (by decide) (av_cons (dv_name 0) (av2 (dv_name 1) (dv_name 2))) ⟨B, lot, l, g, hz, hl, rfl, rfl⟩) (dv_call GN hr (by decide) (av_cons (dv_name 0) (av2 (dv_name 1) (dv_name 3))) ⟨B, lot, o, g, hz, ho, rfl, rfl⟩))) (by decide) (fun p => .bool (decide (p.1 < p.2))) (by rw [List.length_zip]; omega)
        fun s H C cl fp p hp => dv_gt (dv_name 5) (dv_name 4)) ?_))) ?_)
      · rw [List.map_map]
        rfl
      · unfold gtL
        rw [Bool.not_eq_false'] at hp
        rw [hp, Bool.true_and]

abbrev R_fall : List PyData → PyData → Prop := R_line fun B lot l => .bool (fallL B lot l)
theorem lines_len (B : Bd) (g : Good B) : (linesL B).length ≤ 12 := by
  have := g.n6
  have := g.m6
  unfold linesL
  rw [rangeI_len]
  omega
theorem mem_lines {B : Bd} {x : Int} : x ∈ linesL B ↔ 0 ≤ x ∧ x < hi B + wi B := by
  unfold linesL
  exact mem_rangeI
theorem ok_fall (D : DefAt K mg "can_fall" s_can_fall f fd) (T : Txt mg) (GL : FnD P w K mg base 2 "lines_of" ["board"] R_lines) (GG : FnD P w K mg base 5 "is_greater" ["board", "lot", "line", "other"] R_greater) : FnD P w K mg base 6 "can_fall" ["board", "lot", "line"] R_fall := by
  refine fn_ret D.F sc_can_fall D.hm (D.F.binds fun _ _ _ _ _ _ us hl => match us, hl with | [_, _, _], _ => rfl) ?_ ?_
  · rintro ds d ⟨B, lot, l, _, _, _, rfl, rfl⟩
    rfl
  · rintro f cdv A outer s H E hr ds d ⟨B, lot, l, g, hz, hl, rfl, rfl⟩
    have l12 := lines_len B g
    refine bl_ret (dv_is (dv_cb (cr_any rfl) bt_any (rc_any (bs := ((linesL B).filter fun o => !decide (o ∈ lot ++ [l])).map fun o => gtL B lot l o)) T.any (av1 (dv_is (dv_lc1 (own := [("other", 3)]) (as := linesL B) rfl sc_can_fall.nd (pi_tup pe_w) (blkOk_by (N := N_can_fall) (sc := defScope s_can_fall) (by decide +kernel)) (fun _ _ _ _ _ => pg_name (i := 3) sc_can_fall.nd rfl (Or.inl rfl))
      (src_tup (f := .int) 3 (dv_call GL hr (by decide) (av1 (dv_name 0)) ⟨B, g, rfl, rfl⟩)) (by decide) (fun o => !decide (o ∈ lot ++ [l])) (fun o => .bool (gtL B lot l o)) (by omega)
      (fun s H C cl fp o ho => tv_notinT (dv_name 3) (dv_is (dv_tup (av_starT (xs := lot.map .int) (dv_name 1) (av1 (dv_name 2))) (by rw [List.length_append, List.length_map]; show _ + 1 ≤ 1000; omega)) ?_))
      fun s H C cl fp o ho _ => dv_call GG hr (by decide) (av_cons (dv_name 0) (av_cons (dv_name 1) (av2 (dv_name 2) (dv_name 3)))) ⟨B, lot, l, o, g, hz, hl, mem_lines.mp ho, rfl, rfl⟩) ?_))) ?_)
    · rw [List.map_append]
      rfl
    · rw [List.map_map]
      rfl
    · rfl
abbrev R_ready : List PyData → PyData → Prop := R_lot fun B lot => intsT (readyL B lot)
theorem ok_ready (D : DefAt K mg "ready_of" s_ready_of f fd) (T : Txt mg) (GL : FnD P w K mg base 2 "lines_of" ["board"] R_lines) (GF : FnD P w K mg base 6 "can_fall" ["board", "lot", "line"] R_fall) : FnD P w K mg base 7 "ready_of" ["board", "lot"] R_ready := by
  refine fn_ret D.F sc_ready_of D.hm (D.F.binds fun _ _ _ _ _ _ us hl => match us, hl with | [_, _], _ => rfl) ?_ ?_
  · rintro ds d ⟨B, lot, _, _, rfl, rfl⟩
    rfl
  · rintro f cdv A outer s H E hr ds d ⟨B, lot, g, hz, rfl, rfl⟩
    have l12 := lines_len B g
    exact bl_ret (dv_ct call_tuple_of bt_tuple rc_tupL T.tuple (av1 (dv_lc1 (own := [("line", 2)]) (as := linesL B) rfl sc_ready_of.nd (pi_tup pe_w) (blkOk_by (N := N_ready_of) (sc := defScope s_ready_of) (by decide +kernel)) (fun _ _ _ _ _ => pg_name (i := 2) sc_ready_of.nd rfl (Or.inl rfl))
      (src_tup (f := .int) 2 (dv_call GL hr (by decide) (av1 (dv_name 0)) ⟨B, g, rfl, rfl⟩)) (by decide) (fun l => !decide (l ∈ lot) && fallL B lot l) PyData.int (by omega)
      (fun s H C cl fp l hl => tv_pv (pv_and (tv_notinT (dv_name 2) (dv_name 1)) fun _ => pv_and1 (tv_val (dv_call GF hr (by decide) (av_cons (dv_name 0) (av2 (dv_name 1) (dv_name 2))) ⟨B, lot, l, g, hz, mem_lines.mp hl, rfl, rfl⟩))))
      fun s H C cl fp l hl _ => dv_name 2)))
def R_with (ds : List PyData) (d : PyData) : Prop := ∃ lot l, lot.length ≤ 100 ∧ ds = [intsT lot, .int l] ∧ d = intsT (withL lot l)
theorem ok_with (D : DefAt K mg "with_line" s_with_line f fd) (T : Txt mg) : FnD P w K mg base 1 "with_line" ["lot", "line"] R_with := by
  refine fn_ret D.F sc_with_line D.hm (D.F.binds fun _ _ _ _ _ _ us hl => match us, hl with | [_, _], _ => rfl) ?_ ?_
  · rintro ds d ⟨lot, l, _, rfl, rfl⟩
    rfl
  · rintro f cdv A outer s H E hr ds d ⟨lot, l, hz, rfl, rfl⟩
    refine bl_ret (dv_ct call_tuple_of bt_tuple rc_tupL T.tuple (av1 (dv_cb cr_sortedI bt_sorted (rc_sorted (ns := lot ++ [l])) T.sorted (av1 (dv_is (dv_lst (av_starT (xs := lot.map .int) (dv_name 0) (av1 (dv_name 1))) (by rw [List.length_append, List.length_map]; show _ + 1 ≤ 1000; omega)) ?_)))))
    rw [List.map_append]
    rfl
end
end K8
set_option maxHeartbeats 1000000
namespace K8
open PySem PySem.Spec PyProof.Rows L2
/-! ### == of data -/
theorem lay_all {l : List PyData} (h : ∀ x ∈ l, x.canLay0 = true) : PyData.canLayAll0 l = true := by
  induction l with
  | nil => rfl
  | cons x r ih =>
    show (x.canLay0 && PyData.canLayAll0 r) = true
    rw [h x List.mem_cons_self, ih fun y hy => h y (List.mem_cons_of_mem _ hy)]
    rfl
theorem depth_all {l : List PyData} {n : Nat} (h : ∀ x ∈ l, x.depth ≤ n) : PyData.depthAll l ≤ n := by
  induction l with
  | nil => exact Nat.zero_le _
  | cons x r ih =>
    show max x.depth (PyData.depthAll r) ≤ n
    exact Nat.max_le.mpr ⟨h x List.mem_cons_self, ih fun y hy => h y (List.mem_cons_of_mem _ hy)⟩
/-- data that == takes: n the depth -/
def Fit (n : Nat) (x : PyData) : Prop := x.canLay0 = true ∧ x.depth ≤ n
theorem fit_shaped {n : Nat} {x : PyData} (h : Fit n x) (hn : n ≤ 64) : SeqAt.shaped x = true := by
  unfold SeqAt.shaped
  rw [h.1, decide_eq_true (Nat.le_trans h.2 hn)]
  rfl
theorem fit_int (i : Int) : Fit 1 (.int i) := ⟨rfl, by show PyData.depth (.int i) ≤ 1; simp [PyData.depth]⟩
theorem fit_bool (i : Bool) : Fit 1 (.bool i) := ⟨rfl, by show PyData.depth (.bool i) ≤ 1; simp [PyData.depth]⟩
theorem fit_list {n : Nat} {l : List PyData} (h : ∀ x ∈ l, Fit n x) : Fit (n + 1) (.list l) := ⟨by
  show PyData.canLayAll0 l = true
  exact lay_all fun x hx => (h x hx).1, by
  have := depth_all fun x hx => (h x hx).2
  simp only [PyData.depth]
  omega⟩
theorem fit_tup {n : Nat} {l : List PyData} (h : ∀ x ∈ l, Fit n x) : Fit (n + 1) (.tuple l) := ⟨by
  show PyData.canLayAll0 l = true
  exact lay_all fun x hx => (h x hx).1, by
  have := depth_all fun x hx => (h x hx).2
  simp only [PyData.depth]
  omega⟩
theorem Fit.up {n m : Nat} {x : PyData} (h : Fit n x) (k : n ≤ m) : Fit m x := ⟨h.1, Nat.le_trans h.2 k⟩
theorem fit_intsL (l : List Int) : Fit 2 (intsL l) := fit_list fun x hx => by
  obtain ⟨i, _, rfl⟩ := List.mem_map.mp hx
  exact fit_int i
theorem fit_intsT (l : List Int) : Fit 2 (intsT l) := fit_tup fun x hx => by
  obtain ⟨i, _, rfl⟩ := List.mem_map.mp hx
  exact fit_int i
theorem fit_pair (p : Int × Int) : Fit 2 (pairD p) := fit_tup fun x hx => by
  rcases List.mem_cons.mp hx with rfl | hx
  · exact fit_int _
  · rw [List.mem_singleton.mp hx]; exact fit_int _
theorem eqv_map {α : Type} [DecidableEq α] {f : α → PyData} (h : ∀ a b, PyData.eqv (f a) (f b) = decide (a = b)) : ∀ l m : List α, PyData.eqvAll (l.map f) (m.map f) = decide (l = m)
  | [], [] => rfl
  | [], _ :: _ => rfl
  | _ :: _, [] => rfl
  | a :: l, b :: m => by
    show (PyData.eqv (f a) (f b) && PyData.eqvAll (l.map f) (m.map f)) = decide (a :: l = b :: m)
    rw [h, eqv_map h l m]
    by_cases e1 : a = b
    · subst e1
      by_cases e2 : l = m
      · subst e2; simp
      · simp [e2]
    · simp [e1]
theorem eqv_int (a b : Int) : PyData.eqv (.int a) (.int b) = decide (a = b) := by
  show (a == b) = decide (a = b)
  rw [Bool.beq_eq_decide_eq]
theorem eqv_intsL (l m : List Int) : PyData.eqv (intsL l) (intsL m) = decide (l = m) := eqv_map eqv_int l m
theorem eqv_intsT (l m : List Int) : PyData.eqv (intsT l) (intsT m) = decide (l = m) := eqv_map eqv_int l m
theorem eqv_pair (p q : Int × Int) : PyData.eqv (pairD p) (pairD q) = decide (p = q) := by
  obtain ⟨a, b⟩ := p
  obtain ⟨c, d⟩ := q
  show (PyData.eqv (.int a) (.int c) && (PyData.eqv (.int b) (.int d) && true)) = decide ((a, b) = (c, d))
  rw [eqv_int, eqv_int, Bool.and_true]
  by_cases e1 : a = c
  · subst e1
    by_cases e2 : b = d
    · subst e2; simp
    · simp [e2]
  · simp [e1]
end K8
set_option maxHeartbeats 1000000
namespace K8
open PySem
/-! ### the strikes come to an end -/
theorem mem_isort {x : Int} {l : List Int} : x ∈ isort l ↔ x ∈ l := (isort_perm l).mem_iff
theorem nodup_le : ∀ {l m : List Int}, l.Nodup → (∀ x ∈ l, x ∈ m) → l.length ≤ m.length
  | [], m, _, _ => Nat.zero_le _
  | a :: l, m, hn, hs => by
    have h1 := List.nodup_cons.mp hn
    have ha : a ∈ m := hs a List.mem_cons_self
    have ih := nodup_le (l := l) (m := m.erase a) h1.2 fun x hx => (List.mem_erase_of_ne (fun z : x = a => h1.1 (by rw [← z]; exact hx))).mpr (hs x (List.mem_cons_of_mem _ hx))
    rw [List.length_erase_of_mem ha] at ih
    have := List.length_pos_of_mem ha
    rw [List.length_cons]
    omega
theorem rangeI_nodup (n : Int) : (rangeI n).Nodup := by
  unfold rangeI
  exact List.Pairwise.map _ (fun a b h z => h (by omega)) (List.nodup_range)
theorem rangeF_nodup (a n : Int) : (rangeF a n).Nodup := by
  unfold rangeF
  exact List.Pairwise.map _ (fun a b h z => h (by omega)) (List.nodup_range)
theorem mem_ready {B : Bd} {lot : List Int} {x : Int} : x ∈ readyL B lot ↔ (0 ≤ x ∧ x < hi B + wi B) ∧ x ∉ lot ∧ fallL B lot x = true := by
  unfold readyL linesL
  rw [List.mem_filter, mem_rangeI]
  simp
theorem lines_12 {B : Bd} (g : Good B) : (linesL B).length ≤ 12 := by
  have := g.n6
  have := g.m6
  unfold linesL
  rw [rangeI_len]
  omega
theorem stops {B : Bd} (g : Good B) (s : Nat → List Int) (hn : ∀ i, (s i).Nodup) (hs : ∀ i x, x ∈ s i → x ∈ linesL B) (hg : ∀ i, readyL B (s i) ≠ [] → (s i).length < (s (i + 1)).length) :
    ∃ n, n ≤ 12 ∧ readyL B (s n) = [] ∧ ∀ i, i < n → readyL B (s i) ≠ [] := by
  have key : ∀ k, (∃ n, n ≤ k ∧ readyL B (s n) = [] ∧ ∀ i, i < n → readyL B (s i) ≠ []) ∨ (∀ i, i ≤ k → readyL B (s i) ≠ []) ∧ k < (s (k + 1)).length := by
    intro k
    induction k with
    | zero =>
      by_cases h : readyL B (s 0) = []
      · exact .inl ⟨0, Nat.le_refl _, h, fun i hi => absurd hi (Nat.not_lt_zero i)⟩
      · refine .inr ⟨fun i hi => ?_, ?_⟩
        · have e : i = 0 := by omega
          rw [e]; exact h
        · have := hg 0 h
          omega
    | succ k ih =>
      rcases ih with ⟨n, h1, h2, h3⟩ | ⟨h1, h2⟩
      · exact .inl ⟨n, by omega, h2, h3⟩
      · by_cases h : readyL B (s (k + 1)) = []
        · exact .inl ⟨k + 1, Nat.le_refl _, h, fun i hi => h1 i (by omega)⟩
        · refine .inr ⟨fun i hi => ?_, ?_⟩
          · by_cases e : i = k + 1
            · rw [e]; exact h
            · exact h1 i (by omega)
          · have := hg (k + 1) h
            omega
  rcases key 12 with h | ⟨_, h⟩
  · exact h
  · exact absurd (Nat.lt_of_lt_of_le h (Nat.le_trans (nodup_le (hn (12 + 1)) (hs (12 + 1))) (lines_12 g))) (Nat.lt_irrefl _)
theorem clo_step {B : Bd} {i : Nat} {x : Int} {r : List Int} (h : readyL B (cloAt B i).1 = x :: r) : cloAt B (i + 1) = (withL (cloAt B i).1 x, (cloAt B i).2 ++ [x]) := by
  show cloStep B (cloAt B i) = _
  unfold cloStep
  rw [h]
theorem clo_stuck {B : Bd} {n : Nat} (h : readyL B (cloAt B n).1 = []) : ∀ k, cloAt B (n + k) = cloAt B n
  | 0 => rfl
  | k + 1 => by
    have ih := clo_stuck h k
    show cloStep B (cloAt B (n + k)) = cloAt B n
    rw [ih]
    unfold cloStep
    rw [h]
theorem clo_inv (B : Bd) : ∀ i, (cloAt B i).1.Perm (cloAt B i).2 ∧ (cloAt B i).1.Nodup ∧ (∀ x ∈ (cloAt B i).1, x ∈ linesL B) ∧ (cloAt B i).1.length ≤ i
  | 0 => ⟨List.Perm.refl _, List.nodup_nil, fun x h => absurd h (List.not_mem_nil), Nat.le_refl _⟩
  | i + 1 => by
    obtain ⟨h1, h2, h3, h4⟩ := clo_inv B i
    cases e : readyL B (cloAt B i).1 with
    | nil =>
      have s := clo_stuck e 1
      rw [s]
      exact ⟨h1, h2, h3, Nat.le_succ_of_le h4⟩
    | cons x r =>
      rw [clo_step e]
      have hx : x ∈ readyL B (cloAt B i).1 := by rw [e]; exact List.mem_cons_self
      obtain ⟨a1, a2, _⟩ := mem_ready.mp hx
      have p := isort_perm ((cloAt B i).1 ++ [x])
      refine ⟨p.trans (h1.append (List.Perm.refl _)), p.nodup_iff.mpr ?_, fun y hy => ?_, ?_⟩
      · rw [List.nodup_append]
        exact ⟨h2, by simp, fun a ha b hb z => a2 (by rw [← List.mem_singleton.mp hb, ← z]; exact ha)⟩
      · rcases List.mem_append.mp (mem_isort.mp hy) with hy | hy
        · exact h3 y hy
        · rw [List.mem_singleton.mp hy]
          unfold linesL
          exact mem_rangeI.mpr a1
      · show (isort ((cloAt B i).1 ++ [x])).length ≤ i + 1
        rw [p.length_eq, List.length_append]
        exact Nat.succ_le_succ h4
theorem clo_stops {B : Bd} (g : Good B) : ∃ n, n ≤ 12 ∧ readyL B (cloAt B n).1 = [] ∧ (∀ i, i < n → readyL B (cloAt B i).1 ≠ []) ∧ cloAt B 12 = cloAt B n := by
  obtain ⟨n, h1, h2, h3⟩ := stops g (fun i => (cloAt B i).1) (fun i => (clo_inv B i).2.1) (fun i => (clo_inv B i).2.2.1) fun i h => by
    cases e : readyL B (cloAt B i).1 with
    | nil => exact absurd e h
    | cons x r =>
      show (cloAt B i).1.length < (cloAt B (i + 1)).1.length
      rw [clo_step e]
      show _ < (isort ((cloAt B i).1 ++ [x])).length
      rw [(isort_perm _).length_eq, List.length_append]
      exact Nat.lt_succ_self _
  refine ⟨n, h1, h2, h3, ?_⟩
  have := clo_stuck h2 (12 - n)
  rw [Nat.add_sub_cancel' h1] at this
  exact this
theorem rnd_step {B : Bd} {i : Nat} (h : readyL B (rndAt B i).1 ≠ []) : rndAt B (i + 1) = (isort ((rndAt B i).1 ++ readyL B (rndAt B i).1), (rndAt B i).2 ++ [readyL B (rndAt B i).1]) := by
  show rndStep B (rndAt B i) = _
  unfold rndStep
  cases e : readyL B (rndAt B i).1 with
  | nil => exact absurd e h
  | cons x r => rfl
theorem rnd_stuck {B : Bd} {n : Nat} (h : readyL B (rndAt B n).1 = []) : ∀ k, rndAt B (n + k) = rndAt B n
  | 0 => rfl
  | k + 1 => by
    have ih := rnd_stuck h k
    show rndStep B (rndAt B (n + k)) = rndAt B n
    rw [ih]
    unfold rndStep
    rw [h]
theorem rnd_inv (B : Bd) : ∀ i, (rndAt B i).1.Nodup ∧ (∀ x ∈ (rndAt B i).1, x ∈ linesL B) ∧ (rndAt B i).2.length ≤ i
  | 0 => ⟨List.nodup_nil, fun x h => absurd h (List.not_mem_nil), Nat.le_refl _⟩
  | i + 1 => by
    obtain ⟨h2, h3, h4⟩ := rnd_inv B i
    by_cases e : readyL B (rndAt B i).1 = []
    · have s := rnd_stuck e 1
      rw [s]
      exact ⟨h2, h3, Nat.le_succ_of_le h4⟩
    · rw [rnd_step e]
      have p := isort_perm ((rndAt B i).1 ++ readyL B (rndAt B i).1)
      refine ⟨p.nodup_iff.mpr ?_, fun y hy => ?_, ?_⟩
      · rw [List.nodup_append]
        refine ⟨h2, ?_, fun a ha b hb z => (mem_ready.mp hb).2.1 (by rw [← z]; exact ha)⟩
        unfold readyL linesL
        exact (rangeI_nodup _).filter _
      · rcases List.mem_append.mp (mem_isort.mp hy) with hy | hy
        · exact h3 y hy
        · unfold linesL
          exact mem_rangeI.mpr (mem_ready.mp hy).1
      · rw [List.length_append]
        exact Nat.succ_le_succ h4
theorem rnd_stops {B : Bd} (g : Good B) : ∃ n, n ≤ 12 ∧ readyL B (rndAt B n).1 = [] ∧ (∀ i, i < n → readyL B (rndAt B i).1 ≠ []) ∧ rndAt B 12 = rndAt B n := by
  obtain ⟨n, h1, h2, h3⟩ := stops g (fun i => (rndAt B i).1) (fun i => (rnd_inv B i).1) (fun i => (rnd_inv B i).2.1) fun i h => by
    show (rndAt B i).1.length < (rndAt B (i + 1)).1.length
    rw [rnd_step h]
    show _ < (isort ((rndAt B i).1 ++ readyL B (rndAt B i).1)).length
    rw [(isort_perm _).length_eq, List.length_append]
    have := List.length_pos_iff.mpr h
    omega
  refine ⟨n, h1, h2, h3, ?_⟩
  have := rnd_stuck h2 (12 - n)
  rw [Nat.add_sub_cancel' h1] at this
  exact this
end K8
set_option maxHeartbeats 1000000
namespace K8
open PySem PySem.Spec PyProof.Rows L2
section
variable {ρ : Rho} {X : Cx} {ds : DEnv} {d : PyData} {pos : Pos} {α : Type} {as : List α} {bind : α → DEnv → DEnv} {tgs : List Nat} {wi : TI} {g : TG} {elt tg iter c : Expr} {scope : Scope} {own : List (Str × Nat)} {rs : List Stmt} {o : Out}
theorem bl_is {ds1 ds2 : DEnv} (h : ds1 = ds2) (k : Bl ρ X ds rs (.nx ds1)) : Bl ρ X ds rs (.nx ds2) := h ▸ k
theorem bl_isE {ds1 ds2 : DEnv} (h : ds1 = ds2) (k : Bl ρ X ds1 rs o) : Bl ρ X ds2 rs o := h ▸ k
/-- y = [e for .. in .. if c] -/
theorem bl_lc1 (i : Nat) {y : Str} {py spos : Pos} (hc : X.calm = true) (hN : X.N.Nodup) (hi : PI X tg iter wi) (ok : BlkOk X.N X.env.scope scope own) (hg : ∀ s H C cl fp, PG (blkX X scope s H C cl fp) tg g)
    (src : Src ρ X.K wi g ds as bind tgs) (htg : ∀ j ∈ tgs, j ∈ own.map (·.2)) (p : α → Bool) (f : α → PyData) (hz : as.length ≤ 1000)
    (ht : ∀ s H C cl fp, ∀ a ∈ as, Tv ρ (blkX X scope s H C cl fp) (bind a (wipeE ds (own.map (·.2)))) c (p a))
    (he : ∀ s H C cl fp, ∀ a ∈ as, p a = true → Dv ρ (blkX X scope s H C cl fp) (bind a (wipeE ds (own.map (·.2)))) elt (f a))
    (hr : Bl ρ X (ds.set i (some (.d (.list ((as.filter p).map f))))) rs o)
    (hy : X.N[i]? = some y := by rfl) (hyl : X.env.scope.names.lookup y = some .local := by rfl) (hk : X.env.scope.kind = .function := by rfl) (hl : (py.line == pos.line) = true := by rfl)
    (ha : (scope.names.any fun (n, k) => n == y && (k == .local || k == .cell)) = false := by decide +kernel) (hs : ∀ x, foldedSetIterable iter X.env x = pure x := by intro _; rfl) :
    Bl ρ X ds (.Assign [.Name y py] (.ListComp elt [⟨tg, iter, [c], 0⟩] scope pos) spos :: rs) o :=
  bl_asg (ps_setLc (te := tBe X scope elt) (tt := tBt X scope c) hc hN hy hyl (sw_true hk hyl hl ha) hi ok (fun s H C cl fp => hg s H C cl fp) (fun s H C cl fp => pts_one ⟨fun pins s' σ H' Q I h => h s H C cl fp pins s' I⟩) (fun s H C cl fp => ⟨fun pins s' σ H' Q I h => h s H C cl fp pins s' I⟩) hs)
    (ed_lc1 hc hN hi ok hg src htg p f hz ht he) hr
theorem bl_lc0 (i : Nat) {y : Str} {py spos : Pos} (hc : X.calm = true) (hN : X.N.Nodup) (hi : PI X tg iter wi) (ok : BlkOk X.N X.env.scope scope own) (hg : ∀ s H C cl fp, PG (blkX X scope s H C cl fp) tg g)
    (src : Src ρ X.K wi g ds as bind tgs) (htg : ∀ j ∈ tgs, j ∈ own.map (·.2)) (f : α → PyData) (hz : as.length ≤ 1000)
    (he : ∀ s H C cl fp, ∀ a ∈ as, Dv ρ (blkX X scope s H C cl fp) (bind a (wipeE ds (own.map (·.2)))) elt (f a))
    (hr : Bl ρ X (ds.set i (some (.d (.list (as.map f))))) rs o)
    (hy : X.N[i]? = some y := by rfl) (hyl : X.env.scope.names.lookup y = some .local := by rfl) (hk : X.env.scope.kind = .function := by rfl) (hl : (py.line == pos.line) = true := by rfl)
    (ha : (scope.names.any fun (n, k) => n == y && (k == .local || k == .cell)) = false := by decide +kernel) (hs : ∀ x, foldedSetIterable iter X.env x = pure x := by intro _; rfl) :
    Bl ρ X ds (.Assign [.Name y py] (.ListComp elt [⟨tg, iter, [], 0⟩] scope pos) spos :: rs) o :=
  bl_asg (ps_setLc (te := tBe X scope elt) (tt := tYes) hc hN hy hyl (sw_true hk hyl hl ha) hi ok (fun s H C cl fp => hg s H C cl fp) (fun s H C cl fp => pts_nil) (fun s H C cl fp => ⟨fun pins s' σ H' Q I h => h s H C cl fp pins s' I⟩) hs)
    (ed_lc0 hc hN hi ok hg src htg f hz he) hr
end
section
variable {K : PySem.W.Frag} {ρ : Rho} {He H0 H : Hp} {σ : L2.St} {ds : DEnv}
/-- a new empty list of one's own -/
theorem Sat.own (S : Sat K ρ He H0 H σ ds) {p : Addr} (i : Nat) (hp : H p = none) (hpe : He p = none) (hii : i < ds.length) (no : ∀ (j : Nat) ys, ds[j]? = some (some (.own ys)) → j = i) :
    Sat K ρ He H0 (upd H p (.lst [])) (σ.set i (some (.ref p))) (ds.set i (some (.own []))) := by
  have ap := Rho.new S.ok hp
  refine ⟨S.sub.trans (same_new hp), Rho.same S.ok (same_new hp), by rw [List.length_set, List.length_set]; exact S.len, fun j u h => ?_, fun j l xs ys b h1 h2 h3 h4 => ?_, S.rho⟩
  · by_cases hj : i = j
    · subst hj
      rw [List.getElem?_set_self hii] at h
      cases h
      exact ⟨.ref p, by rw [List.getElem?_set_self (by rw [S.len]; exact hii)], p, [], rfl, upd_same, S.sub.free hp, hpe, ap, .nil⟩
    · rw [List.getElem?_set_ne hj] at h ⊢
      obtain ⟨v, h1, h2⟩ := S.get j u h
      refine ⟨v, h1, h2.fr (f := ⟨Same.refl _, S.sub.trans (same_new hp), fun b u e h => same_new hp _ _ h, fun b h _ => h, fun kk => Rho.same kk (same_new hp)⟩)⟩
  · have n1 : j = i := by
      by_cases z : i = j
      · exact z.symm
      · rw [List.getElem?_set_ne z] at h1
        exact no j xs h1
    have n2 : l = i := by
      by_cases z : i = l
      · exact z.symm
      · rw [List.getElem?_set_ne z] at h2
        exact no l ys h2
    rw [n1, n2]
end
section
variable {ρ : Rho} {X : Cx} {ds : DEnv} {d1 : PyData} {a : Expr} {rs : List Stmt} {o : Out} {pos tp : Pos} {x y : Str}
/-- a, b = x, []: b a list of one's own -/
theorem bl_parO (i j : Nat) {kt k2 : Nat} {pt2 p2 : Pos} (hc : X.calm = true) (hN : X.N.Nodup) (ha : Dv ρ X ds a d1) (no : ∀ (k : Nat) ys, (ds.set i (some (.d d1)))[k]? = some (some (.own ys)) → k = j) (hr : Bl ρ X ((ds.set i (some (.d d1))).set j (some (.own []))) rs o) (hij : i ≠ j := by decide) (hi : X.N[i]? = some x := by rfl) (hj : X.N[j]? = some y := by rfl)
    (hx : X.env.scope.names.lookup x = some .local := by rfl) (hy : X.env.scope.names.lookup y = some .local := by rfl) {px py : Pos} (hii : j < ds.length := by first | decide | simp [startE])
    (hs1 : starEach (a :: Expr.List [] p2 :: []) X.env = (false, eval a X.env) :: starEach (Expr.List [] p2 :: []) X.env := by rfl) (hs2 : starEach (Expr.List [] p2 :: []) X.env = (false, eval (.List [] p2) X.env) :: starEach [] X.env := by rfl)
    (hw : swappedStores [.Tuple [.Name x px, .Name y py] kt tp] (.Tuple [a, .List [] p2] k2 pt2) X.env = pure (some [x, y]) := by rfl)
    (hs : swapsWithSole [.Tuple [.Name x px, .Name y py] kt tp] (.Tuple [a, .List [] p2] k2 pt2) pos.line X.env = pure false := by rfl) :
    Bl ρ X ds (.Assign [.Tuple [.Name x px, .Name y py] kt tp] (.Tuple [a, .List [] p2] k2 pt2) pos :: rs) o := fun He H0e σ H0 H F S k D q =>
  ws_of (pss_cons (ps_par hc hN hi hj hij hx hy (pa_cons pe_w (pa_cons (pe_lst pa_nil) pa_nil hs2) hs1) hw hs) pss_w) (ha He σ H0 H S _ fun v1 H1 H1' f e1 => ⟨Nat.zero_le _, fun p hp => by
    have F1 := F.trans f k
    have S1 := S.fr f
    have hpe : He p = none := by
      cases z : He p with
      | none => rfl
      | some u => exact absurd hp (F1.th k (by rw [z]; exact fun w => nomatch w))
    have F' : Frm ρ H0e He H1 (upd H1' p (.lst [])) := ⟨F1.ex0, F1.sub.trans (same_new hp), fun b u e h => same_new hp _ _ (F1.fr b u e h), F1.sep, fun kk => Rho.same (F1.ok kk) (same_new hp)⟩
    refine ⟨v1, .ref p, rfl, ?_⟩
    exact hr He H0e _ H1 _ F' ((S1.set e1).own j hp hpe (by rw [List.length_set]; exact hii) no) k D (q.more f.ex0)⟩)
end
end K8
set_option maxHeartbeats 1000000
namespace K8
open PySem PySem.Spec PyProof.Rows L2
local macro_rules | `(tactic| walk_at "envle") => `(tactic| (repeat (first | exact EnvLe.nil | apply EnvLe.keep | apply EnvLe.skip)))
section
variable {P : Program} {w : World} {K : PySem.W.Frag} {mg : Str → Option Value} {base : Heap} {f : Addr} {fd : FuncData}

def R_clo (ds : List PyData) (d : PyData) : Prop := ∃ B, Good B ∧ ds = [bd B, intsT (linesL B)] ∧ d = intsL (cloAt B 12).2
theorem ready_nil (B : Bd) : readyL B [] = (linesL B).filter fun l => fallL B [] l := by
  unfold readyL
  congr 1
theorem ready_len {B : Bd} (g : Good B) (lot : List Int) : (readyL B lot).length ≤ 12 := Nat.le_trans (List.length_filter_le _ _) (lines_12 g)
theorem atI_0 {x : Int} {r : List Int} : atI ((x :: r).map PyData.int) 0 = some (.int x) := atI_of (Int.le_refl 0) rfl
def cloEnv (B : Bd) (i : Nat) : DEnv := [some (.d (bd B)), some (.d (intsT (linesL B))), some (.d (intsT (cloAt B i).1)), some (.d (intsL (cloAt B i).2)), some (.d (intsL (readyL B (cloAt B i).1))), none]
theorem ok_clo (D : DefAt K mg "closure" s_closure f fd) (T : Txt mg) (GF : FnD P w K mg base 6 "can_fall" ["board", "lot", "line"] R_fall) (GW : FnD P w K mg base 1 "with_line" ["lot", "line"] R_with) : FnD P w K mg base 7 "closure" ["board", "within"] R_clo := by
  refine fn_ret D.F sc_closure D.hm (D.F.binds fun _ _ _ _ _ _ us hl => match us, hl with | [_, _], _ => rfl) ?_ ?_
  · rintro ds d ⟨B, _, rfl, rfl⟩
    rfl
  · rintro f cdv A outer s H E hr ds d ⟨B, g, rfl, rfl⟩
    have l12 := lines_12 g
    obtain ⟨n, hn, hstop, hgo, hend⟩ := clo_stops g
    refine bl_two 2 3 rfl sc_closure.nd (dv_tup (av2 (dv_tup (xs := ([] : List Int).map .int) av_nil (by simp)) (dv_lst (xs := ([] : List Int).map .int) av_nil (by simp))) (by simp)) ?_
    refine bl_lc1 4 (own := [("line", 5)]) (as := linesL B) rfl sc_closure.nd (pi_tup pe_w) (blkOk_by (N := N_closure) (sc := defScope s_closure) (by decide +kernel)) (fun _ _ _ _ _ => pg_name (i := 5) sc_closure.nd rfl (Or.inl rfl))
        (src_tup (f := .int) 5 (dv_name 1)) (by decide) (fun l => fallL B [] l) PyData.int (by omega)
        (fun s H C cl fp l hl => tv_val (dv_call GF hr (by decide) (av_cons (dv_name 0) (av2 (dv_name 2) (dv_name 5))) ⟨B, [], l, g, by simp, mem_lines.mp hl, rfl, rfl⟩)) (fun s H C cl fp l hl _ => dv_name 5) ?_
    have e0 : PyData.list (((linesL B).filter fun l => fallL B [] l).map PyData.int) = intsL (readyL B (cloAt B 0).1) := by
      show _ = intsL (readyL B [])
      rw [ready_nil]
    rw [e0]
    refine bl_while (cloEnv B) n PassesOwn.never (fun i hi => ?_) (fun i hi => ?_) ?_ ?_
    · have h := hgo i hi
      refine tv_is (tv_neD hr (dv_name 4) (dv_lst (xs := ([] : List Int).map .int) av_nil (by simp)) (fit_shaped (fit_intsL _) (by decide)) (fit_shaped (fit_intsL []) (by decide))) ?_
      rw [eqv_intsL, decide_eq_false h]
      rfl
    · cases e : readyL B (cloAt B i).1 with
      | nil => exact absurd e (hgo i hi)
      | cons x r =>
        have inv := clo_inv B i
        have ez : intsL (readyL B (cloAt B i).1) = intsL (x :: r) := by rw [e]
        have hx : x ∈ readyL B (cloAt B i).1 := by rw [e]; exact List.mem_cons_self
        have hs : cloAt B (i + 1) = (withL (cloAt B i).1 x, (cloAt B i).2 ++ [x]) := clo_step e
        have hl : (cloAt B i).1.length ≤ 100 := by omega
        have hl2 : (cloAt B i).2.length ≤ 100 := by rw [← inv.1.length_eq]; omega
        refine bl_two 2 3 rfl sc_closure.nd (d1 := intsT (cloAt B (i + 1)).1) (d2 := intsL (cloAt B (i + 1)).2) (dv_tup (av2 (dv_call GW hr (by decide) (av2 (dv_name 2) (dv_ixL (xs := (x :: r).map .int) (dv_is (dv_name 4) ez) dv_int atI_0)) ⟨(cloAt B i).1, x, hl, rfl, by rw [hs]⟩)
          (dv_is (dv_lst (av_starL (xs := (cloAt B i).2.map .int) (dv_name 3) (av1 (dv_ixL (xs := (x :: r).map .int) (dv_is (dv_name 4) ez) dv_int atI_0))) (by rw [List.length_append, List.length_map]; show _ + 1 ≤ 1000; omega)) (by rw [hs, intsL, List.map_append]; rfl))) (by simp)) ?_
        have hl' : (cloAt B (i + 1)).1.length ≤ 100 := by have := (clo_inv B (i + 1)).2.2.2; omega
        refine bl_lc1 4 (own := [("line", 5)]) (as := linesL B) rfl sc_closure.nd (pi_tup pe_w) (blkOk_by (N := N_closure) (sc := defScope s_closure) (by decide +kernel)) (fun _ _ _ _ _ => pg_name (i := 5) sc_closure.nd rfl (Or.inl rfl))
          (src_tup (f := .int) 5 (dv_name 1)) (by decide) (fun l => !decide (l ∈ (cloAt B (i + 1)).1) && fallL B (cloAt B (i + 1)).1 l) PyData.int (by omega)
          (fun s H C cl fp l hl => tv_pv (pv_and (tv_notinT (dv_name 5) (dv_name 2)) fun _ => pv_and1 (tv_val (dv_call GF hr (by decide) (av_cons (dv_name 0) (av2 (dv_name 2) (dv_name 5))) ⟨B, (cloAt B (i + 1)).1, l, g, hl', mem_lines.mp hl, rfl, rfl⟩)))) (fun s H C cl fp l hl _ => dv_name 5) ?_
        exact bl_out (by walk_at "envle") bl_nil
    · refine tv_is (tv_neD hr (dv_name 4) (dv_lst (xs := ([] : List Int).map .int) av_nil (by simp)) (fit_shaped (fit_intsL _) (by decide)) (fit_shaped (fit_intsL []) (by decide))) ?_
      rw [eqv_intsL, decide_eq_true hstop]
      rfl
    · refine bl_ret (dv_is (dv_name 3) ?_)
      rw [hend]
end
end K8
set_option maxHeartbeats 1000000
namespace K8
open PySem PySem.Spec PyProof.Rows L2
local macro_rules | `(tactic| walk_at "envle") => `(tactic| (repeat (first | exact EnvLe.nil | apply EnvLe.keep | apply EnvLe.skip)))
section
variable {P : Program} {w : World} {K : PySem.W.Frag} {mg : Str → Option Value} {base : Heap} {f : Addr} {fd : FuncData}
theorem clo2_len {B : Bd} : (cloAt B 12).2.length ≤ 12 := by
  have inv := clo_inv B 12
  rw [← inv.1.length_eq]
  exact inv.2.2.2
abbrev R_last : List PyData → PyData → Prop := R_board fun B => intsT (lastL B)
theorem ok_last (D : DefAt K mg "last_of" s_last_of f fd) (T : Txt mg) (GL : FnD P w K mg base 2 "lines_of" ["board"] R_lines) (GC : FnD P w K mg base 7 "closure" ["board", "within"] R_clo) : FnD P w K mg base 8 "last_of" ["board"] R_last := by
  refine fn_ret D.F sc_last_of D.hm (D.F.binds fun _ _ _ _ _ _ us hl => match us, hl with | [_], _ => rfl) ?_ ?_
  · rintro ds d ⟨B, _, rfl, rfl⟩
    rfl
  · rintro f cdv A outer s H E hr ds d ⟨B, g, rfl, rfl⟩
    exact bl_ret (dv_ct call_tuple_of bt_tuple rc_tupL T.tuple (av1 (dv_cb cr_sortedI bt_sorted (rc_sorted (ns := (cloAt B 12).2)) T.sorted (av1 (dv_call GC hr (by decide) (av2 (dv_name 0) (dv_call GL hr (by decide) (av1 (dv_name 0)) ⟨B, g, rfl, rfl⟩)) ⟨B, g, rfl, rfl⟩)))))
theorem ok_last_lot (D : DefAt K mg "last_lot" s_last_lot f fd) (T : Txt mg) (GN : FnD P w K mg base 4 "need_board" ["value"] (R_board fun _ => .none)) (GL : FnD P w K mg base 8 "last_of" ["board"] R_last) : FnD P w K mg base 9 "last_lot" ["board"] R_last := by
  refine fn_ret D.F sc_last_lot D.hm (D.F.binds fun _ _ _ _ _ _ us hl => match us, hl with | [_], _ => rfl) ?_ ?_
  · rintro ds d ⟨B, _, rfl, rfl⟩
    rfl
  · rintro f cdv A outer s H E hr ds d ⟨B, g, rfl, rfl⟩
    exact bl_expr (dv_call GN hr (by decide) (av1 (dv_name 0)) ⟨B, g, rfl, rfl⟩) (bl_ret (dv_call GL hr (by decide) (av1 (dv_name 0)) ⟨B, g, rfl, rfl⟩))
abbrev R_rndsL : List PyData → PyData → Prop := R_board fun B => .list ((roundsL B).map intsT)
def rndEnv (B : Bd) (i : Nat) : DEnv := [some (.d (bd B)), some (.d (intsT (rndAt B i).1)), some (.own ((rndAt B i).2.map intsT)), some (.d (intsT (readyL B (rndAt B i).1)))]
theorem rnd1_len {B : Bd} (g : Good B) (i : Nat) : (rndAt B i).1.length ≤ 12 := by
  obtain ⟨h1, h2, _⟩ := rnd_inv B i
  exact Nat.le_trans (nodup_le h1 h2) (lines_12 g)
theorem ok_rounds_of (D : DefAt K mg "rounds_of" s_rounds_of f fd) (T : Txt mg) (GR : FnD P w K mg base 7 "ready_of" ["board", "lot"] R_ready) : FnD P w K mg base 8 "rounds_of" ["board"] R_rndsL := by
  refine fn_ret D.F sc_rounds_of D.hm (D.F.binds fun _ _ _ _ _ _ us hl => match us, hl with | [_], _ => rfl) ?_ ?_
  · rintro ds d ⟨B, _, rfl, rfl⟩
    rfl
  · rintro f cdv A outer s H E hr ds d ⟨B, g, rfl, rfl⟩
    obtain ⟨n, hn, hstop, hgo, hend⟩ := rnd_stops g
    refine bl_parO 1 2 rfl sc_rounds_of.nd (dv_tup (xs := ([] : List Int).map .int) av_nil (by simp)) (fun k ys h => ?_) ?_
    · match k, h with
      | 0, h => cases h
      | 1, h => cases h
      | 2, _ => rfl
      | 3, h => cases h
      | k + 4, h => simp [startE] at h
    refine bl_set 3 sc_rounds_of.nd (dv_call GR hr (by decide) (av2 (dv_name 0) (dv_name 1)) ⟨B, [], g, by simp, rfl, rfl⟩) ?_
    refine bl_while (rndEnv B) n PassesOwn.never (fun i hi => ?_) (fun i hi => ?_) ?_ ?_
    · have h := hgo i hi
      refine tv_is (tv_neD hr (dv_name 3) (dv_tup (xs := ([] : List Int).map .int) av_nil (by simp)) (fit_shaped (fit_intsT _) (by decide)) (fit_shaped (fit_intsT []) (by decide))) ?_
      rw [eqv_intsT, decide_eq_false h]
      rfl
    · have hs := rnd_step (hgo i hi)
      have l1 := rnd1_len g i
      have l2 := (rnd_inv B i).2.2
      have l3 := ready_len g (rndAt B i).1
      have l4 := rnd1_len g (i + 1)
      refine bl_append 2 (dv_name 3) rfl (by rw [List.length_map]; omega) ?_ (hh := fun hx he => pe_bm PySem.F.plainAttrs_list PySem.F.slot_list_append PySem.F.type_list_append mt_append hx (pa_cons he pa_nil))
      refine bl_set 1 sc_rounds_of.nd (d := intsT (rndAt B (i + 1)).1) (dv_is (dv_ct call_tuple_of bt_tuple rc_tupL T.tuple (av1 (dv_cb cr_sortedI bt_sorted (rc_sorted (ns := (rndAt B i).1 ++ readyL B (rndAt B i).1)) T.sorted (av1 (dv_is (dv_lst (av_starT (xs := (rndAt B i).1.map .int) (dv_name 1) (av_starT (xs := (readyL B (rndAt B i).1).map .int) (dv_name 3) av_nil)) (by rw [List.length_append, List.length_append, List.length_map, List.length_map]; show _ + (_ + 0) ≤ 1000; omega)) (by rw [List.append_nil, List.map_append])))))) (by rw [hs])) ?_
      refine bl_set 3 sc_rounds_of.nd (dv_call GR hr (by decide) (av2 (dv_name 0) (dv_name 1)) ⟨B, (rndAt B (i + 1)).1, g, by omega, rfl, rfl⟩) ?_
      refine bl_is (ds1 := _) ?_ bl_nil
      unfold rndEnv
      rw [hs, List.map_append]
      rfl
    · refine tv_is (tv_neD hr (dv_name 3) (dv_tup (xs := ([] : List Int).map .int) av_nil (by simp)) (fit_shaped (fit_intsT _) (by decide)) (fit_shaped (fit_intsT []) (by decide))) ?_
      rw [eqv_intsT, decide_eq_true hstop]
      rfl
    · refine bl_known 2 rfl (bl_ret (dv_is (dv_name 2) ?_))
      show _ = PyData.list ((rndAt B 12).2.map intsT)
      rw [hend]
theorem ok_rounds (D : DefAt K mg "rounds" s_rounds f fd) (T : Txt mg) (GN : FnD P w K mg base 4 "need_board" ["value"] (R_board fun _ => .none)) (GL : FnD P w K mg base 8 "rounds_of" ["board"] R_rndsL) : FnD P w K mg base 9 "rounds" ["board"] (R_board fun B => .tuple ((roundsL B).map intsT)) := by
  refine fn_ret D.F sc_rounds D.hm (D.F.binds fun _ _ _ _ _ _ us hl => match us, hl with | [_], _ => rfl) ?_ ?_
  · rintro ds d ⟨B, _, rfl, rfl⟩
    rfl
  · rintro f cdv A outer s H E hr ds d ⟨B, g, rfl, rfl⟩
    exact bl_expr (dv_call GN hr (by decide) (av1 (dv_name 0)) ⟨B, g, rfl, rfl⟩) (bl_ret (dv_ct call_tuple_of bt_tuple rc_tupL T.tuple (av1 (dv_call GL hr (by decide) (av1 (dv_name 0)) ⟨B, g, rfl, rfl⟩))))
end
end K8
set_option maxHeartbeats 1000000
namespace K8
open PySem PySem.Spec PyProof.Rows L2
section
variable {ρ : Rho} {X : Cx} {ds : DEnv} {pos : Pos}
/-- max(d.values()) -/
theorem dv_maxVals {l : List (Int × Int)} {nm : Str} {pm pn pa pc : Pos} (i : Nat) (hc : X.calm = true) (hd : ds[i]? = some (some (.dk l))) (hne : l ≠ []) (hm : X.mg "max" = none) (hN : X.N[i]? = some nm := by rfl) (hvis : Vis X.env.scope nm := by first | exact Or.inl rfl | exact Or.inr (Or.inl rfl) | exact Or.inr (Or.inr rfl)) (h1 : (nm == ("__debug__" : Str)) = false := by decide)
    (h2 : (nm == ("__classdict__" : Str)) = false := by decide) (hg : Gl X "max" := by rfl) (hbase : attributeBase (.Name nm pn) "values" X.env (eval (.Name nm pn) X.env) = eval (.Name nm pn) X.env := by rfl) (hline : (pa.endLine == pc.line) = true := by rfl)
    (he : starEach (Expr.Call (.Attribute (.Name nm pn) "values" pa) [] [] pc :: []) X.env = (false, eval (.Call (.Attribute (.Name nm pn) "values" pa) [] [] pc) X.env) :: starEach [] X.env := by rfl) (hpl : (backTo pos (starEach [] X.env)).any (·.1) = false := by rfl) :
    Dv ρ X ds (.Call (.Name "max" pm) [.Call (.Attribute (.Name nm pn) "values" pa) [] [] pc] [] pos) (.int (maxI (l.map (·.2)))) :=
  dv_of (pe_callB (cr_maxVw hc) hg hm bt_max (pa_cons (pe_bm0 PySem.F.plainAttrs_dict PySem.F.slot_dict_values PySem.F.type_dict_values mt_dvals (pe_var hN hvis h1 h2) hbase hline) pa_nil he) (by decide) (by decide) he hpl) (ed_maxVals hne (ev_dk i hd))
/-- sorted(d) -/
theorem dv_sortD {l : List (Int × Int)} {nm : Str} {pm pn : Pos} (i : Nat) (hc : X.calm = true) (hd : ds[i]? = some (some (.dk l))) (h64 : l.length < 64) (hm : X.mg "sorted" = none) (hN : X.N[i]? = some nm := by rfl) (hvis : Vis X.env.scope nm := by first | exact Or.inl rfl | exact Or.inr (Or.inl rfl) | exact Or.inr (Or.inr rfl)) (h1 : (nm == ("__debug__" : Str)) = false := by decide)
    (h2 : (nm == ("__classdict__" : Str)) = false := by decide) (hg : Gl X "sorted" := by rfl)
    (he : starEach (Expr.Name nm pn :: []) X.env = (false, eval (.Name nm pn) X.env) :: starEach [] X.env := by rfl) (hpl : (backTo pos (starEach [] X.env)).any (·.1) = false := by rfl) :
    Dv ρ X ds (.Call (.Name "sorted" pm) [.Name nm pn] [] pos) (.list ((isort (l.map (·.1))).map .int)) :=
  dv_of (pe_callB (call_sortedDI hc) hg hm bt_sorted (pa_cons (pe_var hN hvis h1 h2) pa_nil he) (by decide) (by decide) he hpl) (ed_sortD h64 (ev_dk i hd))
end
theorem find_map {v : Int → Int} : ∀ {cs : List Int} {c : Int}, c ∈ cs → ((cs.map fun c => (c, v c)).find? fun p => decide (p.1 = c)) = some (c, v c)
  | [], _, h => absurd h List.not_mem_nil
  | x :: r, c, h => by
    rw [List.map_cons, List.find?_cons]
    by_cases e : x = c
    · subst e
      rw [decide_eq_true rfl]
    · rw [decide_eq_false e]
      exact find_map ((List.mem_cons.mp h).resolve_left fun z => e z.symm)
theorem isort_same {l : List Int} (h : l.Pairwise (· ≤ ·)) : isort l = l := up_uniq (isort_perm l) (isort_up l) h
theorem rangeI_up (n : Int) : (rangeI n).Pairwise (· ≤ ·) := by
  unfold rangeI
  exact List.Pairwise.map _ (fun a b (h : a < b) => by omega) List.pairwise_lt_range
theorem rangeF_up (a n : Int) : (rangeF a n).Pairwise (· ≤ ·) := by
  unfold rangeF
  exact List.Pairwise.map _ (fun a b (h : a < b) => by omega) List.pairwise_lt_range
theorem rangeI_nd (n : Int) : (rangeI n).Nodup := by
  unfold rangeI
  exact List.Pairwise.map _ (fun a b h z => h (by omega)) (List.nodup_range)
theorem rangeF_nd (a n : Int) : (rangeF a n).Nodup := by
  unfold rangeF
  exact List.Pairwise.map _ (fun a b h z => h (by omega)) (List.nodup_range)
end K8
set_option maxHeartbeats 1000000
namespace K8
open PySem PySem.Spec PyProof.Rows L2
local macro_rules | `(tactic| walk_at "envle") => `(tactic| (repeat (first | exact EnvLe.nil | apply EnvLe.keep | apply EnvLe.skip)))
section
variable {P : Program} {w : World} {K : PySem.W.Frag} {mg : Str → Option Value} {base : Heap} {f : Addr} {fd : FuncData}
/-- the numbers that answers_of looks at -/
def someL (B : Bd) (lot : List Int) (l : Int) : List (Int × Int) :=
  if l < hi B then (colsL B lot).map fun c => (c, sn B l (c - hi B)) else (rowsL B lot).map fun r => (r, fs B r (l - hi B))
theorem ansL_some (B : Bd) (lot : List Int) (l : Int) : ansL B lot l = (isort ((someL B lot l).map (·.1))).filter fun c => decide ((((someL B lot l).find? fun p => decide (p.1 = c)).getD (0, 0)).2 = maxI ((someL B lot l).map (·.2))) := by
  unfold ansL someL
  split
  · rw [List.map_map, List.map_map]
    have e : ((·.1) ∘ fun c => (c, sn B l (c - hi B))) = id := rfl
    rw [e, List.map_id, isort_same (show (colsL B lot).Pairwise (· ≤ ·) from List.Pairwise.filter _ (rangeF_up _ _))]
    refine List.filter_congr fun c hc => ?_
    rw [find_map (v := fun c => sn B l (c - hi B)) hc]
    rfl
  · rw [List.map_map, List.map_map]
    have e : ((·.1) ∘ fun c => (c, fs B c (l - hi B))) = id := rfl
    rw [e, List.map_id, isort_same (show (rowsL B lot).Pairwise (· ≤ ·) from List.Pairwise.filter _ (rangeI_up _))]
    refine List.filter_congr fun c hc => ?_
    rw [find_map (v := fun c => fs B c (l - hi B)) hc]
    rfl
theorem someL_nd (B : Bd) (lot : List Int) (l : Int) : ((someL B lot l).map (·.1)).Nodup := by
  unfold someL
  split
  · rw [List.map_map]
    have e : ((·.1) ∘ fun c => (c, sn B l (c - hi B))) = id := rfl
    rw [e, List.map_id]
    exact (rangeF_nd _ _).filter _
  · rw [List.map_map]
    have e : ((·.1) ∘ fun c => (c, fs B c (l - hi B))) = id := rfl
    rw [e, List.map_id]
    exact (rangeI_nd _).filter _
theorem someL_find {B : Bd} {lot : List Int} {l c : Int} (h : c ∈ (someL B lot l).map (·.1)) : ∃ v, ((someL B lot l).find? fun p => decide (p.1 = c)) = some (c, v) := by
  unfold someL at *
  split
  · rename_i hl
    rw [if_pos hl, List.map_map] at h
    exact ⟨_, find_map (v := fun c => sn B l (c - hi B)) (by simpa using h)⟩
  · rename_i hl
    rw [if_neg hl, List.map_map] at h
    exact ⟨_, find_map (v := fun c => fs B c (l - hi B)) (by simpa using h)⟩
def R_answers (ds : List PyData) (d : PyData) : Prop := ∃ B lot l, Good B ∧ lot.length ≤ 100 ∧ (0 ≤ l ∧ l < hi B + wi B) ∧ rowsL B lot ≠ [] ∧ colsL B lot ≠ [] ∧ ds = [bd B, intsT lot, .int l] ∧ d = intsL (ansL B lot l)
theorem ok_answers (D : DefAt K mg "answers_of" s_answers_of f fd) (T : Txt mg) (GL : FnD P w K mg base 3 "left_of" ["board", "lot"] R_left) : FnD P w K mg base 4 "answers_of" ["board", "lot", "line"] R_answers := by
  refine fn_ret D.F sc_answers_of D.hm (D.F.binds fun _ _ _ _ _ _ us hl => match us, hl with | [_, _, _], _ => rfl) ?_ ?_
  · rintro ds d ⟨B, lot, l, _, _, _, _, _, rfl, rfl⟩
    rfl
  · rintro f cdv A outer s H E hr ds d ⟨B, lot, l, g, hz, ⟨hl0, hl1⟩, hrn, hcn, rfl, rfl⟩
    have c6 := cols_len B lot g
    have r6 := rows_len B lot g
    have nd := someL_nd B lot l
    have hne : someL B lot l ≠ [] := by
      unfold someL
      split
      · simpa using hcn
      · simpa using hrn
    have h64 : (someL B lot l).length < 64 := by
      unfold someL
      split
      · rw [List.length_map]; omega
      · rw [List.length_map]; omega
    refine bl_two 3 4 rfl sc_answers_of.nd (dv_call GL hr (by decide) (av2 (dv_name 0) (dv_name 1)) ⟨B, lot, g, hz, rfl, rfl⟩) ?_
    refine bl_if (ds1 := [some (.d (bd B)), some (.d (intsT lot)), some (.d (.int l)), some (.d (intsT (rowsL B lot))), some (.d (intsT (colsL B lot))), some (.dk (someL B lot l)), none, none, none, none]) (tv_lt (dv_name 2) (dv_hi T.len (dv_name 0))) (fun hp => ?_) (fun hp => ?_) ?_
    · have hl := of_decide_eq_true hp
      have e : someL B lot l = (colsL B lot).map fun c => (c, sn B l (c - hi B)) := by unfold someL; rw [if_pos hl]
      rw [e] at nd ⊢
      refine bl_dict 5 (l := (colsL B lot).map fun c => (c, sn B l (c - hi B))) rfl sc_answers_of.nd T.dict (dv_is (dv_lc0 (own := [("column", 7)]) (as := colsL B lot) rfl sc_answers_of.nd (pi_tup pe_w) (blkOk_by (N := N_answers_of) (sc := defScope s_answers_of) (by decide +kernel)) (fun _ _ _ _ _ => pg_name (i := 7) sc_answers_of.nd rfl (Or.inl rfl))
        (src_tup (f := .int) 7 (dv_name 4)) (by decide) (fun c => .tuple [.int c, .int (sn B l (c - hi B))]) (by omega) fun s H C cl fp c hc => ?_) ?_) nd ?_
      · have h := mem_cols.mp hc
        exact dv_tup (av2 (dv_name 7) (dv_sn g (dv_name 0) (dv_name 2) (dv_sub (dv_name 7) (dv_hi T.len (dv_name 0))) hl0 hl (by omega) (by omega))) (by simp)
      · rw [List.map_map]
        rfl
      · exact bl_out (by walk_at "envle") bl_nil
    · have hl := of_decide_eq_false hp
      have e : someL B lot l = (rowsL B lot).map fun c => (c, fs B c (l - hi B)) := by unfold someL; rw [if_neg hl]
      rw [e] at nd ⊢
      refine bl_dict 5 (l := (rowsL B lot).map fun c => (c, fs B c (l - hi B))) rfl sc_answers_of.nd T.dict (dv_is (dv_lc0 (own := [("row", 8)]) (as := rowsL B lot) rfl sc_answers_of.nd (pi_tup pe_w) (blkOk_by (N := N_answers_of) (sc := defScope s_answers_of) (by decide +kernel)) (fun _ _ _ _ _ => pg_name (i := 8) sc_answers_of.nd rfl (Or.inl rfl))
        (src_tup (f := .int) 8 (dv_name 3)) (by decide) (fun c => .tuple [.int c, .int (fs B c (l - hi B))]) (by omega) fun s H C cl fp c hc => ?_) ?_) nd ?_
      · have h := mem_rows.mp hc
        exact dv_tup (av2 (dv_name 8) (dv_fs g (dv_name 0) (dv_name 8) (dv_sub (dv_name 2) (dv_hi T.len (dv_name 0))) h.1.1 h.1.2 (by omega) (by omega))) (by simp)
      · rw [List.map_map]
        rfl
      · exact bl_out (by walk_at "envle") bl_nil
    · refine bl_set 6 sc_answers_of.nd (dv_maxVals 5 rfl rfl hne T.max) ?_
      refine bl_ret (dv_is (dv_lc1 (own := [("one", 9)]) (as := isort ((someL B lot l).map (·.1))) rfl sc_answers_of.nd (pi_list pe_w) (blkOk_by (N := N_answers_of) (sc := defScope s_answers_of) (by decide +kernel)) (fun _ _ _ _ _ => pg_name (i := 9) sc_answers_of.nd rfl (Or.inl rfl))
        (src_list (f := .int) 9 (dv_sortD 5 rfl rfl h64 T.sorted)) (by decide) (fun c => decide ((((someL B lot l).find? fun p => decide (p.1 = c)).getD (0, 0)).2 = maxI ((someL B lot l).map (·.2)))) PyData.int (by rw [(isort_perm _).length_eq, List.length_map]; omega)
        (fun s H C cl fp c hc => ?_) fun s H C cl fp c hc _ => dv_name 9) ?_)
      · obtain ⟨v, hv⟩ := someL_find ((isort_perm _).mem_iff.mp hc)
        rw [hv]
        exact tv_eqI (dv_dget 5 hr rfl (dv_name 9) (by exact hv)) (dv_name 6)
      · rw [ansL_some]
end
end K8
set_option maxHeartbeats 1000000
namespace K8
open PySem PySem.Spec PyProof.Rows L2
local macro_rules | `(tactic| walk_at "envle") => `(tactic| (repeat (first | exact EnvLe.nil | apply EnvLe.keep | apply EnvLe.skip)))
theorem flat_len {α β : Type} {f : α → List β} {k : Nat} : ∀ {l : List α}, (∀ x ∈ l, (f x).length ≤ k) → (l.flatMap f).length ≤ l.length * k
  | [], _ => Nat.zero_le _
  | x :: r, h => by
    rw [List.flatMap_cons, List.length_append, List.length_cons, Nat.succ_mul]
    have h1 := h x List.mem_cons_self
    have h2 := flat_len (l := r) fun y hy => h y (List.mem_cons_of_mem _ hy)
    omega
section
variable {P : Program} {w : World} {K : PySem.W.Frag} {mg : Str → Option Value} {base : Heap} {f : Addr} {fd : FuncData}
def rowBests (B : Bd) (lot : List Int) (r : Int) (j : Nat) : List (Int × Int) := (((colsL B lot).take j).filter fun c => bestL B lot (r, c)).map fun c => (r, c)
def upBests (B : Bd) (lot : List Int) (i : Nat) : List (Int × Int) := ((rowsL B lot).take i).flatMap fun r => ((colsL B lot).filter fun c => bestL B lot (r, c)).map fun c => (r, c)
theorem rowBests_all (B : Bd) (lot : List Int) (r : Int) : rowBests B lot r (colsL B lot).length = ((colsL B lot).filter fun c => bestL B lot (r, c)).map fun c => (r, c) := by
  unfold rowBests
  rw [List.take_length]
theorem rowBests_len {B : Bd} {lot : List Int} (g : Good B) (r : Int) (j : Nat) : (rowBests B lot r j).length ≤ 6 := by
  unfold rowBests
  rw [List.length_map]
  refine Nat.le_trans (List.length_filter_le _ _) ?_
  rw [List.length_take]
  exact Nat.le_trans (Nat.min_le_right _ _) (cols_len B lot g)
theorem rowBests_yes {B : Bd} {lot : List Int} {r c : Int} {j : Nat} (h : (colsL B lot)[j]? = some c) (hb : bestL B lot (r, c) = true) : rowBests B lot r (j + 1) = rowBests B lot r j ++ [(r, c)] := by
  unfold rowBests
  rw [List.take_add_one, h, List.filter_append, List.map_append]
  show _ ++ List.map _ (List.filter _ [c]) = _
  rw [List.filter_cons, if_pos hb]
  rfl
theorem rowBests_no {B : Bd} {lot : List Int} {r c : Int} {j : Nat} (h : (colsL B lot)[j]? = some c) (hb : bestL B lot (r, c) = false) : rowBests B lot r (j + 1) = rowBests B lot r j := by
  unfold rowBests
  rw [List.take_add_one, h, List.filter_append, List.map_append]
  show _ ++ List.map _ (List.filter _ [c]) = _
  rw [List.filter_cons, if_neg (by rw [hb]; decide)]
  exact List.append_nil _
theorem upBests_step {B : Bd} {lot : List Int} {r : Int} {i : Nat} (h : (rowsL B lot)[i]? = some r) : upBests B lot (i + 1) = upBests B lot i ++ rowBests B lot r (colsL B lot).length := by
  unfold upBests
  rw [List.take_add_one, h, List.flatMap_append, rowBests_all]
  show _ ++ List.flatMap _ [r] = _
  rw [List.flatMap_cons, List.flatMap_nil, List.append_nil]
theorem upBests_len {B : Bd} {lot : List Int} (g : Good B) (i : Nat) : (upBests B lot i).length ≤ 36 := by
  have h := flat_len (l := (rowsL B lot).take i) (f := fun r => ((colsL B lot).filter fun c => bestL B lot (r, c)).map fun c => (r, c)) (k := 6) fun r _ => by
    have := rowBests_len (lot := lot) g r (colsL B lot).length
    rw [rowBests_all] at this
    exact this
  have h2 := rows_len B lot g
  have h3 : ((rowsL B lot).take i).length ≤ 6 := by
    rw [List.length_take]
    omega
  exact Nat.le_trans h (Nat.mul_le_mul_right 6 h3)
def R_bests (v : Bd → List Int → PyData) (ds : List PyData) (d : PyData) : Prop := ∃ B lot, Good B ∧ lot.length ≤ 100 ∧ rowsL B lot ≠ [] ∧ colsL B lot ≠ [] ∧ ds = [bd B, intsT lot] ∧ d = v B lot
theorem ok_bests (D : DefAt K mg "bests_of" s_bests_of f fd) (T : Txt mg) (GL : FnD P w K mg base 3 "left_of" ["board", "lot"] R_left) (GA : FnD P w K mg base 4 "answers_of" ["board", "lot", "line"] R_answers) : FnD P w K mg base 5 "bests_of" ["board", "lot"] (R_bests fun B lot => .list ((bestsL B lot).map pairD)) := by
  refine fn_ret D.F sc_bests_of D.hm (D.F.binds fun _ _ _ _ _ _ us hl => match us, hl with | [_, _], _ => rfl) ?_ ?_
  · rintro ds d ⟨B, lot, _, _, _, _, rfl, rfl⟩
    rfl
  · rintro f cdv A outer s H E hr ds d ⟨B, lot, g, hz, hrn, hcn, rfl, rfl⟩
    refine bl_two 2 3 rfl sc_bests_of.nd (dv_call GL hr (by decide) (av2 (dv_name 0) (dv_name 1)) ⟨B, lot, g, hz, rfl, rfl⟩) ?_
    have no : ∀ (j : Nat) ys, ([some (.d (bd B)), some (.d (intsT lot)), some (.d (intsT (rowsL B lot))), some (.d (intsT (colsL B lot))), none, none, none] : DEnv)[j]? = some (some (.own ys)) → j = 4 := fun k ys h => by
      match k, h with
      | 0, h => cases h
      | 1, h => cases h
      | 2, h => cases h
      | 3, h => cases h
      | 4, _ => rfl
      | 5, h => cases h
      | 6, h => cases h
      | k + 7, h => simp at h
    refine bl_own 4 sc_bests_of.nd (fun _ => ?_) no (hii := by simp [startE])
    refine bl_each (fun i => [some (.d (bd B)), some (.d (intsT lot)), some (.d (intsT (rowsL B lot))), some (.d (intsT (colsL B lot))), some (.own ((upBests B lot i).map pairD)), none, none]) PassesOwn.never rfl (pi_tup pe_w) (pg_name (i := 5) sc_bests_of.nd rfl (Or.inl rfl)) (src_tup (as := rowsL B lot) (f := .int) 5 (dv_name 2)) (fun i r hi => ?_) ?_
    · have hr' := mem_rows.mp (List.mem_of_getElem? hi)
      have u36 := upBests_len (lot := lot) g i
      refine bl_isE (ds1 := [some (.d (bd B)), some (.d (intsT lot)), some (.d (intsT (rowsL B lot))), some (.d (intsT (colsL B lot))), some (.own ((upBests B lot i ++ rowBests B lot r 0).map pairD)), some (.d (.int r)), none]) ?_ ?_
      · show _ = ([some (.d (bd B)), some (.d (intsT lot)), some (.d (intsT (rowsL B lot))), some (.d (intsT (colsL B lot))), some (.own ((upBests B lot i).map pairD)), some (.d (.int r)), none] : DEnv)
        have e : upBests B lot i ++ rowBests B lot r 0 = upBests B lot i := List.append_nil _
        rw [e]
      refine bl_each (fun j => [some (.d (bd B)), some (.d (intsT lot)), some (.d (intsT (rowsL B lot))), some (.d (intsT (colsL B lot))), some (.own ((upBests B lot i ++ rowBests B lot r j).map pairD)), some (.d (.int r)), none]) PassesOwn.never rfl (pi_tup pe_w) (pg_name (i := 6) sc_bests_of.nd rfl (Or.inl rfl)) (src_tup (as := colsL B lot) (f := .int) 6 (dv_name 3)) (fun j c hj => ?_) ?_
      · have hc' := mem_cols.mp (List.mem_of_getElem? hj)
        have h1 := g.n1
        have h2 := g.m1
        have r6 := rowBests_len (lot := lot) g r j
        refine bl_if (p := bestL B lot (r, c)) (ds1 := [some (.d (bd B)), some (.d (intsT lot)), some (.d (intsT (rowsL B lot))), some (.d (intsT (colsL B lot))), some (.own ((upBests B lot i ++ rowBests B lot r (j + 1)).map pairD)), some (.d (.int r)), none]) (tv_pv (pv_and (tv_inL (dv_name 5) (dv_call GA hr (by decide) (av_cons (dv_name 0) (av2 (dv_name 1) (dv_name 6))) ⟨B, lot, c, g, hz, by omega, hrn, hcn, rfl, rfl⟩)) fun _ => pv_and1 (tv_inL (dv_name 6) (dv_call GA hr (by decide) (av_cons (dv_name 0) (av2 (dv_name 1) (dv_name 5))) ⟨B, lot, r, g, hz, by omega, hrn, hcn, rfl, rfl⟩)))) (fun hp => ?_) (fun hp => ?_) bl_nil
        · refine bl_append 4 (d := pairD (r, c)) (dv_tup (av2 (dv_name 5) (dv_name 6)) (by simp)) rfl (by rw [List.length_map, List.length_append]; omega) ?_ (hh := fun hx he => pe_bm PySem.F.plainAttrs_list PySem.F.slot_list_append PySem.F.type_list_append mt_append hx (pa_cons he pa_nil))
          have e : (upBests B lot i ++ rowBests B lot r (j + 1)).map pairD = (upBests B lot i ++ rowBests B lot r j).map pairD ++ [pairD (r, c)] := by
            rw [rowBests_yes hj hp, ← List.append_assoc, List.map_append (l₂ := [(r, c)])]
            rfl
          rw [e]
          exact bl_out (by walk_at "envle") bl_nil
        · rw [rowBests_no hj hp]
          exact bl_out (by walk_at "envle") bl_nil
      · rw [upBests_step hi]
        exact bl_out (by walk_at "envle") bl_nil
    · refine bl_known 4 rfl (bl_ret (dv_is (dv_name 4) ?_))
      show PyData.list ((upBests B lot (rowsL B lot).length).map pairD) = .list ((bestsL B lot).map pairD)
      have e : upBests B lot (rowsL B lot).length = bestsL B lot := by
        unfold upBests bestsL
        rw [List.take_length]
      rw [e]
end
end K8
set_option maxHeartbeats 1000000
namespace K8
open PySem PySem.Spec PyProof.Rows L2
local macro_rules | `(tactic| walk_at "envle") => `(tactic| (repeat (first | exact EnvLe.nil | apply EnvLe.keep | apply EnvLe.skip)))
theorem pair_at {r : List (Int × Int)} {k : Int} (h0 : 0 ≤ k) (h1 : k < (r.length : Int)) : atI (r.map pairD) k = some (pairD (r.getD k.toNat (0, 0))) := by
  have hl : k.toNat < r.length := by omega
  refine atI_of h0 ?_
  rw [List.getElem?_map, List.getD_eq_getElem?_getD, List.getElem?_eq_getElem hl]
  rfl
section
variable {P : Program} {w : World} {K : PySem.W.Frag} {mg : Str → Option Value} {base : Heap} {f : Addr} {fd : FuncData}
def upRow (p : List (Int × Int) × List (Int × Int)) : List Int := (p.1.zip p.2).map fun q => q.2.1 - q.1.1
def upCol (B : Bd) (c : Int) : List Int := B.map fun r => (r.getD (c + 1).toNat (0, 0)).2 - (r.getD c.toNat (0, 0)).2
theorem rises_no1 {B : Bd} (h : ∃ p ∈ B.zip (B.drop 1), (!upB (upRow p)) = true) : risesL B = false := by
  unfold risesL
  have e : ((B.zip (B.drop 1)).any fun p => !upB ((p.1.zip p.2).map fun q => q.2.1 - q.1.1)) = true := List.any_eq_true.mpr h
  rw [e]
  rfl
theorem rises_no2 {B : Bd} (h : ∃ c ∈ rangeI (wi B - 1), (!upB (upCol B c)) = true) : risesL B = false := by
  unfold risesL
  have e : ((rangeI (wi B - 1)).any fun c => !upB (B.map fun r => (r.getD (c + 1).toNat (0, 0)).2 - (r.getD c.toNat (0, 0)).2)) = true := List.any_eq_true.mpr h
  rw [e, Bool.not_true, Bool.and_false]
theorem any_no {α : Type} {l : List α} {p : α → Bool} (h : ∀ x ∈ l, p x = false) : l.any p = false := by
  rw [List.any_eq_false]
  intro x hx
  rw [h x hx]
  decide
theorem rises_yes {B : Bd} (h1 : ∀ p ∈ B.zip (B.drop 1), (!upB (upRow p)) = false) (h2 : ∀ c ∈ rangeI (wi B - 1), (!upB (upCol B c)) = false) : risesL B = true := by
  unfold risesL
  have e1 : ((B.zip (B.drop 1)).any fun p => !upB ((p.1.zip p.2).map fun q => q.2.1 - q.1.1)) = false := any_no h1
  have e2 : ((rangeI (wi B - 1)).any fun c => !upB (B.map fun r => (r.getD (c + 1).toNat (0, 0)).2 - (r.getD c.toNat (0, 0)).2)) = false := any_no h2
  rw [e1, e2]
  rfl
theorem ok_rises (D : DefAt K mg "rises" s_rises f fd) (T : Txt mg) : FnD P w K mg base 1 "rises" ["board"] (R_board fun B => .bool (risesL B)) := by
  refine fn_ret D.F sc_rises D.hm (D.F.binds fun _ _ _ _ _ _ us hl => match us, hl with | [_], _ => rfl) ?_ ?_
  · rintro ds d ⟨B, _, rfl, rfl⟩
    rfl
  · rintro f cdv A outer s H E hr ds d ⟨B, g, rfl, rfl⟩
    have n1 := g.n1
    have n6 := g.n6
    have w1 := g.m1
    have w6 := g.m6
    have hBl : (B.length : Int) = hi B := rfl
    refine bl_isE (ds1 := [some (.d (bd B)), none, none, none, none, none, none, none]) rfl ?_
    refine bl_for (d := .bool false) (fun _ => [some (.d (bd B)), none, none, none, none, none, none, none]) (fun p => !upB (upRow p)) PassesOwn.never rfl (RZ.pi_zipA (by rfl) T.zip pa_w) (pg_pair (i := 1) (j := 2) rfl sc_rises.nd)
      (src_zipT (as := B) (bs := B.drop 1) (f1 := rowD) (f2 := rowD) 1 2 (av2 (dv_name 0) (dv_is (dv_fromT (k := 1) (dv_name 0) dv_int (by decide) (by rw [List.length_map]; omega)) (by rw [List.map_drop])))) (fun i p hp _ => ?_) (fun hno1 => ?_) (fun hex => ?_)
    · obtain ⟨a, b⟩ := p
      have hp' := zip_at hp
      have ha := g.rect a (List.mem_of_getElem? hp'.1)
      have hb := g.rect b (List.mem_of_mem_drop (List.mem_of_getElem? hp'.2))
      have hst : (upRow (a, b)).length ≤ 6 := by
        show ((a.zip b).map fun q => q.2.1 - q.1.1).length ≤ 6
        rw [List.length_map, List.length_zip]; omega
      refine bl_lc0 3 (own := [("a", 5), ("b", 6)]) (as := a.zip b) rfl sc_rises.nd (RZ.pi_zipA (by rfl) T.zip pa_w) (blkOk_by (N := N_rises) (sc := defScope s_rises) (by decide +kernel)) (fun _ _ _ _ _ => pg_pair (i := 5) (j := 6) rfl sc_rises.nd)
        (src_zipT (f1 := pairD) (f2 := pairD) 5 6 (av2 (dv_name 1) (dv_name 2))) (by decide) (fun q => .int (q.2.1 - q.1.1)) (by rw [List.length_zip]; omega)
        (fun s H C cl fp q hq => dv_sub (dv_ixT (dv_name 6) dv_int rfl) (dv_ixT (dv_name 5) dv_int rfl)) ?_
      have es : PyData.list ((a.zip b).map fun q => PyData.int (q.2.1 - q.1.1)) = intsL (upRow (a, b)) := by
        unfold upRow
        rw [intsL, List.map_map]
        rfl
      rw [es]
      by_cases hu : upB (upRow (a, b)) = true
      · rw [if_neg (by simp [hu])]
        refine bl_ifno (tv_is (tv_val (dv_cb (cr_any rfl) bt_any (rc_any (bs := ((upRow (a, b)).zip ((upRow (a, b)).drop 1)).map fun p => decide (p.2 < p.1))) T.any (av1 (dv_is (dv_lc0 (own := [("a", 5), ("b", 6)]) (as := (upRow (a, b)).zip ((upRow (a, b)).drop 1)) rfl sc_rises.nd (RZ.pi_zipA (by rfl) T.zip pa_w) (blkOk_by (N := N_rises) (sc := defScope s_rises) (by decide +kernel)) (fun _ _ _ _ _ => pg_pair (i := 5) (j := 6) rfl sc_rises.nd)
          (src_zipL (f1 := .int) (f2 := .int) 5 6 (av2 (dv_name 3) (dv_is (dv_fromL (k := 1) (dv_name 3) dv_int) (by rw [List.map_drop])))) (by decide) (fun p => .bool (decide (p.2 < p.1))) (by rw [List.length_zip]; omega)
          fun s H C cl fp p hp => dv_lt (dv_name 6) (dv_name 5)) (by rw [List.map_map]; rfl))))) ?_) (bl_out (by walk_at "envle") bl_nil)
        unfold upB at hu
        simpa using hu
      · rw [if_pos (by simpa using hu)]
        refine bl_ifret (tv_is (tv_val (dv_cb (cr_any rfl) bt_any (rc_any (bs := ((upRow (a, b)).zip ((upRow (a, b)).drop 1)).map fun p => decide (p.2 < p.1))) T.any (av1 (dv_is (dv_lc0 (own := [("a", 5), ("b", 6)]) (as := (upRow (a, b)).zip ((upRow (a, b)).drop 1)) rfl sc_rises.nd (RZ.pi_zipA (by rfl) T.zip pa_w) (blkOk_by (N := N_rises) (sc := defScope s_rises) (by decide +kernel)) (fun _ _ _ _ _ => pg_pair (i := 5) (j := 6) rfl sc_rises.nd)
          (src_zipL (f1 := .int) (f2 := .int) 5 6 (av2 (dv_name 3) (dv_is (dv_fromL (k := 1) (dv_name 3) dv_int) (by rw [List.map_drop])))) (by decide) (fun p => .bool (decide (p.2 < p.1))) (by rw [List.length_zip]; omega)
          fun s H C cl fp p hp => dv_lt (dv_name 6) (dv_name 5)) (by rw [List.map_map]; rfl))))) ?_) (bl_ret dv_bl)
        unfold upB at hu
        simpa using hu
    · refine bl_for (d := .bool false) (fun _ => [some (.d (bd B)), none, none, none, none, none, none, none]) (fun c => !upB (upCol B c)) PassesOwn.never rfl (pi_range1 (by rfl) T.range pa_w) (pg_name (i := 4) sc_rises.nd rfl (Or.inr rfl))
        (src_rng 4 (av1 (dv_sub (dv_wi g T.len (dv_name 0)) dv_int)) (by omega) (by omega)) (fun i c hp _ => ?_) (fun hno2 => ?_) (fun hex => ?_)
      · have hc := mem_rangeI.mp (List.mem_of_getElem? hp)
        have hst : (upCol B c).length ≤ 6 := by unfold upCol; rw [List.length_map]; omega
        refine bl_lc0 3 (own := [("row", 7)]) (as := B) rfl sc_rises.nd (pi_tup pe_w) (blkOk_by (N := N_rises) (sc := defScope s_rises) (by decide +kernel)) (fun _ _ _ _ _ => pg_name (i := 7) sc_rises.nd rfl (Or.inl rfl))
          (src_tup (f := rowD) 7 (dv_name 0)) (by decide) (fun r => .int ((r.getD (c + 1).toNat (0, 0)).2 - (r.getD c.toNat (0, 0)).2)) (by omega)
          (fun s H C cl fp r hr' => dv_sub (dv_ixT (dv_ixT (dv_name 7) (dv_add (dv_name 4) dv_int) (pair_at (by omega) (by have := g.rect r hr'; omega))) dv_int rfl) (dv_ixT (dv_ixT (dv_name 7) (dv_name 4) (pair_at (by omega) (by have := g.rect r hr'; omega))) dv_int rfl)) ?_
        have es : PyData.list (B.map fun r => PyData.int ((r.getD (c + 1).toNat (0, 0)).2 - (r.getD c.toNat (0, 0)).2)) = intsL (upCol B c) := by
          unfold upCol
          rw [intsL, List.map_map]
          rfl
        rw [es]
        by_cases hu : upB (upCol B c) = true
        · rw [if_neg (by simp [hu])]
          refine bl_ifno (tv_is (tv_val (dv_cb (cr_any rfl) bt_any (rc_any (bs := ((upCol B c).zip ((upCol B c).drop 1)).map fun p => decide (p.2 < p.1))) T.any (av1 (dv_is (dv_lc0 (own := [("a", 5), ("b", 6)]) (as := (upCol B c).zip ((upCol B c).drop 1)) rfl sc_rises.nd (RZ.pi_zipA (by rfl) T.zip pa_w) (blkOk_by (N := N_rises) (sc := defScope s_rises) (by decide +kernel)) (fun _ _ _ _ _ => pg_pair (i := 5) (j := 6) rfl sc_rises.nd)
            (src_zipL (f1 := .int) (f2 := .int) 5 6 (av2 (dv_name 3) (dv_is (dv_fromL (k := 1) (dv_name 3) dv_int) (by rw [List.map_drop])))) (by decide) (fun p => .bool (decide (p.2 < p.1))) (by rw [List.length_zip]; omega)
            fun s H C cl fp p hp => dv_lt (dv_name 6) (dv_name 5)) (by rw [List.map_map]; rfl))))) ?_) (bl_out (by walk_at "envle") bl_nil)
          unfold upB at hu
          simpa using hu
        · rw [if_pos (by simpa using hu)]
          refine bl_ifret (tv_is (tv_val (dv_cb (cr_any rfl) bt_any (rc_any (bs := ((upCol B c).zip ((upCol B c).drop 1)).map fun p => decide (p.2 < p.1))) T.any (av1 (dv_is (dv_lc0 (own := [("a", 5), ("b", 6)]) (as := (upCol B c).zip ((upCol B c).drop 1)) rfl sc_rises.nd (RZ.pi_zipA (by rfl) T.zip pa_w) (blkOk_by (N := N_rises) (sc := defScope s_rises) (by decide +kernel)) (fun _ _ _ _ _ => pg_pair (i := 5) (j := 6) rfl sc_rises.nd)
            (src_zipL (f1 := .int) (f2 := .int) 5 6 (av2 (dv_name 3) (dv_is (dv_fromL (k := 1) (dv_name 3) dv_int) (by rw [List.map_drop])))) (by decide) (fun p => .bool (decide (p.2 < p.1))) (by rw [List.length_zip]; omega)
            fun s H C cl fp p hp => dv_lt (dv_name 6) (dv_name 5)) (by rw [List.map_map]; rfl))))) ?_) (bl_ret dv_bl)
          unfold upB at hu
          simpa using hu
      · exact bl_ret (dv_is dv_bl (by show _ = PyData.bool (risesL B); rw [rises_yes hno1 hno2]))
      · show Out.ret (.bool (risesL B)) = _
        rw [rises_no2 hex]
    · show Out.ret (.bool (risesL B)) = _
      rw [rises_no1 hex]
theorem ok_is_rising (D : DefAt K mg "is_rising" s_is_rising f fd) (T : Txt mg) (GN : FnD P w K mg base 4 "need_board" ["value"] (R_board fun _ => .none)) (GR : FnD P w K mg base 1 "rises" ["board"] (R_board fun B => .bool (risesL B))) : FnD P w K mg base 5 "is_rising" ["board"] (R_board fun B => .bool (risesL B)) := by
  refine fn_ret D.F sc_is_rising D.hm (D.F.binds fun _ _ _ _ _ _ us hl => match us, hl with | [_], _ => rfl) ?_ ?_
  · rintro ds d ⟨B, _, rfl, rfl⟩
    rfl
  · rintro f cdv A outer s H E hr ds d ⟨B, g, rfl, rfl⟩
    exact bl_expr (dv_call GN hr (by decide) (av1 (dv_name 0)) ⟨B, g, rfl, rfl⟩) (bl_ret (dv_call GR hr (by decide) (av1 (dv_name 0)) ⟨B, g, rfl, rfl⟩))
end
end K8
set_option maxHeartbeats 1000000
namespace K8
open PySem PySem.Spec PyProof.Rows L2
/-! ### errors -/
section
variable {X : Cx} {C : Addr} {bmB : List Value} {B newId initId : String}
/-- X() -/
theorem pmk_own0 {x : Str} {p pos : Pos} (F : ExcBaseFacts B newId initId bmB) (q : PySem.W.excIn X.K C bmB newId = true) (gC : X.mg x = some (.ref C)) (kC : PySem.W.keepIn X.K (.ref C) = true) (r : Raises X (.ref C)) (hg : Gl X x)
    (hdb : (x == ("__debug__" : Str)) = false := by decide) : PMk X (.Call (.Name x p) [] [] pos) (fun _ H Q => Q (.ref C) none H) := by
  intro pins s σ H Q I h
  refine wpAny_Call_Name_kw (ld_glob I hg gC ?_ hdb)
  refine PySem.W.callWith_K0 I.kIn kC ?_
  show wpAny _ _ (call (.ref C) []) _ _ _
  obtain ⟨bm, N, nm, qn, bs, hdct, sn, sub, ab, col, dd, k0, k1, k2, k3, k5, mN, hC, hN, hni, T⟩ := exc_obj I.kIn q
  refine wpAny_call_exc_subT F T hC hN hni (fun h' e hm => ?_) (Nat.zero_le _)
  exact mk_of I hm r h (I.hok.gone hm.new)
end
/-- what the top has written of the error's class -/
structure Exn (K : PySem.W.Frag) (mg : Str → Option Value) (C : Addr) : Prop where
  gC : mg "NotRising" = some (.ref C)
  xF : PySem.W.excIn K C [.type "ValueError", .type "Exception", .type "BaseException", .type "object"] "ValueError.__new__" = true
  kF : PySem.W.keepIn K (.ref C) = true
  bF : PySem.W.subIn K (.ref C) (.type "BaseException") = some true
  tF : PySem.W.typeIn K (.ref C) = some (.type "type")
  eF : PySem.W.exmOne K (.ref C) (.ref C) = some true
/-- the promise of a def that raises -/
def spX (K : PySem.W.Frag) (C : Addr) (R : List PyData → Prop) : Sp := fun vs H _ E => ∃ H0 ds, Same H0 H ∧ DsAll K H0 vs ds ∧ R ds ∧ ∀ H0' H', Frm R0 H0 H H0' H' → E (.ref C) none H'
abbrev FnX (P : Program) (w : World) (K : PySem.W.Frag) (mg : Str → Option Value) (base : Heap) (C : Addr) (k : Nat) (x : Str) (ps : List Str) (R : List PyData → Prop) : Prop := FnAt P w K mg base (L2.CX P w) k x ps (spX K C R)
/-- a block that ends by the error -/
def BlR (ρ : Rho) (X : Cx) (W : WX) (C : Addr) (ds : DEnv) (ss : List Stmt) : Prop :=
  ∀ He H0e σ H0 H, Frm ρ H0e He H0 H → Sat X.K ρ He H0 H σ ds → ρ.ok He → ∀ D : Ends, (∀ σ' H0' H', Frm ρ H0e He H0' H' → Same H0 H0' → Sat X.K ρ He H0' H' σ' ds → W (.ref C) none σ' H') → tWs X ss D σ H
section
variable {ρ : Rho} {X : Cx} {W : WX} {C : Addr} {ds : DEnv} {d : PyData} {pos : Pos} {rs body orelse : List Stmt} {e c : Expr} {es : List Expr} {xs : List PyData} {x : Str} {k j : Nat} {ps : List Str} {R : List PyData → Prop}
theorem blr_expr (he : Dv ρ X ds e d) (hr : BlR ρ X W C ds rs) (hs : swapsWith e none pos.line X.env = pure false := by rfl) : BlR ρ X W C ds (.Expr e pos :: rs) := fun He H0e σ H0 H F S k D q =>
  ws_of (pss_cons (ps_expr pe_w hs) pss_w) (he He σ H0 H S _ fun v H1 H1' f dv => hr He H0e _ H1 H1' (F.trans f k) (S.fr f) k D fun σ' H2 H2' f2 s2 S2 => q σ' H2 H2' f2 (f.ex0.trans s2) S2)
theorem blr_if (hc : Tv ρ X ds c true) (h1 : BlR ρ X W C ds body) : BlR ρ X W C ds (.If c body orelse pos :: rs) := fun He H0e σ H0 H F S k D q =>
  ws_of (pss_cons (ps_if pt_w pss_w pss_w) pss_w) (hc He σ H0 H S _ fun H1 H1' f => h1 He H0e _ H1 H1' (F.trans f k) (S.fr f) k { D with nx := tWs X rs D } fun σ' H2 H2' f2 s2 S2 => q σ' H2 H2' f2 (f.ex0.trans s2) S2)
theorem blr_raise {mg : Str → Option Value} {p : Pos} {pos2 : Pos} (T : Exn X.K X.mg C) (hc : X.calm = true) (tk : Takes X W) (hg : Gl X "NotRising") : BlR ρ X W C ds (.Raise (some (.Call (.Name "NotRising" p) [] [] pos)) none pos2 :: rs) := fun He H0e σ H0 H F S k D q =>
  ws_of (pss_cons (ps_raise hc tk (pmk_own0 PySem.F.excBase_ValueError T.xF T.gC T.kF (raises_own T.bF T.tF) hg)) pss_w) (q σ H0 H F (Same.refl _) S)
theorem evx_call (G : FnX X.prog X.w X.K X.mg X.base C k x ps R) (hr : Room j X.A) (hk : k ≤ j) (tk : Takes X W) (ha : Av ρ X ds (e :: es) xs) (h : R xs) (hg : Gl X x := by rfl) (hdb : (x == ("__debug__" : Str)) = false := by decide)
    (he : starEach (e :: es) X.env = (false, eval e X.env) :: starEach es X.env := by rfl) (hpl : (backTo pos (starEach es X.env)).any (·.1) = false := by rfl) {p : Pos} :
    ∃ te : TE, PE X (.Call (.Name x p) (e :: es) [] pos) te ∧ ∀ He H0e σ H0 H, Frm ρ H0e He H0 H → Sat X.K ρ He H0 H σ ds → ρ.ok He → (∀ H0' H', Frm ρ H0e He H0' H' → Same H0 H0' → Sat X.K ρ He H0' H' σ ds → W (.ref C) none σ H') → ∀ Q, te σ H Q := by
  obtain ⟨f, fd, F, hm, hkp, hb⟩ := G
  refine ⟨_, pe_callS F (hr.mono hk) hg hm hkp hb (fun σ => passAt tk σ) pa_w hdb he hpl, fun He H0e σ H0 H Fr S kk q Q => ?_⟩
  refine ha He σ H0 H S _ fun vs H1 H1' f1 d1 => ?_
  have S1 := S.fr f1
  exact ⟨H1, xs, S1.sub, d1, h, fun H2 H2' f2 => q H2 H2' ((Fr.trans f1 kk).trans f2.pure kk) (f1.ex0.trans f2.ex0) (S1.fr f2.pure)⟩
theorem blr_call (G : FnX X.prog X.w X.K X.mg X.base C k x ps R) (hr : Room j X.A) (hk : k ≤ j) (tk : Takes X W) (ha : Av ρ X ds (e :: es) xs) (h : R xs) (hg : Gl X x := by rfl) (hdb : (x == ("__debug__" : Str)) = false := by decide)
    (he : starEach (e :: es) X.env = (false, eval e X.env) :: starEach es X.env := by rfl) {p p2 : Pos} (hpl : (backTo p2 (starEach es X.env)).any (·.1) = false := by rfl) (hs : swapsWith (.Call (.Name x p) (e :: es) [] p2) none pos.line X.env = pure false := by rfl) :
    BlR ρ X W C ds (.Expr (.Call (.Name x p) (e :: es) [] p2) pos :: rs) := by
  obtain ⟨te, h1, h2⟩ := evx_call (p := p) G hr hk tk ha h hg hdb he hpl
  exact fun He H0e σ H0 H F S kk D q => ws_of (pss_cons (ps_expr h1 hs) pss_w) (h2 He H0e σ H0 H F S kk (fun H0' H' f s' S' => q σ H0' H' f s' S') _)
end
section
variable {P : Program} {w : World} {K : PySem.W.Frag} {mg : Str → Option Value} {base : Heap} {x : Str} {st : Stmt} {f : Addr} {fd : FuncData} {N ps : List Str} {k : Nat} {C : Addr} {R : List PyData → Prop}
abbrev cxX (P : Program) (w : World) (K : PySem.W.Frag) (mg : Str → Option Value) (base : Heap) (N : List Str) (x : Str) (st : Stmt) (f : Addr) (cdv : Value) (A : Around) (outer : List PySem.Env) (s : Shared) (H : Hp) (E : XK) : Cx :=
  cxOf (L2.CX P w) P w K mg base N x (defScope st) f cdv A outer s H E
theorem fn_raise (F : Fun K x x st f fd) (S : FnScope N ps (defScope st)) (hm : mg x = some (.ref f)) (hb : Binds K fd ps []) (hl : ∀ ds, R ds → ds.length = ps.length)
    (body : ∀ (f : Addr) (cdv : Value) (A : Around) (outer : List PySem.Env) (s : Shared) (H : Hp) (E : XK), Room k (cxX P w K mg base N x st f cdv A outer s H E).A → Takes (cxX P w K mg base N x st f cdv A outer s H E) (fun cls d _ H => E cls d H) → ∀ ds, R ds → BlR R0 (cxX P w K mg base N x st f cdv A outer s H E) (fun cls d _ H => E cls d H) C (startE N ds) (defBody st)) : FnX P w K mg base C (k + 1) x ps R := by
  refine ⟨f, fd, F.okX S (fun vs H Q E h => ?_) (fun cdv A outer s H vs Q E hr h => ?_), hm, F.kp, hb⟩
  · obtain ⟨H0, ds, _, h2, h3, _⟩ := h
    rw [dpa_len h2]
    exact hl ds h3
  · obtain ⟨H0, ds, h1, h2, h3, q⟩ := h
    exact ⟨_, pss_w, body f cdv A outer s H E hr (takes_of rfl rfl rfl rfl) ds h3 H H0 _ H0 H (.refl h1) (startE_sat h1 h2) True.intro _ fun σ' H0' H' f _ _ => q H0' H' f⟩
end
end K8
set_option maxHeartbeats 1000000
namespace K8
open PySem PySem.Spec PyProof.Rows L2
local macro_rules | `(tactic| walk_at "envle") => `(tactic| (repeat (first | exact EnvLe.nil | apply EnvLe.keep | apply EnvLe.skip)))
section
variable {P : Program} {w : World} {K : PySem.W.Frag} {mg : Str → Option Value} {base : Heap} {f : Addr} {fd : FuncData} {C : Addr}
/-- of a board that rises -/
def R_up (v : Bd → PyData) (ds : List PyData) (d : PyData) : Prop := ∃ B, Good B ∧ risesL B = true ∧ ds = [bd B] ∧ d = v B
def R_dn (ds : List PyData) : Prop := ∃ B, Good B ∧ risesL B = false ∧ ds = [bd B]
theorem ok_need_rising (D : DefAt K mg "need_rising" s_need_rising f fd) (T : Txt mg) (GN : FnD P w K mg base 4 "need_board" ["value"] (R_board fun _ => .none)) (GR : FnD P w K mg base 1 "rises" ["board"] (R_board fun B => .bool (risesL B))) : FnD P w K mg base 5 "need_rising" ["board"] (R_up fun _ => .none) := by
  refine fn_non D.F sc_need_rising D.hm (D.F.binds fun _ _ _ _ _ _ us hl => match us, hl with | [_], _ => rfl) ?_ ?_ ?_
  · rintro ds d ⟨B, _, _, rfl, rfl⟩
    rfl
  · rintro ds d ⟨B, _, _, rfl, rfl⟩
    rfl
  · rintro f cdv A outer s H E hr ds d ⟨B, g, hu, rfl, rfl⟩
    exact ⟨_, bl_expr (dv_call GN hr (by decide) (av1 (dv_name 0)) ⟨B, g, rfl, rfl⟩) (bl_ifno (tv_is (tv_not (tv_val (dv_call GR hr (by decide) (av1 (dv_name 0)) ⟨B, g, rfl, rfl⟩))) (by rw [hu]; rfl)) bl_nil)⟩
theorem okx_need_rising (D : DefAt K mg "need_rising" s_need_rising f fd) (T : Txt mg) (TX : Exn K mg C) (GN : FnD P w K mg base 4 "need_board" ["value"] (R_board fun _ => .none)) (GR : FnD P w K mg base 1 "rises" ["board"] (R_board fun B => .bool (risesL B))) : FnX P w K mg base C 5 "need_rising" ["board"] R_dn := by
  refine fn_raise D.F sc_need_rising D.hm (D.F.binds fun _ _ _ _ _ _ us hl => match us, hl with | [_], _ => rfl) ?_ ?_
  · rintro ds ⟨B, _, _, rfl⟩
    rfl
  · rintro f cdv A outer s H E hr tk ds ⟨B, g, hu, rfl⟩
    exact blr_expr (dv_call GN hr (by decide) (av1 (dv_name 0)) ⟨B, g, rfl, rfl⟩) (blr_if (tv_is (tv_not (tv_val (dv_call GR hr (by decide) (av1 (dv_name 0)) ⟨B, g, rfl, rfl⟩))) (by rw [hu]; rfl)) (blr_raise (mg := mg) TX rfl tk rfl))
theorem okx_least_best (D : DefAt K mg "least_best" s_least_best f fd) (T : Txt mg) (GN : FnX P w K mg base C 5 "need_rising" ["board"] R_dn) : FnX P w K mg base C 6 "least_best" ["board"] R_dn := by
  refine fn_raise D.F sc_least_best D.hm (D.F.binds fun _ _ _ _ _ _ us hl => match us, hl with | [_], _ => rfl) ?_ ?_
  · rintro ds ⟨B, _, _, rfl⟩
    rfl
  · rintro f cdv A outer s H E hr tk ds ⟨B, g, hu, rfl⟩
    exact blr_call GN hr (by decide) tk (av1 (dv_name 0)) ⟨B, g, hu, rfl⟩
end
end K8
set_option maxHeartbeats 1000000
namespace K8
open PySem L2
/-! ### answers within a row of numbers -/
def valsIn (B : Bd) (o : Int) (isRow : Bool) : List Int := if isRow then (rangeI (hi B)).map fun r => fs B r o else (rangeI (wi B)).map fun c => sn B o c
def sideN (B : Bd) (isRow : Bool) : Int := if isRow then hi B else wi B
theorem valsIn_len {B : Bd} {o : Int} {isRow : Bool} : (valsIn B o isRow).length = (sideN B isRow).toNat := by
  unfold valsIn sideN
  cases isRow
  · rw [if_neg (by decide), if_neg (by decide), List.length_map, rangeI_len]
  · rw [if_pos rfl, if_pos rfl, List.length_map, rangeI_len]
theorem side_pos {B : Bd} (g : Good B) (isRow : Bool) : 1 ≤ sideN B isRow ∧ sideN B isRow ≤ 6 := by
  unfold sideN
  cases isRow
  · exact ⟨g.m1, g.m6⟩
  · exact ⟨g.n1, g.n6⟩
/-- the numbers by place -/
def valAt (B : Bd) (o : Int) (isRow : Bool) (x : Int) : Int := if isRow then fs B x o else sn B o x
theorem valsIn_eq (B : Bd) (o : Int) (isRow : Bool) : valsIn B o isRow = (rangeI (sideN B isRow)).map (valAt B o isRow) := by
  unfold valsIn sideN
  cases isRow <;> rfl
theorem rangeI_cast {n : Int} (h : 0 ≤ n) : rangeI ((rangeI n).length : Int) = rangeI n := by
  rw [rangeI_len]
  congr 1
  omega
theorem goodIn_eq {n : Int} (h : 0 ≤ n) (v : Int → Int) : goodIn ((rangeI n).map v) = (rangeI n).filter fun x => decide (v x = maxI ((rangeI n).map v)) := by
  unfold goodIn
  rw [List.length_map, rangeI_cast h]
  have e : ∀ l : List Int, (l.zip (l.map v)) = l.map fun x => (x, v x) := fun l => by
    induction l with
    | nil => rfl
    | cons x r ih => rw [List.map_cons, List.zip_cons_cons, List.map_cons, ih]
  rw [e]
  rw [List.filter_map, List.map_map]
  have e2 : ((fun (x : Int × Int) => x.1) ∘ fun x => (x, v x)) = id := rfl
  rw [e2, List.map_id]
  rfl
theorem goodIn_mem {n : Int} (h : 0 ≤ n) (v : Int → Int) {x : Int} : x ∈ goodIn ((rangeI n).map v) ↔ (0 ≤ x ∧ x < n) ∧ ∀ y, 0 ≤ y → y < n → v y ≤ v x := by
  rw [goodIn_eq h, List.mem_filter, mem_rangeI]
  refine ⟨fun ⟨h1, h2⟩ => ⟨h1, fun y y0 y1 => ?_⟩, fun ⟨h1, h2⟩ => ⟨h1, ?_⟩⟩
  · rw [of_decide_eq_true h2]
    exact le_maxI (List.mem_map.mpr ⟨y, mem_rangeI.mpr ⟨y0, y1⟩, rfl⟩)
  · refine decide_eq_true (maxI_uniq (List.mem_map.mpr ⟨x, mem_rangeI.mpr h1, rfl⟩) fun z hz => ?_)
    obtain ⟨y, hy, rfl⟩ := List.mem_map.mp hz
    have := mem_rangeI.mp hy
    exact h2 y this.1 this.2
theorem goodIn_ne {n : Int} (h : 1 ≤ n) (v : Int → Int) : goodIn ((rangeI n).map v) ≠ [] := by
  have hne : (rangeI n).map v ≠ [] := by
    intro z
    have := congrArg List.length z
    rw [List.length_map, rangeI_len] at this
    simp at this
    omega
  obtain ⟨x, hx, e⟩ := List.mem_map.mp (maxI_mem hne)
  refine List.ne_nil_of_mem (a := x) ?_
  rw [goodIn_eq (by omega), List.mem_filter]
  exact ⟨hx, decide_eq_true e⟩
theorem goodIn_up {n : Int} (h : 0 ≤ n) (v : Int → Int) : (goodIn ((rangeI n).map v)).Pairwise (· ≤ ·) := by
  rw [goodIn_eq h]
  exact List.Pairwise.filter _ (rangeI_up _)
theorem head_least {l : List Int} (hu : l.Pairwise (· ≤ ·)) (hne : l ≠ []) : l.headD 0 ∈ l ∧ ∀ x ∈ l, l.headD 0 ≤ x := by
  cases l with
  | nil => exact absurd rfl hne
  | cons a r =>
    refine ⟨List.mem_cons_self, fun x hx => ?_⟩
    rcases List.mem_cons.mp hx with e | hx
    · rw [e]; exact Int.le_refl _
    · exact (List.pairwise_cons.mp hu).1 x hx
theorem last_most : ∀ {l : List Int}, l.Pairwise (· ≤ ·) → l ≠ [] → l.getLastD 0 ∈ l ∧ ∀ x ∈ l, x ≤ l.getLastD 0
  | [], _, h => absurd rfl h
  | [a], _, _ => ⟨List.mem_cons_self, fun x hx => by rw [List.mem_singleton.mp hx]; exact Int.le_refl _⟩
  | a :: b :: r, hu, _ => by
    have hu' := List.pairwise_cons.mp hu
    obtain ⟨h1, h2⟩ := last_most (l := b :: r) hu'.2 (by simp)
    have e : (a :: b :: r).getLastD 0 = (b :: r).getLastD 0 := by simp [List.getLastD]
    rw [e]
    refine ⟨List.mem_cons_of_mem _ h1, fun x hx => ?_⟩
    rcases List.mem_cons.mp hx with z | hx
    · rw [z]; exact hu'.1 _ h1
    · exact h2 x hx
/-- the answer: a best place, the least or the greatest one -/
theorem ansIn_spec {B : Bd} (g : Good B) (o : Int) (isRow h : Bool) :
    (0 ≤ ansIn B o isRow h ∧ ansIn B o isRow h < sideN B isRow) ∧ (∀ y, 0 ≤ y → y < sideN B isRow → valAt B o isRow y ≤ valAt B o isRow (ansIn B o isRow h)) ∧
      (∀ x, 0 ≤ x → x < sideN B isRow → (∀ y, 0 ≤ y → y < sideN B isRow → valAt B o isRow y ≤ valAt B o isRow x) → if h = true then x ≤ ansIn B o isRow h else ansIn B o isRow h ≤ x) := by
  have sp := side_pos g isRow
  have e : ansIn B o isRow h = if h = true then (goodIn (valsIn B o isRow)).getLastD 0 else (goodIn (valsIn B o isRow)).headD 0 := rfl
  rw [valsIn_eq] at e
  have ne := goodIn_ne sp.1 (valAt B o isRow)
  have up := goodIn_up (n := sideN B isRow) (by omega) (valAt B o isRow)
  rw [e]
  cases h
  · rw [if_neg (by decide)]
    obtain ⟨h1, h2⟩ := head_least up ne
    obtain ⟨q1, q2⟩ := (goodIn_mem (by omega) _).mp h1
    refine ⟨q1, q2, fun x x0 x1 hx => ?_⟩
    rw [if_neg (by decide)]
    exact h2 x ((goodIn_mem (by omega) _).mpr ⟨⟨x0, x1⟩, hx⟩)
  · rw [if_pos rfl]
    obtain ⟨h1, h2⟩ := last_most up ne
    obtain ⟨q1, q2⟩ := (goodIn_mem (by omega) _).mp h1
    refine ⟨q1, q2, fun x x0 x1 hx => ?_⟩
    rw [if_pos rfl]
    exact h2 x ((goodIn_mem (by omega) _).mpr ⟨⟨x0, x1⟩, hx⟩)
theorem clAt_in {B : Bd} (g : Good B) (h : Bool) : ∀ k, (0 ≤ (clAt B h k).1 ∧ (clAt B h k).1 < hi B) ∧ 0 ≤ (clAt B h k).2 ∧ (clAt B h k).2 < wi B
  | 0 => by
    have h1 := g.n1
    have h2 := g.m1
    cases h
    · show (0 ≤ (0 : Int) ∧ (0 : Int) < hi B) ∧ 0 ≤ (0 : Int) ∧ (0 : Int) < wi B
      omega
    · show (0 ≤ hi B - 1 ∧ hi B - 1 < hi B) ∧ 0 ≤ wi B - 1 ∧ wi B - 1 < wi B
      omega
  | k + 1 => ⟨(ansIn_spec g (clAt B h k).2 true h).1, (ansIn_spec g (clAt B h k).1 false h).1⟩
end K8
set_option maxHeartbeats 1000000
namespace K8
open PySem PySem.Spec PyProof.Rows L2
local macro_rules | `(tactic| walk_at "envle") => `(tactic| (repeat (first | exact EnvLe.nil | apply EnvLe.keep | apply EnvLe.skip)))
theorem atI_head {l : List Int} (h : l ≠ []) : atI (l.map PyData.int) 0 = some (.int (l.headD 0)) := by
  cases l with
  | nil => exact absurd rfl h
  | cons x r => exact atI_0
theorem atI_tail {l : List Int} (h : l ≠ []) : atI (l.map PyData.int) (-1) = some (.int (l.getLastD 0)) := by
  have e : l = l.dropLast ++ [l.getLastD 0] := by
    have := List.dropLast_concat_getLast h
    have e2 : l.getLastD 0 = l.getLast h := by
      cases l with
      | nil => exact absurd rfl h
      | cons a r => simp [List.getLastD_eq_getLast?, List.getLast?_eq_some_getLast]
    rw [e2]
    exact this.symm
  rw [e, List.map_append]
  have e3 : (l.dropLast ++ [l.getLastD 0]).getLastD 0 = l.getLastD 0 := by rw [← e]
  rw [e3]
  exact atI_last _ _
section
variable {P : Program} {w : World} {K : PySem.W.Frag} {mg : Str → Option Value} {base : Heap} {f : Addr} {fd : FuncData} {C : Addr}
def R_answer_in (ds : List PyData) (d : PyData) : Prop := ∃ B o ir ih, Good B ∧ (0 ≤ o ∧ o < sideN B (!ir)) ∧ ds = [bd B, intsL (rangeI (sideN B ir)), .int o, .bool ir, .bool ih] ∧ d = .int (ansIn B o ir ih)
theorem ok_answer_in (D : DefAt K mg "answer_in" s_answer_in f fd) (T : Txt mg) : FnD P w K mg base 1 "answer_in" ["board", "own", "other", "is_row", "is_high"] R_answer_in := by
  refine fn_ret D.F sc_answer_in D.hm (D.F.binds fun _ _ _ _ _ _ us hl => match us, hl with | [_, _, _, _, _], _ => rfl) ?_ ?_
  · rintro ds d ⟨B, o, ir, ih, _, _, rfl, rfl⟩
    rfl
  · rintro f cdv A outer s H E hr ds d ⟨B, o, ir, ih, g, ⟨h0, h1⟩, rfl, rfl⟩
    have sp := side_pos g ir
    have ll : (rangeI (sideN B ir)).length ≤ 6 := by rw [rangeI_len]; omega
    have vl : (valsIn B o ir).length ≤ 6 := by rw [valsIn_len]; omega
    have vne : valsIn B o ir ≠ [] := fun z => by
      have := congrArg List.length z
      rw [valsIn_len] at this
      simp at this
      omega
    refine bl_if (p := ir) (ds1 := [some (.d (bd B)), some (.d (intsL (rangeI (sideN B ir)))), some (.d (.int o)), some (.d (.bool ir)), some (.d (.bool ih)), some (.d (intsL (valsIn B o ir))), none, none, none, none, none]) (tv_val (dv_name 3)) (fun hp => ?_) (fun hp => ?_) ?_
    · subst hp
      refine bl_set 5 sc_answer_in.nd (dv_lc0 (own := [("row", 7)]) (as := rangeI (hi B)) rfl sc_answer_in.nd (pi_list pe_w) (blkOk_by (N := N_answer_in) (sc := defScope s_answer_in) (by decide +kernel)) (fun _ _ _ _ _ => pg_name (i := 7) sc_answer_in.nd rfl (Or.inl rfl))
        (src_list (f := .int) 7 (dv_name 1)) (by decide) (fun r => .int (fs B r o)) (by have : (rangeI (hi B)).length ≤ 6 := ll
                                                                                        omega) fun s H C cl fp r hr' => ?_) ?_
      · have h := mem_rangeI.mp hr'
        exact dv_fs g (dv_name 0) (dv_name 7) (dv_name 2) h.1 h.2 h0 h1
      · refine bl_is (ds1 := _) ?_ bl_nil
        have e : PyData.list ((rangeI (hi B)).map fun r => PyData.int (fs B r o)) = intsL (valsIn B o true) := by
          show _ = intsL ((rangeI (hi B)).map fun r => fs B r o)
          rw [intsL, List.map_map]
          rfl
        rw [e]
        rfl
    · subst hp
      refine bl_set 5 sc_answer_in.nd (dv_lc0 (own := [("column", 8)]) (as := rangeI (wi B)) rfl sc_answer_in.nd (pi_list pe_w) (blkOk_by (N := N_answer_in) (sc := defScope s_answer_in) (by decide +kernel)) (fun _ _ _ _ _ => pg_name (i := 8) sc_answer_in.nd rfl (Or.inl rfl))
        (src_list (f := .int) 8 (dv_name 1)) (by decide) (fun c => .int (sn B o c)) (by have : (rangeI (wi B)).length ≤ 6 := ll
                                                                                        omega) fun s H C cl fp r hr' => ?_) ?_
      · have h := mem_rangeI.mp hr'
        exact dv_sn g (dv_name 0) (dv_name 2) (dv_name 8) h0 h1 h.1 h.2
      · refine bl_is (ds1 := _) ?_ bl_nil
        have e : PyData.list ((rangeI (wi B)).map fun c => PyData.int (sn B o c)) = intsL (valsIn B o false) := by
          show _ = intsL ((rangeI (wi B)).map fun c => sn B o c)
          rw [intsL, List.map_map]
          rfl
        rw [e]
        rfl
    · refine bl_lc1 6 (own := [("one", 9), ("number", 10)]) (as := (rangeI (sideN B ir)).zip (valsIn B o ir)) rfl sc_answer_in.nd (RZ.pi_zipA (by rfl) T.zip pa_w) (blkOk_by (N := N_answer_in) (sc := defScope s_answer_in) (by decide +kernel)) (fun _ _ _ _ _ => pg_pair (i := 9) (j := 10) rfl sc_answer_in.nd)
        (src_zipL (f1 := .int) (f2 := .int) 9 10 (av2 (dv_name 1) (dv_name 5))) (by decide) (fun p => decide (p.2 = maxI (valsIn B o ir))) (fun p => .int p.1) (by rw [List.length_zip]; omega)
        (fun s H C cl fp p hp => tv_eqI (dv_name 10) (dv_cb (cr_max rfl) bt_max (rc_max vne) T.max (av1 (dv_name 5)))) (fun s H C cl fp p hp _ => dv_name 9) ?_
      have e : PyData.list ((((rangeI (sideN B ir)).zip (valsIn B o ir)).filter fun p => decide (p.2 = maxI (valsIn B o ir))).map fun p => PyData.int p.1) = intsL (goodIn (valsIn B o ir)) := by
        unfold goodIn
        have e2 : rangeI ((valsIn B o ir).length : Int) = rangeI (sideN B ir) := by
          rw [valsIn_len]
          congr 1
          omega
        rw [e2, intsL, List.map_map]
        rfl
      rw [e]
      have gne : goodIn (valsIn B o ir) ≠ [] := by
        rw [valsIn_eq]
        exact goodIn_ne sp.1 _
      refine bl_ret (dv_if (p := ih) (tv_val (dv_name 4)) (fun hp => ?_) fun hp => ?_)
      · subst hp
        exact dv_is (dv_ixL (xs := (goodIn (valsIn B o ir)).map .int) (dv_name 6) (dv_neg dv_int) (atI_tail gne)) rfl
      · subst hp
        exact dv_is (dv_ixL (xs := (goodIn (valsIn B o ir)).map .int) (dv_name 6) dv_int (atI_head gne)) rfl
end
end K8
set_option maxHeartbeats 1000000
namespace K8
open PySem L2
/-! ### boards that rise -/
theorem zip_drop {α : Type} {l : List α} (d : α) {Q : α × α → Prop} : (∀ p ∈ l.zip (l.drop 1), Q p) ↔ ∀ i : Nat, i + 1 < l.length → Q (l.getD i d, l.getD (i + 1) d) := by
  constructor
  · intro h i hi
    refine h _ (List.mem_of_getElem? (i := i) ?_)
    rw [List.getElem?_zip_eq_some]
    refine ⟨?_, ?_⟩
    · show l[i]? = some (l.getD i d)
      rw [List.getD_eq_getElem?_getD, List.getElem?_eq_getElem (show i < l.length by omega)]
      rfl
    · show (l.drop 1)[i]? = some (l.getD (i + 1) d)
      rw [List.getElem?_drop, Nat.add_comm, List.getD_eq_getElem?_getD, List.getElem?_eq_getElem hi]
      rfl
  · rintro h ⟨a, b⟩ hp
    obtain ⟨i, hi⟩ := List.mem_iff_getElem?.mp hp
    rw [List.getElem?_zip_eq_some] at hi
    obtain ⟨h1, h2⟩ := hi
    rw [List.getElem?_drop, Nat.add_comm] at h2
    have h3 : i + 1 < l.length := (List.getElem?_eq_some_iff.mp h2).1
    have := h i h3
    rw [List.getD_eq_getElem?_getD, List.getD_eq_getElem?_getD, h1, h2] at this
    exact this
theorem upB_iff {l : List Int} : upB l = true ↔ ∀ i : Nat, i + 1 < l.length → l.getD i 0 ≤ l.getD (i + 1) 0 := by
  unfold upB
  rw [← zip_drop (l := l) (0 : Int) (Q := fun p => p.1 ≤ p.2)]
  rw [Bool.not_eq_true', List.any_map, List.any_eq_false]
  constructor
  · intro h p hp
    have := h p hp
    simp at this
    exact this
  · intro h p hp
    have := h p hp
    simp
    exact this
/-- the 2x2 differences -/
def AdjF (B : Bd) : Prop := ∀ r c, 0 ≤ r → r + 1 < hi B → 0 ≤ c → c + 1 < wi B → fs B (r + 1) c - fs B r c ≤ fs B (r + 1) (c + 1) - fs B r (c + 1)
def AdjS (B : Bd) : Prop := ∀ r c, 0 ≤ r → r + 1 < hi B → 0 ≤ c → c + 1 < wi B → sn B r (c + 1) - sn B r c ≤ sn B (r + 1) (c + 1) - sn B (r + 1) c
theorem getD_map {α β : Type} {l : List α} {f : α → β} {i : Nat} (d : α) (e : β) (h : i < l.length) : (l.map f).getD i e = f (l.getD i d) := by
  rw [List.getD_eq_getElem?_getD, List.getD_eq_getElem?_getD, List.getElem?_map, List.getElem?_eq_getElem h]
  rfl
theorem getD_zip {α β : Type} {l : List α} {m : List β} {i : Nat} (d : α) (e : β) (h : i < l.length) (h2 : i < m.length) : (l.zip m).getD i (d, e) = (l.getD i d, m.getD i e) := by
  have q : (l.zip m)[i]? = some (l[i], m[i]) := List.getElem?_zip_eq_some.mpr ⟨List.getElem?_eq_getElem h, List.getElem?_eq_getElem h2⟩
  rw [List.getD_eq_getElem?_getD, List.getD_eq_getElem?_getD, List.getD_eq_getElem?_getD, q, List.getElem?_eq_getElem h, List.getElem?_eq_getElem h2]
  rfl
theorem getD_mem {α : Type} {l : List α} {i : Nat} (d : α) (h : i < l.length) : l.getD i d ∈ l := by
  rw [List.getD_eq_getElem?_getD, List.getElem?_eq_getElem h]
  exact List.getElem_mem h
theorem row_len {B : Bd} (g : Good B) {i : Nat} (h : i < B.length) : ((B.getD i []).length : Int) = wi B := g.rect _ (getD_mem [] h)
theorem rises_f {B : Bd} (g : Good B) : (∀ p ∈ B.zip (B.drop 1), upB ((p.1.zip p.2).map fun q => q.2.1 - q.1.1) = true) ↔ AdjF B := by
  rw [zip_drop (l := B) ([] : List (Int × Int)) (Q := fun p => upB ((p.1.zip p.2).map fun q => q.2.1 - q.1.1) = true)]
  have key : ∀ (i j : Nat), i + 1 < B.length → (j : Int) < wi B → (((B.getD i []).zip (B.getD (i + 1) [])).map fun q => q.2.1 - q.1.1).getD j 0 = fs B ((i : Int) + 1) j - fs B i j := fun i j hi hj => by
    have l1 := row_len g (i := i) (by omega)
    have l2 := row_len g (i := i + 1) hi
    rw [getD_map (((0 : Int), (0 : Int)), ((0 : Int), (0 : Int))) (0 : Int) (by rw [List.length_zip]; omega), getD_zip ((0 : Int), (0 : Int)) ((0 : Int), (0 : Int)) (by omega) (by omega)]
    show ((B.getD (i + 1) []).getD j (0, 0)).1 - ((B.getD i []).getD j (0, 0)).1 = ((B.getD ((i : Int) + 1).toNat []).getD (j : Int).toNat (0, 0)).1 - ((B.getD (i : Int).toNat []).getD (j : Int).toNat (0, 0)).1
    rfl
  constructor
  · intro h r c r0 r1 c0 c1
    have hh : (hi B) = (B.length : Int) := rfl
    have u := upB_iff.mp (h r.toNat (by omega)) c.toNat (by
      have l1 := row_len g (i := r.toNat) (by omega)
      have l2 := row_len g (i := r.toNat + 1) (by omega)
      show c.toNat + 1 < (List.map (fun q : (Int × Int) × (Int × Int) => q.2.1 - q.1.1) (List.zip (B.getD r.toNat []) (B.getD (r.toNat + 1) []))).length
      rw [List.length_map, List.length_zip]
      omega)
    have k1 := key r.toNat c.toNat (by omega) (by omega)
    have k2 := key r.toNat (c.toNat + 1) (by omega) (by omega)
    have er : ((r.toNat : Nat) : Int) = r := by omega
    have ec : ((c.toNat : Nat) : Int) = c := by omega
    have ec2 : ((c.toNat + 1 : Nat) : Int) = c + 1 := by omega
    rw [er, ec] at k1
    rw [er, ec2] at k2
    have u' : (((B.getD r.toNat []).zip (B.getD (r.toNat + 1) [])).map fun q => q.2.1 - q.1.1).getD c.toNat 0 ≤ (((B.getD r.toNat []).zip (B.getD (r.toNat + 1) [])).map fun q => q.2.1 - q.1.1).getD (c.toNat + 1) 0 := u
    rw [k1, k2] at u'
    exact u'
  · intro h i hi
    refine upB_iff.mpr fun j hj => ?_
    have l1 := row_len g (i := i) (by omega)
    have l2 := row_len g (i := i + 1) hi
    have hj' : j + 1 < (List.map (fun q : (Int × Int) × (Int × Int) => q.2.1 - q.1.1) (List.zip (B.getD i []) (B.getD (i + 1) []))).length := hj
    rw [List.length_map, List.length_zip] at hj'
    have k1 := key i j hi (by omega)
    have k2 := key i (j + 1) hi (by omega)
    have a := h i j (by omega) (by show (i : Int) + 1 < (B.length : Int); omega) (by omega) (by omega)
    show (((B.getD i []).zip (B.getD (i + 1) [])).map fun q => q.2.1 - q.1.1).getD j 0 ≤ (((B.getD i []).zip (B.getD (i + 1) [])).map fun q => q.2.1 - q.1.1).getD (j + 1) 0
    rw [k1, k2]
    exact a
theorem rises_s {B : Bd} (g : Good B) : (∀ c ∈ rangeI (wi B - 1), upB (B.map fun r => (r.getD (c + 1).toNat (0, 0)).2 - (r.getD c.toNat (0, 0)).2) = true) ↔ AdjS B := by
  have key : ∀ (i : Nat) (c : Int), i < B.length → (B.map fun r => (r.getD (c + 1).toNat (0, 0)).2 - (r.getD c.toNat (0, 0)).2).getD i 0 = sn B i (c + 1) - sn B i c := fun i c hi => by
    rw [getD_map ([] : List (Int × Int)) (0 : Int) hi]
    rfl
  constructor
  · intro h r c r0 r1 c0 c1
    have hh : (hi B) = (B.length : Int) := rfl
    have u := upB_iff.mp (h c (mem_rangeI.mpr ⟨c0, by omega⟩)) r.toNat (by rw [List.length_map]; omega)
    rw [key r.toNat c (by omega), key (r.toNat + 1) c (by omega)] at u
    have er : ((r.toNat : Nat) : Int) = r := by omega
    have er2 : ((r.toNat + 1 : Nat) : Int) = r + 1 := by omega
    rw [er, er2] at u
    exact u
  · intro h c hc
    have hc' := mem_rangeI.mp hc
    refine upB_iff.mpr fun i hi => ?_
    rw [List.length_map] at hi
    rw [key i c (by omega), key (i + 1) c hi]
    exact h i c (by omega) (by show (i : Int) + 1 < (B.length : Int); omega) (by omega) (by omega)
theorem rises_iff {B : Bd} (g : Good B) : risesL B = true ↔ AdjF B ∧ AdjS B := by
  rw [← rises_f g, ← rises_s g]
  unfold risesL
  rw [Bool.and_eq_true, Bool.not_eq_true', Bool.not_eq_true', List.any_eq_false, List.any_eq_false]
  constructor
  · rintro ⟨h1, h2⟩
    refine ⟨fun p hp => ?_, fun p hp => ?_⟩
    · have := h1 p hp
      simpa using this
    · have := h2 p hp
      simpa using this
  · rintro ⟨h1, h2⟩
    refine ⟨fun p hp => ?_, fun p hp => ?_⟩
    · have := h1 p hp
      simpa using this
    · have := h2 p hp
      simpa using this
/-! ### from the 2x2 differences to all -/
theorem sm_one {v : Int → Int → Int} {n m : Int} (h : ∀ r c, 0 ≤ r → r + 1 < n → 0 ≤ c → c + 1 < m → v (r + 1) c - v r c ≤ v (r + 1) (c + 1) - v r (c + 1)) {r : Int} (r0 : 0 ≤ r) (r1 : r + 1 < n) {c : Int} (c0 : 0 ≤ c) : ∀ k : Nat, c + k < m → v (r + 1) c - v r c ≤ v (r + 1) (c + k) - v r (c + k)
  | 0, _ => by
    have e : c + ((0 : Nat) : Int) = c := by omega
    rw [e]
    exact Int.le_refl _
  | k + 1, hk => by
    have ih := sm_one h r0 r1 c0 k (by omega)
    have a := h r (c + k) r0 r1 (by omega) (by omega)
    have e : c + ((k + 1 : Nat) : Int) = c + k + 1 := by omega
    rw [e]
    exact Int.le_trans ih a
theorem sm_all {v : Int → Int → Int} {n m : Int} (h : ∀ r c, 0 ≤ r → r + 1 < n → 0 ≤ c → c + 1 < m → v (r + 1) c - v r c ≤ v (r + 1) (c + 1) - v r (c + 1)) {r : Int} (r0 : 0 ≤ r) {c c' : Int} (c0 : 0 ≤ c) (hc : c ≤ c') (c1 : c' < m) : ∀ k : Nat, r + k < n → v (r + k) c - v r c ≤ v (r + k) c' - v r c'
  | 0, _ => by
    have e : r + ((0 : Nat) : Int) = r := by omega
    rw [e]
    omega
  | k + 1, hk => by
    have ih := sm_all h r0 c0 hc c1 k (by omega)
    have a := sm_one h (r := r + k) (by omega) (by omega) c0 (c' - c).toNat (by omega)
    have e2 : c + (((c' - c).toNat : Nat) : Int) = c' := by omega
    rw [e2] at a
    have e : r + ((k + 1 : Nat) : Int) = r + k + 1 := by omega
    rw [e]
    omega
def SMod (B : Bd) : Prop := ∀ (ir : Bool) (x x' o o' : Int), 0 ≤ x → x ≤ x' → x' < sideN B ir → 0 ≤ o → o ≤ o' → o' < sideN B (!ir) → valAt B o ir x' - valAt B o ir x ≤ valAt B o' ir x' - valAt B o' ir x
theorem smod {B : Bd} (g : Good B) (hr : risesL B = true) : SMod B := by
  obtain ⟨h1, h2⟩ := (rises_iff g).mp hr
  intro ir x x' o o' x0 xx x1 o0 oo o1
  have e : x + (((x' - x).toNat : Nat) : Int) = x' := by omega
  cases ir
  · have := sm_all (v := fun c r => sn B r c) (n := wi B) (m := hi B) (fun c r c0 c1 r0 r1 => h2 r c r0 r1 c0 c1) x0 o0 oo o1 (x' - x).toNat (by rw [e]; exact x1)
    rw [e] at this
    exact this
  · have := sm_all (v := fun r c => fs B r c) (n := hi B) (m := wi B) h1 x0 o0 oo o1 (x' - x).toNat (by rw [e]; exact x1)
    rw [e] at this
    exact this
/-- best answers rise with the other's place -/
theorem ans_mono {B : Bd} (g : Good B) (sm : SMod B) {o o' : Int} {ir : Bool} (h : Bool) (o0 : 0 ≤ o) (oo : o ≤ o') (o1 : o' < sideN B (!ir)) : ansIn B o ir h ≤ ansIn B o' ir h := by
  obtain ⟨a1, a2, a3⟩ := ansIn_spec g o ir h
  obtain ⟨b1, b2, b3⟩ := ansIn_spec g o' ir h
  by_cases hlt : ansIn B o' ir h < ansIn B o ir h
  · have s := sm ir (ansIn B o' ir h) (ansIn B o ir h) o o' b1.1 (by omega) a1.2 o0 oo o1
    have m1 := b2 (ansIn B o ir h) a1.1 a1.2
    have m2 := a2 (ansIn B o' ir h) b1.1 b1.2
    cases h
    · have := a3 (ansIn B o' ir false) b1.1 b1.2 fun y y0 y1 => by
        have := a2 y y0 y1
        omega
      rw [if_neg (by decide)] at this
      exact this
    · have := b3 (ansIn B o ir true) a1.1 a1.2 fun y y0 y1 => by
        have := b2 y y0 y1
        omega
      rw [if_pos rfl] at this
      exact this
  · omega
/-- the places on the way: rising from the least corner, falling from the greatest -/
theorem cl_way {B : Bd} (g : Good B) (sm : SMod B) (h : Bool) : ∀ k, if h = true then (clAt B h (k + 1)).1 ≤ (clAt B h k).1 ∧ (clAt B h (k + 1)).2 ≤ (clAt B h k).2 else (clAt B h k).1 ≤ (clAt B h (k + 1)).1 ∧ (clAt B h k).2 ≤ (clAt B h (k + 1)).2
  | 0 => by
    have h1 := clAt_in g h 1
    cases h
    · rw [if_neg (by decide)]
      exact ⟨h1.1.1, h1.2.1⟩
    · rw [if_pos rfl]
      refine ⟨?_, ?_⟩
      · show (clAt B true 1).1 ≤ hi B - 1
        omega
      · show (clAt B true 1).2 ≤ wi B - 1
        omega
  | k + 1 => by
    have ih := cl_way g sm h k
    have i0 := clAt_in g h k
    have i1 := clAt_in g h (k + 1)
    cases h
    · rw [if_neg (by decide)] at ih ⊢
      exact ⟨ans_mono g sm (ir := true) false i0.2.1 ih.2 i1.2.2, ans_mono g sm (ir := false) false i0.1.1 ih.1 i1.1.2⟩
    · rw [if_pos rfl] at ih ⊢
      exact ⟨ans_mono g sm (ir := true) true i1.2.1 ih.2 i0.2.2, ans_mono g sm (ir := false) true i1.1.1 ih.1 i0.1.2⟩
theorem cl_far {B : Bd} (g : Good B) (sm : SMod B) (h : Bool) (k : Nat) (hne : ∀ i, i < k → clStep B h (clAt B h i) ≠ clAt B h i) : if h = true then (clAt B h k).1 + (clAt B h k).2 + k ≤ hi B + wi B - 2 else (k : Int) ≤ (clAt B h k).1 + (clAt B h k).2 := by
  induction k with
  | zero =>
    cases h
    · rw [if_neg (by decide)]
      show (0 : Int) ≤ 0 + 0
      omega
    · rw [if_pos rfl]
      show hi B - 1 + (wi B - 1) + ((0 : Nat) : Int) ≤ _
      omega
  | succ k ih =>
    have ih := ih fun i hi => hne i (by omega)
    have w := cl_way g sm h k
    have n := hne k (by omega)
    have n' : clAt B h (k + 1) ≠ clAt B h k := n
    have n2 : (clAt B h (k + 1)).1 ≠ (clAt B h k).1 ∨ (clAt B h (k + 1)).2 ≠ (clAt B h k).2 := by
      by_cases e1 : (clAt B h (k + 1)).1 = (clAt B h k).1
      · by_cases e2 : (clAt B h (k + 1)).2 = (clAt B h k).2
        · exact absurd (Prod.ext e1 e2) n'
        · exact .inr e2
      · exact .inl e1
    cases h
    · rw [if_neg (by decide)] at ih w ⊢
      omega
    · rw [if_pos rfl] at ih w ⊢
      omega
theorem least_nat (p : Nat → Prop) : ∀ k, (∃ n, n ≤ k ∧ p n ∧ ∀ i, i < n → ¬ p i) ∨ ∀ i, i ≤ k → ¬ p i
  | 0 => by
    by_cases h : p 0
    · exact .inl ⟨0, Nat.le_refl _, h, fun i hi => absurd hi (Nat.not_lt_zero i)⟩
    · exact .inr fun i hi => by
        have e : i = 0 := by omega
        rw [e]; exact h
  | k + 1 => by
    rcases least_nat p k with ⟨n, h1, h2, h3⟩ | h
    · exact .inl ⟨n, by omega, h2, h3⟩
    · by_cases hk : p (k + 1)
      · exact .inl ⟨k + 1, Nat.le_refl _, hk, fun i hi => h i (by omega)⟩
      · exact .inr fun i hi => by
          by_cases e : i = k + 1
          · rw [e]; exact hk
          · exact h i (by omega)
theorem cl_stops {B : Bd} (g : Good B) (hr : risesL B = true) (h : Bool) : ∃ n, n ≤ 12 ∧ clStep B h (clAt B h n) = clAt B h n ∧ (∀ i, i < n → clStep B h (clAt B h i) ≠ clAt B h i) ∧ climbL B h = clAt B h n := by
  have sm := smod g hr
  have n6 := g.n6
  have m6 := g.m6
  rcases least_nat (fun n => clStep B h (clAt B h n) = clAt B h n) 11 with ⟨n, h1, h2, h3⟩ | hno
  · refine ⟨n, by omega, h2, h3, ?_⟩
    have stuck : ∀ k, clAt B h (n + k) = clAt B h n := fun k => by
      induction k with
      | zero => rfl
      | succ k ih =>
        show clStep B h (clAt B h (n + k)) = clAt B h n
        rw [ih, h2]
    have := stuck (12 - n)
    rw [Nat.add_sub_cancel' (by omega)] at this
    exact this
  · have f := cl_far g sm h 12 fun i hi => hno i (by omega)
    have r := clAt_in g h 12
    cases h
    · rw [if_neg (by decide)] at f
      omega
    · rw [if_pos rfl] at f
      omega
end K8
set_option maxHeartbeats 1000000
namespace K8
open PySem PySem.Spec PyProof.Rows L2
local macro_rules | `(tactic| walk_at "envle") => `(tactic| (repeat (first | exact EnvLe.nil | apply EnvLe.keep | apply EnvLe.skip)))
section
variable {P : Program} {w : World} {K : PySem.W.Frag} {mg : Str → Option Value} {base : Heap} {f : Addr} {fd : FuncData} {C : Addr}
def R_climb (ds : List PyData) (d : PyData) : Prop := ∃ B h, Good B ∧ risesL B = true ∧ ds = [bd B, .bool h] ∧ d = pairD (climbL B h)
def clEnv (B : Bd) (h : Bool) (i : Nat) : DEnv := [some (.d (bd B)), some (.d (.bool h)), some (.d (intsL (rangeI (hi B)))), some (.d (intsL (rangeI (wi B)))), some (.d (pairD (clAt B h i))), none, none]
theorem range_ne {n : Int} (h : 1 ≤ n) : rangeI n ≠ [] := fun z => by
  have := congrArg List.length z
  rw [rangeI_len] at this
  simp at this
  omega
theorem range_last {n : Int} (h : 1 ≤ n) : (rangeI n).getLastD 0 = n - 1 := by
  obtain ⟨h1, h2⟩ := last_most (rangeI_up n) (range_ne h)
  have h3 := h2 (n - 1) (mem_rangeI.mpr ⟨by omega, by omega⟩)
  have h4 := mem_rangeI.mp h1
  omega
theorem ok_climb (D : DefAt K mg "climb" s_climb f fd) (T : Txt mg) (GA : FnD P w K mg base 1 "answer_in" ["board", "own", "other", "is_row", "is_high"] R_answer_in) : FnD P w K mg base 2 "climb" ["board", "is_high"] R_climb := by
  refine fn_ret D.F sc_climb D.hm (D.F.binds fun _ _ _ _ _ _ us hl => match us, hl with | [_, _], _ => rfl) ?_ ?_
  · rintro ds d ⟨B, h, _, _, rfl, rfl⟩
    rfl
  · rintro f cdv A outer s H E hr ds d ⟨B, h, g, hu, rfl, rfl⟩
    have n1 := g.n1
    have n6 := g.n6
    have w1 := g.m1
    have w6 := g.m6
    obtain ⟨n, hn, hstop, hgo, hend⟩ := cl_stops g hu h
    refine bl_par 2 3 rfl sc_climb.nd (dv_lstRg (i := hi B) rfl T.list T.range (dv_hi T.len (dv_name 0)) (by omega) (by omega)) (dv_lstRg (i := wi B) rfl T.list T.range (dv_wi g T.len (dv_name 0)) (by omega) (by omega)) ?_
    refine bl_set 4 sc_climb.nd (d := pairD (clAt B h 0)) (dv_if (p := h) (tv_val (dv_name 1)) (fun hp => ?_) fun hp => ?_) ?_
    · subst hp
      exact dv_tup (av2 (dv_ixL (xs := (rangeI (hi B)).map .int) (dv_name 2) (dv_neg dv_int) (by rw [show (-(1 : Int)) = -1 from rfl]; exact (atI_tail (range_ne n1)).trans (by rw [range_last n1]; rfl))) (dv_ixL (xs := (rangeI (wi B)).map .int) (dv_name 3) (dv_neg dv_int) ((atI_tail (range_ne w1)).trans (by rw [range_last w1]; rfl)))) (by simp)
    · subst hp
      exact dv_tup (av2 dv_int dv_int) (by simp)
    have step : ∀ i, clAt B h (i + 1) = (ansIn B (clAt B h i).2 true h, ansIn B (clAt B h i).1 false h) := fun i => rfl
    refine bl_whileret (clEnv B h) n PassesOwn.never (fun i hi => tv_val dv_bl) (fun i hi => ?_) ?_
    · obtain ⟨⟨a0, a1⟩, b0, b1⟩ := clAt_in g h i
      refine bl_set 5 sc_climb.nd (dv_call GA hr (by decide) (av_cons (dv_name 0) (av_cons (dv_name 2) (av_cons (dv_ixT (xs := [.int (clAt B h i).1, .int (clAt B h i).2]) (dv_name 4) dv_int rfl) (av2 dv_bl (dv_name 1))))) ⟨B, (clAt B h i).2, true, h, g, ⟨b0, b1⟩, rfl, rfl⟩) ?_
      refine bl_set 6 sc_climb.nd (dv_call GA hr (by decide) (av_cons (dv_name 0) (av_cons (dv_name 3) (av_cons (dv_ixT (xs := [.int (clAt B h i).1, .int (clAt B h i).2]) (dv_name 4) dv_int rfl) (av2 dv_bl (dv_name 1))))) ⟨B, (clAt B h i).1, false, h, g, ⟨a0, a1⟩, rfl, rfl⟩) ?_
      refine bl_ifno (tv_is (tv_eqD hr (x := pairD (clAt B h (i + 1))) (dv_tup (av2 (dv_name 5) (dv_name 6)) (by simp)) (dv_name 4) (fit_shaped (fit_pair _) (by decide)) (fit_shaped (fit_pair _) (by decide))) ?_) ?_
      · rw [eqv_pair]
        exact decide_eq_false (hgo i hi)
      · exact bl_set 4 sc_climb.nd (d := pairD (clAt B h (i + 1))) (dv_tup (av2 (dv_name 5) (dv_name 6)) (by simp)) (bl_out (by walk_at "envle") bl_nil)
    · obtain ⟨⟨a0, a1⟩, b0, b1⟩ := clAt_in g h n
      refine bl_set 5 sc_climb.nd (dv_call GA hr (by decide) (av_cons (dv_name 0) (av_cons (dv_name 2) (av_cons (dv_ixT (xs := [.int (clAt B h n).1, .int (clAt B h n).2]) (dv_name 4) dv_int rfl) (av2 dv_bl (dv_name 1))))) ⟨B, (clAt B h n).2, true, h, g, ⟨b0, b1⟩, rfl, rfl⟩) ?_
      refine bl_set 6 sc_climb.nd (dv_call GA hr (by decide) (av_cons (dv_name 0) (av_cons (dv_name 3) (av_cons (dv_ixT (xs := [.int (clAt B h n).1, .int (clAt B h n).2]) (dv_name 4) dv_int rfl) (av2 dv_bl (dv_name 1))))) ⟨B, (clAt B h n).1, false, h, g, ⟨a0, a1⟩, rfl, rfl⟩) ?_
      refine bl_ifret (tv_is (tv_eqD hr (x := pairD (clAt B h (n + 1))) (dv_tup (av2 (dv_name 5) (dv_name 6)) (by simp)) (dv_name 4) (fit_shaped (fit_pair _) (by decide)) (fit_shaped (fit_pair _) (by decide))) ?_) (bl_ret (dv_is (dv_name 4) ?_))
      · rw [eqv_pair]
        exact decide_eq_true hstop
      · rw [hend]
theorem ok_least (D : DefAt K mg "least_best" s_least_best f fd) (T : Txt mg) (GN : FnD P w K mg base 5 "need_rising" ["board"] (R_up fun _ => .none)) (GC : FnD P w K mg base 2 "climb" ["board", "is_high"] R_climb) : FnD P w K mg base 6 "least_best" ["board"] (R_up fun B => pairD (climbL B false)) := by
  refine fn_ret D.F sc_least_best D.hm (D.F.binds fun _ _ _ _ _ _ us hl => match us, hl with | [_], _ => rfl) ?_ ?_
  · rintro ds d ⟨B, _, _, rfl, rfl⟩
    rfl
  · rintro f cdv A outer s H E hr ds d ⟨B, g, hu, rfl, rfl⟩
    exact bl_expr (dv_call GN hr (by decide) (av1 (dv_name 0)) ⟨B, g, hu, rfl, rfl⟩) (bl_ret (dv_call GC hr (by decide) (av2 (dv_name 0) dv_bl) ⟨B, false, g, hu, rfl, rfl⟩))
theorem ok_greatest (D : DefAt K mg "greatest_best" s_greatest_best f fd) (T : Txt mg) (GN : FnD P w K mg base 5 "need_rising" ["board"] (R_up fun _ => .none)) (GC : FnD P w K mg base 2 "climb" ["board", "is_high"] R_climb) : FnD P w K mg base 6 "greatest_best" ["board"] (R_up fun B => pairD (climbL B true)) := by
  refine fn_ret D.F sc_greatest_best D.hm (D.F.binds fun _ _ _ _ _ _ us hl => match us, hl with | [_], _ => rfl) ?_ ?_
  · rintro ds d ⟨B, _, _, rfl, rfl⟩
    rfl
  · rintro f cdv A outer s H E hr ds d ⟨B, g, hu, rfl, rfl⟩
    exact bl_expr (dv_call GN hr (by decide) (av1 (dv_name 0)) ⟨B, g, hu, rfl, rfl⟩) (bl_ret (dv_call GC hr (by decide) (av2 (dv_name 0) dv_bl) ⟨B, true, g, hu, rfl, rfl⟩))
end
end K8
set_option maxHeartbeats 1000000
namespace K8
open PySem L2
/-! ### strikes -/
/-- the number of line l at the line x of the other side -/
def lval (B : Bd) (l x : Int) : Int := if l < hi B then fs B l (x - hi B) else sn B x (l - hi B)
def IsLn (B : Bd) (x : Int) : Prop := 0 ≤ x ∧ x < hi B + wi B
/-- x stands on the side that l does not -/
def Opp (B : Bd) (l x : Int) : Prop := IsLn B x ∧ ¬(l < hi B ↔ x < hi B)
/-- o beats l over what is left of lot -/
def Beats (B : Bd) (lot : List Int) (l o : Int) : Prop := (l < hi B ↔ o < hi B) ∧ ∀ x, Opp B l x → x ∉ lot → lval B l x < lval B o x
theorem nums_map (B : Bd) (lot : List Int) (l : Int) : numsL B lot l = (if l < hi B then colsL B lot else rowsL B lot).map (lval B l) := by
  unfold numsL
  by_cases h : l < hi B
  · rw [if_pos h, if_pos h]
    refine List.map_congr_left fun c _ => ?_
    unfold lval
    rw [if_pos h]
  · rw [if_neg h, if_neg h]
    refine List.map_congr_left fun c _ => ?_
    unfold lval
    rw [if_neg h]
theorem opp_mem {B : Bd} (g : Good B) (lot : List Int) (l x : Int) : x ∈ (if l < hi B then colsL B lot else rowsL B lot) ↔ Opp B l x ∧ x ∉ lot := by
  have n1 := g.n1
  have m1 := g.m1
  unfold Opp IsLn
  by_cases h : l < hi B
  · rw [if_pos h, mem_cols]
    constructor
    · rintro ⟨⟨h1, h2⟩, h3⟩
      exact ⟨⟨⟨by omega, h2⟩, fun z => by have := z.mp h; omega⟩, h3⟩
    · rintro ⟨⟨⟨h1, h2⟩, h3⟩, h4⟩
      refine ⟨⟨?_, h2⟩, h4⟩
      by_cases q : x < hi B
      · exact absurd ⟨fun _ => q, fun _ => h⟩ h3
      · omega
  · rw [if_neg h, mem_rows]
    constructor
    · rintro ⟨⟨h1, h2⟩, h3⟩
      exact ⟨⟨⟨h1, by omega⟩, fun z => h (z.mpr h2)⟩, h3⟩
    · rintro ⟨⟨⟨h1, h2⟩, h3⟩, h4⟩
      refine ⟨⟨h1, ?_⟩, h4⟩
      by_cases q : x < hi B
      · exact q
      · exact absurd ⟨fun z => absurd z h, fun z => absurd z q⟩ h3
theorem gt_iff {B : Bd} (g : Good B) (lot : List Int) (l o : Int) : gtL B lot l o = true ↔ Beats B lot l o := by
  unfold gtL Beats
  rw [Bool.and_eq_true, beq_iff_eq, decide_eq_decide, nums_map, nums_map]
  constructor
  · rintro ⟨h1, h2⟩
    refine ⟨h1, fun x hx hn => ?_⟩
    have e : (if o < hi B then colsL B lot else rowsL B lot) = (if l < hi B then colsL B lot else rowsL B lot) := by
      by_cases q : l < hi B
      · rw [if_pos q, if_pos (h1.mp q)]
      · rw [if_neg q, if_neg fun z => q (h1.mpr z)]
    rw [e, List.zip_map', List.map_map, List.all_map, List.all_eq_true] at h2
    have := h2 x ((opp_mem g lot l x).mpr ⟨hx, hn⟩)
    simpa using this
  · rintro ⟨h1, h2⟩
    refine ⟨h1, ?_⟩
    have e : (if o < hi B then colsL B lot else rowsL B lot) = (if l < hi B then colsL B lot else rowsL B lot) := by
      by_cases q : l < hi B
      · rw [if_pos q, if_pos (h1.mp q)]
      · rw [if_neg q, if_neg fun z => q (h1.mpr z)]
    rw [e, List.zip_map', List.map_map, List.all_map, List.all_eq_true]
    intro x hx
    have := (opp_mem g lot l x).mp hx
    have := h2 x this.1 this.2
    simpa using this
theorem fall_iff {B : Bd} (g : Good B) (lot : List Int) (l : Int) : fallL B lot l = true ↔ ∃ o, IsLn B o ∧ o ∉ lot ∧ o ≠ l ∧ Beats B lot l o := by
  unfold fallL
  rw [List.any_map, List.any_eq_true]
  constructor
  · rintro ⟨o, h1, h2⟩
    obtain ⟨h3, h4⟩ := List.mem_filter.mp h1
    have h5 : o ∉ lot ++ [l] := by simpa using h4
    rw [List.mem_append, not_or, List.mem_singleton] at h5
    unfold linesL at h3
    exact ⟨o, mem_rangeI.mp h3, h5.1, h5.2, (gt_iff g lot l o).mp h2⟩
  · rintro ⟨o, h1, h2, h3, h4⟩
    refine ⟨o, List.mem_filter.mpr ⟨by unfold linesL; exact mem_rangeI.mpr h1, ?_⟩, (gt_iff g lot l o).mpr h4⟩
    have : o ∉ lot ++ [l] := by
      rw [List.mem_append, not_or, List.mem_singleton]
      exact ⟨h2, h3⟩
    simpa using this
/-- every line of the lot is beaten by one that is left -/
def Inv8 (B : Bd) (lot : List Int) : Prop := ∀ z ∈ lot, ∃ y, IsLn B y ∧ y ∉ lot ∧ Beats B lot z y
theorem Beats.more {B : Bd} {lot lot' : List Int} {l o : Int} (h : Beats B lot l o) (k : ∀ x ∈ lot, x ∈ lot') : Beats B lot' l o := ⟨h.1, fun x hx hn => h.2 x hx fun z => hn (k x z)⟩
theorem opp_same {B : Bd} {l o x : Int} (h : l < hi B ↔ o < hi B) (k : Opp B l x) : Opp B o x := ⟨k.1, fun z => k.2 (h.trans z)⟩
theorem Beats.trans {B : Bd} {lot : List Int} {l o p : Int} (h : Beats B lot l o) (k : Beats B lot o p) : Beats B lot l p := ⟨h.1.trans k.1, fun x hx hn => Int.lt_trans (h.2 x hx hn) (k.2 x (opp_same h.1 hx) hn)⟩
theorem Inv8.strike {B : Bd} {lot lot' : List Int} {x o : Int} (h : Inv8 B lot) (hl : ∀ y, y ∈ lot' ↔ y ∈ lot ∨ y = x) (ho : IsLn B o ∧ o ∉ lot ∧ o ≠ x ∧ Beats B lot x o) : Inv8 B lot' := by
  obtain ⟨o1, o2, o3, o4⟩ := ho
  have sub : ∀ y ∈ lot, y ∈ lot' := fun y hy => (hl y).mpr (.inl hy)
  have on : o ∉ lot' := fun z => by
    rcases (hl o).mp z with q | q
    · exact o2 q
    · exact o3 q
  intro z hz
  rcases (hl z).mp hz with q | q
  · obtain ⟨y, y1, y2, y3⟩ := h z q
    by_cases e : y = x
    · rw [e] at y3
      exact ⟨o, o1, on, (y3.trans o4).more sub⟩
    · exact ⟨y, y1, fun w => by
        rcases (hl y).mp w with r | r
        · exact y2 r
        · exact e r, y3.more sub⟩
  · rw [q]
    exact ⟨o, o1, on, o4.more sub⟩
theorem inv8_rows {B : Bd} (g : Good B) {lot : List Int} (h : Inv8 B lot) : rowsL B lot ≠ [] := by
  have n1 := g.n1
  by_cases q : (0 : Int) ∈ lot
  · obtain ⟨y, y1, y2, y3⟩ := h 0 q
    exact List.ne_nil_of_mem (mem_rows.mpr ⟨⟨y1.1, y3.1.mp (by omega)⟩, y2⟩)
  · exact List.ne_nil_of_mem (mem_rows.mpr ⟨⟨Int.le_refl 0, by omega⟩, q⟩)
theorem inv8_cols {B : Bd} (g : Good B) {lot : List Int} (h : Inv8 B lot) : colsL B lot ≠ [] := by
  have m1 := g.m1
  by_cases q : (hi B : Int) ∈ lot
  · obtain ⟨y, y1, y2, y3⟩ := h _ q
    refine List.ne_nil_of_mem (mem_cols.mpr ⟨⟨?_, y1.2⟩, y2⟩)
    by_cases w : y < hi B
    · exact absurd (y3.1.mpr w) (by omega)
    · omega
  · exact List.ne_nil_of_mem (mem_cols.mpr ⟨⟨Int.le_refl _, by omega⟩, q⟩)
theorem inv8_opp {B : Bd} (g : Good B) {lot : List Int} (h : Inv8 B lot) (l : Int) : ∃ x, Opp B l x ∧ x ∉ lot := by
  have hne : (if l < hi B then colsL B lot else rowsL B lot) ≠ [] := by
    split
    · exact inv8_cols g h
    · exact inv8_rows g h
  obtain ⟨x, hx⟩ := List.exists_mem_of_ne_nil _ hne
  exact ⟨x, (opp_mem g lot l x).mp hx⟩
/-- one strike or none -/
def Step8 (B : Bd) (s t : List Int) : Prop := (∀ y, y ∈ t ↔ y ∈ s) ∨ ∃ x, x ∈ readyL B s ∧ ∀ y, y ∈ t ↔ y ∈ s ∨ y = x
theorem inv8_step {B : Bd} (g : Good B) {s t : List Int} (h : Inv8 B s) (k : Step8 B s t) : Inv8 B t := by
  rcases k with k | ⟨x, hx, k⟩
  · intro z hz
    obtain ⟨y, y1, y2, y3⟩ := h z ((k z).mp hz)
    exact ⟨y, y1, fun w => y2 ((k y).mp w), y3.more fun x hx => (k x).mpr hx⟩
  · obtain ⟨_, _, hf⟩ := mem_ready.mp hx
    obtain ⟨o, ho⟩ := (fall_iff g s x).mp hf
    exact h.strike k ho
theorem inv8_nil (B : Bd) : Inv8 B [] := fun z hz => absurd hz List.not_mem_nil
/-- whatever is struck on one way is struck where nothing can fall any more -/
theorem step8_in {B : Bd} (g : Good B) {s t e : List Int} (he : Inv8 B e) (hs : readyL B e = []) (h : ∀ y ∈ s, y ∈ e) (k : Step8 B s t) : ∀ y ∈ t, y ∈ e := by
  rcases k with k | ⟨x, hx, k⟩
  · exact fun y hy => h y ((k y).mp hy)
  · intro y hy
    rcases (k y).mp hy with q | q
    · exact h y q
    · subst q
      obtain ⟨hl, hn, hf⟩ := mem_ready.mp hx
      obtain ⟨o, o1, o2, o3, o4⟩ := (fall_iff g s y).mp hf
      by_cases hy2 : y ∈ e
      · exact hy2
      · exfalso
        have ob := o4.more h
        have bad : ∀ z, IsLn B z → z ∉ e → Beats B e y z → False := fun z z1 z2 z3 => by
          have hz : z ≠ y := fun w => by
            obtain ⟨c, c1, c2⟩ := inv8_opp g he y
            have := z3.2 c c1 c2
            rw [w] at this
            exact absurd this (Int.lt_irrefl _)
          have : y ∈ readyL B e := mem_ready.mpr ⟨hl, hy2, (fall_iff g e y).mpr ⟨z, z1, z2, hz, z3⟩⟩
          rw [hs] at this
          exact List.not_mem_nil this
        by_cases hoe : o ∈ e
        · obtain ⟨z, z1, z2, z3⟩ := he o hoe
          exact bad z z1 z2 (ob.trans z3)
        · exact bad o o1 hoe ob
theorem mem_with {lot : List Int} {l y : Int} : y ∈ withL lot l ↔ y ∈ lot ∨ y = l := by
  unfold withL
  rw [mem_isort, List.mem_append, List.mem_singleton]
theorem clo_step8 (B : Bd) (i : Nat) : Step8 B (cloAt B i).1 (cloAt B (i + 1)).1 := by
  cases e : readyL B (cloAt B i).1 with
  | nil =>
    have := clo_stuck e 1
    rw [this]
    exact .inl fun y => Iff.rfl
  | cons x r =>
    rw [clo_step e]
    exact .inr ⟨x, by rw [e]; exact List.mem_cons_self, fun y => mem_with⟩
theorem clo_inv8 {B : Bd} (g : Good B) : ∀ i, Inv8 B (cloAt B i).1
  | 0 => inv8_nil B
  | i + 1 => inv8_step g (clo_inv8 g i) (clo_step8 B i)
theorem clo_end {B : Bd} (g : Good B) : readyL B (cloAt B 12).1 = [] := by
  obtain ⟨n, h1, h2, h3, h4⟩ := clo_stops g
  rw [h4]
  exact h2
theorem mem_last {B : Bd} {x : Int} : x ∈ lastL B ↔ x ∈ (cloAt B 12).1 := by
  unfold lastL
  rw [mem_isort, (clo_inv B 12).1.mem_iff]
theorem ready_same {B : Bd} (g : Good B) {s t : List Int} (h : ∀ y, y ∈ s ↔ y ∈ t) : readyL B s = readyL B t := by
  unfold readyL
  refine List.filter_congr fun x _ => ?_
  have e1 : decide (x ∈ s) = decide (x ∈ t) := decide_eq_decide.mpr (h x)
  have e2 : fallL B s x = fallL B t x := by
    rw [Bool.eq_iff_iff, fall_iff g, fall_iff g]
    constructor
    · rintro ⟨o, o1, o2, o3, o4⟩
      exact ⟨o, o1, fun z => o2 ((h o).mpr z), o3, o4.more fun x hx => (h x).mp hx⟩
    · rintro ⟨o, o1, o2, o3, o4⟩
      exact ⟨o, o1, fun z => o2 ((h o).mp z), o3, o4.more fun x hx => (h x).mpr hx⟩
  rw [e1, e2]
theorem rows_same {B : Bd} {s t : List Int} (h : ∀ y, y ∈ s ↔ y ∈ t) : rowsL B s = rowsL B t := by
  unfold rowsL
  refine List.filter_congr fun x _ => ?_
  rw [decide_eq_decide.mpr (h x)]
theorem cols_same {B : Bd} {s t : List Int} (h : ∀ y, y ∈ s ↔ y ∈ t) : colsL B s = colsL B t := by
  unfold colsL
  refine List.filter_congr fun x _ => ?_
  rw [decide_eq_decide.mpr (h x)]
theorem last_inv8 {B : Bd} (g : Good B) : Inv8 B (lastL B) := inv8_step g (clo_inv8 g 12) (.inl fun y => mem_last)
theorem last_rows {B : Bd} (g : Good B) : rowsL B (lastL B) ≠ [] := inv8_rows g (last_inv8 g)
theorem last_cols {B : Bd} (g : Good B) : colsL B (lastL B) ≠ [] := inv8_cols g (last_inv8 g)
theorem last_len {B : Bd} (g : Good B) : (lastL B).length ≤ 12 := by
  unfold lastL
  rw [(isort_perm _).length_eq, ← (clo_inv B 12).1.length_eq]
  exact (clo_inv B 12).2.2.2
/-! the law's own way: the last line that can fall -/
def lawStep (B : Bd) (lot : List Int) : List Int :=
  match readyL B lot with
  | [] => lot
  | x :: r => withL lot ((x :: r).getLastD 0)
def lawAt (B : Bd) : Nat → List Int
  | 0 => []
  | k + 1 => lawStep B (lawAt B k)
theorem law_step {B : Bd} {i : Nat} (h : readyL B (lawAt B i) ≠ []) : lawAt B (i + 1) = withL (lawAt B i) ((readyL B (lawAt B i)).getLastD 0) := by
  show lawStep B (lawAt B i) = _
  unfold lawStep
  cases e : readyL B (lawAt B i) with
  | nil => exact absurd e h
  | cons x r => rfl
theorem law_stuck {B : Bd} {n : Nat} (h : readyL B (lawAt B n) = []) : ∀ k, lawAt B (n + k) = lawAt B n
  | 0 => rfl
  | k + 1 => by
    have ih := law_stuck h k
    show lawStep B (lawAt B (n + k)) = lawAt B n
    rw [ih]
    unfold lawStep
    rw [h]
theorem getLastD_mem {l : List Int} (h : l ≠ []) : l.getLastD 0 ∈ l := by
  cases l with
  | nil => exact absurd rfl h
  | cons a r =>
    have e : (a :: r).getLastD 0 = (a :: r).getLast h := by simp [List.getLastD_eq_getLast?, List.getLast?_eq_some_getLast]
    rw [e]
    exact List.getLast_mem h
theorem law_step8 (B : Bd) (i : Nat) : Step8 B (lawAt B i) (lawAt B (i + 1)) := by
  by_cases e : readyL B (lawAt B i) = []
  · have := law_stuck e 1
    rw [this]
    exact .inl fun y => Iff.rfl
  · rw [law_step e]
    exact .inr ⟨_, getLastD_mem e, fun y => mem_with⟩
theorem law_inv8 {B : Bd} (g : Good B) : ∀ i, Inv8 B (lawAt B i)
  | 0 => inv8_nil B
  | i + 1 => inv8_step g (law_inv8 g i) (law_step8 B i)
theorem law_nd (B : Bd) : ∀ i, (lawAt B i).Nodup ∧ (∀ x ∈ lawAt B i, x ∈ linesL B)
  | 0 => ⟨List.nodup_nil, fun x h => absurd h List.not_mem_nil⟩
  | i + 1 => by
    obtain ⟨h1, h2⟩ := law_nd B i
    by_cases e : readyL B (lawAt B i) = []
    · have := law_stuck e 1
      rw [this]
      exact ⟨h1, h2⟩
    · rw [law_step e]
      have hx := mem_ready.mp (getLastD_mem e)
      have p := isort_perm (lawAt B i ++ [(readyL B (lawAt B i)).getLastD 0])
      refine ⟨p.nodup_iff.mpr ?_, fun y hy => ?_⟩
      · rw [List.nodup_append]
        exact ⟨h1, by simp, fun a ha b hb z => hx.2.1 (by rw [← List.mem_singleton.mp hb, ← z]; exact ha)⟩
      · rcases mem_with.mp hy with q | q
        · exact h2 y q
        · rw [q]
          unfold linesL
          exact mem_rangeI.mpr hx.1
theorem law_len {B : Bd} (g : Good B) (i : Nat) : (lawAt B i).length ≤ 12 := Nat.le_trans (nodup_le (law_nd B i).1 (law_nd B i).2) (lines_12 g)
theorem law_end {B : Bd} (g : Good B) : readyL B (lawAt B 12) = [] := by
  obtain ⟨n, h1, h2, h3⟩ := stops g (fun i => lawAt B i) (fun i => (law_nd B i).1) (fun i => (law_nd B i).2) fun i h => by
    show (lawAt B i).length < (lawAt B (i + 1)).length
    rw [law_step h]
    show _ < (isort (lawAt B i ++ [_])).length
    rw [(isort_perm _).length_eq, List.length_append]
    exact Nat.lt_succ_self _
  have := law_stuck h2 (12 - n)
  rw [Nat.add_sub_cancel' h1] at this
  rw [this]
  exact h2
/-- both ways end at the same lines -/
theorem ends_same {B : Bd} (g : Good B) (y : Int) : y ∈ lawAt B 12 ↔ y ∈ lastL B := by
  rw [mem_last]
  constructor
  · have : ∀ i, ∀ y ∈ lawAt B i, y ∈ (cloAt B 12).1 := fun i => by
      induction i with
      | zero => exact fun y hy => absurd hy List.not_mem_nil
      | succ i ih => exact step8_in g (clo_inv8 g 12) (clo_end g) ih (law_step8 B i)
    exact this 12 y
  · have : ∀ i, ∀ y ∈ (cloAt B i).1, y ∈ lawAt B 12 := fun i => by
      induction i with
      | zero => exact fun y hy => absurd hy List.not_mem_nil
      | succ i ih => exact step8_in g (law_inv8 g 12) (law_end g) ih (clo_step8 B i)
    exact this 12 y
end K8
set_option maxHeartbeats 1000000
namespace K8
open PySem PySem.Spec PyProof.Rows L2
local macro_rules | `(tactic| walk_at "envle") => `(tactic| (repeat (first | exact EnvLe.nil | apply EnvLe.keep | apply EnvLe.skip)))
section
variable {P : Program} {w : World} {K : PySem.W.Frag} {mg : Str → Option Value} {base : Heap} {f : Addr} {fd : FuncData} {C : Addr}
def cornD (p : (Int × Int) × (Int × Int)) : PyData := .tuple [pairD p.1, pairD p.2]
theorem ok_corners (D : DefAt K mg "corners_left" s_corners_left f fd) (T : Txt mg) (GN : FnD P w K mg base 5 "need_rising" ["board"] (R_up fun _ => .none)) (GL : FnD P w K mg base 3 "left_of" ["board", "lot"] R_left) (GE : FnD P w K mg base 8 "last_of" ["board"] R_last) : FnD P w K mg base 9 "corners_left" ["board"] (R_up fun B => cornD (cornersL B)) := by
  refine fn_ret D.F sc_corners_left D.hm (D.F.binds fun _ _ _ _ _ _ us hl => match us, hl with | [_], _ => rfl) ?_ ?_
  · rintro ds d ⟨B, _, _, rfl, rfl⟩
    rfl
  · rintro f cdv A outer s H E hr ds d ⟨B, g, hu, rfl, rfl⟩
    have ll := last_len g
    have rn := last_rows g
    have cn := last_cols g
    refine bl_expr (dv_call GN hr (by decide) (av1 (dv_name 0)) ⟨B, g, hu, rfl, rfl⟩) ?_
    refine bl_two 1 2 rfl sc_corners_left.nd (dv_call GL hr (by decide) (av2 (dv_name 0) (dv_call GE hr (by decide) (av1 (dv_name 0)) ⟨B, g, rfl, rfl⟩)) ⟨B, lastL B, g, by omega, rfl, rfl⟩) ?_
    refine bl_set 3 sc_corners_left.nd (dv_hi (B := B) T.len (dv_name 0)) ?_
    exact bl_ret (dv_tup (av2 (dv_tup (av2 (dv_ixT (xs := (rowsL B (lastL B)).map .int) (dv_name 1) dv_int (atI_head rn)) (dv_sub (dv_ixT (xs := (colsL B (lastL B)).map .int) (dv_name 2) dv_int (atI_head cn)) (dv_name 3))) (by simp))
      (dv_tup (av2 (dv_ixT (xs := (rowsL B (lastL B)).map .int) (dv_name 1) (dv_neg dv_int) (atI_tail rn)) (dv_sub (dv_ixT (xs := (colsL B (lastL B)).map .int) (dv_name 2) (dv_neg dv_int) (atI_tail cn)) (dv_name 3))) (by simp))) (by simp))
theorem nil_rows {B : Bd} (g : Good B) : rowsL B [] ≠ [] := inv8_rows g (inv8_nil B)
theorem nil_cols {B : Bd} (g : Good B) : colsL B [] ≠ [] := inv8_cols g (inv8_nil B)
theorem ok_count (D : DefAt K mg "count_rising" s_count_rising f fd) (T : Txt mg) (GN : FnD P w K mg base 5 "need_rising" ["board"] (R_up fun _ => .none)) (GB : FnD P w K mg base 5 "bests_of" ["board", "lot"] (R_bests fun B lot => .list ((bestsL B lot).map pairD))) : FnD P w K mg base 6 "count_rising" ["board"] (R_up fun B => .int ((bestsL B []).length : Int)) := by
  refine fn_ret D.F sc_count_rising D.hm (D.F.binds fun _ _ _ _ _ _ us hl => match us, hl with | [_], _ => rfl) ?_ ?_
  · rintro ds d ⟨B, _, _, rfl, rfl⟩
    rfl
  · rintro f cdv A outer s H E hr ds d ⟨B, g, hu, rfl, rfl⟩
    refine bl_expr (dv_call GN hr (by decide) (av1 (dv_name 0)) ⟨B, g, hu, rfl, rfl⟩) ?_
    exact bl_ret (dv_is (dv_lenL (xs := (bestsL B []).map pairD) T.len (dv_call GB hr (by decide) (av2 (dv_name 0) (dv_tup (xs := ([] : List Int).map .int) av_nil (by simp))) ⟨B, [], g, by simp, nil_rows g, nil_cols g, rfl, rfl⟩)) (by rw [List.length_map]))
def R_effort (ds : List PyData) (d : PyData) : Prop := ∃ p : Int × Int, ds = [pairD p] ∧ (0 ≤ p.1 ∧ p.1 ≤ 30 ∧ 0 ≤ p.2 ∧ p.2 ≤ 30) ∧ d = .none
theorem ok_need_effort (D : DefAt K mg "need_effort" s_need_effort f fd) (T : Txt mg) (G : FnD P w K mg base 2 "is_from" ["value", "least", "most"] R_is_from) : FnD P w K mg base 3 "need_effort" ["value"] R_effort := by
  refine fn_non D.F sc_need_effort D.hm (D.F.binds fun _ _ _ _ _ _ us hl => match us, hl with | [_], _ => rfl) ?_ ?_ ?_
  · rintro ds d ⟨p, rfl, _, rfl⟩
    rfl
  · rintro ds d ⟨p, rfl, _, rfl⟩
    rfl
  · rintro f cdv A outer s H E hr ds d ⟨⟨a, b⟩, rfl, hp, rfl⟩
    have e : ([a, b].map fun i => decide (0 ≤ i) && decide (i ≤ 30)).all id = true := by
      show ((decide (0 ≤ a) && decide (a ≤ 30)) && ((decide (0 ≤ b) && decide (b ≤ 30)) && true)) = true
      rw [decide_eq_true hp.1, decide_eq_true hp.2.1, decide_eq_true hp.2.2.1, decide_eq_true hp.2.2.2]
      rfl
    refine ⟨_, bl_ifno (tv_is (tv_pv (pv_or (p := false) (q := false) (tv_not (p := true) (tv_val (dv_isi (dv_name 0) (by exact kb_tup_tup) bt_tuple T.isinstance T.tuple))) fun _ => pv_or (p := false) (q := false) (tv_is (tv_neI (dv_lenT (xs := [.int a, .int b]) T.len (dv_name 0)) dv_int) rfl) fun _ => pv_or1 (tv_is (tv_not (p := true) (tv_val (dv_is (dv_cb (cr_all rfl) bt_all (rc_all (bs := [a, b].map fun i => decide (0 ≤ i) && decide (i ≤ 30))) T.all (av1 (dv_is (dv_lc0 (own := [("one", 1)]) (as := [a, b]) rfl sc_need_effort.nd (pi_tup pe_w) (blkOk_by (N := N_need_effort) (sc := defScope s_need_effort) (by decide +kernel)) (fun _ _ _ _ _ => pg_name (i := 1) sc_need_effort.nd rfl (Or.inl rfl)) (src_tup (f := .int) 1 (dv_name 0)) (by decide) (fun i => .bool (decide (0 ≤ i) && decide (i ≤ 30))) (by simp)
      fun s H C cl fp i hi => dv_call G hr (by decide) (av_cons (dv_name 1) (av2 dv_int dv_int)) ⟨i, 0, 30, rfl, rfl⟩) rfl))) (by rw [e])))) rfl))) rfl) bl_nil⟩
theorem dv_pow {ρ : Rho} {X : Cx} {ds : DEnv} {a b : Expr} {i j : Int} {pos : Pos} (ha : Dv ρ X ds a (.int i)) (hb : Dv ρ X ds b (.int j)) (h : CPow i j) : Dv ρ X ds (.BinOp a .Pow b pos) (.int (i ^ j.toNat)) := dv_of (pe_op op_pow pe_w pe_w) (ed_op ha hb (rv_intC h fun _ => .int _))
theorem cpow60 : CPow 10 60 := ⟨by decide, by decide, by decide⟩
theorem int_pos {p : Prop} [Decidable p] {a b : Int} (h : p) : PyData.int a = PyData.int (if p then a else b) := by rw [if_pos h]
theorem int_neg {p : Prop} [Decidable p] {a b : Int} (h : ¬ p) : PyData.int b = PyData.int (if p then a else b) := by rw [if_neg h]
def R_weak (v : Int → Int → Int → PyData) (ds : List PyData) (d : PyData) : Prop := ∃ g c n : Int, (0 ≤ g ∧ g ≤ 30) ∧ (0 ≤ c ∧ c ≤ 30) ∧ (1 ≤ n ∧ n ≤ 6) ∧ ds = [pairD (g, c), .int n] ∧ d = v g c n
theorem ok_weak_last (D : DefAt K mg "weakest_last" s_weakest_last f fd) (T : Txt mg) (GE : FnD P w K mg base 3 "need_effort" ["value"] R_effort) (GF : FnD P w K mg base 3 "need_from" ["value", "least", "most"] R_need_from) : FnD P w K mg base 4 "weakest_last" ["effort", "many"] (R_weak fun g c n => .int (if g < c then 1 else n)) := by
  refine fn_ret D.F sc_weakest_last D.hm (D.F.binds fun _ _ _ _ _ _ us hl => match us, hl with | [_, _], _ => rfl) ?_ ?_
  · rintro ds d ⟨g, c, n, _, _, _, rfl, rfl⟩
    rfl
  · rintro f cdv A outer s H E hr ds d ⟨g, c, n, hg, hc, hn, rfl, rfl⟩
    refine bl_expr (dv_call GE hr (by decide) (av1 (dv_name 0)) ⟨(g, c), rfl, ⟨hg.1, hg.2, hc.1, hc.2⟩, rfl⟩) ?_
    refine bl_expr (dv_call GF hr (by decide) (av_cons (dv_name 1) (av2 dv_int (dv_pow dv_int dv_int cpow60))) ⟨n, 1, 10 ^ 60, rfl, hn.1, by omega, rfl⟩) ?_
    refine bl_two 2 3 rfl sc_weakest_last.nd (dv_name 0) ?_
    refine bl_ret (dv_if (p := decide (g < c)) (tv_gt (dv_name 3) (dv_name 2)) (fun hp => ?_) fun hp => ?_)
    · exact dv_is dv_int (int_pos (of_decide_eq_true hp))
    · exact dv_is (dv_name 1) (int_neg (of_decide_eq_false hp))
theorem ok_weak_rounds (D : DefAt K mg "weakest_rounds" s_weakest_rounds f fd) (T : Txt mg) (GE : FnD P w K mg base 3 "need_effort" ["value"] R_effort) (GF : FnD P w K mg base 3 "need_from" ["value", "least", "most"] R_need_from) : FnD P w K mg base 4 "weakest_rounds" ["effort", "many"] (R_weak fun g c n => .int (if (decide (g < c) && decide (1 < n)) = true then 1 else 0)) := by
  refine fn_ret D.F sc_weakest_rounds D.hm (D.F.binds fun _ _ _ _ _ _ us hl => match us, hl with | [_, _], _ => rfl) ?_ ?_
  · rintro ds d ⟨g, c, n, _, _, _, rfl, rfl⟩
    rfl
  · rintro f cdv A outer s H E hr ds d ⟨g, c, n, hg, hc, hn, rfl, rfl⟩
    refine bl_expr (dv_call GE hr (by decide) (av1 (dv_name 0)) ⟨(g, c), rfl, ⟨hg.1, hg.2, hc.1, hc.2⟩, rfl⟩) ?_
    refine bl_expr (dv_call GF hr (by decide) (av_cons (dv_name 1) (av2 dv_int (dv_pow dv_int dv_int cpow60))) ⟨n, 1, 10 ^ 60, rfl, hn.1, by omega, rfl⟩) ?_
    refine bl_two 2 3 rfl sc_weakest_rounds.nd (dv_name 0) ?_
    refine bl_ret (dv_if (p := decide (g < c) && decide (1 < n)) (tv_pv (pv_and (tv_gt (dv_name 3) (dv_name 2)) fun _ => pv_and1 (tv_gt (dv_name 1) dv_int))) (fun hp => ?_) fun hp => ?_)
    · exact dv_is dv_int (int_pos hp)
    · exact dv_is dv_int (int_neg (by rw [hp]; decide))
theorem ok_weak_bests (D : DefAt K mg "weakest_bests" s_weakest_bests f fd) (T : Txt mg) (GE : FnD P w K mg base 3 "need_effort" ["value"] R_effort) (GF : FnD P w K mg base 3 "need_from" ["value", "least", "most"] R_need_from) : FnD P w K mg base 4 "weakest_bests" ["effort", "many"] (R_weak fun g c n => .int (if (decide (c = 0) && decide (g = 0)) = true then n * n else if g < c then 1 else n)) := by
  refine fn_ret D.F sc_weakest_bests D.hm (D.F.binds fun _ _ _ _ _ _ us hl => match us, hl with | [_, _], _ => rfl) ?_ ?_
  · rintro ds d ⟨g, c, n, _, _, _, rfl, rfl⟩
    rfl
  · rintro f cdv A outer s H E hr ds d ⟨g, c, n, hg, hc, hn, rfl, rfl⟩
    refine bl_expr (dv_call GE hr (by decide) (av1 (dv_name 0)) ⟨(g, c), rfl, ⟨hg.1, hg.2, hc.1, hc.2⟩, rfl⟩) ?_
    refine bl_expr (dv_call GF hr (by decide) (av_cons (dv_name 1) (av2 dv_int (dv_pow dv_int dv_int cpow60))) ⟨n, 1, 10 ^ 60, rfl, hn.1, by omega, rfl⟩) ?_
    refine bl_two 2 3 rfl sc_weakest_bests.nd (dv_name 0) ?_
    refine bl_ifor (p := decide (c = 0) && decide (g = 0)) (tv_pv (pv_and (tv_eqI (dv_name 3) dv_int) fun _ => pv_and1 (tv_eqI (dv_name 2) dv_int))) (fun hp => ?_) fun hp => ?_
    · refine bl_ret ?_
      show Dv _ _ _ _ (PyData.int (if (decide (c = 0) && decide (g = 0)) = true then n * n else if g < c then 1 else n))
      rw [if_pos hp]
      exact dv_mul (dv_name 1) (dv_name 1) (by omega)
    · show Bl _ _ _ _ (.ret (PyData.int (if (decide (c = 0) && decide (g = 0)) = true then n * n else if g < c then 1 else n)))
      rw [if_neg (by rw [hp]; decide)]
      refine bl_ret (dv_if (p := decide (g < c)) (tv_gt (dv_name 3) (dv_name 2)) (fun hp => ?_) fun hp => ?_)
      · exact dv_is dv_int (int_pos (of_decide_eq_true hp))
      · exact dv_is (dv_name 1) (int_neg (of_decide_eq_false hp))
end
end K8
set_option maxHeartbeats 1000000
namespace K8
open PySem PySem.Spec PyProof.Rows L2
local macro_rules | `(tactic| walk_at "envle") => `(tactic| (repeat (first | exact EnvLe.nil | apply EnvLe.keep | apply EnvLe.skip)))
section
variable {P : Program} {w : World} {K : PySem.W.Frag} {mg : Str → Option Value} {base : Heap} {f : Addr} {fd : FuncData} {C : Addr}
def weakRow (g c n i : Int) : List (Int × Int) := (rangeI n).map fun j => (g * (if j < i then j else i) - c * i, g * (if j < i then j else i) - c * j)
theorem take_succ_map {α β : Type} {l : List α} {f : α → β} {i : Nat} {a : α} (h : l[i]? = some a) : (l.take (i + 1)).map f = (l.take i).map f ++ [f a] := by
  rw [List.take_add_one, h, List.map_append]
  rfl
theorem ok_weak_board (D : DefAt K mg "weakest_board" s_weakest_board f fd) (T : Txt mg) (GE : FnD P w K mg base 3 "need_effort" ["value"] R_effort) (GF : FnD P w K mg base 3 "need_from" ["value", "least", "most"] R_need_from) : FnD P w K mg base 4 "weakest_board" ["effort", "many"] (R_weak fun g c n => bd (weakB g c n)) := by
  refine fn_ret D.F sc_weakest_board D.hm (D.F.binds fun _ _ _ _ _ _ us hl => match us, hl with | [_, _], _ => rfl) ?_ ?_
  · rintro ds d ⟨g, c, n, _, _, _, rfl, rfl⟩
    rfl
  · rintro f cdv A outer s H E hr ds d ⟨g, c, n, hg, hc, hn, rfl, rfl⟩
    obtain ⟨t, hv⟩ := T.side
    have ln : (rangeI n).length ≤ 6 := by rw [rangeI_len]; omega
    refine bl_expr (dv_call GE hr (by decide) (av1 (dv_name 0)) ⟨(g, c), rfl, ⟨hg.1, hg.2, hc.1, hc.2⟩, rfl⟩) ?_
    refine bl_expr (dv_call GF hr (by decide) (av_cons (dv_name 1) (av2 dv_int (dv_glob hv ⟨t, rfl⟩))) ⟨n, 1, 6, rfl, hn.1, hn.2, rfl⟩) ?_
    refine bl_two 2 3 rfl sc_weakest_board.nd (dv_name 0) ?_
    refine bl_own 4 sc_weakest_board.nd (fun _ => ?_) (fun k ys h => ?_) (hii := by simp [startE])
    · refine bl_each (fun i => [some (.d (pairD (g, c))), some (.d (.int n)), some (.d (.int g)), some (.d (.int c)), some (.own (((rangeI n).take i).map fun i => rowD (weakRow g c n i))), none, none]) PassesOwn.never rfl (pi_range1 (by rfl) T.range pa_w) (pg_name (i := 5) sc_weakest_board.nd rfl (Or.inr rfl)) (src_rng 5 (av1 (dv_name 1)) (by omega) (by omega)) (fun i a hi => ?_) ?_
      · have ha := mem_rangeI.mp (List.mem_of_getElem? hi)
        refine bl_append 4 (d := rowD (weakRow g c n a)) (dv_is (dv_ct call_tuple_of bt_tuple rc_tupL T.tuple (av1 (dv_lc0 (own := [("at", 6)]) (as := rangeI n) rfl sc_weakest_board.nd (pi_range1 (by rfl) T.range pa_w) (blkOk_by (N := N_weakest_board) (sc := defScope s_weakest_board) (by decide +kernel)) (fun _ _ _ _ _ => pg_name (i := 6) sc_weakest_board.nd rfl (Or.inl rfl))
          (src_rng 6 (av1 (dv_name 1)) (by omega) (by omega)) (by decide) (fun j => pairD (g * (if j < a then j else a) - c * a, g * (if j < a then j else a) - c * j)) (by omega)
          fun s H C cl fp j hj => dv_tup (av2 (dv_sub (dv_mul (dv_name 2) (dv_cb (call_min2 rfl) bt_min rc_min T.min (av2 (dv_name 5) (dv_name 6))) (by omega)) (dv_mul (dv_name 3) (dv_name 5) (by omega))) (dv_sub (dv_mul (dv_name 2) (dv_cb (call_min2 rfl) bt_min rc_min T.min (av2 (dv_name 5) (dv_name 6))) (by omega)) (dv_mul (dv_name 3) (dv_name 6) (by omega)))) (by simp)))) ?_) rfl (by rw [List.length_map, List.length_take]; omega) ?_ (hh := fun hx he => pe_bm PySem.F.plainAttrs_list PySem.F.slot_list_append PySem.F.type_list_append mt_append hx (pa_cons he pa_nil))
        · show _ = PyData.tuple (((rangeI n).map fun j => (g * (if j < a then j else a) - c * a, g * (if j < a then j else a) - c * j)).map pairD)
          rw [List.map_map]
          rfl
        · rw [take_succ_map hi]
          exact bl_out (by walk_at "envle") bl_nil
      · refine bl_known 4 rfl (bl_ret (dv_is (dv_ct call_tuple_of bt_tuple rc_tupL T.tuple (av1 (dv_name 4))) ?_))
        rw [List.take_length]
        show _ = PyData.tuple (((rangeI n).map fun i => weakRow g c n i).map rowD)
        rw [List.map_map]
        rfl
    · match k, h with
      | 0, h => cases h
      | 1, h => cases h
      | 2, h => cases h
      | 3, h => cases h
      | 4, _ => rfl
      | 5, h => cases h
      | 6, h => cases h
      | k + 7, h => simp [startE] at h
end
end K8
set_option maxHeartbeats 1000000
namespace K8
open PySem PySem.Spec PyProof.Rows L2
section
variable {ρ : Rho} {X : Cx} {ds : DEnv} {a b c e : Expr} {x y : PyData} {pos : Pos} {p : Bool}
/-- isinstance(x, (T, U)) -/
theorem dv_isi2 {c1 c2 : String} {n1 n2 : Str} {kt : Nat} {p1 p2 p3 p4 : Pos} (ha : Dv ρ X ds a x) (h : ∀ K : PySem.W.Frag, PySem.W.kitAny K (.type (tyD x)) [.type c1, .type c2] = some p) (hv1 : bootBuiltins n1 = some (.type c1)) (hv2 : bootBuiltins n2 = some (.type c2)) (hm : X.mg "isinstance" = none) (hm1 : X.mg n1 = none) (hm2 : X.mg n2 = none)
    (hg : Gl X "isinstance" := by rfl) (hg1 : Gl X n1 := by rfl) (hg2 : Gl X n2 := by rfl) (hn1 : n1 ≠ "__name__" := by decide) (hn2 : n2 ≠ "__name__" := by decide) (hdb1 : (n1 == ("__debug__" : Str)) = false := by decide) (hdb2 : (n2 == ("__debug__" : Str)) = false := by decide)
    (he : starEach (a :: Expr.Tuple [.Name n1 p1, .Name n2 p2] kt p3 :: []) X.env = (false, eval a X.env) :: starEach (Expr.Tuple [.Name n1 p1, .Name n2 p2] kt p3 :: []) X.env := by rfl)
    (he2 : starEach (Expr.Tuple [.Name n1 p1, .Name n2 p2] kt p3 :: []) X.env = (false, eval (.Tuple [.Name n1 p1, .Name n2 p2] kt p3) X.env) :: starEach [] X.env := by rfl)
    (he3 : starEach (Expr.Name n1 p1 :: Expr.Name n2 p2 :: []) X.env = (false, eval (.Name n1 p1) X.env) :: starEach (Expr.Name n2 p2 :: []) X.env := by rfl) (he4 : starEach (Expr.Name n2 p2 :: []) X.env = (false, eval (.Name n2 p2) X.env) :: starEach [] X.env := by rfl)
    (hpl : (backTo pos (starEach (Expr.Tuple [.Name n1 p1, .Name n2 p2] kt p3 :: []) X.env)).any (·.1) = false := by rfl) : Dv ρ X ds (.Call (.Name "isinstance" p4) [a, .Tuple [.Name n1 p1, .Name n2 p2] kt p3] [] pos) (.bool p) :=
  dv_of (pe_callB call_isiT hg hm PyProof.Rows.boot_isinstance (pa_cons pe_w (pa_cons (pe_tup (pa_cons (pe_bltn (v := .ty c1) hg1 hm1 hv1 rfl hn1 hdb1) (pa_cons (pe_bltn (v := .ty c2) hg2 hm2 hv2 rfl hn2 hdb2) pa_nil he4) he3)) pa_nil he2) he) (by decide) (by decide) he hpl) fun He σ H0 H S Q q => by
    refine ha He σ H0 H S _ fun v H1 H1' f1 d1 => ?_
    have S1 := S.fr f1
    refine ⟨Nat.le_trans (by decide : 2 ≤ 1000) (by decide), fun t ht => ?_⟩
    have n0 := same_new (o := HO.tup [V.ty c1, V.ty c2]) ht
    refine ⟨v, t, [.ty c1, .ty c2], .type (tyD x), [.type c1, .type c2], p, rfl, upd_same, .cons (.ty c1) (.cons (.ty c2) .nil), ty_of (dp_mono (S1.sub.trans n0) d1), h X.K, ?_⟩
    exact q _ H1 _ (f1.trans ⟨Same.refl _, S1.sub.trans n0, fun b o _ e => n0 b o e, fun b e _ => e, fun k => Rho.same k n0⟩ S.ok) (.bl _)
/-- x is None -/
theorem tv_isN {k : Nat} {p1 : Pos} (ha : Dv ρ X ds a x) (hx : x ≠ .none) : Tv ρ X ds (.Compare a [.Is] [.Constant .none k p1] pos) false :=
  tv_of (pt_cmpR op_isN pe_w pe_non (nomark _)) (et_test fun He σ H0 H S Q q => ha He σ H0 H S _ fun v H1 H1' f1 d1 => by
    refine ⟨rfl, ?_⟩
    have hv : v ≠ .non := fun z => by
      subst z
      cases d1
      exact hx rfl
    rw [decide_eq_false hv]
    exact q _ H1 H1' f1 (.bl _))
end
end K8
set_option maxHeartbeats 1000000
namespace K8
open PySem L2
/-! ### the law's own strikes -/
def lawOver (B : Bd) (lot : List Int) (l : Int) : List Int :=
  (if l < hi B then rowsL B lot else colsL B lot).filter fun o => decide (((rangeI ((numsL B lot l).length : Int)).filter fun a => decide ((numsL B lot o).getD a.toNat 0 ≤ (numsL B lot l).getD a.toNat 0)) = [])
def lawReady (B : Bd) (lot : List Int) : List Int := (rowsL B lot ++ colsL B lot).filter fun l => decide (lawOver B lot l ≠ [])
theorem nums_len_eq (B : Bd) (lot : List Int) (l : Int) : (numsL B lot l).length = (if l < hi B then colsL B lot else rowsL B lot).length := by rw [nums_map, List.length_map]
theorem over_beats {B : Bd} (g : Good B) {lot : List Int} {l o : Int} (hs : l < hi B ↔ o < hi B) : (((rangeI ((numsL B lot l).length : Int)).filter fun a => decide ((numsL B lot o).getD a.toNat 0 ≤ (numsL B lot l).getD a.toNat 0)) = []) ↔ Beats B lot l o := by
  have eo : (if o < hi B then colsL B lot else rowsL B lot) = (if l < hi B then colsL B lot else rowsL B lot) := by
    by_cases q : l < hi B
    · rw [if_pos q, if_pos (hs.mp q)]
    · rw [if_neg q, if_neg fun z => q (hs.mpr z)]
  have nl := nums_map B lot l
  have no := nums_map B lot o
  rw [eo] at no
  rw [List.filter_eq_nil_iff]
  constructor
  · intro h
    refine ⟨hs, fun x hx hn => ?_⟩
    have hm := (opp_mem g lot l x).mpr ⟨hx, hn⟩
    obtain ⟨i, hi'⟩ := List.mem_iff_getElem?.mp hm
    have hil : i < (if l < hi B then colsL B lot else rowsL B lot).length := (List.getElem?_eq_some_iff.mp hi').1
    have := h (i : Int) (mem_rangeI.mpr ⟨by omega, by rw [nums_len_eq]; omega⟩)
    have e1 : (numsL B lot l).getD (i : Int).toNat 0 = lval B l x := by
      rw [nl, List.getD_eq_getElem?_getD, List.getElem?_map]
      show (Option.map (lval B l) (_)[i]?).getD 0 = _
      rw [hi']
      rfl
    have e2 : (numsL B lot o).getD (i : Int).toNat 0 = lval B o x := by
      rw [no, List.getD_eq_getElem?_getD, List.getElem?_map]
      show (Option.map (lval B o) (_)[i]?).getD 0 = _
      rw [hi']
      rfl
    rw [e1, e2] at this
    simp at this
    exact this
  · rintro ⟨_, h⟩ a ha
    have ha' := mem_rangeI.mp ha
    rw [nums_len_eq] at ha'
    have hil : a.toNat < (if l < hi B then colsL B lot else rowsL B lot).length := by omega
    have hi' := List.getElem?_eq_getElem hil
    have hm := (opp_mem g lot l _).mp (List.getElem_mem hil)
    have e1 : (numsL B lot l).getD a.toNat 0 = lval B l (if l < hi B then colsL B lot else rowsL B lot)[a.toNat] := by
      rw [nl, List.getD_eq_getElem?_getD, List.getElem?_map, hi']
      rfl
    have e2 : (numsL B lot o).getD a.toNat 0 = lval B o (if l < hi B then colsL B lot else rowsL B lot)[a.toNat] := by
      rw [no, List.getD_eq_getElem?_getD, List.getElem?_map, hi']
      rfl
    have := h _ hm.1 hm.2
    rw [e1, e2]
    simp
    exact this
theorem mem_side {B : Bd} (g : Good B) (lot : List Int) (l x : Int) : x ∈ (if l < hi B then rowsL B lot else colsL B lot) ↔ IsLn B x ∧ (l < hi B ↔ x < hi B) ∧ x ∉ lot := by
  have n1 := g.n1
  have m1 := g.m1
  unfold IsLn
  by_cases h : l < hi B
  · rw [if_pos h, mem_rows]
    constructor
    · rintro ⟨⟨h1, h2⟩, h3⟩
      exact ⟨⟨h1, by omega⟩, ⟨fun _ => h2, fun _ => h⟩, h3⟩
    · rintro ⟨⟨h1, h2⟩, h3, h4⟩
      exact ⟨⟨h1, h3.mp h⟩, h4⟩
  · rw [if_neg h, mem_cols]
    constructor
    · rintro ⟨⟨h1, h2⟩, h3⟩
      exact ⟨⟨by omega, h2⟩, ⟨fun z => absurd z h, fun z => by omega⟩, h3⟩
    · rintro ⟨⟨h1, h2⟩, h3, h4⟩
      refine ⟨⟨?_, h2⟩, h4⟩
      by_cases q : x < hi B
      · exact absurd (h3.mpr q) h
      · omega
theorem over_ne {B : Bd} (g : Good B) {lot : List Int} (hv : Inv8 B lot) (l : Int) : lawOver B lot l ≠ [] ↔ fallL B lot l = true := by
  rw [fall_iff g]
  constructor
  · intro h
    obtain ⟨o, ho⟩ := List.exists_mem_of_ne_nil _ h
    obtain ⟨h1, h2⟩ := List.mem_filter.mp ho
    obtain ⟨h3, h4, h5⟩ := (mem_side g lot l o).mp h1
    have b := (over_beats g h4).mp (of_decide_eq_true h2)
    refine ⟨o, h3, h5, fun z => ?_, b⟩
    obtain ⟨c, c1, c2⟩ := inv8_opp g hv l
    have := b.2 c c1 c2
    rw [z] at this
    exact absurd this (Int.lt_irrefl _)
  · rintro ⟨o, h1, h2, h3, h4⟩
    refine List.ne_nil_of_mem (a := o) (List.mem_filter.mpr ⟨(mem_side g lot l o).mpr ⟨h1, h4.1, h2⟩, decide_eq_true ((over_beats g h4.1).mpr h4)⟩)
theorem range_split (n m : Int) (h0 : 0 ≤ n) (h1 : 0 ≤ m) : rangeI (n + m) = rangeI n ++ rangeF n (n + m) := by
  have e := drop_rangeI h0 h1
  have e2 : (rangeI (n + m)).take n.toNat = rangeI n := by
    unfold rangeI
    rw [← List.map_take, List.take_range]
    congr 2
    omega
  rw [← e, ← e2, List.take_append_drop]
theorem lines_split {B : Bd} (g : Good B) (lot : List Int) : (linesL B).filter (fun l => !decide (l ∈ lot)) = rowsL B lot ++ colsL B lot := by
  have := g.n1
  have := g.m1
  unfold linesL rowsL colsL
  rw [range_split _ _ (by omega) (by omega), List.filter_append]
theorem ready_law {B : Bd} (g : Good B) {lot : List Int} (hv : Inv8 B lot) : lawReady B lot = readyL B lot := by
  unfold lawReady readyL
  rw [← lines_split g, List.filter_filter]
  refine List.filter_congr fun l _ => ?_
  have e : decide (lawOver B lot l ≠ []) = fallL B lot l := by
    rw [Bool.eq_iff_iff, decide_eq_true_iff]
    exact over_ne g hv l
  rw [e, Bool.and_comm]
/-! best places are never struck -/
def IsBest (B : Bd) (r c : Int) : Prop := ((0 ≤ r ∧ r < hi B) ∧ 0 ≤ c ∧ c < wi B) ∧ (∀ r', 0 ≤ r' → r' < hi B → fs B r' c ≤ fs B r c) ∧ ∀ c', 0 ≤ c' → c' < wi B → sn B r c' ≤ sn B r c
theorem best_stays {B : Bd} (g : Good B) {r c : Int} (h : IsBest B r c) {s t : List Int} (hs : r ∉ s ∧ c + hi B ∉ s) (k : Step8 B s t) : r ∉ t ∧ c + hi B ∉ t := by
  obtain ⟨⟨⟨r0, r1⟩, c0, c1⟩, b1, b2⟩ := h
  rcases k with k | ⟨x, hx, k⟩
  · exact ⟨fun z => hs.1 ((k _).mp z), fun z => hs.2 ((k _).mp z)⟩
  · obtain ⟨hl, hn, hf⟩ := mem_ready.mp hx
    obtain ⟨o, o1, o2, o3, o4⟩ := (fall_iff g s x).mp hf
    refine ⟨fun z => ?_, fun z => ?_⟩
    · rcases (k _).mp z with q | q
      · exact hs.1 q
      · subst q
        have ho : o < hi B := o4.1.mp r1
        have := o4.2 (c + hi B) ⟨⟨by omega, by omega⟩, fun w => by have := w.mp r1; omega⟩ hs.2
        unfold lval at this
        rw [if_pos r1, if_pos ho] at this
        have e : c + hi B - hi B = c := by omega
        rw [e] at this
        have := b1 o o1.1 ho
        omega
    · rcases (k _).mp z with q | q
      · exact hs.2 q
      · subst q
        have hc : ¬ (c + hi B < hi B) := by omega
        have ho : ¬ o < hi B := fun w => hc (o4.1.mpr w)
        have := o4.2 r ⟨⟨r0, by omega⟩, fun w => hc (w.mpr r1)⟩ hs.1
        unfold lval at this
        rw [if_neg hc, if_neg ho] at this
        have e : c + hi B - hi B = c := by omega
        rw [e] at this
        have := b2 (o - hi B) (by omega) (by have := o1.2; omega)
        omega
theorem best_law {B : Bd} (g : Good B) {r c : Int} (h : IsBest B r c) : ∀ i, r ∉ lawAt B i ∧ c + hi B ∉ lawAt B i
  | 0 => ⟨List.not_mem_nil, List.not_mem_nil⟩
  | i + 1 => best_stays g h (best_law g h i) (law_step8 B i)
/-! the climb's end is a best place; all lie between the two -/
theorem climb_best {B : Bd} (g : Good B) (hr : risesL B = true) (h : Bool) : IsBest B (climbL B h).1 (climbL B h).2 := by
  obtain ⟨n, h1, h2, h3, h4⟩ := cl_stops g hr h
  have hin := clAt_in g h n
  have e : climbL B h = clStep B h (clAt B h n) := by rw [h2, h4]
  have e1 : (clAt B h n).1 = ansIn B (clAt B h n).2 true h := by
    have : (clStep B h (clAt B h n)).1 = (clAt B h n).1 := by rw [h2]
    exact this.symm
  have e2 : (clAt B h n).2 = ansIn B (clAt B h n).1 false h := by
    have : (clStep B h (clAt B h n)).2 = (clAt B h n).2 := by rw [h2]
    exact this.symm
  rw [h4]
  refine ⟨hin, fun r' r0 r1 => ?_, fun c' c0 c1 => ?_⟩
  · have := (ansIn_spec g (clAt B h n).2 true h).2.1 r' r0 r1
    rw [← e1] at this
    exact this
  · have := (ansIn_spec g (clAt B h n).1 false h).2.1 c' c0 c1
    rw [← e2] at this
    exact this
theorem climb_ends {B : Bd} (g : Good B) (hr : risesL B = true) (h : Bool) {r c : Int} (hb : IsBest B r c) : if h = true then r ≤ (climbL B h).1 ∧ c ≤ (climbL B h).2 else (climbL B h).1 ≤ r ∧ (climbL B h).2 ≤ c := by
  have sm := smod g hr
  obtain ⟨⟨⟨r0, r1⟩, c0, c1⟩, b1, b2⟩ := hb
  have key : ∀ k, if h = true then r ≤ (clAt B h k).1 ∧ c ≤ (clAt B h k).2 else (clAt B h k).1 ≤ r ∧ (clAt B h k).2 ≤ c := fun k => by
    induction k with
    | zero =>
      cases h
      · rw [if_neg (by decide)]
        exact ⟨r0, c0⟩
      · rw [if_pos rfl]
        refine ⟨?_, ?_⟩
        · show r ≤ hi B - 1
          omega
        · show c ≤ wi B - 1
          omega
    | succ k ih =>
      have hin := clAt_in g h k
      have s1 := (ansIn_spec g c true h).2.2 r r0 r1 b1
      have s2 := (ansIn_spec g r false h).2.2 c c0 c1 b2
      cases h
      · rw [if_neg (by decide)] at ih s1 s2 ⊢
        refine ⟨Int.le_trans (ans_mono g sm (ir := true) false hin.2.1 ih.2 c1) s1, Int.le_trans (ans_mono g sm (ir := false) false hin.1.1 ih.1 r1) s2⟩
      · rw [if_pos rfl] at ih s1 s2 ⊢
        refine ⟨Int.le_trans s1 (ans_mono g sm (ir := true) true c0 ih.2 hin.2.2), Int.le_trans s2 (ans_mono g sm (ir := false) true r0 ih.1 hin.1.2)⟩
  exact key 12
/-! bests -/
theorem best_iff {B : Bd} (g : Good B) {r c : Int} (hr : 0 ≤ r ∧ r < hi B) (hc : 0 ≤ c ∧ c < wi B) : bestL B [] (r, c + hi B) = true ↔ IsBest B r c := by
  have hn : ¬ (c + hi B < hi B) := by omega
  have e : c + hi B - hi B = c := by omega
  unfold bestL
  rw [Bool.and_eq_true, decide_eq_true_iff, decide_eq_true_iff]
  show (r ∈ ansL B [] (c + hi B) ∧ c + hi B ∈ ansL B [] r) ↔ _
  unfold ansL
  rw [if_neg hn, if_pos hr.2, e, List.mem_filter, List.mem_filter, mem_rows, mem_cols, e, decide_eq_true_iff, decide_eq_true_iff]
  constructor
  · rintro ⟨⟨_, h1⟩, _, h2⟩
    refine ⟨⟨hr, hc⟩, fun r' r0 r1 => ?_, fun c' c0 c1 => ?_⟩
    · rw [h1]
      exact le_maxI (List.mem_map.mpr ⟨r', mem_rows.mpr ⟨⟨r0, r1⟩, List.not_mem_nil⟩, rfl⟩)
    · rw [h2]
      refine le_maxI (List.mem_map.mpr ⟨c' + hi B, mem_cols.mpr ⟨⟨by omega, by omega⟩, List.not_mem_nil⟩, ?_⟩)
      have e2 : c' + hi B - hi B = c' := by omega
      rw [e2]
  · rintro ⟨_, h1, h2⟩
    refine ⟨⟨⟨hr, List.not_mem_nil⟩, ?_⟩, ⟨⟨by omega, by omega⟩, List.not_mem_nil⟩, ?_⟩
    · refine maxI_uniq (List.mem_map.mpr ⟨r, mem_rows.mpr ⟨hr, List.not_mem_nil⟩, rfl⟩) fun y hy => ?_
      obtain ⟨r', h3, rfl⟩ := List.mem_map.mp hy
      have := (mem_rows.mp h3).1
      exact h1 r' this.1 this.2
    · refine maxI_uniq (List.mem_map.mpr ⟨c + hi B, mem_cols.mpr ⟨⟨by omega, by omega⟩, List.not_mem_nil⟩, by rw [e]⟩) fun y hy => ?_
      obtain ⟨c', h3, rfl⟩ := List.mem_map.mp hy
      have := (mem_cols.mp h3).1
      exact h2 (c' - hi B) (by omega) (by omega)
theorem mem_bests {B : Bd} (g : Good B) {r l : Int} : (r, l) ∈ bestsL B [] ↔ IsBest B r (l - hi B) := by
  unfold bestsL
  rw [List.mem_flatMap]
  constructor
  · rintro ⟨r', h1, h2⟩
    obtain ⟨c, h3, h4⟩ := List.mem_map.mp h2
    obtain ⟨h5, h6⟩ := List.mem_filter.mp h3
    have a := (mem_rows.mp h1).1
    have b := (mem_cols.mp h5).1
    injection h4 with z1 z2
    subst z1
    subst z2
    refine (best_iff g a ⟨by omega, by omega⟩).mp ?_
    have e : c - hi B + hi B = c := by omega
    rw [e]
    exact h6
  · intro h
    obtain ⟨a, b⟩ := h.1
    refine ⟨r, mem_rows.mpr ⟨a, List.not_mem_nil⟩, List.mem_map.mpr ⟨l, List.mem_filter.mpr ⟨mem_cols.mpr ⟨⟨by omega, by omega⟩, List.not_mem_nil⟩, ?_⟩, rfl⟩⟩
    have := (best_iff g a b).mpr h
    have e : l - hi B + hi B = l := by omega
    rw [e] at this
    exact this
end K8
set_option maxHeartbeats 1000000
namespace K8
open PySem PySem.Spec PyProof.Rows L2
local macro_rules | `(tactic| walk_at "envle") => `(tactic| (repeat (first | exact EnvLe.nil | apply EnvLe.keep | apply EnvLe.skip)))
section
variable {P : Program} {w : World} {K : PySem.W.Frag} {mg : Str → Option Value} {base : Heap} {f : Addr} {fd : FuncData} {C : Addr}
theorem kb_bool_bool : kitB "bool" "bool" = some true := by decide +kernel
def R_lis (ds : List PyData) (d : PyData) : Prop := ∃ a b : Bool, ds = [.bool a, .bool b] ∧ d = .bool (a == b)
theorem ok_lis (D : DefAt K mg "_law_is" s_L_is f fd) (T : Txt mg) : FnD P w K mg base 1 "_law_is" ["_law_found", "_law_due"] R_lis := by
  refine fn_ret D.F sc_L_is D.hm (D.F.binds fun _ _ _ _ _ _ us hl => match us, hl with | [_, _], _ => rfl) ?_ ?_
  · rintro ds d ⟨a, b, rfl, rfl⟩
    rfl
  · rintro f cdv A outer s H E hr ds d ⟨a, b, rfl, rfl⟩
    exact bl_ret (dv_and (p := true) (dv_isi (dv_name 0) (by exact kb_bool_bool) bt_bool T.isinstance T.bool) fun _ => dv_one (dv_eqB (dv_name 0) (dv_name 1)))
abbrev R_lotL (v : Bd → List Int → PyData) := R_lot v
theorem ok_lrows (D : DefAt K mg "_law_rows" s_L_rows f fd) (T : Txt mg) : FnD P w K mg base 1 "_law_rows" ["_law_board_here", "_law_lot"] (R_lot fun B lot => intsL (rowsL B lot)) := by
  refine fn_ret D.F sc_L_rows D.hm (D.F.binds fun _ _ _ _ _ _ us hl => match us, hl with | [_, _], _ => rfl) ?_ ?_
  · rintro ds d ⟨B, lot, _, _, rfl, rfl⟩
    rfl
  · rintro f cdv A outer s H E hr ds d ⟨B, lot, g, hz, rfl, rfl⟩
    have n1 := g.n1
    have n6 := g.n6
    exact bl_ret (dv_lc1 (own := [("_law_one", 2)]) (as := rangeI (hi B)) rfl sc_L_rows.nd (pi_range1 (by rfl) T.range pa_w) (blkOk_by (N := N_L_rows) (sc := defScope s_L_rows) (by decide +kernel)) (fun _ _ _ _ _ => pg_name (i := 2) sc_L_rows.nd rfl (Or.inl rfl))
      (src_rng 2 (av1 (dv_hi T.len (dv_name 0))) (by omega) (by omega)) (by decide) (fun x => !decide (x ∈ lot)) PyData.int (by rw [rangeI_len]; omega) (fun s H C cl fp x hx => tv_notinT (dv_name 2) (dv_name 1)) fun s H C cl fp x hx _ => dv_name 2)
theorem ok_lcols (D : DefAt K mg "_law_columns" s_L_columns f fd) (T : Txt mg) : FnD P w K mg base 1 "_law_columns" ["_law_board_here", "_law_lot"] (R_lot fun B lot => intsL (colsL B lot)) := by
  refine fn_ret D.F sc_L_columns D.hm (D.F.binds fun _ _ _ _ _ _ us hl => match us, hl with | [_, _], _ => rfl) ?_ ?_
  · rintro ds d ⟨B, lot, _, _, rfl, rfl⟩
    rfl
  · rintro f cdv A outer s H E hr ds d ⟨B, lot, g, hz, rfl, rfl⟩
    have n1 := g.n1
    have n6 := g.n6
    have m1 := g.m1
    have m6 := g.m6
    exact bl_ret (dv_lc1 (own := [("_law_one", 2)]) (as := rangeF (hi B) (hi B + wi B)) rfl sc_L_columns.nd (pi_range2 (by rfl) T.range pa_w) (blkOk_by (N := N_L_columns) (sc := defScope s_L_columns) (by decide +kernel)) (fun _ _ _ _ _ => pg_name (i := 2) sc_L_columns.nd rfl (Or.inl rfl))
      (src_rng2 2 (av2 (dv_hi T.len (dv_name 0)) (dv_add (dv_hi T.len (dv_name 0)) (dv_wi g T.len (dv_name 0)))) (by omega) (by omega) (by omega) (by omega)) (by decide) (fun x => !decide (x ∈ lot)) PyData.int (by rw [rangeF_len]; omega) (fun s H C cl fp x hx => tv_notinT (dv_name 2) (dv_name 1)) fun s H C cl fp x hx _ => dv_name 2)
theorem ok_lnums (D : DefAt K mg "_law_numbers" s_L_numbers f fd) (T : Txt mg) (GR : FnD P w K mg base 1 "_law_rows" ["_law_board_here", "_law_lot"] (R_lot fun B lot => intsL (rowsL B lot))) (GC : FnD P w K mg base 1 "_law_columns" ["_law_board_here", "_law_lot"] (R_lot fun B lot => intsL (colsL B lot))) :
    FnD P w K mg base 2 "_law_numbers" ["_law_board_here", "_law_lot", "_law_line"] (R_line fun B lot l => intsL (numsL B lot l)) := by
  refine fn_ret D.F sc_L_numbers D.hm (D.F.binds fun _ _ _ _ _ _ us hl => match us, hl with | [_, _, _], _ => rfl) ?_ ?_
  · rintro ds d ⟨B, lot, l, _, _, _, rfl, rfl⟩
    rfl
  · rintro f cdv A outer s H E hr ds d ⟨B, lot, l, g, hz, ⟨hl0, hl1⟩, rfl, rfl⟩
    have c6 := cols_len B lot g
    have r6 := rows_len B lot g
    refine bl_ifor (tv_lt (dv_name 2) (dv_hi T.len (dv_name 0))) (fun hp => ?_) fun hp => ?_
    · have hl := of_decide_eq_true hp
      refine bl_ret (dv_is (dv_lc0 (own := [("_law_one", 3)]) (as := colsL B lot) rfl sc_L_numbers.nd (pi_list pe_w) (blkOk_by (N := N_L_numbers) (sc := defScope s_L_numbers) (by decide +kernel)) (fun _ _ _ _ _ => pg_name (i := 3) sc_L_numbers.nd rfl (Or.inl rfl))
        (src_list (f := .int) 3 (dv_call GC hr (by decide) (av2 (dv_name 0) (dv_name 1)) ⟨B, lot, g, hz, rfl, rfl⟩)) (by decide) (fun c => .int (fs B l (c - hi B))) (by omega) fun s H C cl fp c hc => ?_) ?_)
      · have h := mem_cols.mp hc
        exact dv_fs g (dv_name 0) (dv_name 2) (dv_sub (dv_name 3) (dv_hi T.len (dv_name 0))) hl0 hl (by omega) (by omega)
      · show _ = intsL (numsL B lot l)
        unfold numsL
        rw [if_pos hl, intsL, List.map_map]
        rfl
    · have hl := of_decide_eq_false hp
      refine bl_ret (dv_is (dv_lc0 (own := [("_law_one", 3)]) (as := rowsL B lot) rfl sc_L_numbers.nd (pi_list pe_w) (blkOk_by (N := N_L_numbers) (sc := defScope s_L_numbers) (by decide +kernel)) (fun _ _ _ _ _ => pg_name (i := 3) sc_L_numbers.nd rfl (Or.inl rfl))
        (src_list (f := .int) 3 (dv_call GR hr (by decide) (av2 (dv_name 0) (dv_name 1)) ⟨B, lot, g, hz, rfl, rfl⟩)) (by decide) (fun r => .int (sn B r (l - hi B))) (by omega) fun s H C cl fp r hc => ?_) ?_)
      · have h := mem_rows.mp hc
        exact dv_sn g (dv_name 0) (dv_name 3) (dv_sub (dv_name 2) (dv_hi T.len (dv_name 0))) h.1.1 h.1.2 (by omega) (by omega)
      · show _ = intsL (numsL B lot l)
        unfold numsL
        rw [if_neg hl, intsL, List.map_map]
        rfl
theorem ok_lwith (D : DefAt K mg "_law_with" s_L_with f fd) (T : Txt mg) : FnD P w K mg base 1 "_law_with" ["_law_lot", "_law_line"] (fun ds d => ∃ lot l, lot.length ≤ 60 ∧ ds = [intsT lot, .int l] ∧ d = intsT (withL lot l)) := by
  refine fn_ret D.F sc_L_with D.hm (D.F.binds fun _ _ _ _ _ _ us hl => match us, hl with | [_, _], _ => rfl) ?_ ?_
  · rintro ds d ⟨lot, l, _, rfl, rfl⟩
    rfl
  · rintro f cdv A outer s H E hr ds d ⟨lot, l, hz, rfl, rfl⟩
    refine bl_ret (dv_ct call_tuple_of bt_tuple rc_tupL T.tuple (av1 (dv_cb cr_sortTup bt_sorted (rc_sortTup (ns := lot ++ [l]) (by rw [List.length_append]; show _ + 1 < 64; omega)) T.sorted (av1 (dv_is (dv_catT (xs := lot.map .int) (ys := [.int l]) (dv_name 0) (dv_tup (av1 (dv_name 1)) (by simp)) (by rw [List.length_map]; show _ + 1 ≤ 1000; omega)) ?_)))))
    rw [List.map_append]
    rfl
end
end K8
set_option maxHeartbeats 1000000
namespace K8
open PySem PySem.Spec PyProof.Rows L2
section
variable {ρ : Rho} {X : Cx} {ds : DEnv} {d1 : PyData} {a : Expr} {rs : List Stmt} {o : Out} {pos tp : Pos} {x y : Str}
/-- a, b = x, []: b a list of one's own; the pair is made -/
theorem bl_twoO (i j : Nat) {kt k2 : Nat} {pt2 p2 : Pos} (hc : X.calm = true) (hN : X.N.Nodup) (ha : Dv ρ X ds a d1) (no : ∀ (k : Nat) ys, (ds.set i (some (.d d1)))[k]? = some (some (.own ys)) → k = j) (hr : Bl ρ X ((ds.set i (some (.d d1))).set j (some (.own []))) rs o) (hi : X.N[i]? = some x := by rfl) (hj : X.N[j]? = some y := by rfl)
    (hx : Loc X.env.scope x := by first | exact Or.inl rfl | exact Or.inr rfl) (hy : Loc X.env.scope y := by first | exact Or.inl rfl | exact Or.inr rfl) {px py : Pos} (hii : j < ds.length := by first | decide | simp [startE])
    (hf : X.fn x = true ∨ X.env.scope.names.lookup x = some .local := by first | exact .inl rfl | exact .inr rfl) (hf2 : X.fn y = true ∨ X.env.scope.names.lookup y = some .local := by first | exact .inl rfl | exact .inr rfl)
    (hs1 : starEach (a :: Expr.List [] p2 :: []) X.env = (false, eval a X.env) :: starEach (Expr.List [] p2 :: []) X.env := by rfl) (hs2 : starEach (Expr.List [] p2 :: []) X.env = (false, eval (.List [] p2) X.env) :: starEach [] X.env := by rfl)
    (hs : swapsWithSole [.Tuple [.Name x px, .Name y py] kt tp] (.Tuple [a, .List [] p2] k2 pt2) pos.line X.env = pure false := by rfl) (hw : swappedStores [.Tuple [.Name x px, .Name y py] kt tp] (.Tuple [a, .List [] p2] k2 pt2) X.env = pure none := by rfl) (h1 : (assignEach [Expr.Tuple [.Name x px, .Name y py] kt tp] X.env).map (·.2) = [assign (.Tuple [.Name x px, .Name y py] kt tp) X.env] := by rfl) :
    Bl ρ X ds (.Assign [.Tuple [.Name x px, .Name y py] kt tp] (.Tuple [a, .List [] p2] k2 pt2) pos :: rs) o := fun He H0e σ H0 H F S k D q =>
  ws_of (pss_cons (ps_asg (pe_tup (pa_cons pe_w (pa_cons (pe_lst pa_nil) pa_nil hs2) hs1)) (pg_tup hc (pgs_cons (pg_name hN hi hx hf) (pgs_cons (pg_name hN hj hy hf2) pgs_nil))) hs hw h1) pss_w) (ha He σ H0 H S _ fun v1 H1 H1' f e1 => ⟨Nat.zero_le _, fun p hp => by
    have F1 := F.trans f k
    have S1 := S.fr f
    have hpe : He p = none := by
      cases z : He p with
      | none => rfl
      | some u => exact absurd hp (F1.th k (by rw [z]; exact fun w => nomatch w))
    refine ⟨Nat.le_trans (by decide : 2 ≤ 1000) (by decide), fun t ht => ?_⟩
    have F' : Frm ρ H0e He H1 (upd H1' p (.lst [])) := ⟨F1.ex0, F1.sub.trans (same_new hp), fun b u e h => same_new hp _ _ (F1.fr b u e h), F1.sep, fun kk => Rho.same (F1.ok kk) (same_new hp)⟩
    have S2 := (S1.set (i := i) e1).own j hp hpe (by rw [List.length_set]; exact hii) no
    have f3 : Frm ρ H1 (upd H1' p (.lst [])) _ _ := Frm.new (o := .tup [v1, V.ref p]) S2.sub ht
    refine ⟨t, [v1, .ref p], rfl, SqT.of upd_same, rfl, v1, [.ref p], rfl, .ref p, [], rfl, rfl, ?_⟩
    exact hr He H0e _ _ _ (F'.trans f3 k) (S2.fr f3) k D (q.more (f.ex0.trans f3.ex0))⟩)
end
end K8
set_option maxHeartbeats 1000000
namespace K8
open PySem PySem.Spec PyProof.Rows L2
local macro_rules | `(tactic| walk_at "envle") => `(tactic| (repeat (first | exact EnvLe.nil | apply EnvLe.keep | apply EnvLe.skip)))
section
variable {P : Program} {w : World} {K : PySem.W.Frag} {mg : Str → Option Value} {base : Heap} {f : Addr} {fd : FuncData} {C : Addr}
def sideL (B : Bd) (lot : List Int) (l : Int) : List Int := if l < hi B then rowsL B lot else colsL B lot
theorem side_len (B : Bd) (lot : List Int) (l : Int) (g : Good B) : (sideL B lot l).length ≤ 6 := by
  unfold sideL
  split
  · exact rows_len B lot g
  · exact cols_len B lot g
theorem atI_getD {l : List Int} {a : Int} (h0 : 0 ≤ a) (h1 : a < (l.length : Int)) : atI (l.map PyData.int) a = some (.int (l.getD a.toNat 0)) := by
  have hl : a.toNat < l.length := by omega
  refine atI_of h0 ?_
  rw [List.getElem?_map, List.getD_eq_getElem?_getD, List.getElem?_eq_getElem hl]
  rfl
def overB (B : Bd) (lot : List Int) (l o : Int) : Bool := decide (((rangeI ((numsL B lot l).length : Int)).filter fun a => decide ((numsL B lot o).getD a.toNat 0 ≤ (numsL B lot l).getD a.toNat 0)) = [])
theorem over_side (B : Bd) (lot : List Int) (l : Int) : lawOver B lot l = (sideL B lot l).filter (overB B lot l) := rfl
theorem filter_yes {α : Type} {l : List α} {p : α → Bool} {i : Nat} {a : α} (h : l[i]? = some a) (hp : p a = true) : (l.take (i + 1)).filter p = (l.take i).filter p ++ [a] := by
  rw [List.take_add_one, h, List.filter_append]
  show _ ++ List.filter p [a] = _
  rw [List.filter_cons, if_pos hp]
  rfl
theorem filter_no {α : Type} {l : List α} {p : α → Bool} {i : Nat} {a : α} (h : l[i]? = some a) (hp : p a = false) : (l.take (i + 1)).filter p = (l.take i).filter p := by
  rw [List.take_add_one, h, List.filter_append]
  show _ ++ List.filter p [a] = _
  rw [List.filter_cons, if_neg (by rw [hp]; decide)]
  exact List.append_nil _
theorem ok_lover (D : DefAt K mg "_law_over" s_L_over f fd) (T : Txt mg) (GR : FnD P w K mg base 1 "_law_rows" ["_law_board_here", "_law_lot"] (R_lot fun B lot => intsL (rowsL B lot))) (GC : FnD P w K mg base 1 "_law_columns" ["_law_board_here", "_law_lot"] (R_lot fun B lot => intsL (colsL B lot)))
    (GN : FnD P w K mg base 2 "_law_numbers" ["_law_board_here", "_law_lot", "_law_line"] (R_line fun B lot l => intsL (numsL B lot l))) : FnD P w K mg base 3 "_law_over" ["_law_board_here", "_law_lot", "_law_line"] (R_line fun B lot l => intsL (lawOver B lot l)) := by
  refine fn_ret D.F sc_L_over D.hm (D.F.binds fun _ _ _ _ _ _ us hl => match us, hl with | [_, _, _], _ => rfl) ?_ ?_
  · rintro ds d ⟨B, lot, l, _, _, _, rfl, rfl⟩
    rfl
  · rintro f cdv A outer s H E hr ds d ⟨B, lot, l, g, hz, ⟨hl0, hl1⟩, rfl, rfl⟩
    have n6 := nums_len B lot l g
    have s6 := side_len B lot l g
    refine bl_set 3 sc_L_over.nd (d := intsL (sideL B lot l)) (dv_if (tv_lt (dv_name 2) (dv_hi T.len (dv_name 0))) (fun hp => ?_) fun hp => ?_) ?_
    · have hl := of_decide_eq_true hp
      exact dv_is (dv_call GR hr (by decide) (av2 (dv_name 0) (dv_name 1)) ⟨B, lot, g, hz, rfl, rfl⟩) (by unfold sideL; rw [if_pos hl])
    · have hl := of_decide_eq_false hp
      exact dv_is (dv_call GC hr (by decide) (av2 (dv_name 0) (dv_name 1)) ⟨B, lot, g, hz, rfl, rfl⟩) (by unfold sideL; rw [if_neg hl])
    refine bl_twoO 4 5 rfl sc_L_over.nd (dv_call GN hr (by decide) (av_cons (dv_name 0) (av2 (dv_name 1) (dv_name 2))) ⟨B, lot, l, g, hz, ⟨hl0, hl1⟩, rfl, rfl⟩) (fun k ys h => ?_) ?_
    · match k, h with
      | 0, h => cases h
      | 1, h => cases h
      | 2, h => cases h
      | 3, h => cases h
      | 4, h => cases h
      | 5, _ => rfl
      | 6, h => cases h
      | 7, h => cases h
      | 8, h => cases h
      | k + 9, h => simp [startE] at h
    refine bl_each (fun i => [some (.d (bd B)), some (.d (intsT lot)), some (.d (.int l)), some (.d (intsL (sideL B lot l))), some (.d (intsL (numsL B lot l))), some (.own ((((sideL B lot l).take i).filter (overB B lot l)).map .int)), none, none, none]) PassesOwn.never rfl (pi_list pe_w) (pg_name (i := 6) sc_L_over.nd rfl (Or.inl rfl)) (src_list (as := sideL B lot l) (f := .int) 6 (dv_name 3)) (fun i o hi => ?_) ?_
    · have ho := (mem_side g lot l o).mp (List.mem_of_getElem? hi)
      have nlo : (numsL B lot o).length = (numsL B lot l).length := by
        rw [nums_len_eq, nums_len_eq]
        by_cases q : l < K8.hi B
        · rw [if_pos q, if_pos (ho.2.1.mp q)]
        · rw [if_neg q, if_neg fun z => q (ho.2.1.mpr z)]
      have tl : (((sideL B lot l).take i).filter (overB B lot l)).length ≤ 6 := Nat.le_trans (List.length_filter_le _ _) (by rw [List.length_take]; omega)
      refine bl_set 7 sc_L_over.nd (dv_call GN hr (by decide) (av_cons (dv_name 0) (av2 (dv_name 1) (dv_name 6))) ⟨B, lot, o, g, hz, ho.1, rfl, rfl⟩) ?_
      refine bl_if (p := overB B lot l o) (ds1 := [some (.d (bd B)), some (.d (intsT lot)), some (.d (.int l)), some (.d (intsL (sideL B lot l))), some (.d (intsL (numsL B lot l))), some (.own ((((sideL B lot l).take (i + 1)).filter (overB B lot l)).map .int)), none, none, none])
        (tv_is (tv_eqD hr (dv_lc1 (own := [("_law_at", 8)]) (as := rangeI ((numsL B lot l).length : Int)) rfl sc_L_over.nd (pi_range1 (by rfl) T.range pa_w) (blkOk_by (N := N_L_over) (sc := defScope s_L_over) (by decide +kernel)) (fun _ _ _ _ _ => pg_name (i := 8) sc_L_over.nd rfl (Or.inl rfl))
          (src_rng 8 (av1 (dv_is (dv_lenL (xs := (numsL B lot l).map .int) T.len (dv_name 4)) (by rw [List.length_map]))) (by omega) (by omega)) (by decide) (fun a => decide ((numsL B lot o).getD a.toNat 0 ≤ (numsL B lot l).getD a.toNat 0)) PyData.int (by rw [rangeI_len]; omega)
          (fun s H C cl fp a ha => by
            have ha' := mem_rangeI.mp ha
            exact tv_le (dv_ixL (xs := (numsL B lot o).map .int) (dv_name 7) (dv_name 8) (atI_getD ha'.1 (by omega))) (dv_ixL (xs := (numsL B lot l).map .int) (dv_name 4) (dv_name 8) (atI_getD ha'.1 ha'.2))) fun s H C cl fp a ha _ => dv_name 8) (dv_lst (xs := ([] : List Int).map .int) av_nil (by simp)) (fit_shaped (fit_intsL _) (by decide)) (fit_shaped (fit_intsL []) (by decide))) (eqv_intsL _ [])) (fun hp => ?_) (fun hp => ?_) bl_nil
      · refine bl_append 5 (dv_name 6) rfl (by rw [List.length_map]; omega) ?_ (hh := fun hx he => pe_bm PySem.F.plainAttrs_list PySem.F.slot_list_append PySem.F.type_list_append mt_append hx (pa_cons he pa_nil))
        rw [filter_yes hi hp, List.map_append]
        exact bl_out (by walk_at "envle") bl_nil
      · rw [filter_no hi hp]
        exact bl_out (by walk_at "envle") bl_nil
    · refine bl_known 5 rfl (bl_ret (dv_is (dv_name 5) ?_))
      rw [List.take_length]
      rfl
theorem ok_lready (D : DefAt K mg "_law_ready" s_L_ready f fd) (T : Txt mg) (GR : FnD P w K mg base 1 "_law_rows" ["_law_board_here", "_law_lot"] (R_lot fun B lot => intsL (rowsL B lot))) (GC : FnD P w K mg base 1 "_law_columns" ["_law_board_here", "_law_lot"] (R_lot fun B lot => intsL (colsL B lot)))
    (GO : FnD P w K mg base 3 "_law_over" ["_law_board_here", "_law_lot", "_law_line"] (R_line fun B lot l => intsL (lawOver B lot l))) : FnD P w K mg base 4 "_law_ready" ["_law_board_here", "_law_lot"] (R_lot fun B lot => intsL (lawReady B lot)) := by
  refine fn_ret D.F sc_L_ready D.hm (D.F.binds fun _ _ _ _ _ _ us hl => match us, hl with | [_, _], _ => rfl) ?_ ?_
  · rintro ds d ⟨B, lot, _, _, rfl, rfl⟩
    rfl
  · rintro f cdv A outer s H E hr ds d ⟨B, lot, g, hz, rfl, rfl⟩
    have c6 := cols_len B lot g
    have r6 := rows_len B lot g
    exact bl_ret (dv_lc1 (own := [("_law_line", 2)]) (as := rowsL B lot ++ colsL B lot) rfl sc_L_ready.nd (pi_list pe_w) (blkOk_by (N := N_L_ready) (sc := defScope s_L_ready) (by decide +kernel)) (fun _ _ _ _ _ => pg_name (i := 2) sc_L_ready.nd rfl (Or.inl rfl))
      (src_list (f := .int) 2 (dv_is (dv_catL (dv_call GR hr (by decide) (av2 (dv_name 0) (dv_name 1)) ⟨B, lot, g, hz, rfl, rfl⟩) (dv_call GC hr (by decide) (av2 (dv_name 0) (dv_name 1)) ⟨B, lot, g, hz, rfl, rfl⟩) (by rw [List.length_map, List.length_map]; omega)) (by rw [List.map_append]))) (by decide) (fun l => decide (lawOver B lot l ≠ [])) PyData.int (by rw [List.length_append]; omega)
      (fun s H C cl fp l hl => by
        have hl' : 0 ≤ l ∧ l < hi B + wi B := by
          have := g.n1
          have := g.m1
          rcases List.mem_append.mp hl with q | q
          · have := (mem_rows.mp q).1
            omega
          · have := (mem_cols.mp q).1
            omega
        refine tv_is (tv_neD hr (dv_call GO hr (by decide) (av_cons (dv_name 0) (av2 (dv_name 1) (dv_name 2))) ⟨B, lot, l, g, hz, hl', rfl, rfl⟩) (dv_lst (xs := ([] : List Int).map .int) av_nil (by simp)) (fit_shaped (fit_intsL _) (by decide)) (fit_shaped (fit_intsL []) (by decide))) ?_
        rw [eqv_intsL]
        by_cases q : lawOver B lot l = []
        · rw [decide_eq_true q, decide_eq_false fun z => z q]
          rfl
        · rw [decide_eq_false q, decide_eq_true q]
          rfl) fun s H C cl fp l hl _ => dv_name 2)
end
end K8
set_option maxHeartbeats 1000000
namespace K8
open PySem PySem.Spec PyProof.Rows L2
local macro_rules | `(tactic| walk_at "envle") => `(tactic| (repeat (first | exact EnvLe.nil | apply EnvLe.keep | apply EnvLe.skip)))
section
variable {P : Program} {w : World} {K : PySem.W.Frag} {mg : Str → Option Value} {base : Heap} {f : Addr} {fd : FuncData} {C : Addr}
theorem law_step0 {B : Bd} {i : Nat} (h : readyL B (lawAt B i) = []) : lawAt B (i + 1) = lawAt B i := law_stuck h 1
theorem ok_lend (D : DefAt K mg "_law_end" s_L_end f fd) (T : Txt mg) (GR : FnD P w K mg base 4 "_law_ready" ["_law_board_here", "_law_lot"] (R_lot fun B lot => intsL (lawReady B lot)))
    (GW : FnD P w K mg base 1 "_law_with" ["_law_lot", "_law_line"] (fun ds d => ∃ lot l, lot.length ≤ 60 ∧ ds = [intsT lot, .int l] ∧ d = intsT (withL lot l))) : FnD P w K mg base 5 "_law_end" ["_law_board_here"] (R_board fun B => intsT (lawAt B 12)) := by
  refine fn_ret D.F sc_L_end D.hm (D.F.binds fun _ _ _ _ _ _ us hl => match us, hl with | [_], _ => rfl) ?_ ?_
  · rintro ds d ⟨B, _, rfl, rfl⟩
    rfl
  · rintro f cdv A outer s H E hr ds d ⟨B, g, rfl, rfl⟩
    refine bl_set 1 sc_L_end.nd (dv_tup (xs := ([] : List Int).map .int) av_nil (by simp)) ?_
    have e12 : (rangeI 12).length = 12 := by rw [rangeI_len]; rfl
    refine bl_each (fun i => [some (.d (bd B)), some (.d (intsT (lawAt B i))), none, none]) PassesOwn.never rfl (pi_range1 (by rfl) T.range pa_w) (pg_name (i := 2) sc_L_end.nd rfl (Or.inl rfl)) (src_rng 2 (av1 dv_int) (by omega) (by omega)) (fun i a hi => ?_) ?_
    · have ll := law_len g i
      refine bl_set 3 sc_L_end.nd (d := intsL (readyL B (lawAt B i))) (dv_is (dv_call GR hr (by decide) (av2 (dv_name 0) (dv_name 1)) ⟨B, lawAt B i, g, by omega, rfl, rfl⟩) (by show intsL (lawReady B (lawAt B i)) = _; rw [ready_law g (law_inv8 g i)])) ?_
      refine bl_set 1 sc_L_end.nd (d := intsT (lawAt B (i + 1))) (dv_if (p := !decide (readyL B (lawAt B i) = [])) (tv_is (tv_neD hr (dv_name 3) (dv_lst (xs := ([] : List Int).map .int) av_nil (by simp)) (fit_shaped (fit_intsL _) (by decide)) (fit_shaped (fit_intsL []) (by decide))) (by rw [eqv_intsL])) (fun hp => ?_) fun hp => ?_) (bl_out (by walk_at "envle") bl_nil)
      · have hne : readyL B (lawAt B i) ≠ [] := by simpa using hp
        exact dv_call GW hr (by decide) (av2 (dv_name 1) (dv_ixL (xs := (readyL B (lawAt B i)).map .int) (dv_name 3) (dv_neg dv_int) (atI_tail hne))) ⟨lawAt B i, _, by omega, rfl, by rw [law_step hne]⟩
      · have hne : readyL B (lawAt B i) = [] := by simpa using hp
        exact dv_is (dv_name 1) (by rw [law_step0 hne])
    · rw [e12]
      exact bl_ret (dv_name 1)
/-- the pairs that the law's answers look at -/
def lsomeL (B : Bd) (lot : List Int) (l : Int) : List (Int × Int) :=
  if l < hi B then (colsL B lot).map fun c => (sn B l (c - hi B), c) else (rowsL B lot).map fun r => (fs B r (l - hi B), r)
theorem filter_map_snd {v : Int → Int} {m : Int} : ∀ cs : List Int, ((cs.map fun c => (v c, c)).filter fun p : Int × Int => decide (p.1 = m)).map (·.2) = cs.filter fun c => decide (v c = m)
  | [] => rfl
  | c :: r => by
    rw [List.map_cons, List.filter_cons, List.filter_cons]
    show (if decide (v c = m) = true then _ else _ : List (Int × Int)).map (·.2) = _
    by_cases h : v c = m
    · rw [decide_eq_true h, if_pos rfl, if_pos rfl, List.map_cons, filter_map_snd r]
    · rw [decide_eq_false h, if_neg (by decide), if_neg (by decide), filter_map_snd r]
theorem lans (B : Bd) (lot : List Int) (l : Int) : ansL B lot l = ((lsomeL B lot l).filter fun p => decide (p.1 = (maxPr (lsomeL B lot l)).1)).map (·.2) := by
  rw [maxPr_fst]
  unfold ansL lsomeL
  split
  · rw [filter_map_snd, List.map_map]
    rfl
  · rw [filter_map_snd, List.map_map]
    rfl
theorem ok_lans (D : DefAt K mg "_law_answers" s_L_answers f fd) (T : Txt mg) (GR : FnD P w K mg base 1 "_law_rows" ["_law_board_here", "_law_lot"] (R_lot fun B lot => intsL (rowsL B lot))) (GC : FnD P w K mg base 1 "_law_columns" ["_law_board_here", "_law_lot"] (R_lot fun B lot => intsL (colsL B lot))) :
    FnD P w K mg base 2 "_law_answers" ["_law_board_here", "_law_lot", "_law_line"] R_answers := by
  refine fn_ret D.F sc_L_answers D.hm (D.F.binds fun _ _ _ _ _ _ us hl => match us, hl with | [_, _, _], _ => rfl) ?_ ?_
  · rintro ds d ⟨B, lot, l, _, _, _, _, _, rfl, rfl⟩
    rfl
  · rintro f cdv A outer s H E hr ds d ⟨B, lot, l, g, hz, ⟨hl0, hl1⟩, hrn, hcn, rfl, rfl⟩
    have c6 := cols_len B lot g
    have r6 := rows_len B lot g
    have hne : lsomeL B lot l ≠ [] := by
      unfold lsomeL
      split
      · simpa using hcn
      · simpa using hrn
    have h6 : (lsomeL B lot l).length ≤ 6 := by
      unfold lsomeL
      split
      · rw [List.length_map]; omega
      · rw [List.length_map]; omega
    refine bl_set 3 sc_L_answers.nd (dv_hi (B := B) T.len (dv_name 0)) ?_
    refine bl_if (ds1 := [some (.d (bd B)), some (.d (intsT lot)), some (.d (.int l)), some (.d (.int (hi B))), some (.d (.list ((lsomeL B lot l).map fun p => .tuple [.int p.1, .int p.2]))), none, none, none]) (tv_lt (dv_name 2) (dv_name 3)) (fun hp => ?_) (fun hp => ?_) ?_
    · have hl := of_decide_eq_true hp
      refine bl_lc0 4 (own := [("_law_one", 6)]) (as := colsL B lot) rfl sc_L_answers.nd (pi_list pe_w) (blkOk_by (N := N_L_answers) (sc := defScope s_L_answers) (by decide +kernel)) (fun _ _ _ _ _ => pg_name (i := 6) sc_L_answers.nd rfl (Or.inl rfl))
        (src_list (f := .int) 6 (dv_call GC hr (by decide) (av2 (dv_name 0) (dv_name 1)) ⟨B, lot, g, hz, rfl, rfl⟩)) (by decide) (fun c => .tuple [.int (sn B l (c - hi B)), .int c]) (by omega) (fun s H C cl fp c hc => ?_) ?_
      · have h := mem_cols.mp hc
        exact dv_tup (av2 (dv_sn g (dv_name 0) (dv_name 2) (dv_sub (dv_name 6) (dv_name 3)) hl0 hl (by omega) (by omega)) (dv_name 6)) (by simp)
      · refine bl_is (ds1 := _) ?_ bl_nil
        have e : PyData.list ((colsL B lot).map fun c => PyData.tuple [.int (sn B l (c - hi B)), .int c]) = .list ((lsomeL B lot l).map fun p => .tuple [.int p.1, .int p.2]) := by
          unfold lsomeL
          rw [if_pos hl, List.map_map]
          rfl
        rw [e]
        rfl
    · have hl := of_decide_eq_false hp
      refine bl_lc0 4 (own := [("_law_one", 6)]) (as := rowsL B lot) rfl sc_L_answers.nd (pi_list pe_w) (blkOk_by (N := N_L_answers) (sc := defScope s_L_answers) (by decide +kernel)) (fun _ _ _ _ _ => pg_name (i := 6) sc_L_answers.nd rfl (Or.inl rfl))
        (src_list (f := .int) 6 (dv_call GR hr (by decide) (av2 (dv_name 0) (dv_name 1)) ⟨B, lot, g, hz, rfl, rfl⟩)) (by decide) (fun c => .tuple [.int (fs B c (l - hi B)), .int c]) (by omega) (fun s H C cl fp c hc => ?_) ?_
      · have h := mem_rows.mp hc
        exact dv_tup (av2 (dv_fs g (dv_name 0) (dv_name 6) (dv_sub (dv_name 2) (dv_name 3)) h.1.1 h.1.2 (by omega) (by omega)) (dv_name 6)) (by simp)
      · refine bl_is (ds1 := _) ?_ bl_nil
        have e : PyData.list ((rowsL B lot).map fun c => PyData.tuple [.int (fs B c (l - hi B)), .int c]) = .list ((lsomeL B lot l).map fun p => .tuple [.int p.1, .int p.2]) := by
          unfold lsomeL
          rw [if_neg hl, List.map_map]
          rfl
        rw [e]
        rfl
    · refine bl_set 5 sc_L_answers.nd (dv_ixT (xs := [.int (maxPr (lsomeL B lot l)).1, .int (maxPr (lsomeL B lot l)).2]) (dv_cb (cr_maxP hr rfl) bt_max (rc_maxP hne) T.max (av1 (dv_name 4))) dv_int rfl) ?_
      refine bl_ret (dv_is (dv_lc1 (own := [("_law_number", 7), ("_law_one", 6)]) (as := lsomeL B lot l) rfl sc_L_answers.nd (pi_list pe_w) (blkOk_by (N := N_L_answers) (sc := defScope s_L_answers) (by decide +kernel)) (fun _ _ _ _ _ => pg_pair (i := 7) (j := 6) rfl sc_L_answers.nd)
        (src_pairsL (f1 := fun p => .int p.1) (f2 := fun p => .int p.2) 7 6 (dv_name 4)) (by decide) (fun p => decide (p.1 = (maxPr (lsomeL B lot l)).1)) (fun p => .int p.2) (by omega)
        (fun s H C cl fp p hp => tv_eqI (dv_name 7) (dv_name 5)) fun s H C cl fp p hp _ => dv_name 6) ?_)
      show _ = intsL (ansL B lot l)
      rw [lans, intsL, List.map_map]
      rfl
end
end K8
set_option maxHeartbeats 1000000
namespace K8
open PySem PySem.Spec PyProof.Rows L2
local macro_rules | `(tactic| walk_at "envle") => `(tactic| (repeat (first | exact EnvLe.nil | apply EnvLe.keep | apply EnvLe.skip)))
section
variable {P : Program} {w : World} {K : PySem.W.Frag} {mg : Str → Option Value} {base : Heap} {f : Addr} {fd : FuncData} {C : Addr}
theorem ok_lbests (D : DefAt K mg "_law_bests" s_L_bests f fd) (T : Txt mg) (GR : FnD P w K mg base 1 "_law_rows" ["_law_board_here", "_law_lot"] (R_lot fun B lot => intsL (rowsL B lot))) (GC : FnD P w K mg base 1 "_law_columns" ["_law_board_here", "_law_lot"] (R_lot fun B lot => intsL (colsL B lot)))
    (GA : FnD P w K mg base 2 "_law_answers" ["_law_board_here", "_law_lot", "_law_line"] R_answers) : FnD P w K mg base 3 "_law_bests" ["_law_board_here", "_law_lot"] (R_bests fun B lot => .tuple ((bestsL B lot).map pairD)) := by
  refine fn_ret D.F sc_L_bests D.hm (D.F.binds fun _ _ _ _ _ _ us hl => match us, hl with | [_, _], _ => rfl) ?_ ?_
  · rintro ds d ⟨B, lot, _, _, _, _, rfl, rfl⟩
    rfl
  · rintro f cdv A outer s H E hr ds d ⟨B, lot, g, hz, hrn, hcn, rfl, rfl⟩
    refine bl_own 2 sc_L_bests.nd (fun _ => ?_) (fun k ys h => ?_) (hii := by simp [startE])
    · refine bl_each (fun i => [some (.d (bd B)), some (.d (intsT lot)), some (.own ((upBests B lot i).map pairD)), none, none]) PassesOwn.never rfl (pi_list pe_w) (pg_name (i := 3) sc_L_bests.nd rfl (Or.inl rfl)) (src_list (as := rowsL B lot) (f := .int) 3 (dv_call GR hr (by decide) (av2 (dv_name 0) (dv_name 1)) ⟨B, lot, g, hz, rfl, rfl⟩)) (fun i r hi => ?_) ?_
      · have hr' := mem_rows.mp (List.mem_of_getElem? hi)
        have u36 := upBests_len (lot := lot) g i
        refine bl_isE (ds1 := [some (.d (bd B)), some (.d (intsT lot)), some (.own ((upBests B lot i ++ rowBests B lot r 0).map pairD)), some (.d (.int r)), none]) ?_ ?_
        · show _ = ([some (.d (bd B)), some (.d (intsT lot)), some (.own ((upBests B lot i).map pairD)), some (.d (.int r)), none] : DEnv)
          have e : upBests B lot i ++ rowBests B lot r 0 = upBests B lot i := List.append_nil _
          rw [e]
        refine bl_each (fun j => [some (.d (bd B)), some (.d (intsT lot)), some (.own ((upBests B lot i ++ rowBests B lot r j).map pairD)), some (.d (.int r)), none]) PassesOwn.never rfl (pi_list pe_w) (pg_name (i := 4) sc_L_bests.nd rfl (Or.inl rfl)) (src_list (as := colsL B lot) (f := .int) 4 (dv_call GC hr (by decide) (av2 (dv_name 0) (dv_name 1)) ⟨B, lot, g, hz, rfl, rfl⟩)) (fun j c hj => ?_) ?_
        · have hc' := mem_cols.mp (List.mem_of_getElem? hj)
          have h1 := g.n1
          have h2 := g.m1
          have r6 := rowBests_len (lot := lot) g r j
          refine bl_if (p := bestL B lot (r, c)) (ds1 := [some (.d (bd B)), some (.d (intsT lot)), some (.own ((upBests B lot i ++ rowBests B lot r (j + 1)).map pairD)), some (.d (.int r)), none]) (tv_pv (pv_and (tv_inL (dv_name 3) (dv_call GA hr (by decide) (av_cons (dv_name 0) (av2 (dv_name 1) (dv_name 4))) ⟨B, lot, c, g, hz, by omega, hrn, hcn, rfl, rfl⟩)) fun _ => pv_and1 (tv_inL (dv_name 4) (dv_call GA hr (by decide) (av_cons (dv_name 0) (av2 (dv_name 1) (dv_name 3))) ⟨B, lot, r, g, hz, by omega, hrn, hcn, rfl, rfl⟩)))) (fun hp => ?_) (fun hp => ?_) bl_nil
          · refine bl_append 2 (d := pairD (r, c)) (dv_tup (av2 (dv_name 3) (dv_name 4)) (by simp)) rfl (by rw [List.length_map, List.length_append]; omega) ?_ (hh := fun hx he => pe_bm PySem.F.plainAttrs_list PySem.F.slot_list_append PySem.F.type_list_append mt_append hx (pa_cons he pa_nil))
            have e : (upBests B lot i ++ rowBests B lot r (j + 1)).map pairD = (upBests B lot i ++ rowBests B lot r j).map pairD ++ [pairD (r, c)] := by
              rw [rowBests_yes hj hp, ← List.append_assoc, List.map_append (l₂ := [(r, c)])]
              rfl
            rw [e]
            exact bl_out (by walk_at "envle") bl_nil
          · rw [rowBests_no hj hp]
            exact bl_out (by walk_at "envle") bl_nil
        · rw [upBests_step hi]
          exact bl_out (by walk_at "envle") bl_nil
      · refine bl_known 2 rfl (bl_ret (dv_is (dv_ct call_tuple_of bt_tuple rc_tupL T.tuple (av1 (dv_name 2))) ?_))
        show PyData.tuple ((upBests B lot (rowsL B lot).length).map pairD) = .tuple ((bestsL B lot).map pairD)
        have e : upBests B lot (rowsL B lot).length = bestsL B lot := by
          unfold upBests bestsL
          rw [List.take_length]
        rw [e]
    · match k, h with
      | 0, h => cases h
      | 1, h => cases h
      | 2, _ => rfl
      | 3, h => cases h
      | 4, h => cases h
      | k + 5, h => simp [startE] at h
/-! ### _law_alike of a thing and the like of it -/
/-- ints in lists and tuples, so deep -/
def Alk : Nat → PyData → Prop
  | 0, x => ∃ i, x = .int i
  | n + 1, x => (∃ i, x = .int i) ∨ ∃ xs, (x = .list xs ∨ x = .tuple xs) ∧ xs.length ≤ 1000 ∧ ∀ y ∈ xs, Alk n y
def R_alike (n : Nat) (ds : List PyData) (d : PyData) : Prop := ∃ x, Alk n x ∧ ds = [x, x] ∧ d = .bool true
theorem kit_int_seq (K : PySem.W.Frag) : PySem.W.kitAny K (.type "int") [.type "tuple", .type "list"] = some false := by
  have h1 : PySem.W.kitOne K (.type "int") (.type "tuple") = some false := kit_ty (by decide +kernel)
  have h2 : PySem.W.kitOne K (.type "int") (.type "list") = some false := kit_ty (by decide +kernel)
  show (match PySem.W.kitOne K (.type "int") (.type "tuple") with | some true => some true | some false => (match PySem.W.kitOne K (.type "int") (.type "list") with | some true => some true | some false => some false | none => none) | none => none) = some false
  rw [h1, h2]
theorem kit_tup_seq (K : PySem.W.Frag) : PySem.W.kitAny K (.type "tuple") [.type "tuple", .type "list"] = some true := by
  have h1 : PySem.W.kitOne K (.type "tuple") (.type "tuple") = some true := kit_ty (by decide +kernel)
  show (match PySem.W.kitOne K (.type "tuple") (.type "tuple") with | some true => some true | some false => (match PySem.W.kitOne K (.type "tuple") (.type "list") with | some true => some true | some false => some false | none => none) | none => none) = some true
  rw [h1]
theorem kit_list_seq (K : PySem.W.Frag) : PySem.W.kitAny K (.type "list") [.type "tuple", .type "list"] = some true := by
  have h1 : PySem.W.kitOne K (.type "list") (.type "tuple") = some false := kit_ty (by decide +kernel)
  have h2 : PySem.W.kitOne K (.type "list") (.type "list") = some true := kit_ty (by decide +kernel)
  show (match PySem.W.kitOne K (.type "list") (.type "tuple") with | some true => some true | some false => (match PySem.W.kitOne K (.type "list") (.type "list") with | some true => some true | some false => some false | none => none) | none => none) = some true
  rw [h1, h2]
theorem kb_int_str : kitB "int" "str" = some false := by decide +kernel
theorem kb_list_list : kitB "list" "list" = some true := by decide +kernel
theorem kb_tup_list : kitB "tuple" "list" = some false := by decide +kernel
theorem alike_int {k : Nat} (D : DefAt K mg "_law_alike" s_L_alike f fd) (T : Txt mg) {f' : Addr} {cdv : Value} {A : Around} {outer : List PySem.Env} {s : Shared} {H : Hp} {E : XK} (hr : Room k (cxN P w K mg base N_L_alike "_law_alike" s_L_alike f' cdv A outer s H E).A) (i : Int) :
    Bl R0 (cxN P w K mg base N_L_alike "_law_alike" s_L_alike f' cdv A outer s H E) (startE N_L_alike [.int i, .int i]) (defBody s_L_alike) (.ret (.bool true)) := by
  refine bl_ifno (tv_val (dv_isi2 (x := .int i) (dv_name 1) (by exact fun K => kit_int_seq K) bt_tuple bt_list T.isinstance T.tuple T.list)) ?_
  refine bl_ifno (tv_pv (pv_or (p := false) (q := false) (tv_isN (x := .int i) (dv_name 1) (by exact fun z => PyData.noConfusion z)) fun _ => pv_or1 (tv_val (dv_isi (dv_name 1) (by exact kb_int_str) bt_str T.isinstance T.str)))) ?_
  exact bl_ret (dv_and (p := true) (dv_isi (dv_name 0) (by exact kb_int_int) bt_int T.isinstance T.int) fun _ => dv_and (p := true) (q := true) (dv_is (dv_eqB (dv_isi (dv_name 0) (by exact kb_int_bool) bt_bool T.isinstance T.bool) (dv_isi (dv_name 1) (by exact kb_int_bool) bt_bool T.isinstance T.bool)) rfl) fun _ => dv_one (dv_is (dv_eqI (dv_name 0) (dv_name 1)) (by rw [decide_eq_true rfl])))
theorem alike_tup {k : Nat} (D : DefAt K mg "_law_alike" s_L_alike f fd) (T : Txt mg) {n : Nat} (G : FnD P w K mg base k "_law_alike" ["_law_found", "_law_due"] (R_alike n)) {f' : Addr} {cdv : Value} {A : Around} {outer : List PySem.Env} {s : Shared} {H : Hp} {E : XK} (hr : Room k (cxN P w K mg base N_L_alike "_law_alike" s_L_alike f' cdv A outer s H E).A) {xs : List PyData} (hz : xs.length ≤ 1000) (hx : ∀ y ∈ xs, Alk n y) :
    Bl R0 (cxN P w K mg base N_L_alike "_law_alike" s_L_alike f' cdv A outer s H E) (startE N_L_alike [.tuple xs, .tuple xs]) (defBody s_L_alike) (.ret (.bool true)) := by
  refine bl_ifret (tv_val (dv_isi2 (x := .tuple xs) (dv_name 1) (by exact fun K => kit_tup_seq K) bt_tuple bt_list T.isinstance T.tuple T.list)) ?_
  refine bl_ifno (tv_is (tv_pv (pv_or (p := false) (q := false) (tv_not (p := true) (tv_val (dv_isi2 (x := .tuple xs) (dv_name 0) (by exact fun K => kit_tup_seq K) bt_tuple bt_list T.isinstance T.tuple T.list))) fun _ => pv_or1 (tv_is (tv_neB (i := false) (j := false) (dv_isi (x := .tuple xs) (dv_name 0) (by exact kb_tup_list) bt_list T.isinstance T.list) (dv_isi (x := .tuple xs) (dv_name 1) (by exact kb_tup_list) bt_list T.isinstance T.list)) rfl))) rfl) ?_
  refine bl_ifno (tv_is (tv_neI (dv_lenT (xs := xs) T.len (dv_name 0)) (dv_lenT (xs := xs) T.len (dv_name 1))) (by rw [decide_eq_true rfl]; rfl)) ?_
  have hr1 := hr
  refine bl_ret (dv_is (dv_eqD hr (dv_is (dv_lc1 (own := [("_law_k", 2)]) (as := rangeI (xs.length : Int)) rfl sc_L_alike.nd (pi_range1 (by rfl) T.range pa_w) (blkOk_by (N := N_L_alike) (sc := defScope s_L_alike) (by decide +kernel)) (fun _ _ _ _ _ => pg_name (i := 2) sc_L_alike.nd rfl (Or.inl rfl))
    (src_rng 2 (av1 (dv_lenT (xs := xs) T.len (dv_name 1))) (by omega) (by omega)) (by decide) (fun _ => false) PyData.int (by rw [rangeI_len]; omega)
    (fun s H C cl fp a ha => by
      have ha' := mem_rangeI.mp ha
      have hl : a.toNat < xs.length := by omega
      have e := List.getElem?_eq_getElem hl
      exact tv_not (p := true) (tv_val (dv_call G hr (Nat.le_refl _) (av2 (dv_ixT (xs := xs) (dv_name 0) (dv_name 2) (atI_of ha'.1 e)) (dv_ixT (xs := xs) (dv_name 1) (dv_name 2) (atI_of ha'.1 e))) ⟨_, hx _ (List.getElem_mem hl), rfl, rfl⟩))) fun s H C cl fp a ha _ => dv_name 2) (z := intsL []) (by rw [List.filter_eq_nil_iff.mpr fun a ha => by decide])) (dv_lst (xs := ([] : List Int).map .int) av_nil (by simp)) (fit_shaped (fit_intsL _) (by decide)) (fit_shaped (fit_intsL []) (by decide))) ?_)
  rw [eqv_intsL, decide_eq_true rfl]
theorem alike_lst {k : Nat} (D : DefAt K mg "_law_alike" s_L_alike f fd) (T : Txt mg) {n : Nat} (G : FnD P w K mg base k "_law_alike" ["_law_found", "_law_due"] (R_alike n)) {f' : Addr} {cdv : Value} {A : Around} {outer : List PySem.Env} {s : Shared} {H : Hp} {E : XK} (hr : Room k (cxN P w K mg base N_L_alike "_law_alike" s_L_alike f' cdv A outer s H E).A) {xs : List PyData} (hz : xs.length ≤ 1000) (hx : ∀ y ∈ xs, Alk n y) :
    Bl R0 (cxN P w K mg base N_L_alike "_law_alike" s_L_alike f' cdv A outer s H E) (startE N_L_alike [.list xs, .list xs]) (defBody s_L_alike) (.ret (.bool true)) := by
  refine bl_ifret (tv_val (dv_isi2 (x := .list xs) (dv_name 1) (by exact fun K => kit_list_seq K) bt_tuple bt_list T.isinstance T.tuple T.list)) ?_
  refine bl_ifno (tv_is (tv_pv (pv_or (p := false) (q := false) (tv_not (p := true) (tv_val (dv_isi2 (x := .list xs) (dv_name 0) (by exact fun K => kit_list_seq K) bt_tuple bt_list T.isinstance T.tuple T.list))) fun _ => pv_or1 (tv_is (tv_neB (i := true) (j := true) (dv_isi (x := .list xs) (dv_name 0) (by exact kb_list_list) bt_list T.isinstance T.list) (dv_isi (x := .list xs) (dv_name 1) (by exact kb_list_list) bt_list T.isinstance T.list)) rfl))) rfl) ?_
  refine bl_ifno (tv_is (tv_neI (dv_lenL (xs := xs) T.len (dv_name 0)) (dv_lenL (xs := xs) T.len (dv_name 1))) (by rw [decide_eq_true rfl]; rfl)) ?_
  have hr1 := hr
  refine bl_ret (dv_is (dv_eqD hr (dv_is (dv_lc1 (own := [("_law_k", 2)]) (as := rangeI (xs.length : Int)) rfl sc_L_alike.nd (pi_range1 (by rfl) T.range pa_w) (blkOk_by (N := N_L_alike) (sc := defScope s_L_alike) (by decide +kernel)) (fun _ _ _ _ _ => pg_name (i := 2) sc_L_alike.nd rfl (Or.inl rfl))
    (src_rng 2 (av1 (dv_lenL (xs := xs) T.len (dv_name 1))) (by omega) (by omega)) (by decide) (fun _ => false) PyData.int (by rw [rangeI_len]; omega)
    (fun s H C cl fp a ha => by
      have ha' := mem_rangeI.mp ha
      have hl : a.toNat < xs.length := by omega
      have e := List.getElem?_eq_getElem hl
      exact tv_not (p := true) (tv_val (dv_call G hr (Nat.le_refl _) (av2 (dv_ixL (xs := xs) (dv_name 0) (dv_name 2) (atI_of ha'.1 e)) (dv_ixL (xs := xs) (dv_name 1) (dv_name 2) (atI_of ha'.1 e))) ⟨_, hx _ (List.getElem_mem hl), rfl, rfl⟩))) fun s H C cl fp a ha _ => dv_name 2) (z := intsL []) (by rw [List.filter_eq_nil_iff.mpr fun a ha => by decide])) (dv_lst (xs := ([] : List Int).map .int) av_nil (by simp)) (fit_shaped (fit_intsL _) (by decide)) (fit_shaped (fit_intsL []) (by decide))) ?_)
  rw [eqv_intsL, decide_eq_true rfl]
theorem ok_alike (D : DefAt K mg "_law_alike" s_L_alike f fd) (T : Txt mg) : ∀ n, FnD P w K mg base (n + 1) "_law_alike" ["_law_found", "_law_due"] (R_alike n)
  | 0 => by
    refine fn_ret D.F sc_L_alike D.hm (D.F.binds fun _ _ _ _ _ _ us hl => match us, hl with | [_, _], _ => rfl) ?_ ?_
    · rintro ds d ⟨x, _, rfl, rfl⟩
      rfl
    · rintro f cdv A outer s H E hr ds d ⟨x, ⟨i, rfl⟩, rfl, rfl⟩
      exact alike_int D T hr i
  | n + 1 => by
    have G := ok_alike D T n
    refine fn_ret D.F sc_L_alike D.hm (D.F.binds fun _ _ _ _ _ _ us hl => match us, hl with | [_, _], _ => rfl) ?_ ?_
    · rintro ds d ⟨x, _, rfl, rfl⟩
      rfl
    · rintro f cdv A outer s H E hr ds d ⟨x, hx, rfl, rfl⟩
      rcases hx with ⟨i, rfl⟩ | ⟨xs, hx | hx, hz, hy⟩
      · exact alike_int D T hr i
      · subst hx
        exact alike_lst D T G hr hz hy
      · subst hx
        exact alike_tup D T G hr hz hy
end
end K8
set_option maxHeartbeats 1000000
namespace K8
open PySem PySem.Spec PyProof.Rows L2
/-! ### at one state: an expression that leaves the heap as it is -/
def Ax (X : Cx) (σ : L2.St) (H : Hp) (e : Expr) (v : V) : Prop := ∀ Q : VK, Q v H → tW X e σ H Q
def Axs (X : Cx) (σ : L2.St) (H : Hp) (es : List Expr) (vs : List V) : Prop := ∀ Q : List V → Hp → Prop, Q vs H → tWa X es σ H Q
def Atst (X : Cx) (σ : L2.St) (H : Hp) (e : Expr) (b : Bool) : Prop := ∀ Q : Bool → Hp → Prop, Q b H → tWt X e σ H Q
section
variable {X : Cx} {σ : L2.St} {H : Hp} {a b c e : Expr} {es : List Expr} {v u z : V} {vs : List V} {pos : Pos} {i j : Int} {xs : List V} {p : Addr} {r : R2}
theorem ax_var (i : Nat) {x : Str} (hd : σ[i]? = some (some v) := by rfl) (hN : X.N[i]? = some x := by rfl) (hv : Vis X.env.scope x := by first | exact Or.inl rfl | exact Or.inr (Or.inl rfl) | exact Or.inr (Or.inr rfl)) (h1 : (x == ("__debug__" : Str)) = false := by decide)
    (h2 : (x == ("__classdict__" : Str)) = false := by decide) : Ax X σ H (.Name x pos) v := fun Q q => w_of (pe_var hN hv h1 h2) ⟨v, hd, q⟩
theorem ax_int {k} : Ax X σ H (.Constant (.int i) k pos) (.int i) := fun Q q => w_of pe_int q
theorem ax_op {o : Sem Value → Sem Value → Sem Value} {t : TE} (h : PE X e t) (k : ∀ Q : VK, Q v H → t σ H Q) : Ax X σ H e v := fun Q q => w_of h (k Q q)
theorem ax_ix (ha : Ax X σ H a (.ref p)) (hb : Ax X σ H b (.int i)) (hp : SqL X.K H p xs) (h : atI xs i = some v) (hs : PlainIx b := by exact fun _ _ => rfl) : Ax X σ H (.Subscript a b pos) v := fun Q q =>
  w_of (pe_ix ix_list pe_w pe_w hs) (ha _ (hb _ ⟨p, xs, i, v, rfl, rfl, hp, h, q⟩))
theorem ax_add (ha : Ax X σ H a (.int i)) (hb : Ax X σ H b (.int j)) : Ax X σ H (.BinOp a .Add b pos) (.int (i + j)) := fun Q q => w_of (pe_op op_add pe_w pe_w) (ha _ (hb _ ⟨i, j, rfl, rfl, q⟩))
theorem ax_sub (ha : Ax X σ H a (.int i)) (hb : Ax X σ H b (.int j)) : Ax X σ H (.BinOp a .Sub b pos) (.int (i - j)) := fun Q q => w_of (pe_op op_sub pe_w pe_w) (ha _ (hb _ ⟨i, j, rfl, rfl, q⟩))
theorem ax_mul (ha : Ax X σ H a (.int i)) (hb : Ax X σ H b (.int j)) (h : CMul i j) : Ax X σ H (.BinOp a .Mult b pos) (.int (i * j)) := fun Q q => w_of (pe_op op_mul pe_w pe_w) (ha _ (hb _ ⟨i, j, rfl, rfl, h, q⟩))
theorem ax_div (ha : Ax X σ H a (.int i)) (hb : Ax X σ H b (.int j)) (h : CDiv i j) : Ax X σ H (.BinOp a .FloorDiv b pos) (.int (i / j)) := fun Q q => w_of (pe_op op_fdiv pe_w pe_w) (ha _ (hb _ ⟨i, j, rfl, rfl, h, q⟩))
theorem ax_mod (ha : Ax X σ H a (.int i)) (hb : Ax X σ H b (.int j)) (h : 0 < j) : Ax X σ H (.BinOp a .Mod b pos) (.int (i % j)) := fun Q q => w_of (pe_op op_mod pe_w pe_w) (ha _ (hb _ ⟨i, j, rfl, rfl, h, q⟩))
theorem ax_pow (ha : Ax X σ H a (.int i)) (hb : Ax X σ H b (.int j)) (h : CPow i j) : Ax X σ H (.BinOp a .Pow b pos) (.int (i ^ j.toNat)) := fun Q q => w_of (pe_op op_pow pe_w pe_w) (ha _ (hb _ ⟨i, j, rfl, rfl, h, q⟩))
theorem axs_1 (ha : Ax X σ H a v) (hs : starEach (a :: []) X.env = (false, eval a X.env) :: starEach [] X.env := by rfl) : Axs X σ H [a] [v] := fun Q q => wa_of (pa_cons pe_w pa_nil hs) (ha _ q)
theorem ax_toInt {p1 : Pos} (hm : X.mg "int" = none) (ha : Axs X σ H [a] [.int i]) (hg : Gl X "int" := by rfl) (he : starEach (a :: []) X.env = (false, eval a X.env) :: starEach [] X.env := by rfl) (hpl : (backTo pos (starEach [] X.env)).any (·.1) = false := by rfl) : Ax X σ H (.Call (.Name "int" p1) [a] [] pos) (.int i) := fun Q q =>
  w_of (pe_callTy call_int1 hg hm bt_int pa_w (by decide) (by decide) he hpl) (ha _ (.inl ⟨i, rfl, q⟩))
theorem ax_len {p1 : Pos} (hm : X.mg "len" = none) (ha : Axs X σ H [a] [.ref p]) (hp : SqL X.K H p xs) (hg : Gl X "len" := by rfl) (he : starEach (a :: []) X.env = (false, eval a X.env) :: starEach [] X.env := by rfl) (hpl : (backTo pos (starEach [] X.env)).any (·.1) = false := by rfl) : Ax X σ H (.Call (.Name "len" p1) [a] [] pos) (.int (xs.length : Int)) := fun Q q =>
  w_of (pe_callB call_len_seq hg hm PySem.boot_len pa_w (by decide) (by decide) he hpl) (ha _ ⟨p, xs, rfl, .inl hp, q⟩)
theorem at_gt (ha : Ax X σ H a (.int i)) (hb : Ax X σ H b (.int j)) : Atst X σ H (.Compare a [.Gt] [b] pos) (decide (j < i)) := fun Q q => wt_of (pt_cmpR op_gt pe_w pe_w (nomark _)) (ha _ (hb _ ⟨i, j, rfl, rfl, _, rfl, q⟩))
theorem at_ge (ha : Ax X σ H a (.int i)) (hb : Ax X σ H b (.int j)) : Atst X σ H (.Compare a [.GtE] [b] pos) (decide (j ≤ i)) := fun Q q => wt_of (pt_cmpR op_ge pe_w pe_w (nomark _)) (ha _ (hb _ ⟨i, j, rfl, rfl, _, rfl, q⟩))
variable {D : Ends} {rs body orelse : List Stmt}
theorem wk_if {t : Bool} (hc : Atst X σ H c t) (h1 : t = true → tWs X body { D with nx := tWs X rs D } σ H) (h2 : t = false → tWs X orelse { D with nx := tWs X rs D } σ H) : tWs X (.If c body orelse pos :: rs) D σ H :=
  ws_of (pss_cons (ps_if pt_w pss_w pss_w) pss_w) (hc _ (by
    cases t with
    | true => exact h1 rfl
    | false => exact h2 rfl))
theorem wk_ret (he : Ax X σ H e v) (q : D.rt v H) : tWs X (.Return (some e) pos :: rs) D σ H := ws_of (pss_cons (ps_ret pe_w) pss_w) (he _ q)
theorem wk_nil (q : D.nx σ H) : tWs X [] D σ H := ws_of pss_nil q
theorem wk_set (k : Nat) {x : Str} (hN : X.N.Nodup) (he : Ax X σ H e v) (hr : tWs X rs D (σ.set k (some v)) H) (hi : X.N[k]? = some x := by rfl) (hx : Loc X.env.scope x := by first | exact Or.inl rfl | exact Or.inr rfl) {pos' : Pos} (hs : swapsWith e (some (.Name x pos')) pos.line X.env = pure false := by rfl)
    (hf : X.fn x = true ∨ X.env.scope.names.lookup x = some .local := by first | exact .inl rfl | exact .inr rfl) : tWs X (.Assign [.Name x pos'] e pos :: rs) D σ H :=
  ws_of (pss_cons (ps_set hN hi hx pe_w hs hf) pss_w) (he _ hr)
/-- xs[k] = e -/
theorem wk_put (k : Nat) {pos2 : Pos} (he : Ax X σ H e v) (ha : Ax X σ H a (.ref p)) (hb : Ax X σ H b (.int i)) (hp : H p = some (.lst xs)) (hk : ixN xs.length i = some k) (hr : tWs X rs D σ (upd H p (.lst (xs.set k v))))
    (hs : swapsWithSole [.Subscript a b pos2] e pos.line X.env = pure false := by rfl) (hw : swappedStores [.Subscript a b pos2] e X.env = pure none := by rfl)
    (h1 : (assignEach [Expr.Subscript a b pos2] X.env).map (·.2) = [assign (.Subscript a b pos2) X.env] := by rfl)
    (h2 : ∀ v, assign (.Subscript a b pos2) X.env v = (do
      let ov ← holding [v] (eval a X.env)
      let iv ← holding [v, ov] (eval b X.env)
      standAt pos2
      holding [v, ov, iv] (setItem ov iv v)
      release [v, ov, iv] []) := by intro _; rfl) : tWs X (.Assign [.Subscript a b pos2] e pos :: rs) D σ H :=
  ws_of (pss_cons (ps_asg pe_w (pg_sub pe_w pe_w set_list h2) hs hw h1) pss_w) (he _ (ha _ (hb _ ⟨p, xs, i, k, rfl, rfl, hp, hk, hr⟩)))
end
end K8
set_option maxHeartbeats 1000000
namespace K8
open PySem PySem.Spec PyProof.Rows L2
/-- the row of the draws -/
def RowAt (H : Hp) (r sc : Addr) : Prop := ∃ idx seed rest : Int, 0 ≤ idx ∧ (0 ≤ seed ∧ seed < 2147483647) ∧ H r = some (.lst [.ref sc, .int idx, .int seed, .int rest])
theorem sql_but {K : PySem.W.Frag} {H H' : Hp} {r sc a : Addr} {scr : List Int} {ys : List V} (h : SqL K H sc (scr.map V.int)) (hr : H r = some (.lst (.ref a :: ys))) (k : ∀ b, b ≠ r → H' b = H b) : SqL K H' sc (scr.map V.int) := by
  rcases h with h | h
  · have hne : sc ≠ r := fun z => by
      subst z
      rcases h with h | ⟨o, h⟩
      · rw [hr] at h
        injection h with h
        injection h with h
        cases scr with
        | nil => cases h
        | cons x r => cases h
      · rw [hr] at h
        cases h
    rcases h with h | ⟨o, h⟩
    · exact .inl (.inl (by rw [k sc hne]; exact h))
    · exact .inl (.inr ⟨o, by rw [k sc hne]; exact h⟩)
  · exact .inr h
def spTk (K : PySem.W.Frag) : Sp := fun vs H Q _ => ∃ (r sc : Addr) (scr : List Int) (n : Int), vs = [.ref r, .int n] ∧ RowAt H r sc ∧ SqL K H sc (scr.map V.int) ∧ 1 ≤ n ∧ n ≤ 1000 ∧
  ∀ (v : Int) (H' : Hp), 0 ≤ v → v < n → (∀ b, b ≠ r → H' b = H b) → RowAt H' r sc → Q (.int v) H'
section
variable {P : Program} {w : World} {K : PySem.W.Frag} {mg : Str → Option Value} {base : Heap} {f : Addr} {fd : FuncData} {C : Addr}
theorem atI4 {a b c d : V} : atI [a, b, c, d] 0 = some a ∧ atI [a, b, c, d] 1 = some b ∧ atI [a, b, c, d] 2 = some c ∧ atI [a, b, c, d] 3 = some d := ⟨rfl, rfl, rfl, rfl⟩
theorem atI_scr {scr : List Int} {i : Int} (h0 : 0 ≤ i) (h1 : i < (scr.length : Int)) : ∃ v : Int, atI (scr.map V.int) i = some (.int v) := by
  obtain ⟨n, rfl⟩ := Int.eq_ofNat_of_zero_le h0
  have hl : n < scr.length := by omega
  refine ⟨scr[n], atI_nat ?_⟩
  rw [List.getElem?_map, List.getElem?_eq_getElem hl]
  rfl
theorem seed_ok (a : Int) : 0 ≤ a % 2147483647 ∧ a % 2147483647 < 2147483647 := ⟨Int.emod_nonneg a (by decide), Int.emod_lt_of_pos a (by decide)⟩
theorem draw_ok {n : Int} (h : 1 ≤ n) (a : Int) : 0 ≤ a % n ∧ a % n < n := ⟨Int.emod_nonneg a (by omega), Int.emod_lt_of_pos a (by omega)⟩
theorem upd_but {H : Hp} {r : Addr} {o : HO} : ∀ b, b ≠ r → upd H r o b = H b := fun b hb => upd_ne hb
theorem ok_taken (D : DefAt K mg "_law_taken" s_L_taken f fd) (T : Txt mg) : FnAt P w K mg base CX0 1 "_law_taken" ["_law_row", "_law_many"] (spTk K) := by
  refine ⟨f, fd, D.F.ok sc_L_taken (fun vs H Q E h => ?_) (fun cdv A outer s H vs Q E hr h => ?_), D.hm, D.F.kp, D.F.binds fun _ _ _ _ _ _ us hl => match us, hl with | [_, _], _ => rfl⟩
  · obtain ⟨r, sc, scr, n, rfl, _⟩ := h
    rfl
  · obtain ⟨r, sc, scr, n, rfl, ⟨idx, seed, rest, hi0, ⟨hs0, hs1⟩, hr1⟩, hsc, hn1, hn2, q⟩ := h
    refine ⟨_, pss_w, ?_⟩
    have ix3 := (atI4 (a := V.ref sc) (b := .int idx) (c := .int seed) (d := .int rest)).2.2.2
    have ix1 := (atI4 (a := V.ref sc) (b := .int idx) (c := .int seed) (d := .int rest)).2.1
    refine wk_if (at_gt (ax_ix (ax_var 0) ax_int (SqL.of hr1) ix3) ax_int) (fun hp => ?_) fun hp => ?_
    · refine wk_set 2 sc_L_taken.nd (ax_mod (ax_toInt T.int (axs_1 (ax_ix (ax_var 0) ax_int (SqL.of hr1) ix3))) (ax_var 1) (by omega)) ?_
      refine wk_put 3 (ax_div (ax_ix (ax_var 0) ax_int (SqL.of hr1) ix3) (ax_var 1) ⟨by omega, by omega⟩) (ax_var 0) ax_int hr1 rfl ?_
      refine wk_ret (ax_var 2) ?_
      have d := draw_ok hn1 rest
      exact q _ _ d.1 d.2 upd_but ⟨idx, seed, rest / n, hi0, ⟨hs0, hs1⟩, upd_same⟩
    · refine wk_nil ?_
      refine wk_put 1 (ax_add (ax_ix (ax_var 0) ax_int (SqL.of hr1) ix1) ax_int) (ax_var 0) ax_int hr1 rfl ?_
      generalize hH1 : upd H r (.lst (([.ref sc, .int idx, .int seed, .int rest] : List V).set 1 (.int (idx + 1)))) = H1
      have e1 : H1 r = some (.lst [.ref sc, .int (idx + 1), .int seed, .int rest]) := by rw [← hH1, upd_same]; rfl
      have b1 : ∀ b, b ≠ r → H1 b = H b := fun b hb => by rw [← hH1]; exact upd_ne hb
      have s1 : SqL K H1 sc (scr.map V.int) := sql_but hsc hr1 b1
      have jx := atI4 (a := V.ref sc) (b := .int (idx + 1)) (c := .int seed) (d := .int rest)
      refine wk_if (at_gt (ax_ix (ax_var 0) ax_int (SqL.of e1) jx.2.1) (ax_len T.len (axs_1 (ax_ix (ax_var 0) ax_int (SqL.of e1) jx.1)) s1)) (fun hp2 => ?_) fun hp2 => ?_
      · refine wk_put 2 (ax_mod (ax_toInt T.int (axs_1 (ax_add (ax_mul (ax_ix (ax_var 0) ax_int (SqL.of e1) jx.2.2.1) ax_int (.inl ⟨by omega, by omega⟩)) ax_int))) ax_int (by decide)) (ax_var 0) ax_int e1 rfl ?_
        generalize hS : (seed * 48271 + 11) % 2147483647 = seed2
        have hs2 : 0 ≤ seed2 ∧ seed2 < 2147483647 := by rw [← hS]; exact seed_ok _
        generalize hH2 : upd H1 r (.lst (([.ref sc, .int (idx + 1), .int seed, .int rest] : List V).set 2 (.int seed2))) = H2
        have e2 : H2 r = some (.lst [.ref sc, .int (idx + 1), .int seed2, .int rest]) := by rw [← hH2, upd_same]; rfl
        have b2 : ∀ b, b ≠ r → H2 b = H b := fun b hb => by rw [← hH2, upd_ne hb]; exact b1 b hb
        have kx := atI4 (a := V.ref sc) (b := .int (idx + 1)) (c := .int seed2) (d := .int rest)
        refine wk_ret (ax_mod (ax_toInt T.int (axs_1 (ax_div (ax_ix (ax_var 0) ax_int (SqL.of e2) kx.2.2.1) ax_int ⟨by decide, by decide⟩))) (ax_var 1) (by omega)) ?_
        have d := draw_ok hn1 (seed2 / 7)
        exact q _ _ d.1 d.2 b2 ⟨idx + 1, seed2, rest, by omega, hs2, e2⟩
      · refine wk_nil ?_
        have hl := of_decide_eq_false hp2
        rw [List.length_map] at hl
        obtain ⟨cell, hcell⟩ := atI_scr (scr := scr) (i := idx + 1 - 1) (by omega) (by omega)
        refine wk_set 3 sc_L_taken.nd (ax_ix (ax_ix (ax_var 0) ax_int (SqL.of e1) jx.1) (ax_sub (ax_ix (ax_var 0) ax_int (SqL.of e1) jx.2.1) ax_int) s1 hcell) ?_
        refine wk_put 2 (ax_mod (ax_toInt T.int (axs_1 (ax_add (ax_add (ax_mul (ax_ix (ax_var 0) ax_int (SqL.of e1) jx.2.2.1) ax_int (.inl ⟨by omega, by omega⟩)) (ax_var 3)) ax_int))) ax_int (by decide)) (ax_var 0) ax_int e1 rfl ?_
        generalize hS : (seed * 48271 + cell + 11) % 2147483647 = seed2
        have hs2 : 0 ≤ seed2 ∧ seed2 < 2147483647 := by rw [← hS]; exact seed_ok _
        generalize hH2 : upd H1 r (.lst (([.ref sc, .int (idx + 1), .int seed, .int rest] : List V).set 2 (.int seed2))) = H2
        have e2 : H2 r = some (.lst [.ref sc, .int (idx + 1), .int seed2, .int rest]) := by rw [← hH2, upd_same]; rfl
        have b2 : ∀ b, b ≠ r → H2 b = H b := fun b hb => by rw [← hH2, upd_ne hb]; exact b1 b hb
        have d := draw_ok hn1 cell
        refine wk_if (at_ge (ax_var 3) (ax_pow ax_int ax_int ⟨by decide, by decide, by decide⟩)) (fun hp3 => ?_) fun hp3 => ?_
        · refine wk_put 3 (ax_div (ax_var 3) (ax_var 1) ⟨by omega, by omega⟩) (ax_var 0) ax_int e2 rfl (wk_nil ?_)
          refine wk_ret (ax_mod (ax_toInt T.int (axs_1 (ax_var 3))) (ax_var 1) (by omega)) ?_
          exact q _ _ d.1 d.2 (fun b hb => by rw [upd_ne hb]; exact b2 b hb) ⟨idx + 1, seed2, cell / n, by omega, hs2, upd_same⟩
        · refine wk_nil ?_
          refine wk_ret (ax_mod (ax_toInt T.int (axs_1 (ax_var 3))) (ax_var 1) (by omega)) ?_
          exact q _ _ d.1 d.2 b2 ⟨idx + 1, seed2, rest, by omega, hs2, e2⟩
end
end K8
set_option maxHeartbeats 1000000
namespace K8
open PySem PySem.Spec PyProof.Rows L2
/-! ### what is drawn: a value of which one thing is known -/
def EvP (ρ : Rho) (K : PySem.W.Frag) (t : TE) (ds : DEnv) (P : PyData → Prop) : Prop := ∀ He σ H0 H, Sat K ρ He H0 H σ ds → ∀ Q : VK, (∀ v d H0' H', P d → Frm ρ H0 H H0' H' → Ds K H0' v d → Q v H') → t σ H Q
def EvAP (ρ : Rho) (K : PySem.W.Frag) (t : TA) (ds : DEnv) (P : List PyData → Prop) : Prop := ∀ He σ H0 H, Sat K ρ He H0 H σ ds → ∀ Q : List V → Hp → Prop, (∀ vs xs H0' H', P xs → Frm ρ H0 H H0' H' → DsAll K H0' vs xs → Q vs H') → t σ H Q
def EvTP (ρ : Rho) (K : PySem.W.Frag) (t : TT) (ds : DEnv) : Prop := ∀ He σ H0 H, Sat K ρ He H0 H σ ds → ∀ Q : Bool → Hp → Prop, (∀ b H0' H', Frm ρ H0 H H0' H' → Q b H') → t σ H Q
abbrev Pp (ρ : Rho) (X : Cx) (ds : DEnv) (e : Expr) (P : PyData → Prop) : Prop := EvP ρ X.K (tW X e) ds P
abbrev Pa (ρ : Rho) (X : Cx) (ds : DEnv) (es : List Expr) (P : List PyData → Prop) : Prop := EvAP ρ X.K (tWa X es) ds P
abbrev Pt (ρ : Rho) (X : Cx) (ds : DEnv) (e : Expr) : Prop := EvTP ρ X.K (tWt X e) ds
def isI (A : Int → Prop) (d : PyData) : Prop := ∃ i, d = .int i ∧ A i
abbrev inR (a b : Int) : PyData → Prop := isI fun i => a ≤ i ∧ i ≤ b
section
variable {ρ : Rho} {X : Cx} {ds : DEnv} {a b c e : Expr} {es : List Expr} {d : PyData} {pos : Pos} {K : PySem.W.Frag} {P P' R : PyData → Prop} {A A' B : Int → Prop}
theorem pp_d (h : Dv ρ X ds e d) : Pp ρ X ds e (fun x => x = d) := fun He σ H0 H S Q q => h He σ H0 H S Q fun v H1 H1' f dv => q v d H1 H1' rfl f dv
theorem pp_to (h : Pp ρ X ds e P) (k : ∀ d, P d → P' d) : Pp ρ X ds e P' := fun He σ H0 H S Q q => h He σ H0 H S Q fun v d H1 H1' p f dv => q v d H1 H1' (k d p) f dv
theorem pp_int (h : Dv ρ X ds e (.int d')) (k : A d') : Pp ρ X ds e (isI A) := pp_to (pp_d h) fun x hx => ⟨d', hx, k⟩
theorem pp_of {t : TE} (h : PE X e t) (k : EvP ρ X.K t ds P) : Pp ρ X ds e P := fun He σ H0 H S Q q => w_of h (k He σ H0 H S Q q)
theorem ep_op {r : R2} {ta tb : TE} (ha : EvP ρ K ta ds P) (hb : EvP ρ K tb ds P') (hr : ∀ x y, P x → P' y → ∃ z, R z ∧ RvD ρ K r x y z) : EvP ρ K (tOp r ta tb) ds R := by
  intro He σ H0 H S Q q
  refine ha He σ H0 H S _ fun v x H1 H1' px f1 d1 => ?_
  refine hb He σ H1 H1' (S.fr f1) _ fun u y H2 H2' py f2 d2 => ?_
  have S2 := (S.fr f1).fr f2
  obtain ⟨z, hz, hr⟩ := hr x y px py
  refine hr H2 H2' v u S2.sub S2.ok (dp_mono f2.ex0 d1) d2 Q fun w H3 H3' f3 d3 => ?_
  exact q w z H3 H3' hz ((f1.trans f2 S.ok).trans f3 S.ok) d3
theorem pp_add (ha : Pp ρ X ds a (isI A)) (hb : Pp ρ X ds b (isI A')) (k : ∀ i j, A i → A' j → B (i + j)) : Pp ρ X ds (.BinOp a .Add b pos) (isI B) := pp_of (pe_op op_add pe_w pe_w) (ep_op ha hb fun x y ⟨i, e1, h1⟩ ⟨j, e2, h2⟩ => ⟨.int (i + j), ⟨_, rfl, k i j h1 h2⟩, by subst e1; subst e2; exact rv_int fun _ => .int _⟩)
theorem pp_sub (ha : Pp ρ X ds a (isI A)) (hb : Pp ρ X ds b (isI A')) (k : ∀ i j, A i → A' j → B (i - j)) : Pp ρ X ds (.BinOp a .Sub b pos) (isI B) := pp_of (pe_op op_sub pe_w pe_w) (ep_op ha hb fun x y ⟨i, e1, h1⟩ ⟨j, e2, h2⟩ => ⟨.int (i - j), ⟨_, rfl, k i j h1 h2⟩, by subst e1; subst e2; exact rv_int fun _ => .int _⟩)
theorem pp_mul (ha : Pp ρ X ds a (isI A)) (hb : Pp ρ X ds b (isI A')) (hs : ∀ i, A i → -(2 ^ 64) < i ∧ i < 2 ^ 64) (k : ∀ i j, A i → A' j → B (i * j)) : Pp ρ X ds (.BinOp a .Mult b pos) (isI B) := pp_of (pe_op op_mul pe_w pe_w) (ep_op ha hb fun x y ⟨i, e1, h1⟩ ⟨j, e2, h2⟩ => ⟨.int (i * j), ⟨_, rfl, k i j h1 h2⟩, by subst e1; subst e2; exact rv_intC (.inl (hs i h1)) fun _ => .int _⟩)
theorem pt_gt (ha : Pp ρ X ds a (isI A)) (hb : Pp ρ X ds b (isI A')) : Pt ρ X ds (.Compare a [.Gt] [b] pos) := fun He σ H0 H S Q q =>
  wt_of (pt_cmpR op_gt pe_w pe_w (nomark _)) (ha He σ H0 H S _ fun v x H1 H1' ⟨i, ex, _⟩ f1 d1 => hb He σ H1 H1' (S.fr f1) _ fun u y H2 H2' ⟨j, ey, _⟩ f2 d2 => by
    subst ex
    subst ey
    cases d1
    cases d2
    exact ⟨i, j, rfl, rfl, _, rfl, q _ H2 H2' (f1.trans f2 S.ok)⟩)
theorem ap_nil : Pa ρ X ds [] (fun xs => xs = []) := fun He σ H0 H S Q q => wa_of pa_nil (q [] [] H0 H rfl (.refl S.sub) .nil)
theorem ap_cons {P2 : List PyData → Prop} (h : Pp ρ X ds e P) (hr : Pa ρ X ds es P2) (hs : starEach (e :: es) X.env = (false, eval e X.env) :: starEach es X.env := by rfl) : Pa ρ X ds (e :: es) (fun xs => ∃ x r, xs = x :: r ∧ P x ∧ P2 r) := fun He σ H0 H S Q q =>
  wa_of (pa_cons pe_w pa_w hs) (h He σ H0 H S _ fun v x H1 H1' px f1 d1 => hr He σ H1 H1' (S.fr f1) _ fun vs xs H2 H2' pxs f2 d2 => q _ _ H2 H2' ⟨x, xs, rfl, px, pxs⟩ (f1.trans f2 S.ok) (.cons (dp_mono f2.ex0 d1) d2))
theorem ap_two (h : Pp ρ X ds a P) (h2 : Pp ρ X ds b P') (hs : starEach (a :: b :: []) X.env = (false, eval a X.env) :: starEach (b :: []) X.env := by rfl) (hs2 : starEach (b :: []) X.env = (false, eval b X.env) :: starEach [] X.env := by rfl) : Pa ρ X ds [a, b] (fun xs => ∃ x y, xs = [x, y] ∧ P x ∧ P' y) := fun He σ H0 H S Q q =>
  ap_cons h (ap_cons h2 ap_nil hs2) hs He σ H0 H S Q fun vs xs H1 H1' ⟨x, r, e1, p1, y, r2, e2, p2, e3⟩ f dv => by
    subst e3
    subst e2
    exact q vs xs H1 H1' ⟨x, y, e1, p1, p2⟩ f dv
theorem pp_tup2 {x1} (h : Pp ρ X ds a P) (h2 : Pp ρ X ds b P') (hs : starEach (a :: b :: []) X.env = (false, eval a X.env) :: starEach (b :: []) X.env := by rfl) (hs2 : starEach (b :: []) X.env = (false, eval b X.env) :: starEach [] X.env := by rfl) : Pp ρ X ds (.Tuple [a, b] x1 pos) (fun d => ∃ x y, d = .tuple [x, y] ∧ P x ∧ P' y) := fun He σ H0 H S Q q =>
  w_of (pe_tup pa_w) (ap_two h h2 hs hs2 He σ H0 H S _ fun vs xs H1 H1' ⟨x, y, ex, p1, p2⟩ f1 d1 => by
    subst ex
    refine ⟨Nat.le_trans (by rw [dpa_len d1]; show 2 ≤ 1000; decide) (by decide), fun p hp => ?_⟩
    have s1 := (S.fr f1).sub
    exact q _ _ _ _ ⟨x, y, rfl, p1, p2⟩ (f1.trans (Frm.new s1 hp) S.ok) (.tup upd_same (dpa_mono (same_new (s1.free hp)) d1)))
end
/-! ### statements over what is drawn -/
section
variable {ρ : Rho} {X : Cx} {ds ds' ds1 : DEnv} {d d1 d2 : PyData} {pos tp : Pos} {st : Stmt} {rs body orelse : List Stmt} {o : Out} {e a b c : Expr} {i j : Nat} {x y : Str} {p : Bool} {K : PySem.W.Frag} {P P' : PyData → Prop} {N N' : DEnv → Prop} {R : PyData → Prop}
theorem bl_npr (h : N ds) : Bl ρ X ds [] (.pr N R) := fun He H0e σ H0 H F S k D q => ws_of pss_nil (q.1 ds σ H0 H h F (Same.refl _) S)
theorem bl_nxpr (h : Bl ρ X ds rs (.nx ds1)) (k : N ds1) : Bl ρ X ds rs (.pr N R) := fun He H0e σ H0 H F S kk D q => h He H0e σ H0 H F S kk D fun σ' H1 H1' f s S' => q.1 ds1 σ' H1 H1' k f s S'
theorem bl_prto (h : Bl ρ X ds rs (.pr N R)) (k : ∀ e, N e → N' e) : Bl ρ X ds rs (.pr N' R) := fun He H0e σ H0 H F S kk D q => h He H0e σ H0 H F S kk D ⟨fun e σ' H1 H1' n f s S' => q.1 e σ' H1 H1' (k e n) f s S', q.2⟩
theorem bl_retP (h : Pp ρ X ds e R) : Bl ρ X ds (.Return (some e) pos :: rs) (.pr N R) := fun He H0e σ H0 H F S k D q =>
  ws_of (pss_cons (ps_ret pe_w) pss_w) (h He σ H0 H S _ fun v d H1 H1' pd f dv => q.2 v d H1 H1' pd (F.trans f k) dv)
theorem bl_setP (i : Nat) (hN : X.N.Nodup) (he : Pp ρ X ds e P) (hr : ∀ d, P d → Bl ρ X (ds.set i (some (.d d))) rs o) (hi : X.N[i]? = some x := by rfl) (hx : Loc X.env.scope x := by first | exact Or.inl rfl | exact Or.inr rfl) {pos' : Pos} (hs : swapsWith e (some (.Name x pos')) pos.line X.env = pure false := by rfl)
    (hf : X.fn x = true ∨ X.env.scope.names.lookup x = some .local := by first | exact .inl rfl | exact .inr rfl) : Bl ρ X ds (.Assign [.Name x pos'] e pos :: rs) o := fun He H0e σ H0 H F S k D q =>
  ws_of (pss_cons (ps_set hN hi hx pe_w hs hf) pss_w) (he He σ H0 H S _ fun v d H1 H1' pd f dv => hr d pd He H0e _ H1 H1' (F.trans f k) ((S.fr f).set dv) k D (q.more f.ex0))
theorem bl_asgP {te : TE} (hp : PS X st (tAsg te (gName i))) (he : EvP ρ X.K te ds P) (hr : ∀ d, P d → Bl ρ X (ds.set i (some (.d d))) rs o) : Bl ρ X ds (st :: rs) o := fun He H0e σ H0 H F S k D q =>
  ws_of (pss_cons hp pss_w) (he He σ H0 H S _ fun v d H1 H1' pd f dv => hr d pd He H0e _ H1 H1' (F.trans f k) ((S.fr f).set dv) k D (q.more f.ex0))
theorem bl_twoP (i j : Nat) {kt : Nat} (hc : X.calm = true) (hN : X.N.Nodup) (he : Pp ρ X ds e (fun d => ∃ x y, d = .tuple [x, y] ∧ P x ∧ P' y)) (hr : ∀ d1 d2, P d1 → P' d2 → Bl ρ X ((ds.set i (some (.d d1))).set j (some (.d d2))) rs o) (hi : X.N[i]? = some x := by rfl) (hj : X.N[j]? = some y := by rfl)
    (hx : Loc X.env.scope x := by first | exact Or.inl rfl | exact Or.inr rfl) (hy : Loc X.env.scope y := by first | exact Or.inl rfl | exact Or.inr rfl) {px py : Pos}
    (hf : X.fn x = true ∨ X.env.scope.names.lookup x = some .local := by first | exact .inl rfl | exact .inr rfl) (hf2 : X.fn y = true ∨ X.env.scope.names.lookup y = some .local := by first | exact .inl rfl | exact .inr rfl)
    (hs : swapsWithSole [.Tuple [.Name x px, .Name y py] kt tp] e pos.line X.env = pure false := by rfl) (hw : swappedStores [.Tuple [.Name x px, .Name y py] kt tp] e X.env = pure none := by rfl) (h1 : (assignEach [Expr.Tuple [.Name x px, .Name y py] kt tp] X.env).map (·.2) = [assign (.Tuple [.Name x px, .Name y py] kt tp) X.env] := by rfl) :
    Bl ρ X ds (.Assign [.Tuple [.Name x px, .Name y py] kt tp] e pos :: rs) o := fun He H0e σ H0 H F S k D q =>
  ws_of (pss_cons (ps_asg pe_w (pg_tup hc (pgs_cons (pg_name hN hi hx hf) (pgs_cons (pg_name hN hj hy hf2) pgs_nil))) hs hw h1) pss_w) (he He σ H0 H S _ fun v d H1 H1' ⟨d1, d2, ed, p1, p2⟩ f dv => by
    subst ed
    obtain ⟨p, vs, rfl, q1, q2⟩ := tup_dp dv
    obtain ⟨v1, v2, rfl, e1, e2⟩ := dpa_two q2
    exact pair_set (S.fr f) (SqT.of (f.sub _ _ q1)) e1 e2 fun σ2 S2 _ _ => hr d1 d2 p1 p2 He H0e _ H1 H1' (F.trans f k) S2 k D (q.more f.ex0))
theorem bl_parP (i j : Nat) {kt k2 : Nat} {pt2 : Pos} (hc : X.calm = true) (hN : X.N.Nodup) (ha : Pp ρ X ds a P) (hb : Pp ρ X ds b P') (hr : ∀ d1 d2, P d1 → P' d2 → Bl ρ X ((ds.set i (some (.d d1))).set j (some (.d d2))) rs o) (hij : i ≠ j := by decide) (hi : X.N[i]? = some x := by rfl) (hj : X.N[j]? = some y := by rfl)
    (hx : X.env.scope.names.lookup x = some .local := by rfl) (hy : X.env.scope.names.lookup y = some .local := by rfl) {px py : Pos}
    (hs1 : starEach (a :: b :: []) X.env = (false, eval a X.env) :: starEach (b :: []) X.env := by rfl) (hs2 : starEach (b :: []) X.env = (false, eval b X.env) :: starEach [] X.env := by rfl)
    (hw : swappedStores [.Tuple [.Name x px, .Name y py] kt tp] (.Tuple [a, b] k2 pt2) X.env = pure (some [x, y]) := by rfl)
    (hs : swapsWithSole [.Tuple [.Name x px, .Name y py] kt tp] (.Tuple [a, b] k2 pt2) pos.line X.env = pure false := by rfl) :
    Bl ρ X ds (.Assign [.Tuple [.Name x px, .Name y py] kt tp] (.Tuple [a, b] k2 pt2) pos :: rs) o := fun He H0e σ H0 H F S k D q =>
  ws_of (pss_cons (ps_par hc hN hi hj hij hx hy pa_w hw hs) pss_w) (ap_two ha hb hs1 hs2 He σ H0 H S _ fun vs xs H1 H1' ⟨d1, d2, ex, p1, p2⟩ f dv => by
    subst ex
    obtain ⟨v1, v2, rfl, e1, e2⟩ := dpa_two dv
    exact ⟨v1, v2, rfl, hr d1 d2 p1 p2 He H0e _ H1 H1' (F.trans f k) (((S.fr f).set e1).set e2) k D (q.more f.ex0)⟩)
/-- if, its test unknown -/
theorem bl_ifP (hc : Pt ρ X ds c) (h1 : Bl ρ X ds body (.pr N (fun _ => False))) (h2 : Bl ρ X ds orelse (.pr N (fun _ => False))) (hr : ∀ ds1, N ds1 → Bl ρ X ds1 rs o) : Bl ρ X ds (.If c body orelse pos :: rs) o := fun He H0e σ H0 H F S k D q =>
  ws_of (pss_cons (ps_if pt_w pss_w pss_w) pss_w) (hc He σ H0 H S _ fun t H1 H1' f => by
    have cont : After ρ X.K He H0e H1 { D with nx := tWs X rs D } (.pr N (fun _ => False)) := ⟨fun ds1 σ' H2 H2' n f2 s2 S2 => hr ds1 n He H0e σ' H2 H2' f2 S2 k D (q.more (f.ex0.trans s2)), fun _ _ _ _ z => z.elim⟩
    cases t with
    | true => exact h1 He H0e _ H1 H1' (F.trans f k) (S.fr f) k _ cont
    | false => exact h2 He H0e _ H1 H1' (F.trans f k) (S.fr f) k _ cont)
/-- a loop over items, what holds behind each known -/
theorem bl_eachP {α : Type} {as : List α} {bind : α → DEnv → DEnv} {tgs : List Nat} {wi : TI} {g : TG} {tg iter : Expr} (I : Nat → DEnv → Prop) (hp : PassesOwn (model X.prog X.w) X.A X.env X.xe) (hc : X.calm = true) (hi : PI X tg iter wi) (hg : PG X tg g)
    (src : Src ρ X.K wi g ds as bind tgs) (h0 : I 0 ds)
    (hb : ∀ (i : Nat) (a : α) (e : DEnv), as[i]? = some a → I i e → Bl ρ X (bind a e) body (.pr (I (i + 1)) (fun _ => False))) (hr : ∀ e, I as.length e → Bl ρ X e rs o)
    (hs : ∀ x, foldedSetIterable iter X.env x = pure x := by intro _; rfl) : Bl ρ X ds (.For tg iter body [] pos :: rs) o := fun He H0e σ H0 H Fr S k D q =>
  ws_of (pss_cons (ps_for hp hc hi hg pss_w hs) pss_w) (src He σ H0 H S _ fun J H1 H1' f stop go => by
    refine ⟨fun i m σ' Hc => m = as.length - i ∧ i ≤ as.length ∧ ∃ env H2, I i env ∧ Frm ρ H0e He H2 Hc ∧ Same H1 H2 ∧ Sat X.K ρ He H2 Hc σ' env, ⟨as.length, rfl, Nat.zero_le _, ds, H1, h0, Fr.trans f k, Same.refl _, S.fr f⟩, ?_⟩
    rintro i m σ' Hc ⟨rfl, hi, env, H2, hI, F2, s2, S2⟩
    by_cases hlt : i < as.length
    · have ha := List.getElem?_eq_getElem hlt
      obtain ⟨hgo, hy⟩ := go i as[i] H2 Hc s2 S2.sub S2.ok ha
      refine .inr ⟨hgo, fun σ' Hc => ∃ env H2, I (i + 1) env ∧ Frm ρ H0e He H2 Hc ∧ Same H1 H2 ∧ Sat X.K ρ He H2 Hc σ' env, fun σ' Hc hn => ⟨as.length - (i + 1), by omega, rfl, hlt, hn⟩, fun x Hy y => ?_⟩
      obtain ⟨H3, f3, hg⟩ := hy x Hy y
      have S3 := S2.fr f3
      have F3 := F2.trans f3 k
      refine hg He σ' env S3 _ fun σ2 S4 _ _ => ?_
      exact hb i as[i] env ha hI He H0e σ2 H3 Hy F3 S4 k _ ⟨fun env5 σ5 H5 H5' n5 f5 s5 S5 => ⟨env5, H5, n5, f5, s2.trans (f3.ex0.trans s5), S5⟩, fun _ _ _ _ z => z.elim⟩
    · have e : i = as.length := by omega
      subst e
      refine .inl ⟨stop _ H2 Hc s2 S2.sub S2.ok (Nat.le_refl _), ?_⟩
      exact hr env hI He H0e σ' H2 Hc F2 S2 k D (q.more (f.ex0.trans s2)))
end
end K8
set_option maxHeartbeats 1000000
namespace K8
open PySem PySem.Spec PyProof.Rows L2
section
variable {ρ : Rho} {X : Cx} {ds ds' ds1 : DEnv} {d d1 d2 d3 : PyData} {pos tp : Pos} {st : Stmt} {rs body orelse : List Stmt} {o : Out} {e a b c : Expr} {i j : Nat} {x y z : Str} {p : Bool} {K : PySem.W.Frag} {P P' : PyData → Prop} {N N' : DEnv → Prop} {R : PyData → Prop}
theorem bl_appendP (i : Nat) {xs : List PyData} {x : Str} {p1 p2 p3 : Pos} (h : Pp ρ X ds e P) (hds : ds[i]? = some (some (.own xs))) (hz : xs.length < 1000) (hr : ∀ d, P d → Bl ρ X (ds.set i (some (.own (xs ++ [d])))) rs o) (hi : X.N[i]? = some x := by rfl) (hv : Vis X.env.scope x := by first | exact Or.inl rfl | exact Or.inr (Or.inl rfl) | exact Or.inr (Or.inr rfl)) (hd1 : (x == ("__debug__" : Str)) = false := by decide) (hd2 : (x == ("__classdict__" : Str)) = false := by decide)
    (hh : ∀ {te ta : TE}, PE X (.Name x p1) ta → PE X e te → PE X (.Call (.Attribute (.Name x p1) "append" p2) [e] [] p3) (tBM X.K "list" rAppend ta (tCons te tNil))) (hs : swapsWith (.Call (.Attribute (.Name x p1) "append" p2) [e] [] p3) none pos.line X.env = pure false := by rfl) :
    Bl ρ X ds (.Expr (.Call (.Attribute (.Name x p1) "append" p2) [e] [] p3) pos :: rs) o := fun He H0e σ H0 H F S k D q =>
  ws_of (pss_cons (ps_expr (hh (pe_var hi hv hd1 hd2) pe_w) hs) pss_w) (by
    obtain ⟨v, hv, a, vs, rfl, g1, g2, g3, g4, g5⟩ := S.get i _ hds
    refine ⟨.ref a, hv, .inl ⟨rfl, vs, SqL.of g1⟩, ?_⟩
    refine h He σ H0 H S _ fun w d H1 H1' pd f dw => ?_
    have S1 := S.fr f
    have c1 := f.fr _ _ g4 g1
    have n1 : H1 a = none := f.sep a g2 (by rw [g1]; exact fun z => nomatch z)
    have F1 := F.trans f k
    refine ⟨a, vs, w, rfl, rfl, c1, Nat.lt_of_lt_of_le (by rw [dpa_len g5]; exact hz) (by decide : 1000 ≤ sizeLine), ?_⟩
    have F2 : Frm ρ H0e He H1 (upd H1' a (.lst (vs ++ [w]))) := ⟨F1.ex0, same_mut F1.sub n1, fun b u e h => by rw [upd_ne (ne_of_none h g3)]; exact F1.fr b u e h, F1.sep, fun kk => ρ.up _ _ (F1.ok kk) fun b hb => upd_ne fun z => by rw [z, g4] at hb; exact Bool.noConfusion hb⟩
    have hil : i < ds.length := (List.getElem?_eq_some_iff.mp hds).1
    have same_own : ∀ (j : Nat) (ys : List PyData), (ds.set i (some (.own (xs ++ [d]))))[j]? = some (some (.own ys)) → ∃ zs : List PyData, ds[j]? = some (some (.own zs)) := fun j ys h => by
      by_cases hj : i = j
      · subst hj
        exact ⟨_, hds⟩
      · rw [List.getElem?_set_ne hj] at h
        exact ⟨_, h⟩
    refine hr d pd He H0e σ H1 _ F2 ⟨F2.sub, F2.ok k, by rw [List.length_set]; exact S.len, fun j u h => ?_, fun j l ys zs b h1 h2 h3 h4 => ?_, S1.rho⟩ k D (q.more f.ex0)
    · by_cases hj : i = j
      · subst hj
        rw [List.getElem?_set_self hil] at h
        cases h
        exact ⟨_, hv, a, _, rfl, upd_same, n1, g3, g4, dpa_app (dpa_mono f.ex0 g5) (.cons dw .nil)⟩
      · rw [List.getElem?_set_ne hj] at h
        obtain ⟨v2, h1, h2⟩ := S1.get j u h
        refine ⟨v2, h1, ?_⟩
        cases u with
        | d x => exact h2
        | v x => exact h2
        | dk kvs => exact h2
        | own ys =>
          obtain ⟨b, ws, rfl, r1, r2, r3, r4, r5⟩ := h2
          have nb : b ≠ a := fun z => by
            subst z
            exact hj (S.apart i j xs ys b hds h hv h1)
          exact ⟨b, ws, rfl, by rw [upd_ne nb]; exact r1, r2, r3, r4, r5⟩
    · obtain ⟨_, e1⟩ := same_own j ys h1
      obtain ⟨_, e2⟩ := same_own l zs h2
      exact S.apart j l _ _ b e1 e2 h3 h4)
/-- a, b, c = x, y, []: plain locals -/
theorem bl_par3O (i j l : Nat) {kt k2 : Nat} {pt2 p2 : Pos} (hc : X.calm = true) (hN : X.N.Nodup) (ha : Pp ρ X ds a P) (hb : Pp ρ X ds b P') (no : ∀ d1 d2 (k : Nat) ys, ((ds.set i (some (.d d1))).set j (some (.d d2)))[k]? = some (some (.own ys)) → k = l) (hr : ∀ d1 d2, P d1 → P' d2 → Bl ρ X (((ds.set i (some (.d d1))).set j (some (.d d2))).set l (some (.own []))) rs o)
    (hij : i ≠ j := by decide) (hil : i ≠ l := by decide) (hjl : j ≠ l := by decide) (hi : X.N[i]? = some x := by rfl) (hj : X.N[j]? = some y := by rfl) (hl : X.N[l]? = some z := by rfl)
    (hx : X.env.scope.names.lookup x = some .local := by rfl) (hy : X.env.scope.names.lookup y = some .local := by rfl) (hz : X.env.scope.names.lookup z = some .local := by rfl) {px py pz : Pos} (hii : l < ds.length := by first | decide | simp [startE])
    (hs1 : starEach (a :: b :: Expr.List [] p2 :: []) X.env = (false, eval a X.env) :: starEach (b :: Expr.List [] p2 :: []) X.env := by rfl) (hs2 : starEach (b :: Expr.List [] p2 :: []) X.env = (false, eval b X.env) :: starEach (Expr.List [] p2 :: []) X.env := by rfl) (hs3 : starEach (Expr.List [] p2 :: []) X.env = (false, eval (.List [] p2) X.env) :: starEach [] X.env := by rfl)
    (hw : swappedStores [.Tuple [.Name x px, .Name y py, .Name z pz] kt tp] (.Tuple [a, b, .List [] p2] k2 pt2) X.env = pure (some [x, y, z]) := by rfl)
    (hs : swapsWithSole [.Tuple [.Name x px, .Name y py, .Name z pz] kt tp] (.Tuple [a, b, .List [] p2] k2 pt2) pos.line X.env = pure false := by rfl) :
    Bl ρ X ds (.Assign [.Tuple [.Name x px, .Name y py, .Name z pz] kt tp] (.Tuple [a, b, .List [] p2] k2 pt2) pos :: rs) o := fun He H0e σ H0 H F S k D q =>
  ws_of (pss_cons (ps_par3 hc hN hi hj hl hij hil hjl hx hy hz (pa_cons pe_w (pa_cons pe_w (pa_cons (pe_lst pa_nil) pa_nil hs3) hs2) hs1) hw hs) pss_w) (ha He σ H0 H S _ fun v1 d1 H1 H1' p1 f e1 => hb He σ H1 H1' (S.fr f) _ fun v2 d2 H2 H2' p2' f2 e2 => ⟨Nat.zero_le _, fun p hp => by
    have F2 := (F.trans f k).trans f2 k
    have S2 := (S.fr f).fr f2
    have hpe : He p = none := by
      cases z : He p with
      | none => rfl
      | some u => exact absurd hp (F2.th k (by rw [z]; exact fun w => nomatch w))
    have F' : Frm ρ H0e He H2 (upd H2' p (.lst [])) := ⟨F2.ex0, F2.sub.trans (same_new hp), fun b u e h => same_new hp _ _ (F2.fr b u e h), F2.sep, fun kk => Rho.same (F2.ok kk) (same_new hp)⟩
    refine ⟨v1, v2, .ref p, rfl, ?_⟩
    exact hr d1 d2 p1 p2' He H0e _ H2 _ F' (((S2.set (dp_mono f2.ex0 e1)).set e2).own l hp hpe (by rw [List.length_set, List.length_set]; exact hii) (no d1 d2)) k D (q.more (f.ex0.trans f2.ex0))⟩)
/-- .. by a triple -/
theorem bl_three (i j l : Nat) {kt : Nat} (hc : X.calm = true) (hN : X.N.Nodup) (he : Dv ρ X ds e (.tuple [d1, d2, d3])) (hr : Bl ρ X (((ds.set i (some (.d d1))).set j (some (.d d2))).set l (some (.d d3))) rs o) (hi : X.N[i]? = some x := by rfl) (hj : X.N[j]? = some y := by rfl) (hl : X.N[l]? = some z := by rfl)
    (hx : Loc X.env.scope x := by first | exact Or.inl rfl | exact Or.inr rfl) (hy : Loc X.env.scope y := by first | exact Or.inl rfl | exact Or.inr rfl) (hz : Loc X.env.scope z := by first | exact Or.inl rfl | exact Or.inr rfl) {px py pz : Pos}
    (hf : X.fn x = true ∨ X.env.scope.names.lookup x = some .local := by first | exact .inl rfl | exact .inr rfl) (hf2 : X.fn y = true ∨ X.env.scope.names.lookup y = some .local := by first | exact .inl rfl | exact .inr rfl) (hf3 : X.fn z = true ∨ X.env.scope.names.lookup z = some .local := by first | exact .inl rfl | exact .inr rfl)
    (hs : swapsWithSole [.Tuple [.Name x px, .Name y py, .Name z pz] kt tp] e pos.line X.env = pure false := by rfl) (hw : swappedStores [.Tuple [.Name x px, .Name y py, .Name z pz] kt tp] e X.env = pure none := by rfl) (h1 : (assignEach [Expr.Tuple [.Name x px, .Name y py, .Name z pz] kt tp] X.env).map (·.2) = [assign (.Tuple [.Name x px, .Name y py, .Name z pz] kt tp) X.env] := by rfl) :
    Bl ρ X ds (.Assign [.Tuple [.Name x px, .Name y py, .Name z pz] kt tp] e pos :: rs) o := fun He H0e σ H0 H F S k D q =>
  ws_of (pss_cons (ps_asg pe_w (pg_tup hc (pgs_cons (pg_name hN hi hx hf) (pgs_cons (pg_name hN hj hy hf2) (pgs_cons (pg_name hN hl hz hf3) pgs_nil)))) hs hw h1) pss_w) (he He σ H0 H S _ fun v H1 H1' f dv => by
    obtain ⟨p, vs, rfl, q1, q2⟩ := tup_dp dv
    have h3 : ∃ v1 v2 v3, vs = [v1, v2, v3] ∧ Ds X.K H1 v1 d1 ∧ Ds X.K H1 v2 d2 ∧ Ds X.K H1 v3 d3 := by
      cases q2 with
      | cons a1 a2 =>
        obtain ⟨v2, v3, rfl, b1, b2⟩ := dpa_two a2
        exact ⟨_, v2, v3, rfl, a1, b1, b2⟩
    obtain ⟨v1, v2, v3, rfl, e1, e2, e3⟩ := h3
    refine ⟨p, [v1, v2, v3], rfl, SqT.of (f.sub _ _ q1), rfl, v1, [v2, v3], rfl, v2, [v3], rfl, v3, [], rfl, rfl, ?_⟩
    exact hr He H0e _ H1 H1' (F.trans f k) ((((S.fr f).set e1).set e2).set e3) k D (q.more f.ex0))
/-- a, b, c = x, y, []: by a triple -/
theorem bl_threeO (i j l : Nat) {kt k2 : Nat} {pt2 p2 : Pos} (hc : X.calm = true) (hN : X.N.Nodup) (ha : Pp ρ X ds a P) (hb : Pp ρ X ds b P') (no : ∀ d1 d2 (k : Nat) ys, ((ds.set i (some (.d d1))).set j (some (.d d2)))[k]? = some (some (.own ys)) → k = l) (hr : ∀ d1 d2, P d1 → P' d2 → Bl ρ X (((ds.set i (some (.d d1))).set j (some (.d d2))).set l (some (.own []))) rs o)
    (hi : X.N[i]? = some x := by rfl) (hj : X.N[j]? = some y := by rfl) (hl : X.N[l]? = some z := by rfl)
    (hx : Loc X.env.scope x := by first | exact Or.inl rfl | exact Or.inr rfl) (hy : Loc X.env.scope y := by first | exact Or.inl rfl | exact Or.inr rfl) (hz : Loc X.env.scope z := by first | exact Or.inl rfl | exact Or.inr rfl) {px py pz : Pos} (hii : l < ds.length := by first | decide | simp [startE])
    (hf : X.fn x = true ∨ X.env.scope.names.lookup x = some .local := by first | exact .inl rfl | exact .inr rfl) (hf2 : X.fn y = true ∨ X.env.scope.names.lookup y = some .local := by first | exact .inl rfl | exact .inr rfl) (hf3 : X.fn z = true ∨ X.env.scope.names.lookup z = some .local := by first | exact .inl rfl | exact .inr rfl)
    (hs1 : starEach (a :: b :: Expr.List [] p2 :: []) X.env = (false, eval a X.env) :: starEach (b :: Expr.List [] p2 :: []) X.env := by rfl) (hs2 : starEach (b :: Expr.List [] p2 :: []) X.env = (false, eval b X.env) :: starEach (Expr.List [] p2 :: []) X.env := by rfl) (hs3 : starEach (Expr.List [] p2 :: []) X.env = (false, eval (.List [] p2) X.env) :: starEach [] X.env := by rfl)
    (hs : swapsWithSole [.Tuple [.Name x px, .Name y py, .Name z pz] kt tp] (.Tuple [a, b, .List [] p2] k2 pt2) pos.line X.env = pure false := by rfl) (hw : swappedStores [.Tuple [.Name x px, .Name y py, .Name z pz] kt tp] (.Tuple [a, b, .List [] p2] k2 pt2) X.env = pure none := by rfl) (h1 : (assignEach [Expr.Tuple [.Name x px, .Name y py, .Name z pz] kt tp] X.env).map (·.2) = [assign (.Tuple [.Name x px, .Name y py, .Name z pz] kt tp) X.env] := by rfl) :
    Bl ρ X ds (.Assign [.Tuple [.Name x px, .Name y py, .Name z pz] kt tp] (.Tuple [a, b, .List [] p2] k2 pt2) pos :: rs) o := fun He H0e σ H0 H F S k D q =>
  ws_of (pss_cons (ps_asg (pe_tup (pa_cons pe_w (pa_cons pe_w (pa_cons (pe_lst pa_nil) pa_nil hs3) hs2) hs1)) (pg_tup hc (pgs_cons (pg_name hN hi hx hf) (pgs_cons (pg_name hN hj hy hf2) (pgs_cons (pg_name hN hl hz hf3) pgs_nil)))) hs hw h1) pss_w) (ha He σ H0 H S _ fun v1 d1 H1 H1' p1 f e1 => hb He σ H1 H1' (S.fr f) _ fun v2 d2 H2 H2' p2' f2 e2 => ⟨Nat.zero_le _, fun p hp => by
    have F2 := (F.trans f k).trans f2 k
    have S2 := (S.fr f).fr f2
    have hpe : He p = none := by
      cases z : He p with
      | none => rfl
      | some u => exact absurd hp (F2.th k (by rw [z]; exact fun w => nomatch w))
    refine ⟨Nat.le_trans (by decide : 3 ≤ 1000) (by decide), fun t ht => ?_⟩
    have F' : Frm ρ H0e He H2 (upd H2' p (.lst [])) := ⟨F2.ex0, F2.sub.trans (same_new hp), fun b u e h => same_new hp _ _ (F2.fr b u e h), F2.sep, fun kk => Rho.same (F2.ok kk) (same_new hp)⟩
    have S3 := ((S2.set (i := i) (dp_mono f2.ex0 e1)).set (i := j) e2).own l hp hpe (by rw [List.length_set, List.length_set]; exact hii) (no d1 d2)
    have f3 : Frm ρ H2 (upd H2' p (.lst [])) _ _ := Frm.new (o := .tup [v1, v2, V.ref p]) S3.sub ht
    refine ⟨t, [v1, v2, .ref p], rfl, SqT.of upd_same, rfl, v1, [v2, .ref p], rfl, v2, [.ref p], rfl, .ref p, [], rfl, rfl, ?_⟩
    exact hr d1 d2 p1 p2' He H0e _ _ _ (F'.trans f3 k) (S3.fr f3) k D (q.more ((f.ex0.trans f2.ex0).trans f3.ex0))⟩)
/-- [x] * n -/
theorem dv_rep {n : Int} (ha : Dv ρ X ds a (.list [d])) (hb : Dv ρ X ds b (.int n)) (h0 : 0 ≤ n) (h1 : n ≤ 1000) : Dv ρ X ds (.BinOp a .Mult b pos) (.list (List.replicate n.toNat d)) :=
  dv_of (pe_op op_rep pe_w pe_w) (ed_op ha hb fun H0 H v u s k dv du Q q => by
    obtain ⟨p, vs, rfl, q1, q2⟩ := seq_dp dv
    obtain ⟨v1, rfl, e1⟩ := dpa_one q2
    cases du
    refine ⟨p, n, [v1], rfl, rfl, s _ _ q1, by omega, by omega, Nat.le_trans (by show 1 * n.toNat ≤ 1000; omega) (by decide), fun l hl => ?_⟩
    have n0 := same_new (o := HO.lst (List.replicate n.toNat [v1]).flatten) (s.free hl)
    refine q _ _ _ (Frm.new s hl) (.lst upd_same ?_)
    have rep : ∀ m : Nat, DsAll X.K H0 (List.replicate m [v1]).flatten (List.replicate m d) := fun m => by
      induction m with
      | zero => exact .nil
      | succ m ih => exact .cons e1 ih
    exact dpa_mono n0 (rep n.toNat))
end
end K8
set_option maxHeartbeats 1000000
namespace K8
open PySem PySem.Spec PyProof.Rows L2
def listP (n : Nat) (P : PyData → Prop) (d : PyData) : Prop := ∃ xs, d = .list xs ∧ xs.length = n ∧ ∀ x ∈ xs, P x
section
variable {ρ : Rho} {K : PySem.W.Frag} {ds : DEnv} {α : Type} {as : List α} {bind : α → DEnv → DEnv} {tgs vs : List Nat} {wi : TI} {g : TG} {te : TE} {P : PyData → Prop}
theorem ed_lcP (src : Src ρ K wi g ds as bind tgs) (htg : ∀ j ∈ tgs, j ∈ vs) (hz : as.length ≤ 1000) (he : ∀ a ∈ as, EvP ρ K te (bind a (wipeE ds vs)) P) : EvP ρ K (tLc wi g tYes te vs) ds (listP as.length P) := by
  intro He σ H0 H S Q q
  refine src He σ H0 H S _ fun J H0' H' f0 stop go => ?_
  intro D hD
  have S0 := S.fr f0
  have aD := Rho.new S0.ok hD
  have nD : H0' D = none := S0.sub.free hD
  refine ⟨fun i m Hc => m = as.length - i ∧ i ≤ as.length ∧ ∃ H1 ws ys, Frm ρ H0' H' H1 Hc ∧ H1 D = none ∧ Hc D = some (.lst ws) ∧ DsAll K H1 ws ys ∧ ys.length = i ∧ ∀ y ∈ ys, P y,
    ⟨as.length, rfl, Nat.zero_le _, H0', [], [], ⟨Same.refl _, S0.sub.trans (same_new hD), fun b o _ e => same_new hD b o e, fun b e _ => e, fun k => Rho.same k (same_new hD)⟩, nD, upd_same, .nil, rfl, fun y hy => absurd hy List.not_mem_nil⟩, ?_⟩
  rintro i m Hc ⟨rfl, hi, H1, ws, ys, fr, h1, h2, h3, hl1, hP⟩
  have S1 : Sat K ρ He H1 Hc σ ds := S0.fr fr
  by_cases hlt : i < as.length
  · obtain ⟨hgo, hy⟩ := go i as[i] H1 Hc fr.ex0 S1.sub S1.ok (List.getElem?_eq_getElem hlt)
    refine .inr ⟨hgo, fun Hn => ∃ H1 ws ys, Frm ρ H0' H' H1 Hn ∧ H1 D = none ∧ Hn D = some (.lst ws) ∧ DsAll K H1 ws ys ∧ ys.length = i + 1 ∧ ∀ y ∈ ys, P y, fun Hn hn => ⟨as.length - (i + 1), by omega, rfl, hlt, hn⟩, fun x Hy y => ?_⟩
    obtain ⟨H2, f2, hg⟩ := hy x Hy y
    have S2 := (S1.fr f2).wiped vs
    refine hg He (wipe σ vs) (wipeE ds vs) S2 _ fun σ2 S3 hk hl => ⟨wipe_again hl hk htg, ?_⟩
    have hm : as[i] ∈ as := List.getElem_mem hlt
    have F2 := fr.trans f2 S0.ok
    have d2 : Hy D = some (.lst ws) := f2.fr D _ aD h2
    have n2 : H2 D = none := f2.sep D h1 (by rw [h2]; exact fun z => nomatch z)
    show if true = true then te σ2 Hy fun y H4 => ∃ acc, H4 D = some (.lst acc) ∧ acc.length < sizeLine ∧ ∃ H1 ws ys, Frm ρ H0' H' H1 (upd H4 D (.lst (acc ++ [y]))) ∧ H1 D = none ∧ (upd H4 D (.lst (acc ++ [y]))) D = some (.lst ws) ∧ DsAll K H1 ws ys ∧ ys.length = i + 1 ∧ ∀ y ∈ ys, P y else ∃ H1 ws ys, Frm ρ H0' H' H1 Hy ∧ H1 D = none ∧ Hy D = some (.lst ws) ∧ DsAll K H1 ws ys ∧ ys.length = i + 1 ∧ ∀ y ∈ ys, P y
    rw [if_pos rfl]
    refine he _ hm He σ2 H2 Hy S3 _ fun v dv H4 H4' pv f4 d4 => ?_
    have F4 := F2.trans f4 S0.ok
    have c4 : H4' D = some (.lst ws) := f4.fr D _ aD d2
    have n4 : H4 D = none := f4.sep D n2 (by rw [d2]; exact fun z => nomatch z)
    have hw := dpa_len h3
    refine ⟨ws, c4, Nat.lt_of_le_of_lt (by rw [hw, hl1]; exact Nat.le_trans hi hz) (by decide : 1000 < sizeLine), H4, ws ++ [v], ys ++ [dv], ⟨F4.ex0, same_mut F4.sub n4, fun b o e h => ?_, F4.sep, fun k => ρ.up _ _ (F4.ok k) fun b hb => ?_⟩, n4, upd_same, ?_, ?_, ?_⟩
    · rw [upd_ne (ne_of_none h hD)]
      exact F4.fr b o e h
    · refine upd_ne fun z => ?_
      rw [z, aD] at hb
      exact Bool.noConfusion hb
    · exact dpa_app (dpa_mono f4.ex0 (dpa_mono f2.ex0 h3)) (.cons d4 .nil)
    · rw [List.length_append, hl1]
      rfl
    · intro y hy
      rcases List.mem_append.mp hy with z | z
      · exact hP y z
      · rw [List.mem_singleton.mp z]
        exact pv
  · have e : i = as.length := by omega
    subst e
    refine .inl ⟨stop _ H1 Hc fr.ex0 S1.sub S1.ok (Nat.le_refl _), ?_⟩
    have F := f0.trans fr S.ok
    refine q _ (.list ys) (upd H1 D (.lst ws)) Hc ⟨ys, rfl, hl1, hP⟩ ⟨F.ex0.trans (same_new h1), fun b o e => ?_, F.fr, fun b e1 e2 => ?_, F.ok⟩ (.lst upd_same (dpa_mono (same_new h1) h3))
    · by_cases hb : b = D
      · subst hb
        rw [upd_same] at e
        rw [h2, ← e]
      · rw [upd_ne hb] at e
        exact fr.sub b o e
    · rw [upd_ne fun z => ?_]
      · exact F.sep b e1 e2
      · have := f0.th S.ok e2
        rw [z] at this
        exact this hD
end
section
variable {ρ : Rho} {X : Cx} {ds : DEnv} {d : PyData} {pos : Pos} {α : Type} {as : List α} {bind : α → DEnv → DEnv} {tgs : List Nat} {wi : TI} {g : TG} {elt tg iter c : Expr} {scope : Scope} {own : List (Str × Nat)} {rs : List Stmt} {o : Out} {P : PyData → Prop}
theorem ep_lc0 (src : Src ρ X.K wi g ds as bind tgs) (htg : ∀ j ∈ tgs, j ∈ own.map (·.2)) (hz : as.length ≤ 1000)
    (he : ∀ s H C cl fp, ∀ a ∈ as, Pp ρ (blkX X scope s H C cl fp) (bind a (wipeE ds (own.map (·.2)))) elt P) : EvP ρ X.K (tLc wi g tYes (tBe X scope elt) (own.map (·.2))) ds (listP as.length P) :=
  ed_lcP (te := tBe X scope elt) src htg hz fun a ha He σ H0 H S Q q s H₀ C cl fp => he s H₀ C cl fp a ha He σ H0 H S Q q
theorem pp_lc0 (hc : X.calm = true) (hN : X.N.Nodup) (hi : PI X tg iter wi) (ok : BlkOk X.N X.env.scope scope own) (hg : ∀ s H C cl fp, PG (blkX X scope s H C cl fp) tg g)
    (src : Src ρ X.K wi g ds as bind tgs) (htg : ∀ j ∈ tgs, j ∈ own.map (·.2)) (hz : as.length ≤ 1000)
    (he : ∀ s H C cl fp, ∀ a ∈ as, Pp ρ (blkX X scope s H C cl fp) (bind a (wipeE ds (own.map (·.2)))) elt P) (hs : ∀ x, foldedSetIterable iter X.env x = pure x := by intro _; rfl) : Pp ρ X ds (.ListComp elt [⟨tg, iter, [], 0⟩] scope pos) (listP as.length P) :=
  pp_of (pe_lc hc hN hi ok (fun s H C cl fp => hg s H C cl fp) (fun _ _ _ _ _ => pts_nil) (fun s H C cl fp => ⟨fun pins s' σ H' Q I h => h s H C cl fp pins s' I⟩) hs) (ep_lc0 src htg hz he)
theorem bl_lc0P (i : Nat) {y : Str} {py spos : Pos} (hc : X.calm = true) (hN : X.N.Nodup) (hi : PI X tg iter wi) (ok : BlkOk X.N X.env.scope scope own) (hg : ∀ s H C cl fp, PG (blkX X scope s H C cl fp) tg g)
    (src : Src ρ X.K wi g ds as bind tgs) (htg : ∀ j ∈ tgs, j ∈ own.map (·.2)) (hz : as.length ≤ 1000)
    (he : ∀ s H C cl fp, ∀ a ∈ as, Pp ρ (blkX X scope s H C cl fp) (bind a (wipeE ds (own.map (·.2)))) elt P)
    (hr : ∀ d, listP as.length P d → Bl ρ X (ds.set i (some (.d d))) rs o)
    (hy : X.N[i]? = some y := by rfl) (hyl : X.env.scope.names.lookup y = some .local := by rfl) (hk : X.env.scope.kind = .function := by rfl) (hl : (py.line == pos.line) = true := by rfl)
    (ha : (scope.names.any fun (n, k) => n == y && (k == .local || k == .cell)) = false := by decide +kernel) (hs : ∀ x, foldedSetIterable iter X.env x = pure x := by intro _; rfl) :
    Bl ρ X ds (.Assign [.Name y py] (.ListComp elt [⟨tg, iter, [], 0⟩] scope pos) spos :: rs) o :=
  bl_asgP (ps_setLc (te := tBe X scope elt) (tt := tYes) hc hN hy hyl (sw_true hk hyl hl ha) hi ok (fun s H C cl fp => hg s H C cl fp) (fun s H C cl fp => pts_nil) (fun s H C cl fp => ⟨fun pins s' σ H' Q I h => h s H C cl fp pins s' I⟩) hs)
    (ep_lc0 src htg hz he) hr
end
/-! ### the row of the draws as the one thing that turns -/
def KLst (K : PySem.W.Frag) (sc : Addr) (xs : List V) : Prop := ∃ (o : Obj) (its : Array Value) (n : Nat), K.lookup sc = some o ∧ o.cls = .type "list" ∧ o.dict = none ∧ o.data = .seq its n ∧ its.size ≤ sizeLine ∧ Vals xs its.toList
def ScrAt (K : PySem.W.Frag) (H : Hp) (sc : Addr) (scr : List Int) (fl : Bool) : Prop := if fl = true then Rd H sc (.lst (scr.map V.int)) else KLst K sc (scr.map V.int)
theorem ScrAt.sq {K : PySem.W.Frag} {H : Hp} {sc : Addr} {scr : List Int} {fl : Bool} (h : ScrAt K H sc scr fl) : SqL K H sc (scr.map V.int) := by
  unfold ScrAt at h
  cases fl
  · rw [if_neg (by decide)] at h
    exact .inr h
  · rw [if_pos rfl] at h
    exact .inl h
theorem scr_of {K : PySem.W.Frag} {H : Hp} {sc : Addr} {scr : List Int} (h : SqL K H sc (scr.map V.int)) : ∃ fl, ScrAt K H sc scr fl := by
  rcases h with h | h
  · exact ⟨true, by unfold ScrAt; rw [if_pos rfl]; exact h⟩
  · exact ⟨false, by unfold ScrAt; rw [if_neg (by decide)]; exact h⟩
def rowR (K : PySem.W.Frag) (r sc : Addr) (scr : List Int) (fl : Bool) : Rho where
  adr b := decide (b = r) || (fl && decide (b = sc))
  ok H := RowAt H r sc ∧ ScrAt K H sc scr fl
  th H b h hb := by
    rw [Bool.or_eq_true, Bool.and_eq_true] at hb
    rcases hb with z | ⟨z1, z2⟩
    · rw [of_decide_eq_true z]
      obtain ⟨_, _, _, _, _, e⟩ := h.1
      rw [e]
      exact fun z => nomatch z
    · rw [of_decide_eq_true z2]
      have := h.2
      unfold ScrAt at this
      rw [if_pos z1] at this
      rcases this with q | ⟨o, q⟩
      · rw [q]; exact fun z => nomatch z
      · rw [q]; exact fun z => nomatch z
  up H H' h k := by
    obtain ⟨⟨a, b, c, h1, h2, e⟩, hs⟩ := h
    refine ⟨⟨a, b, c, h1, h2, by rw [k r (by rw [decide_eq_true rfl]; rfl)]; exact e⟩, ?_⟩
    unfold ScrAt at hs ⊢
    cases fl
    · rw [if_neg (by decide)] at hs ⊢
      exact hs
    · rw [if_pos rfl] at hs ⊢
      have ek := k sc (by rw [decide_eq_true (rfl : sc = sc)]; simp)
      rcases hs with q | ⟨o, q⟩
      · exact .inl (by rw [ek]; exact q)
      · exact .inr ⟨o, by rw [ek]; exact q⟩
section
variable {K : PySem.W.Frag} {r sc : Addr} {scr : List Int} {fl : Bool} {H0 H H' : Hp}
theorem row_ne (h : (rowR K r sc scr fl).ok H) (hf : fl = true) : sc ≠ r := fun z => by
  obtain ⟨⟨a, b, c, _, _, e⟩, hs⟩ := h
  unfold ScrAt at hs
  rw [if_pos hf] at hs
  subst z
  rcases hs with q | ⟨o, q⟩
  · rw [e] at q
    injection q with q
    injection q with q
    cases scr with
    | nil => cases q
    | cons x r => cases q
  · rw [e] at q
    cases q
theorem row_frm (s : Same H0 H) (hrho : ∀ b, (rowR K r sc scr fl).adr b = true → H0 b = none) (h : (rowR K r sc scr fl).ok H) (k : ∀ b, b ≠ r → H' b = H b) (h' : RowAt H' r sc) : Frm (rowR K r sc scr fl) H0 H H0 H' where
  ex0 := Same.refl _
  sub := fun b o e => by
    have : b ≠ r := fun z => by
      have := hrho r (by show (decide (r = r) || _) = true; rw [decide_eq_true rfl]; rfl)
      rw [z, this] at e
      cases e
    rw [k b this]
    exact s b o e
  fr := fun b o a e => by
    have : b ≠ r := fun z => by
      have a : (decide (b = r) || (fl && decide (b = sc))) = false := a
      rw [decide_eq_true z] at a
      cases a
    rw [k b this]
    exact e
  sep := fun b e _ => e
  ok := fun _ => ⟨h', by
    have hs := h.2
    have hne := row_ne h
    unfold ScrAt at hs ⊢
    cases fl
    · rw [if_neg (by decide)] at hs ⊢
      exact hs
    · rw [if_pos rfl] at hs ⊢
      have ek := k sc (hne rfl)
      rcases hs with q | ⟨o, q⟩
      · exact .inl (by rw [ek]; exact q)
      · exact .inr ⟨o, by rw [ek]; exact q⟩⟩
end
section
variable {X : Cx} {ds : DEnv} {d : PyData} {pos p2 p3 : Pos} {e : Expr} {r sc : Addr} {scr : List Int} {fl : Bool} {j : Nat} {n : Int}
/-- a draw -/
theorem pp_taken (i : Nat) {x : Str} (G : FnAt X.prog X.w X.K X.mg X.base CX0 1 "_law_taken" ["_law_row", "_law_many"] (spTk X.K)) (hr : Room j X.A) (hk : 1 ≤ j) (hd : ds[i]? = some (some (.v (.ref r)))) (hn : Dv (rowR X.K r sc scr fl) X ds e (.int n)) (hn1 : 1 ≤ n) (hn2 : n ≤ 1000) (hN : X.N[i]? = some x := by rfl)
    (hv : Vis X.env.scope x := by first | exact Or.inl rfl | exact Or.inr (Or.inl rfl) | exact Or.inr (Or.inr rfl)) (h1 : (x == ("__debug__" : Str)) = false := by decide) (h2 : (x == ("__classdict__" : Str)) = false := by decide) (hg : Gl X "_law_taken" := by rfl)
    (he : starEach (.Name x p3 :: e :: []) X.env = (false, eval (.Name x p3) X.env) :: starEach (e :: []) X.env := by rfl) (he2 : starEach (e :: []) X.env = (false, eval e X.env) :: starEach [] X.env := by rfl) (hpl : (backTo pos (starEach (e :: []) X.env)).any (·.1) = false := by rfl) :
    Pp (rowR X.K r sc scr fl) X ds (.Call (.Name "_law_taken" p2) [.Name x p3, e] [] pos) (inR 0 (n - 1)) := by
  obtain ⟨f, fd, F, hm, hkp, hb⟩ := G
  refine pp_of (pe_call (dvs := []) F (hr.mono hk) hg hm hkp hb .nil pass0 (pa_cons (pe_var hN hv h1 h2) (pa_cons pe_w pa_nil he2) he) (by decide) he hpl) fun He σ H0 H S Q q => ?_
  obtain ⟨w, g1, g2⟩ := S.get i _ hd
  subst g2
  refine ⟨.ref r, g1, ?_⟩
  refine hn He σ H0 H S _ fun v H1 H1' f1 d1 => ?_
  cases d1
  have S1 := S.fr f1
  refine ⟨r, sc, scr, n, rfl, S1.ok.1, S1.ok.2.sq, hn1, hn2, fun v H' v0 v1 hb h' => ?_⟩
  exact q (.int v) (.int v) H1 H' ⟨v, rfl, v0, by omega⟩ (f1.trans (row_frm S1.sub S1.rho S1.ok hb h') S.ok) (.int v)
end
/-! ### a def that draws: its first argument is the row -/
def spR (K : PySem.W.Frag) (as : List PyData) (P : PyData → Prop) : Sp := fun vs H Q _ => ∃ (r sc : Addr) (scr : List Int) (fl : Bool) (H0 : Hp) (us : List V), vs = .ref r :: us ∧ Same H0 H ∧ DsAll K H0 us as ∧ (rowR K r sc scr fl).ok H ∧ (∀ b, (rowR K r sc scr fl).adr b = true → H0 b = none) ∧
  ∀ v d H0' H', P d → Frm (rowR K r sc scr fl) H0 H H0' H' → Ds K H0' v d → Q v H'
def startR (N : List Str) (r : Addr) (as : List PyData) : DEnv := some (.v (.ref r)) :: ((as.map fun d => some (Ent.d d)) ++ List.replicate (N.length - (as.length + 1)) none)
section
variable {P : Program} {w : World} {K : PySem.W.Frag} {mg : Str → Option Value} {base : Heap} {x : Str} {st : Stmt} {f : Addr} {fd : FuncData} {N ps : List Str} {k : Nat} {as : List PyData} {R : PyData → Prop}
theorem startR_sat {H0 H : Hp} {us : List V} {r : Addr} {ρ : Rho} (s : Same H0 H) (h : DsAll K H0 us as) (k : ρ.ok H) (hr : ∀ b, ρ.adr b = true → H0 b = none) : Sat K ρ H H0 H (L2.start N (.ref r :: us)) (startR N r as) where
  sub := s
  ok := k
  len := by
    unfold L2.start startR
    simp only [List.length_append, List.length_map, List.length_replicate, List.length_cons, dpa_len h]
    omega
  get := fun i e q => by
    unfold L2.start startR at *
    match i, q with
    | 0, q =>
      simp at q
      subst q
      exact ⟨.ref r, rfl, rfl⟩
    | i + 1, q =>
      have hl : (V.ref r :: us).length = as.length + 1 := by rw [List.length_cons, dpa_len h]
      rw [hl]
      obtain ⟨v, d, q1, q2, q3⟩ := startE_get (i := i) (e := e) (n := N.length - (as.length + 1)) h (by simpa using q)
      subst q2
      exact ⟨v, by simpa using q1, q3⟩
  apart := fun i j xs ys a q1 _ _ _ => by
    unfold startR at q1
    match i, q1 with
    | 0, q1 => simp at q1
    | i + 1, q1 =>
      obtain ⟨v, d, _, q2, _⟩ := startE_get (i := i) (n := N.length - (as.length + 1)) h (by simpa using q1)
      cases q2
  rho := hr
theorem fn_row (F : Fun K x x st f fd) (S : FnScope N ps (defScope st)) (hm : mg x = some (.ref f)) (hb : Binds K fd ps []) (hl : as.length + 1 = ps.length)
    (body : ∀ (r sc : Addr) (scr : List Int) (fl : Bool) (f : Addr) (cdv : Value) (A : Around) (outer : List PySem.Env) (s : Shared) (H : Hp) (E : XK), Room k (cxN P w K mg base N x st f cdv A outer s H E).A → Bl (rowR K r sc scr fl) (cxN P w K mg base N x st f cdv A outer s H E) (startR N r as) (defBody st) (.pr (fun _ => False) R)) : FnAt P w K mg base CX0 (k + 1) x ps (spR K as R) := by
  refine ⟨f, fd, F.ok S (fun vs H Q E h => ?_) (fun cdv A outer s H vs Q E hr h => ?_), hm, F.kp, hb⟩
  · obtain ⟨r, sc, scr, fl, H0, us, rfl, _, h2, _⟩ := h
    rw [List.length_cons, dpa_len h2]
    exact hl
  · obtain ⟨r, sc, scr, fl, H0, us, rfl, h1, h2, h3, h4, q⟩ := h
    exact ⟨_, pss_w, body r sc scr fl f cdv A outer s H E hr H H0 _ H0 H (.refl h1) (startR_sat h1 h2 h3 h4) h3 _ ⟨fun _ _ _ _ z => z.elim, fun v d H0' H' pd f dv => q v d H0' H' pd f dv⟩⟩
end
end K8
set_option maxHeartbeats 1000000
namespace K8
open PySem PySem.Spec PyProof.Rows L2
section
variable {K : PySem.W.Frag} {ρ : Rho} {He H0 H : Hp} {σ : L2.St} {ds : DEnv}
theorem Sat.own2 (S : Sat K ρ He H0 H σ ds) {p : Addr} (i : Nat) (hp : H p = none) (hpe : He p = none) (hii : i < ds.length) :
    Sat K ρ He H0 (upd H p (.lst [])) (σ.set i (some (.ref p))) (ds.set i (some (.own []))) := by
  have ap := Rho.new S.ok hp
  have il : i < σ.length := by rw [S.len]; exact hii
  have key : ∀ (j : Nat) (ys : List PyData), i ≠ j → ds[j]? = some (some (.own ys)) → σ[j]? = some (some (.ref p)) → False := fun j ys hj q1 q2 => by
    obtain ⟨v, e1, a, vs, rfl, e2, _⟩ := S.get j _ q1
    rw [e1] at q2
    injection q2 with q2
    injection q2 with q2
    injection q2 with q2
    subst q2
    rw [hp] at e2
    cases e2
  refine ⟨S.sub.trans (same_new hp), Rho.same S.ok (same_new hp), by rw [List.length_set, List.length_set]; exact S.len, fun j u h => ?_, fun j l xs ys b h1 h2 h3 h4 => ?_, S.rho⟩
  · by_cases hj : i = j
    · subst hj
      rw [List.getElem?_set_self hii] at h
      cases h
      exact ⟨.ref p, by rw [List.getElem?_set_self il], p, [], rfl, upd_same, S.sub.free hp, hpe, ap, .nil⟩
    · rw [List.getElem?_set_ne hj] at h ⊢
      obtain ⟨v, h1, h2⟩ := S.get j u h
      refine ⟨v, h1, h2.fr (f := ⟨Same.refl _, S.sub.trans (same_new hp), fun b u e h => same_new hp _ _ h, fun b h _ => h, fun kk => Rho.same kk (same_new hp)⟩)⟩
  · by_cases hj : i = j
    · by_cases hl : i = l
      · rw [← hj, ← hl]
      · subst hj
        rw [List.getElem?_set_self il] at h3
        injection h3 with h3
        injection h3 with h3
        injection h3 with h3
        subst h3
        rw [List.getElem?_set_ne hl] at h2 h4
        exact (key l ys hl h2 h4).elim
    · rw [List.getElem?_set_ne hj] at h1 h3
      by_cases hl : i = l
      · subst hl
        rw [List.getElem?_set_self il] at h4
        injection h4 with h4
        injection h4 with h4
        injection h4 with h4
        subst h4
        exact (key j xs hj h1 h3).elim
      · rw [List.getElem?_set_ne hl] at h2 h4
        exact S.apart j l xs ys b h1 h2 h3 h4
end
section
variable {ρ : Rho} {X : Cx} {ds : DEnv} {pos : Pos} {rs : List Stmt} {o : Out}
/-- a list of one's own, beside others -/
theorem bl_own2 (i : Nat) {x : Str} {pos' p2 : Pos} (hN : X.N.Nodup) (hr : Bl ρ X (ds.set i (some (.own []))) rs o) (hi : X.N[i]? = some x := by rfl) (hx : Loc X.env.scope x := by first | exact Or.inl rfl | exact Or.inr rfl)
    (hs : swapsWith (.List [] p2) (some (.Name x pos')) pos.line X.env = pure false := by rfl) (hf : X.fn x = true ∨ X.env.scope.names.lookup x = some .local := by first | exact .inl rfl | exact .inr rfl) (hii : i < ds.length := by first | decide | simp) : Bl ρ X ds (.Assign [.Name x pos'] (.List [] p2) pos :: rs) o := fun He H0e σ H0 H F S k D q =>
  ws_of (pss_cons (ps_set hN hi hx (pe_lst pa_nil) hs hf) pss_w) ⟨Nat.zero_le _, fun p hp => by
    have hpe : He p = none := by
      cases z : He p with
      | none => rfl
      | some u => exact absurd hp (F.th k (by rw [z]; exact fun w => nomatch w))
    have F' : Frm ρ H0e He H0 (upd H p (.lst [])) := ⟨F.ex0, F.sub.trans (same_new hp), fun b u e h => same_new hp _ _ (F.fr b u e h), F.sep, fun kk => Rho.same (F.ok kk) (same_new hp)⟩
    exact hr He H0e _ H0 _ F' (S.own2 i hp hpe hii) k D q⟩
end
end K8
set_option maxHeartbeats 1000000
namespace K8
open PySem PySem.Spec PyProof.Rows L2
local macro_rules | `(tactic| walk_at "envle") => `(tactic| (repeat (first | exact EnvLe.nil | apply EnvLe.keep | apply EnvLe.skip)))
section
variable {P : Program} {w : World} {K : PySem.W.Frag} {mg : Str → Option Value} {base : Heap} {f : Addr} {fd : FuncData} {C : Addr}
/-- a drawn board's rows so far -/
def DrawnR (w : Int) (rows : List (List (Int × Int))) : Prop := ∀ r ∈ rows, (r.length : Int) = w ∧ ∀ p ∈ r, 0 ≤ p.1 ∧ p.1 ≤ 8 ∧ -1 ≤ p.2 ∧ p.2 ≤ 7
theorem drawn_good {n w : Int} {B : Bd} (hn : 1 ≤ n ∧ n ≤ 6) (hw : 1 ≤ w ∧ w ≤ 6) (hl : (B.length : Int) = n) (h : DrawnR w B) : Good B := by
  have e : wi B = w := by
    unfold wi
    cases B with
    | nil =>
      have : ((0 : Nat) : Int) = n := hl
      omega
    | cons r t => exact (h r List.mem_cons_self).1
  refine ⟨by unfold hi; omega, by unfold hi; omega, by omega, by omega, fun r hr => ?_, fun r hr p hp => ?_⟩
  · rw [e]
    exact (h r hr).1
  · have := (h r hr).2 p hp
    omega
def isBd (d : PyData) : Prop := ∃ B, Good B ∧ d = bd B
def dEnv (r : Addr) (h w : Int) (f1 f2 : List PyData) (rows : List (List (Int × Int))) : DEnv := [some (.v (.ref r)), some (.d (.int 4)), some (.d (.int 4)), some (.d (.int 3)), some (.d (.int h)), some (.d (.int w)), some (.own (rows.map rowD)), some (.d (.list f1)), some (.d (.list f2)), none, none, none]
theorem get_isI {A : Int → Prop} {xs : List PyData} (h : ∀ x ∈ xs, isI A x) {i : Int} (h0 : 0 ≤ i) (h1 : i < (xs.length : Int)) : ∃ v, A v ∧ atI xs i = some (.int v) := by
  have hl : i.toNat < xs.length := by omega
  obtain ⟨v, e, hv⟩ := h _ (List.getElem_mem hl)
  refine ⟨v, hv, atI_of h0 ?_⟩
  rw [List.getElem?_eq_getElem hl, e]
theorem ok_lboard (D : DefAt K mg "_law_board" s_L_board f fd) (T : Txt mg) (GT : FnAt P w K mg base CX0 1 "_law_taken" ["_law_row", "_law_many"] (spTk K)) : FnAt P w K mg base CX0 2 "_law_board" ["_law_row", "_law_rows_here", "_law_columns_here", "_law_many"] (spR K [.int 4, .int 4, .int 3] isBd) := by
  refine fn_row D.F sc_L_board D.hm (D.F.binds fun _ _ _ _ _ _ us hl => match us, hl with | [_, _, _, _], _ => rfl) rfl ?_
  intro r sc scr fl f cdv A outer s H E hr
  refine bl_par3O 4 5 6 (P := inR 1 4) (P' := inR 1 4) rfl sc_L_board.nd (pp_add (A := fun i => i = 1) (A' := fun i => 0 ≤ i ∧ i ≤ 4 - 1) (pp_int dv_int rfl) (pp_taken 0 GT hr (by decide) rfl (dv_name 1) (by decide) (by decide)) (fun i j hi hj => by omega)) (pp_add (A := fun i => i = 1) (A' := fun i => 0 ≤ i ∧ i ≤ 4 - 1) (pp_int dv_int rfl) (pp_taken 0 GT hr (by decide) rfl (dv_name 2) (by decide) (by decide)) (fun i j hi hj => by omega)) (fun d1 d2 k ys h => ?_) (fun d1 d2 p1 p2 => ?_) (hii := by simp [startR])
  · match k, h with
    | 0, h => cases h
    | 1, h => cases h
    | 2, h => cases h
    | 3, h => cases h
    | 4, h => cases h
    | 5, h => cases h
    | 6, _ => rfl
    | 7, h => cases h
    | 8, h => cases h
    | 9, h => cases h
    | 10, h => cases h
    | 11, h => cases h
    | k + 12, h => simp [startR] at h
  obtain ⟨h, rfl, hh0, hh1⟩ := p1
  obtain ⟨w, rfl, hw0, hw1⟩ := p2
  refine bl_par 7 8 rfl sc_L_board.nd (dv_rep (dv_lst (xs := [.int 0]) (av1 dv_int) (by simp)) (dv_name 4) (by omega) (by omega)) (dv_rep (dv_lst (xs := [.int 0]) (av1 dv_int) (by simp)) (dv_name 5) (by omega) (by omega)) ?_
  refine bl_ifP (N := fun e => ∃ f1 f2 : List PyData, e = dEnv r h w f1 f2 [] ∧ (f1.length : Int) = h ∧ (f2.length : Int) = w ∧ (∀ x ∈ f1, inR 0 6 x) ∧ ∀ x ∈ f2, inR 0 6 x) (pt_gt (A' := fun _ => True) (pp_taken 0 GT hr (by decide) rfl dv_int (by decide) (by decide)) (pp_int dv_int trivial)) ?_ ?_ ?_
  · refine bl_lc0P 7 (own := [("_law_one", 9)]) (as := List.replicate h.toNat (PyData.int 0)) (P := inR 0 6) rfl sc_L_board.nd (pi_list pe_w) (blkOk_by (N := N_L_board) (sc := defScope s_L_board) (by decide +kernel)) (fun _ _ _ _ _ => pg_name (i := 9) sc_L_board.nd rfl (Or.inl rfl))
      (src_list (f := fun x => x) 9 (dv_is (dv_name 7) (by rw [List.map_id']))) (by decide) (by rw [List.length_replicate]; omega)
      (fun s H C cl fp a ha => pp_mul (A := fun i => i = 2) (A' := fun i => 0 ≤ i ∧ i ≤ 4 - 1) (pp_int dv_int rfl) (pp_taken 0 GT hr (by decide) rfl dv_int (by decide) (by decide)) (fun i hi => by omega) (fun i j hi hj => by rw [hi]; omega)) ?_
    rintro d ⟨f1, rfl, hl1, hP1⟩
    refine bl_lc0P 8 (own := [("_law_one", 9)]) (as := List.replicate w.toNat (PyData.int 0)) (P := inR 0 6) rfl sc_L_board.nd (pi_list pe_w) (blkOk_by (N := N_L_board) (sc := defScope s_L_board) (by decide +kernel)) (fun _ _ _ _ _ => pg_name (i := 9) sc_L_board.nd rfl (Or.inl rfl))
      (src_list (f := fun x => x) 9 (dv_is (dv_name 8) (by rw [List.map_id']))) (by decide) (by rw [List.length_replicate]; omega)
      (fun s H C cl fp a ha => pp_mul (A := fun i => i = 2) (A' := fun i => 0 ≤ i ∧ i ≤ 4 - 1) (pp_int dv_int rfl) (pp_taken 0 GT hr (by decide) rfl dv_int (by decide) (by decide)) (fun i hi => by omega) (fun i j hi hj => by rw [hi]; omega)) ?_
    rintro d ⟨f2, rfl, hl2, hP2⟩
    rw [List.length_replicate] at hl1 hl2
    exact bl_npr ⟨f1, f2, rfl, by omega, by omega, hP1, hP2⟩
  · refine bl_npr ⟨List.replicate h.toNat (.int 0), List.replicate w.toNat (.int 0), rfl, by rw [List.length_replicate]; omega, by rw [List.length_replicate]; omega, fun x hx => ?_, fun x hx => ?_⟩
    · rw [List.eq_of_mem_replicate hx]
      exact ⟨0, rfl, by decide, by decide⟩
    · rw [List.eq_of_mem_replicate hx]
      exact ⟨0, rfl, by decide, by decide⟩
  rintro _ ⟨f1, f2, rfl, hl1, hl2, hP1, hP2⟩
  have eh : (rangeI h).length = h.toNat := rangeI_len h
  have ew : (rangeI w).length = w.toNat := rangeI_len w
  refine bl_eachP (fun i e => ∃ rows, e = dEnv r h w f1 f2 rows ∧ rows.length = i ∧ i ≤ 4 ∧ DrawnR w rows) PassesOwn.never rfl (pi_range1 (by rfl) T.range pa_w) (pg_name (i := 9) sc_L_board.nd rfl (Or.inl rfl)) (src_rng 9 (av1 (dv_name 4)) (by omega) (by omega)) ⟨[], rfl, rfl, by decide, fun r hr => absurd hr List.not_mem_nil⟩ ?_ ?_
  · rintro i one e hi ⟨rows, rfl, rl, ri, hd⟩
    have ho := mem_rangeI.mp (List.mem_of_getElem? hi)
    have hil : i < h.toNat := by
      have := (List.getElem?_eq_some_iff.mp hi).1
      rw [eh] at this
      exact this
    refine bl_own2 10 sc_L_board.nd ?_ (hii := by simp [dEnv])
    refine bl_eachP (fun j e => ∃ cells : List (Int × Int), e = ((dEnv r h w f1 f2 rows).set 9 (some (.d (.int one)))).set 10 (some (.own (cells.map pairD))) ∧ cells.length = j ∧ j ≤ 4 ∧ ∀ p ∈ cells, 0 ≤ p.1 ∧ p.1 ≤ 8 ∧ -1 ≤ p.2 ∧ p.2 ≤ 7) PassesOwn.never rfl (pi_range1 (by rfl) T.range pa_w) (pg_name (i := 11) sc_L_board.nd rfl (Or.inl rfl)) (src_rng 11 (av1 (dv_name 5)) (by omega) (by omega)) ⟨[], rfl, rfl, by decide, fun r hr => absurd hr List.not_mem_nil⟩ ?_ ?_
    · rintro j at_ e hj ⟨cells, rfl, cl, ci, hc⟩
      have ha := mem_rangeI.mp (List.mem_of_getElem? hj)
      have hjl : j < w.toNat := by
        have := (List.getElem?_eq_some_iff.mp hj).1
        rw [ew] at this
        exact this
      obtain ⟨v1, a1, e1⟩ := get_isI hP1 ho.1 (by omega)
      obtain ⟨v2, a2, e2⟩ := get_isI hP2 ha.1 (by omega)
      refine bl_appendP 10 (P := fun d => ∃ x y, d = .tuple [x, y] ∧ inR 0 8 x ∧ inR (-1) 7 y) (pp_tup2 (pp_add (A := fun i => 0 ≤ i ∧ i ≤ 6) (A' := fun i => 0 ≤ i ∧ i ≤ 3 - 1) (pp_int (dv_ixL (xs := f1) (dv_name 7) (dv_name 9) e1) a1) (pp_taken 0 GT hr (by decide) rfl (dv_name 3) (by decide) (by decide)) (fun i j hi hj => by omega))
        (pp_sub (A := fun i => 0 ≤ i ∧ i ≤ 8) (A' := fun i => i = 1) (pp_add (A := fun i => 0 ≤ i ∧ i ≤ 6) (A' := fun i => 0 ≤ i ∧ i ≤ 3 - 1) (pp_int (dv_ixL (xs := f2) (dv_name 8) (dv_name 11) e2) a2) (pp_taken 0 GT hr (by decide) rfl (dv_name 3) (by decide) (by decide)) (fun i j hi hj => by omega)) (pp_int dv_int rfl) (fun i j hi hj => by omega))) rfl (by rw [List.length_map]; omega) ?_ (hh := fun hx he => pe_bm PySem.F.plainAttrs_list PySem.F.slot_list_append PySem.F.type_list_append mt_append hx (pa_cons he pa_nil))
      rintro d ⟨_, _, rfl, ⟨x, rfl, x0, x1⟩, ⟨y, rfl, y0, y1⟩⟩
      refine bl_nxpr (ds1 := ((dEnv r h w f1 f2 rows).set 9 (some (.d (.int one)))).set 10 (some (.own ((cells ++ [(x, y)]).map pairD)))) ?_ ⟨cells ++ [(x, y)], rfl, by rw [List.length_append, cl]; rfl, by omega, fun p hp => ?_⟩
      · rw [List.map_append]
        exact bl_out (by unfold dEnv; walk_at "envle") bl_nil
      · rcases List.mem_append.mp hp with z | z
        · exact hc p z
        · rw [List.mem_singleton.mp z]
          exact ⟨x0, x1, y0, y1⟩
    · rintro e ⟨cells, rfl, cl, _, hc⟩
      rw [ew] at cl
      refine bl_known 10 rfl ?_
      refine bl_append 6 (d := rowD cells) (dv_ct call_tuple_of bt_tuple rc_tupL T.tuple (av1 (dv_name 10))) rfl (by rw [List.length_map]; omega) ?_ (hh := fun hx he => pe_bm PySem.F.plainAttrs_list PySem.F.slot_list_append PySem.F.type_list_append mt_append hx (pa_cons he pa_nil))
      refine bl_nxpr (ds1 := dEnv r h w f1 f2 (rows ++ [cells])) ?_ ⟨rows ++ [cells], rfl, by rw [List.length_append, rl]; rfl, by omega, fun r hr => ?_⟩
      · unfold dEnv
        rw [List.map_append]
        exact bl_out (by walk_at "envle") bl_nil
      · rcases List.mem_append.mp hr with z | z
        · exact hd r z
        · rw [List.mem_singleton.mp z]
          exact ⟨by omega, hc⟩
  · rintro e ⟨rows, rfl, rl, _, hd⟩
    rw [eh] at rl
    refine bl_known 6 rfl (bl_retP (pp_to (pp_d (dv_ct call_tuple_of bt_tuple rc_tupL T.tuple (av1 (dv_name 6)))) ?_))
    rintro d rfl
    exact ⟨rows, drawn_good (n := h) (w := w) (by omega) (by omega) (by omega) hd, rfl⟩
end
end K8
set_option maxHeartbeats 1000000
namespace K8
open PySem PySem.Spec PyProof.Rows L2
theorem listP_ints {n : Nat} {A : Int → Prop} {d : PyData} (h : listP n (isI A) d) : ∃ ns : List Int, d = .list (ns.map .int) ∧ ns.length = n ∧ ∀ x ∈ ns, A x := by
  obtain ⟨xs, rfl, hl, hP⟩ := h
  have key : ∀ xs : List PyData, (∀ x ∈ xs, isI A x) → ∃ ns : List Int, xs = ns.map .int ∧ ∀ x ∈ ns, A x := fun xs => by
    induction xs with
    | nil => exact fun _ => ⟨[], rfl, fun x hx => absurd hx List.not_mem_nil⟩
    | cons x r ih =>
      intro h
      obtain ⟨i, rfl, hi⟩ := h x List.mem_cons_self
      obtain ⟨ns, rfl, hn⟩ := ih fun y hy => h y (List.mem_cons_of_mem _ hy)
      refine ⟨i :: ns, rfl, fun y hy => ?_⟩
      rcases List.mem_cons.mp hy with z | z
      · rw [z]; exact hi
      · exact hn y z
  obtain ⟨ns, rfl, hn⟩ := key xs hP
  exact ⟨ns, rfl, by rw [List.length_map] at hl; exact hl, hn⟩
section
variable {X : Cx} {ds : DEnv} {pos p2 p3 : Pos} {e : Expr} {es : List Expr} {r sc : Addr} {scr : List Int} {fl : Bool} {j k : Nat} {nm : Str} {ps : List Str} {as : List PyData} {R : PyData → Prop}
/-- a call of a def that draws -/
theorem pp_rowcall (i : Nat) {x : Str} (G : FnAt X.prog X.w X.K X.mg X.base CX0 k nm ps (spR X.K as R)) (hr : Room j X.A) (hk : k ≤ j) (hd : ds[i]? = some (some (.v (.ref r)))) (ha : Av (rowR X.K r sc scr fl) X ds (e :: es) as) (hN : X.N[i]? = some x := by rfl)
    (hv : Vis X.env.scope x := by first | exact Or.inl rfl | exact Or.inr (Or.inl rfl) | exact Or.inr (Or.inr rfl)) (h1 : (x == ("__debug__" : Str)) = false := by decide) (h2 : (x == ("__classdict__" : Str)) = false := by decide) (hg : Gl X nm := by rfl) (hdb : (nm == ("__debug__" : Str)) = false := by decide)
    (he : starEach (.Name x p3 :: e :: es) X.env = (false, eval (.Name x p3) X.env) :: starEach (e :: es) X.env := by rfl) (hpl : (backTo pos (starEach (e :: es) X.env)).any (·.1) = false := by rfl) :
    Pp (rowR X.K r sc scr fl) X ds (.Call (.Name nm p2) (.Name x p3 :: e :: es) [] pos) R := by
  obtain ⟨f, fd, F, hm, hkp, hb⟩ := G
  refine pp_of (pe_call (dvs := []) F (hr.mono hk) hg hm hkp hb .nil pass0 (pa_cons (pe_var hN hv h1 h2) pa_w he) hdb he hpl) fun He σ H0 H S Q q => ?_
  obtain ⟨w, g1, g2⟩ := S.get i _ hd
  subst g2
  refine ⟨.ref r, g1, ?_⟩
  refine ha He σ H0 H S _ fun vs H1 H1' f1 d1 => ?_
  show spR X.K as R ((V.ref r :: vs) ++ []) H1' Q E0
  rw [List.append_nil]
  have S1 := S.fr f1
  exact ⟨r, sc, scr, fl, H1, vs, rfl, S1.sub, d1, S1.ok, S1.rho, fun v d H2 H2' pd f2 dv => q v d H2 H2' pd (f1.trans f2 S.ok) dv⟩
end
section
variable {K : PySem.W.Frag} {ρ : Rho} {He H0 H : Hp} {σ : L2.St} {ds : DEnv}
theorem Sat.junk (S : Sat K ρ He H0 H σ ds) {i : Nat} (h : ds[i]? = some none) (x : Option V) : Sat K ρ He H0 H (σ.set i x) ds := by
  have ne : ∀ (j : Nat) (e : Ent), ds[j]? = some (some e) → i ≠ j := fun j e q z => by
    rw [← z, h] at q
    cases q
  refine ⟨S.sub, S.ok, by rw [List.length_set]; exact S.len, fun j e q => ?_, fun j l xs ys a h1 h2 h3 h4 => ?_, S.rho⟩
  · rw [List.getElem?_set_ne (ne j e q)]
    exact S.get j e q
  · rw [List.getElem?_set_ne (ne j _ h1)] at h3
    rw [List.getElem?_set_ne (ne l _ h2)] at h4
    exact S.apart j l xs ys a h1 h2 h3 h4
end
section
variable {ρ : Rho} {X : Cx} {ds ds1 : DEnv} {pos pos' : Pos} {rs body : List Stmt} {o : Out} {h₀ : ExceptHandler} {hs : List ExceptHandler} {C : Addr}
/-- a try whose body raises nothing -/
theorem bl_tryok (h1 : Bl ρ X.nox ds body (.nx ds1)) (hr : Bl ρ X ds1 rs o) : Bl ρ X ds (.Try body (h₀ :: hs) [] [] pos :: rs) o := fun He H0e σ H0 H F S k D q =>
  ws_of (pss_cons (ps_try_thru0 pss_w) pss_w) (h1 He H0e σ H0 H F S k { D with nx := tWs X rs D } fun σ' H1 H1' f s S' => hr He H0e σ' H1 H1' f S' k D (q.more s))
/-- a try whose body raises the error; the clause sets a word -/
theorem bl_tryX (i v : Nat) {n y : Str} {m : Str} {kc : Nat} {np py pc sp : Pos} (T : Exn X.K X.mg C) (hs : X.stack = X.env :: X.outer) (hf : X.env.frame = some X.env.locals) (hN : X.N.Nodup) (hb : ∀ (pn : List (Addr × Obj)) (xe : Value → Shared → Prop) (W : WX), Takes (X.tr pn xe) W → BlR ρ (X.tr pn xe) W C ds body)
    (hr : Bl ρ X (ds.set v (some (.d (.str m)))) rs o) (hdi : ds[i]? = some none) (hvi : i ≠ v) (hi : X.N[i]? = some n := by rfl) (hln : X.env.kindOf n = some .local := by rfl) (hg : Gl X "NotRising" := by rfl)
    (hv : X.N[v]? = some y := by rfl) (hyl : Loc X.env.scope y := by first | exact Or.inl rfl | exact Or.inr rfl) (hfy : X.fn y = true ∨ X.env.scope.names.lookup y = some .local := by first | exact .inl rfl | exact .inr rfl)
    (hsw : ∀ a oe pn, swapsWith (.Constant (.str m) kc pc) (some (.Name y py)) sp.line (X.suite a ((a, oe) :: pn)).env = pure false := by intro _ _ _; rfl) :
    Bl ρ X ds (.Try body [.ExceptHandler (some (.Name "NotRising" np)) (some n) [.Assign [.Name y py] (.Constant (.str m) kc pc) sp] pos'] [] [] pos :: rs) o := fun He H0e σ H0 H F S k D q => by
  refine ws_of (pss_cons (ps_try_as (tb := fun W D σ H => ∀ pn xe, Takes (X.tr pn xe) W → tWs (X.tr pn xe) body D σ H) (ts := fun _ _ _ => tAsg (tC (.str m)) (gName v)) (Wout := fun _ _ _ _ => False) hs hf hN hi hln ⟨hg, by decide, Or.inl T.gC⟩ takes0
    (fun W pn xe tk _ => ⟨fun pins s σ H D I h => h pn xe tk pins s I⟩) (fun a oe cls d pn _ _ => pss_one (ps_set (i := v) hN hv hyl pe_str (hsw a oe pn) hfy))) pss_w) ?_
  intro pn xe tk
  refine hb pn xe _ tk He H0e σ H0 H F S k _ fun σ' H1 H1' f s' S' => ?_
  refine ⟨true, T.eF, fun _ a ha => ?_, fun z => Bool.noConfusion z⟩
  have S2 : Sat X.K ρ He H1 H1' (((σ'.set i (some (.ref a))).set v (some (.str m))).set i none) (ds.set v (some (.d (.str m)))) := ((S'.junk hdi _).set (.str m)).junk (by rw [List.getElem?_set_ne (Ne.symm hvi)]; exact hdi) none
  exact hr He H0e _ H1 H1' f S2 k D (q.more s')
end
end K8
set_option maxHeartbeats 0
namespace K8
open PySem L2
def weakOk (g c n : Int) : Bool :=
  let B := weakB g c n
  risesL B && decide (((rowsL B (lastL B)).length : Int) = if g < c then 1 else n) && decide (((roundsL B).length : Int) = if (decide (g < c) && decide (1 < n)) = true then 1 else 0) && decide (((bestsL B []).length : Int) = if (decide (c = 0) && decide (g = 0)) = true then n * n else if g < c then 1 else n)
theorem weak_all : ((List.range 4).all fun g => (List.range 4).all fun c => (List.range 5).all fun n => weakOk (g : Int) (c : Int) ((n : Int) + 1)) = true := by decide +kernel
theorem weak_ok {g c n : Int} (hg : 0 ≤ g ∧ g ≤ 3) (hc : 0 ≤ c ∧ c ≤ 3) (hn : 1 ≤ n ∧ n ≤ 5) : weakOk g c n = true := by
  have h1 := List.all_eq_true.mp weak_all g.toNat (List.mem_range.mpr (by omega))
  have h2 := List.all_eq_true.mp h1 c.toNat (List.mem_range.mpr (by omega))
  have h3 := List.all_eq_true.mp h2 (n - 1).toNat (List.mem_range.mpr (by omega))
  have e1 : ((g.toNat : Nat) : Int) = g := by omega
  have e2 : ((c.toNat : Nat) : Int) = c := by omega
  have e3 : (((n - 1).toNat : Nat) : Int) + 1 = n := by omega
  rw [e1, e2, e3] at h3
  exact h3
theorem weak_four {g c n : Int} (hg : 0 ≤ g ∧ g ≤ 3) (hc : 0 ≤ c ∧ c ≤ 3) (hn : 1 ≤ n ∧ n ≤ 5) : risesL (weakB g c n) = true ∧ ((rowsL (weakB g c n) (lastL (weakB g c n))).length : Int) = (if g < c then 1 else n) ∧ ((roundsL (weakB g c n)).length : Int) = (if (decide (g < c) && decide (1 < n)) = true then 1 else 0) ∧ ((bestsL (weakB g c n) []).length : Int) = if (decide (c = 0) && decide (g = 0)) = true then n * n else if g < c then 1 else n := by
  have h := weak_ok hg hc hn
  unfold weakOk at h
  obtain ⟨h, h4⟩ := Bool.and_eq_true_iff.mp h
  obtain ⟨h, h3⟩ := Bool.and_eq_true_iff.mp h
  obtain ⟨h1, h2⟩ := Bool.and_eq_true_iff.mp h
  exact ⟨h1, of_decide_eq_true h2, of_decide_eq_true h3, of_decide_eq_true h4⟩
theorem mul_in {a b m k : Int} (ha : 0 ≤ a ∧ a ≤ m) (hb : 0 ≤ b ∧ b ≤ k) : 0 ≤ a * b ∧ a * b ≤ m * k := ⟨Int.mul_nonneg ha.1 hb.1, Int.mul_le_mul ha.2 hb.2 hb.1 (Int.le_trans ha.1 ha.2)⟩
theorem range_map_hd {β : Type} {n : Int} {f : Int → β} (h : 1 ≤ n) (d : β) : ((rangeI n).map f).headD d = f 0 := by
  have e : n.toNat = (n.toNat - 1) + 1 := by omega
  unfold rangeI
  rw [e, List.range_succ_eq_map]
  rfl
theorem grid_good {n m : Int} {f : Int → Int → Int × Int} (hn : 1 ≤ n ∧ n ≤ 6) (hm : 1 ≤ m ∧ m ≤ 6) (hf : ∀ i j, 0 ≤ i → i < n → 0 ≤ j → j < m → -1000 ≤ (f i j).1 ∧ (f i j).1 ≤ 1000 ∧ -1000 ≤ (f i j).2 ∧ (f i j).2 ≤ 1000) : Good ((rangeI n).map fun i => (rangeI m).map fun j => f i j) := by
  have eh : hi ((rangeI n).map fun i => (rangeI m).map fun j => f i j) = n := by
    unfold hi
    rw [List.length_map, rangeI_len]
    omega
  have ew : wi ((rangeI n).map fun i => (rangeI m).map fun j => f i j) = m := by
    unfold wi
    rw [range_map_hd hn.1, List.length_map, rangeI_len]
    omega
  refine ⟨by rw [eh]; exact hn.1, by rw [eh]; exact hn.2, by rw [ew]; exact hm.1, by rw [ew]; exact hm.2, fun r hr => ?_, fun r hr p hp => ?_⟩
  · obtain ⟨i, _, rfl⟩ := List.mem_map.mp hr
    rw [ew, List.length_map, rangeI_len]
    omega
  · obtain ⟨i, hi', rfl⟩ := List.mem_map.mp hr
    obtain ⟨j, hj, rfl⟩ := List.mem_map.mp hp
    have a := mem_rangeI.mp hi'
    have b := mem_rangeI.mp hj
    exact hf i j a.1 a.2 b.1 b.2
theorem weak_good {g c n : Int} (hg : 0 ≤ g ∧ g ≤ 3) (hc : 0 ≤ c ∧ c ≤ 3) (hn : 1 ≤ n ∧ n ≤ 5) : Good (weakB g c n) := by
  refine grid_good ⟨hn.1, by omega⟩ ⟨hn.1, by omega⟩ fun i j i0 i1 j0 j1 => ?_
  have h1 := mul_in (b := if j < i then j else i) (k := 5) hg ⟨by split <;> omega, by split <;> omega⟩
  have h2 := mul_in (b := i) (k := 5) hc ⟨i0, by omega⟩
  have h3 := mul_in (b := j) (k := 5) hc ⟨j0, by omega⟩
  show -1000 ≤ g * (if j < i then j else i) - c * i ∧ g * (if j < i then j else i) - c * i ≤ 1000 ∧ -1000 ≤ g * (if j < i then j else i) - c * j ∧ g * (if j < i then j else i) - c * j ≤ 1000
  omega
/-! the law's test of a board -/
def lawA (B : Bd) (r c : Int) : Int := fs B (r + 1) (c + 1) - fs B r (c + 1) - fs B (r + 1) c + fs B r c
def lawS (B : Bd) (r c : Int) : Int := sn B (r + 1) (c + 1) - sn B (r + 1) c - sn B r (c + 1) + sn B r c
def cellOkB (B : Bd) (r c : Int) : Bool := decide (0 ≤ lawA B r c) && decide (0 ≤ lawS B r c)
def lawGood (B : Bd) : Bool := (rangeI (hi B - 1)).all fun r => (rangeI (wi B - 1)).all fun c => cellOkB B r c
theorem law_good {B : Bd} (g : Good B) : lawGood B = risesL B := by
  rw [Bool.eq_iff_iff, rises_iff g]
  unfold lawGood
  rw [List.all_eq_true]
  constructor
  · intro h
    have key : ∀ r c, 0 ≤ r → r + 1 < hi B → 0 ≤ c → c + 1 < wi B → 0 ≤ lawA B r c ∧ 0 ≤ lawS B r c := fun r c r0 r1 c0 c1 => by
      have := List.all_eq_true.mp (h r (mem_rangeI.mpr ⟨r0, by omega⟩)) c (mem_rangeI.mpr ⟨c0, by omega⟩)
      unfold cellOkB at this
      rw [Bool.and_eq_true] at this
      exact ⟨of_decide_eq_true this.1, of_decide_eq_true this.2⟩
    refine ⟨fun r c r0 r1 c0 c1 => ?_, fun r c r0 r1 c0 c1 => ?_⟩
    · have := (key r c r0 r1 c0 c1).1
      unfold lawA at this
      omega
    · have := (key r c r0 r1 c0 c1).2
      unfold lawS at this
      omega
  · rintro ⟨h1, h2⟩ r hr
    rw [List.all_eq_true]
    intro c hc
    have a := mem_rangeI.mp hr
    have b := mem_rangeI.mp hc
    have q1 := h1 r c a.1 (by omega) b.1 (by omega)
    have q2 := h2 r c a.1 (by omega) b.1 (by omega)
    unfold cellOkB
    rw [Bool.and_eq_true]
    refine ⟨decide_eq_true ?_, decide_eq_true ?_⟩
    · unfold lawA
      omega
    · unfold lawS
      omega
end K8
set_option maxHeartbeats 1000000
namespace K8
open PySem PySem.Spec PyProof.Rows L2
local macro_rules | `(tactic| walk_at "envle") => `(tactic| (repeat (first | exact EnvLe.nil | apply EnvLe.keep | apply EnvLe.skip)))
/-- the promises of the defs that the law calls -/
structure Fns (P : Program) (w : World) (K : PySem.W.Frag) (mg : Str → Option Value) (base : Heap) (C : Addr) : Prop where
  taken : FnAt P w K mg base CX0 1 "_law_taken" ["_law_row", "_law_many"] (spTk K)
  board : FnAt P w K mg base CX0 2 "_law_board" ["_law_row", "_law_rows_here", "_law_columns_here", "_law_many"] (spR K [.int 4, .int 4, .int 3] isBd)
  lis : FnD P w K mg base 1 "_law_is" ["_law_found", "_law_due"] R_lis
  alike : ∀ n, FnD P w K mg base (n + 1) "_law_alike" ["_law_found", "_law_due"] (R_alike n)
  rows : FnD P w K mg base 1 "_law_rows" ["_law_board_here", "_law_lot"] (R_lot fun B lot => intsL (rowsL B lot))
  cols : FnD P w K mg base 1 "_law_columns" ["_law_board_here", "_law_lot"] (R_lot fun B lot => intsL (colsL B lot))
  fin : FnD P w K mg base 5 "_law_end" ["_law_board_here"] (R_board fun B => intsT (lawAt B 12))
  bests : FnD P w K mg base 3 "_law_bests" ["_law_board_here", "_law_lot"] (R_bests fun B lot => .tuple ((bestsL B lot).map pairD))
  rising : FnD P w K mg base 5 "is_rising" ["board"] (R_board fun B => .bool (risesL B))
  least : FnD P w K mg base 6 "least_best" ["board"] (R_up fun B => pairD (climbL B false))
  leastX : FnX P w K mg base C 6 "least_best" ["board"] R_dn
  great : FnD P w K mg base 6 "greatest_best" ["board"] (R_up fun B => pairD (climbL B true))
  count : FnD P w K mg base 6 "count_rising" ["board"] (R_up fun B => .int ((bestsL B []).length : Int))
  corners : FnD P w K mg base 9 "corners_left" ["board"] (R_up fun B => cornD (cornersL B))
  wboard : FnD P w K mg base 4 "weakest_board" ["effort", "many"] (R_weak fun g c n => bd (weakB g c n))
  wlast : FnD P w K mg base 4 "weakest_last" ["effort", "many"] (R_weak fun g c n => .int (if g < c then 1 else n))
  wrounds : FnD P w K mg base 4 "weakest_rounds" ["effort", "many"] (R_weak fun g c n => .int (if (decide (g < c) && decide (1 < n)) = true then 1 else 0))
  wbests : FnD P w K mg base 4 "weakest_bests" ["effort", "many"] (R_weak fun g c n => .int (if (decide (c = 0) && decide (g = 0)) = true then n * n else if g < c then 1 else n))
  lastLot : FnD P w K mg base 9 "last_lot" ["board"] R_last
  rounds : FnD P w K mg base 9 "rounds" ["board"] (R_board fun B => .tuple ((roundsL B).map intsT))
theorem alk_int (n : Nat) (i : Int) : Alk n (.int i) := by
  cases n with
  | zero => exact ⟨i, rfl⟩
  | succ n => exact .inl ⟨i, rfl⟩
theorem alk_pair (n : Nat) (p : Int × Int) : Alk (n + 1) (pairD p) := .inr ⟨[.int p.1, .int p.2], .inr rfl, by simp, fun y hy => by
  rcases List.mem_cons.mp hy with z | z
  · rw [z]; exact alk_int n _
  · rw [List.mem_singleton.mp z]; exact alk_int n _⟩
theorem alk_bd {B : Bd} (g : Good B) : Alk 3 (bd B) := .inr ⟨B.map rowD, .inr rfl, by
  have := g.n6
  unfold hi at this
  rw [List.length_map]
  omega, fun y hy => by
  obtain ⟨r, hr, rfl⟩ := List.mem_map.mp hy
  refine .inr ⟨r.map pairD, .inr rfl, ?_, fun z hz => ?_⟩
  · have := g.rect r hr
    have := g.m6
    rw [List.length_map]
    omega
  · obtain ⟨p, hp, rfl⟩ := List.mem_map.mp hz
    exact alk_pair 0 p⟩
theorem alk_ints (n : Nat) (l : List Int) (h : l.length ≤ 1000) : Alk (n + 1) (intsL l) := .inr ⟨l.map .int, .inl rfl, by rw [List.length_map]; exact h, fun y hy => by
  obtain ⟨i, _, rfl⟩ := List.mem_map.mp hy
  exact alk_int n i⟩
section
variable {P : Program} {w : World} {K : PySem.W.Frag} {mg : Str → Option Value} {base : Heap} {C : Addr}
/-- the context of the law's body -/
abbrev cxL (P : Program) (w : World) (K : PySem.W.Frag) (mg : Str → Option Value) (base : Heap) (f : Addr) (cdv : Value) (A : Around) (outer : List PySem.Env) (s : Shared) (H : Hp) (E : XK) : Cx := cxN P w K mg base N_law "law" s_law f cdv A outer s H E
def tE (r : Addr) (gd : Bool) (wd : Str) : DEnv := [none, some (.v (.ref r)), none, none, none, none, none, none, none, none, none, some (.d (.bool gd)), none, none, none, some (.d (.str wd)), none, none, none, none, none, none, none, none, none, none, none, none, none, none, none]
def wE (r : Addr) (g c n : Int) (rows : List PyData) : DEnv := [none, some (.v (.ref r)), none, none, none, some (.own rows), none, none, none, none, none, none, none, none, none, none, none, none, none, none, none, none, none, none, some (.d (pairD (g, c))), some (.d (.int n)), some (.d (.int g)), some (.d (.int c)), none, none, none]
abbrev yes : Out := .pr (fun _ => False) (fun d => d = .bool true)
theorem law_tail {r sc : Addr} {scr : List Int} {fl : Bool} (F : Fns P w K mg base C) (T : Txt mg) {f : Addr} {cdv : Value} {A : Around} {outer : List PySem.Env} {s : Shared} {H : Hp} {E : XK} (hr : Room 9 (cxL P w K mg base f cdv A outer s H E).A) {gd : Bool} {wd : Str} (hs : SeqAt.shaped (.str wd) = true) (hs2 : SeqAt.shaped (.str "") = true) (hw : PyData.eqv (.str wd) (.str "") = gd) :
    Bl (rowR K r sc scr fl) (cxL P w K mg base f cdv A outer s H E) (tE r gd wd) ((defBody s_law).drop 8) yes := by
  refine bl_ifno (tv_is (tv_neB (dv_eqD hr (dv_name 15) dv_str hs hs2) (dv_name 11)) (by rw [hw]; cases gd <;> rfl)) ?_
  refine bl_parP 24 25 (P := fun d => ∃ x y, d = .tuple [x, y] ∧ inR 0 3 x ∧ inR 0 3 y) (P' := inR 1 5) rfl sc_law.nd (pp_tup2 (pp_to (pp_taken 1 F.taken hr (by decide) rfl dv_int (by decide) (by decide)) (fun d hd => hd)) (pp_to (pp_taken 1 F.taken hr (by decide) rfl dv_int (by decide) (by decide)) (fun d hd => hd)))
    (pp_add (A := fun i => i = 1) (A' := fun i => 0 ≤ i ∧ i ≤ 5 - 1) (pp_int dv_int rfl) (pp_taken 1 F.taken hr (by decide) rfl dv_int (by decide) (by decide)) (fun i j hi hj => by omega)) ?_
  rintro d1 d2 ⟨_, _, rfl, ⟨g, rfl, hg⟩, ⟨c, rfl, hc⟩⟩ ⟨n, rfl, hn⟩
  obtain ⟨w1, w2, w3, w4⟩ := weak_four hg hc hn
  have wg := weak_good hg hc hn
  have ln : (rangeI n).length = n.toNat := rangeI_len n
  refine bl_two 26 27 rfl sc_law.nd (dv_name 24) ?_
  refine bl_own2 5 sc_law.nd ?_ (hii := by simp [tE])
  refine bl_weak (ds' := wE r g c n []) (by unfold tE wE; walk_at "envle") ?_
  refine bl_each (fun i => wE r g c n (((rangeI n).take i).map fun i => rowD (weakRow g c n i))) PassesOwn.never rfl (pi_range1 (by rfl) T.range pa_w) (pg_name (i := 10) sc_law.nd rfl (Or.inr rfl)) (src_rng 10 (av1 (dv_name 25)) (by omega) (by omega)) (fun i a hi => ?_) ?_
  · have ha := mem_rangeI.mp (List.mem_of_getElem? hi)
    refine bl_set 17 sc_law.nd (dv_lc0 (own := [("_law_at", 12)]) (as := rangeI n) rfl sc_law.nd (pi_range1 (by rfl) T.range pa_w) (blkOk_by (N := N_law) (sc := defScope s_law) (by decide +kernel)) (fun _ _ _ _ _ => pg_name (i := 12) sc_law.nd rfl (Or.inl rfl))
      (src_rng 12 (av1 (dv_name 25)) (by omega) (by omega)) (by decide) (fun j => .int (g * (if j < a then j else a))) (by omega) fun s H C cl fp j hj => dv_mul (dv_name 26) (dv_cb (call_min2 rfl) bt_min rc_min T.min (av2 (dv_name 10) (dv_name 12))) (by omega)) ?_
    refine bl_append 5 (d := rowD (weakRow g c n a)) (dv_is (dv_ct call_tuple_of bt_tuple rc_tupL T.tuple (av1 (dv_lc0 (own := [("_law_at", 12)]) (as := rangeI n) rfl sc_law.nd (pi_range1 (by rfl) T.range pa_w) (blkOk_by (N := N_law) (sc := defScope s_law) (by decide +kernel)) (fun _ _ _ _ _ => pg_name (i := 12) sc_law.nd rfl (Or.inl rfl))
      (src_rng 12 (av1 (dv_name 25)) (by omega) (by omega)) (by decide) (fun j => pairD (g * (if j < a then j else a) - c * a, g * (if j < a then j else a) - c * j)) (by omega)
      fun s H C cl fp j hj => by
        have hj' := mem_rangeI.mp hj
        have hat : atI ((rangeI n).map fun j => PyData.int (g * (if j < a then j else a))) j = some (.int (g * (if j < a then j else a))) := by
          refine atI_of hj'.1 ?_
          rw [List.getElem?_map]
          have : (rangeI n)[j.toNat]? = some j := by
            unfold rangeI
            rw [List.getElem?_map, List.getElem?_range (by omega)]
            show some ((j.toNat : Nat) : Int) = some j
            congr 1
            omega
          rw [this]
          rfl
        exact dv_tup (av2 (dv_sub (dv_ixL (dv_name 17) (dv_name 12) hat) (dv_mul (dv_name 27) (dv_name 10) (by omega))) (dv_sub (dv_ixL (dv_name 17) (dv_name 12) hat) (dv_mul (dv_name 27) (dv_name 12) (by omega)))) (by simp)))) ?_) rfl (by rw [List.length_map, List.length_take]; omega) ?_ (hh := fun hx he => pe_bm PySem.F.plainAttrs_list PySem.F.slot_list_append PySem.F.type_list_append mt_append hx (pa_cons he pa_nil))
    · show _ = PyData.tuple (((rangeI n).map fun j => (g * (if j < a then j else a) - c * a, g * (if j < a then j else a) - c * j)).map pairD)
      rw [List.map_map]
      rfl
    · rw [take_succ_map hi]
      exact bl_out (by unfold wE; walk_at "envle") bl_nil
  refine bl_known 5 rfl ?_
  refine bl_set 2 sc_law.nd (d := bd (weakB g c n)) (dv_is (dv_ct call_tuple_of bt_tuple rc_tupL T.tuple (av1 (dv_name 5))) ?_) ?_
  · rw [List.take_length]
    show _ = PyData.tuple (((rangeI n).map fun i => weakRow g c n i).map rowD)
    rw [List.map_map]
    rfl
  have hR : R_weak (fun g c n => bd (weakB g c n)) [pairD (g, c), .int n] (bd (weakB g c n)) := ⟨g, c, n, by omega, by omega, by omega, rfl, rfl⟩
  refine bl_ifno (tv_is (tv_pv (pv_or (p := false) (q := false) (tv_not (p := true) (tv_val (dv_call (F.alike 3) hr (by decide) (av2 (dv_call F.wboard hr (by decide) (av2 (dv_name 24) (dv_name 25)) hR) (dv_name 2)) ⟨bd (weakB g c n), alk_bd wg, rfl, rfl⟩))) fun _ => pv_or1 (tv_is (tv_not (tv_val (dv_call F.rising hr (by decide) (av1 (dv_name 2)) ⟨weakB g c n, wg, rfl, rfl⟩))) (by rw [w1]; rfl)))) rfl) ?_
  refine bl_set 20 sc_law.nd (dv_call F.lastLot hr (by decide) (av1 (dv_name 2)) ⟨weakB g c n, wg, rfl, rfl⟩) ?_
  have ll := last_len wg
  refine bl_set 28 sc_law.nd (d := intsL [((rowsL (weakB g c n) (lastL (weakB g c n))).length : Int), ((roundsL (weakB g c n)).length : Int), ((bestsL (weakB g c n) []).length : Int)]) (dv_lst (av_cons (dv_is (dv_lenL (xs := (rowsL (weakB g c n) (lastL (weakB g c n))).map .int) T.len (dv_call F.rows hr (by decide) (av2 (dv_name 2) (dv_name 20)) ⟨weakB g c n, lastL (weakB g c n), wg, by omega, rfl, rfl⟩)) (by rw [List.length_map])) (av2 (dv_is (dv_lenT (xs := (roundsL (weakB g c n)).map intsT) T.len (dv_call F.rounds hr (by decide) (av1 (dv_name 2)) ⟨weakB g c n, wg, rfl, rfl⟩)) (by rw [List.length_map]))
    (dv_is (dv_lenT (xs := (bestsL (weakB g c n) []).map pairD) T.len (dv_call F.bests hr (by decide) (av2 (dv_name 2) (dv_tup (xs := ([] : List Int).map .int) av_nil (by simp))) ⟨weakB g c n, [], wg, by simp, nil_rows wg, nil_cols wg, rfl, rfl⟩)) (by rw [List.length_map])))) (by simp)) ?_
  rw [w2, w3, w4]
  refine bl_retP (pp_d (dv_call (F.alike 1) hr (by decide) (av2 (dv_lst (av_cons (dv_call F.wlast hr (by decide) (av2 (dv_name 24) (dv_name 25)) ⟨g, c, n, by omega, by omega, by omega, rfl, rfl⟩) (av2 (dv_call F.wrounds hr (by decide) (av2 (dv_name 24) (dv_name 25)) ⟨g, c, n, by omega, by omega, by omega, rfl, rfl⟩) (dv_call F.wbests hr (by decide) (av2 (dv_name 24) (dv_name 25)) ⟨g, c, n, by omega, by omega, by omega, rfl, rfl⟩))) (by simp)) (dv_name 28)) ⟨intsL [if g < c then 1 else n, if (decide (g < c) && decide (1 < n)) = true then 1 else 0, if (decide (c = 0) && decide (g = 0)) = true then n * n else if g < c then 1 else n], alk_ints 0 _ (by simp), rfl, rfl⟩))
end
end K8
set_option maxHeartbeats 1000000
namespace K8
open PySem PySem.Spec PyProof.Rows L2
local macro_rules | `(tactic| walk_at "envle") => `(tactic| (repeat (first | exact EnvLe.nil | apply EnvLe.keep | apply EnvLe.skip)))
section
variable {ρ : Rho} {X : Cx} {W : WX} {C : Addr} {ds : DEnv} {pos tp : Pos} {rs : List Stmt} {e b : Expr} {es : List Expr} {xs : List PyData} {nm x y : Str} {k j : Nat} {ps : List Str} {R : List PyData → Prop}
theorem blr_two (i l : Nat) {kt k2 : Nat} {pt2 p p2 : Pos} (G : FnX X.prog X.w X.K X.mg X.base C k nm ps R) (hr : Room j X.A) (hk : k ≤ j) (tk : Takes X W) (hc : X.calm = true) (hN : X.N.Nodup) (ha : Av ρ X ds (e :: es) xs) (h : R xs) (hg : Gl X nm := by rfl) (hdb : (nm == ("__debug__" : Str)) = false := by decide)
    (he : starEach (e :: es) X.env = (false, eval e X.env) :: starEach es X.env := by rfl) (hpl : (backTo p2 (starEach es X.env)).any (·.1) = false := by rfl)
    (hi : X.N[i]? = some x := by rfl) (hl : X.N[l]? = some y := by rfl)
    (hx : Loc X.env.scope x := by first | exact Or.inl rfl | exact Or.inr rfl) (hy : Loc X.env.scope y := by first | exact Or.inl rfl | exact Or.inr rfl) {px py : Pos}
    (hf : X.fn x = true ∨ X.env.scope.names.lookup x = some .local := by first | exact .inl rfl | exact .inr rfl) (hf2 : X.fn y = true ∨ X.env.scope.names.lookup y = some .local := by first | exact .inl rfl | exact .inr rfl)
    (hs1 : starEach (Expr.Call (.Name nm p) (e :: es) [] p2 :: b :: []) X.env = (false, eval (.Call (.Name nm p) (e :: es) [] p2) X.env) :: starEach (b :: []) X.env := by rfl) (hs2 : starEach (b :: []) X.env = (false, eval b X.env) :: starEach [] X.env := by rfl)
    (hs : swapsWithSole [.Tuple [.Name x px, .Name y py] kt tp] (.Tuple [.Call (.Name nm p) (e :: es) [] p2, b] k2 pt2) pos.line X.env = pure false := by rfl) (hw : swappedStores [.Tuple [.Name x px, .Name y py] kt tp] (.Tuple [.Call (.Name nm p) (e :: es) [] p2, b] k2 pt2) X.env = pure none := by rfl) (h1 : (assignEach [Expr.Tuple [.Name x px, .Name y py] kt tp] X.env).map (·.2) = [assign (.Tuple [.Name x px, .Name y py] kt tp) X.env] := by rfl) :
    BlR ρ X W C ds (.Assign [.Tuple [.Name x px, .Name y py] kt tp] (.Tuple [.Call (.Name nm p) (e :: es) [] p2, b] k2 pt2) pos :: rs) := by
  obtain ⟨te, g1, g2⟩ := evx_call (p := p) G hr hk tk ha h hg hdb he hpl
  exact fun He H0e σ H0 H F S kk D q => ws_of (pss_cons (ps_asg (pe_tup (pa_cons g1 (pa_cons pe_w pa_nil hs2) hs1)) (pg_tup hc (pgs_cons (pg_name hN hi hx hf) (pgs_cons (pg_name hN hl hy hf2) pgs_nil))) hs hw h1) pss_w) (g2 He H0e σ H0 H F S kk (fun H0' H' f s' S' => q σ H0' H' f s' S') _)
end
/-- the law's list of best places -/
def someB (B : Bd) : List PyData := (bestsL B []).map fun p => pairD (p.1, p.2 - hi B)
theorem some_any {B : Bd} (g : Good B) {p : Int × Int} (h : IsBest B p.1 p.2) : ((someB B).any fun z => PyData.eqv z (pairD p)) = true := by
  unfold someB
  rw [List.any_map, List.any_eq_true]
  have e : p.2 + hi B - hi B = p.2 := by omega
  refine ⟨(p.1, p.2 + hi B), (mem_bests g).mpr (by rw [e]; exact h), ?_⟩
  show PyData.eqv (pairD (p.1, p.2 + hi B - hi B)) (pairD p) = true
  rw [eqv_pair, e]
  exact decide_eq_true rfl
theorem bests_len {B : Bd} (g : Good B) : (bestsL B []).length ≤ 36 := by
  have e : bestsL B [] = upBests B [] (rowsL B []).length := by
    unfold upBests bestsL
    rw [List.take_length]
  rw [e]
  exact upBests_len g _
theorem fit_some {B : Bd} : Fit 3 (.list (someB B)) := fit_list fun x hx => by
  obtain ⟨p, _, rfl⟩ := List.mem_map.mp hx
  exact fit_pair _
section
variable {P : Program} {w : World} {K : PySem.W.Frag} {mg : Str → Option Value} {base : Heap} {C : Addr}
def qE (r : Addr) (B : Bd) (gd : Bool) : DEnv := [none, some (.v (.ref r)), some (.d (bd B)), some (.d (.int (hi B))), some (.d (.int (wi B))), none, none, none, none, none, none, some (.d (.bool gd)), none, none, none, some (.d (.str "")), some (.d (.list (someB B))), none, none, none, none, none, none, none, none, none, none, none, none, none, none]
def outP (B : Bd) (q : Int × Int) : Bool := (!(decide ((climbL B false).1 ≤ q.1) && decide (q.1 ≤ (climbL B true).1))) || (!(decide ((climbL B false).2 ≤ q.2 - hi B) && decide (q.2 - hi B ≤ (climbL B true).2)))
theorem out_none {B : Bd} (g : Good B) (hu : risesL B = true) : (bestsL B []).filter (outP B) = [] := by
  rw [List.filter_eq_nil_iff]
  rintro ⟨r, l⟩ hq
  have hb := (mem_bests g).mp hq
  have h1 := climb_ends g hu false hb
  have h2 := climb_ends g hu true hb
  rw [if_neg (by decide)] at h1
  rw [if_pos rfl] at h2
  unfold outP
  rw [decide_eq_true h1.1, decide_eq_true h2.1, decide_eq_true h1.2, decide_eq_true h2.2]
  decide
/-- the body of the try, first statement on -/
def tryBody : List Stmt := match (defBody s_law).getD 7 (.Pass ⟨0, 0, 0, 0⟩) with
  | .Try body _ _ _ _ => body
  | _ => []
theorem law_try {r sc : Addr} {scr : List Int} {fl : Bool} (F : Fns P w K mg base C) (T : Txt mg) {f : Addr} {cdv : Value} {A : Around} {outer : List PySem.Env} {s : Shared} {H : Hp} {E : XK} (hr : Room 9 (cxL P w K mg base f cdv A outer s H E).A) {B : Bd} (g : Good B) (hu : risesL B = true) :
    Bl (rowR K r sc scr fl) (cxL P w K mg base f cdv A outer s H E) (qE r B true) tryBody (.nx (tE r true "")) := by
  have b36 := bests_len g
  have cb0 := climb_best g hu false
  have cb1 := climb_best g hu true
  refine bl_two 17 18 rfl sc_law.nd (dv_tup (av2 (dv_call F.least hr (by decide) (av1 (dv_name 2)) ⟨B, g, hu, rfl, rfl⟩) (dv_call F.great hr (by decide) (av1 (dv_name 2)) ⟨B, g, hu, rfl, rfl⟩)) (by simp)) ?_
  refine bl_lc1 19 (own := [("_law_one", 10), ("_law_at", 12)]) (as := bestsL B []) rfl sc_law.nd (pi_list pe_w) (blkOk_by (N := N_law) (sc := defScope s_law) (by decide +kernel)) (fun _ _ _ _ _ => pg_pair (i := 10) (j := 12) rfl sc_law.nd)
    (src_pairsL (f1 := fun p => .int p.1) (f2 := fun p => .int (p.2 - hi B)) 10 12 (dv_name 16)) (by decide) (outP B) (fun _ => .int 1) (by omega)
    (fun s H C cl fp q hq => tv_pv (pv_or (tv_not (tv_chainLe (dv_ixT (xs := [.int (climbL B false).1, .int (climbL B false).2]) (dv_name 17) dv_int rfl) (dv_name 10) (dv_ixT (xs := [.int (climbL B true).1, .int (climbL B true).2]) (dv_name 18) dv_int rfl))) fun _ => pv_or1 (tv_not (tv_chainLe (dv_ixT (xs := [.int (climbL B false).1, .int (climbL B false).2]) (dv_name 17) dv_int rfl) (dv_name 12) (dv_ixT (xs := [.int (climbL B true).1, .int (climbL B true).2]) (dv_name 18) dv_int rfl)))))
    (fun s H C cl fp q hq _ => dv_int) ?_
  rw [out_none g hu]
  refine bl_ifno (tv_is (tv_pv (pv_or (p := false) (q := false) (tv_is (tv_notinD (xs := someB B) hr (dv_name 17) (dv_name 16) (fit_shaped (fit_pair _) (by decide)) (fit_shaped fit_some (by decide)) (by have := hr.un; omega)) (by rw [some_any g cb0]; rfl)) fun _ => pv_or (p := false) (q := false) (tv_is (tv_notinD (xs := someB B) hr (dv_name 18) (dv_name 16) (fit_shaped (fit_pair _) (by decide)) (fit_shaped fit_some (by decide)) (by have := hr.un; omega)) (by rw [some_any g cb1]; rfl)) fun _ => pv_or1 (tv_is (tv_neD hr (x := intsL []) (y := intsL []) (dv_name 19) (dv_lst (xs := ([] : List Int).map .int) av_nil (by simp)) (fit_shaped (fit_intsL []) (by decide)) (fit_shaped (fit_intsL []) (by decide))) (by rw [eqv_intsL]; rfl)))) rfl) ?_
  refine bl_ifno (tv_is (tv_not (p := true) (tv_val (dv_call (F.alike 0) hr (by decide) (av2 (dv_call F.count hr (by decide) (av1 (dv_name 2)) ⟨B, g, hu, rfl, rfl⟩) (dv_is (dv_lenL (xs := someB B) T.len (dv_name 16)) (by unfold someB; rw [List.length_map]))) ⟨.int ((bestsL B []).length : Int), alk_int 0 _, rfl, rfl⟩))) rfl) ?_
  have ll := law_len g 12
  have eR := rows_same (B := B) (ends_same g)
  have eC := cols_same (B := B) (ends_same g)
  have rn := last_rows g
  have cn := last_cols g
  rw [← eR] at rn
  rw [← eC] at cn
  have r6 := rows_len B (lawAt B 12) g
  have c6 := cols_len B (lawAt B 12) g
  refine bl_set 20 sc_law.nd (dv_call F.fin hr (by decide) (av1 (dv_name 2)) ⟨B, g, rfl, rfl⟩) ?_
  refine bl_two 21 22 rfl sc_law.nd (d2 := intsL ((colsL B (lawAt B 12)).map fun c => c - hi B)) (dv_tup (av2 (dv_call F.rows hr (by decide) (av2 (dv_name 2) (dv_name 20)) ⟨B, lawAt B 12, g, by omega, rfl, rfl⟩) (dv_is (dv_lc0 (own := [("_law_line", 30)]) (as := colsL B (lawAt B 12)) rfl sc_law.nd (pi_list pe_w) (blkOk_by (N := N_law) (sc := defScope s_law) (by decide +kernel)) (fun _ _ _ _ _ => pg_name (i := 30) sc_law.nd rfl (Or.inl rfl))
    (src_list (f := .int) 30 (dv_call F.cols hr (by decide) (av2 (dv_name 2) (dv_name 20)) ⟨B, lawAt B 12, g, by omega, rfl, rfl⟩)) (by decide) (fun c => .int (c - hi B)) (by omega) fun s H C cl fp c hc => dv_sub (dv_name 30) (dv_name 3)) (by rw [intsL, List.map_map]; rfl))) (by simp)) ?_
  have cn2 : (colsL B (lawAt B 12)).map (fun c => c - hi B) ≠ [] := by simpa using cn
  have hd2 : ((colsL B (lawAt B 12)).map fun c => c - hi B).headD 0 = (colsL B (lawAt B 12)).headD 0 - hi B := by
    cases e : colsL B (lawAt B 12) with
    | nil => exact absurd e cn
    | cons x r => rfl
  have lst2 : ((colsL B (lawAt B 12)).map fun c => c - hi B).getLastD 0 = (colsL B (lawAt B 12)).getLastD 0 - hi B := by
    have e1 : ∀ l : List Int, l ≠ [] → (l.map fun c => c - hi B).getLastD 0 = l.getLastD 0 - hi B := fun l hl => by
      rw [List.getLastD_eq_getLast?, List.getLastD_eq_getLast?, List.getLast?_map, List.getLast?_eq_some_getLast hl]
      rfl
    exact e1 _ cn
  have hcor : cornD (cornersL B) = .tuple [.tuple [.int ((rowsL B (lawAt B 12)).headD 0), .int (((colsL B (lawAt B 12)).map fun c => c - hi B).headD 0)], .tuple [.int ((rowsL B (lawAt B 12)).getLastD 0), .int (((colsL B (lawAt B 12)).map fun c => c - hi B).getLastD 0)]] := by
    rw [hd2, lst2, eR, eC]
    rfl
  refine bl_ifno (tv_is (tv_not (p := true) (tv_val (dv_call (F.alike 2) hr (by decide) (av2 (dv_is (dv_call F.corners hr (by decide) (av1 (dv_name 2)) ⟨B, g, hu, rfl, rfl⟩) hcor)
    (dv_tup (av2 (dv_tup (av2 (dv_ixL (xs := (rowsL B (lawAt B 12)).map .int) (dv_name 21) dv_int (atI_head rn)) (dv_ixL (xs := ((colsL B (lawAt B 12)).map fun c => c - hi B).map .int) (dv_name 22) dv_int (atI_head cn2))) (by simp)) (dv_tup (av2 (dv_ixL (xs := (rowsL B (lawAt B 12)).map .int) (dv_name 21) (dv_neg dv_int) (atI_tail rn)) (dv_ixL (xs := ((colsL B (lawAt B 12)).map fun c => c - hi B).map .int) (dv_name 22) (dv_neg dv_int) (atI_tail cn2))) (by simp))) (by simp))) ⟨_, ?_, rfl, rfl⟩))) rfl) ?_
  · refine .inr ⟨_, .inr rfl, by simp, fun y hy => ?_⟩
    rcases List.mem_cons.mp hy with z | z
    · rw [z]; exact alk_pair 0 (_, _)
    · rw [List.mem_singleton.mp z]; exact alk_pair 0 (_, _)
  have stay : ∀ p : Int × Int, IsBest B p.1 p.2 → p.1 ∈ rowsL B (lawAt B 12) ∧ p.2 ∈ (colsL B (lawAt B 12)).map fun c => c - hi B := fun p hp => by
    have h := best_law g hp 12
    obtain ⟨⟨a0, a1⟩, c0, c1⟩ := hp.1
    refine ⟨mem_rows.mpr ⟨⟨a0, a1⟩, h.1⟩, List.mem_map.mpr ⟨p.2 + hi B, mem_cols.mpr ⟨⟨by omega, by omega⟩, h.2⟩, by omega⟩⟩
  refine bl_ifno (tv_is (tv_neD hr (x := intsL []) (y := intsL []) (dv_is (dv_lc1 (own := [("_law_one", 10)]) (as := [climbL B false, climbL B true]) rfl sc_law.nd (pi_list pe_w) (blkOk_by (N := N_law) (sc := defScope s_law) (by decide +kernel)) (fun _ _ _ _ _ => pg_name (i := 10) sc_law.nd rfl (Or.inl rfl))
    (src_list (f := pairD) 10 (dv_lst (av2 (dv_name 17) (dv_name 18)) (by simp))) (by decide) (fun _ => false) pairD (by simp)
    (fun s H C cl fp q hq => by
      have hq' : IsBest B q.1 q.2 := by
        rcases List.mem_cons.mp hq with z | z
        · rw [z]; exact cb0
        · rw [List.mem_singleton.mp z]; exact cb1
      obtain ⟨s1, s2⟩ := stay q hq'
      exact tv_is (tv_pv (pv_or (p := false) (q := false) (tv_is (tv_notinL (ns := rowsL B (lawAt B 12)) (dv_ixT (xs := [.int q.1, .int q.2]) (dv_name 10) dv_int rfl) (dv_name 21)) (by rw [decide_eq_true s1]; rfl)) fun _ => pv_or1 (tv_is (tv_notinL (ns := (colsL B (lawAt B 12)).map fun c => c - hi B) (dv_ixT (xs := [.int q.1, .int q.2]) (dv_name 10) dv_int rfl) (dv_name 22)) (by rw [decide_eq_true s2]; rfl)))) rfl) fun s H C cl fp q hq _ => dv_name 10) (by rfl)) (dv_lst (xs := ([] : List Int).map .int) av_nil (by simp)) (fit_shaped (fit_intsL []) (by decide)) (fit_shaped (fit_intsL []) (by decide))) (by rw [eqv_intsL]; rfl)) ?_
  exact bl_out (by unfold tE qE; walk_at "envle") bl_nil
end
end K8
set_option maxHeartbeats 1000000
namespace K8
open PySem PySem.Spec PyProof.Rows L2
local macro_rules | `(tactic| walk_at "envle") => `(tactic| (repeat (first | exact EnvLe.nil | apply EnvLe.keep | apply EnvLe.skip)))
theorem all_take {α : Type} {l : List α} {p : α → Bool} {i : Nat} {a : α} (h : l[i]? = some a) : (l.take (i + 1)).all p = ((l.take i).all p && p a) := by
  rw [List.take_add_one, h, List.all_append]
  show ((l.take i).all p && [a].all p) = _
  rw [List.all_cons, List.all_nil, Bool.and_true]
section
variable {P : Program} {w : World} {K : PySem.W.Frag} {mg : Str → Option Value} {base : Heap} {C : Addr}
def mE (r : Addr) (B : Bd) : DEnv := [none, some (.v (.ref r)), some (.d (bd B)), none, none, none, none, none, none, none, none, none, none, none, none, none, none, none, none, none, none, none, none, none, none, none, none, none, none, none, none]
def gE (r : Addr) (B : Bd) (gd : Bool) (one : Option Ent) : DEnv := [none, some (.v (.ref r)), some (.d (bd B)), some (.d (.int (hi B))), some (.d (.int (wi B))), none, none, none, none, none, one, some (.d (.bool gd)), none, none, none, none, none, none, none, none, none, none, none, none, none, none, none, none, none, none, none]
theorem law_mid {r sc : Addr} {scr : List Int} {fl : Bool} (F : Fns P w K mg base C) (T : Txt mg) (TX : Exn K mg C) {f : Addr} {cdv : Value} {A : Around} {outer : List PySem.Env} {s : Shared} {H : Hp} {E : XK} (hr : Room 9 (cxL P w K mg base f cdv A outer s H E).A) {B : Bd} (g : Good B) :
    Bl (rowR K r sc scr fl) (cxL P w K mg base f cdv A outer s H E) (mE r B) ((defBody s_law).drop 3) yes := by
  have n1 := g.n1
  have n6 := g.n6
  have m1 := g.m1
  have m6 := g.m6
  have b36 := bests_len g
  refine bl_three 3 4 11 rfl sc_law.nd (dv_tup (av_cons (dv_hi (B := B) T.len (dv_name 2)) (av2 (dv_wi g T.len (dv_name 2)) dv_bl)) (by simp)) ?_
  have l1 : (rangeI (hi B - 1)).length = (hi B - 1).toNat := rangeI_len _
  have l2 : (rangeI (wi B - 1)).length = (wi B - 1).toNat := rangeI_len _
  refine bl_each (fun i => gE r B (((rangeI (hi B - 1)).take i).all fun r => (rangeI (wi B - 1)).all fun c => cellOkB B r c) none) PassesOwn.never rfl (pi_range1 (by rfl) T.range pa_w) (pg_name (i := 10) sc_law.nd rfl (Or.inr rfl)) (src_rng 10 (av1 (dv_sub (dv_name 3) dv_int)) (by omega) (by omega)) (fun i one hi => ?_) ?_
  · have ho := mem_rangeI.mp (List.mem_of_getElem? hi)
    refine bl_isE (ds1 := gE r B ((((rangeI (K8.hi B - 1)).take i).all fun r => (rangeI (wi B - 1)).all fun c => cellOkB B r c) && ((rangeI (wi B - 1)).take 0).all fun c => cellOkB B one c) (some (.d (.int one)))) ?_ ?_
    · have e : ((((rangeI (K8.hi B - 1)).take i).all fun r => (rangeI (wi B - 1)).all fun c => cellOkB B r c) && ((rangeI (wi B - 1)).take 0).all fun c => cellOkB B one c) = (((rangeI (K8.hi B - 1)).take i).all fun r => (rangeI (wi B - 1)).all fun c => cellOkB B r c) := Bool.and_true _
      rw [e]
      rfl
    refine bl_each (fun j => gE r B ((((rangeI (K8.hi B - 1)).take i).all fun r => (rangeI (wi B - 1)).all fun c => cellOkB B r c) && ((rangeI (wi B - 1)).take j).all fun c => cellOkB B one c) (some (.d (.int one)))) PassesOwn.never rfl (pi_range1 (by rfl) T.range pa_w) (pg_name (i := 12) sc_law.nd rfl (Or.inl rfl)) (src_rng 12 (av1 (dv_sub (dv_name 4) dv_int)) (by omega) (by omega)) (fun j c hj => ?_) ?_
    · have ha := mem_rangeI.mp (List.mem_of_getElem? hj)
      refine bl_set 13 sc_law.nd (d := .int (lawA B one c)) (dv_add (dv_sub (dv_sub (dv_fs g (dv_name 2) (dv_add (dv_name 10) dv_int) (dv_add (dv_name 12) dv_int) (by omega) (by omega) (by omega) (by omega)) (dv_fs g (dv_name 2) (dv_name 10) (dv_add (dv_name 12) dv_int) (by omega) (by omega) (by omega) (by omega))) (dv_fs g (dv_name 2) (dv_add (dv_name 10) dv_int) (dv_name 12) (by omega) (by omega) (by omega) (by omega))) (dv_fs g (dv_name 2) (dv_name 10) (dv_name 12) (by omega) (by omega) (by omega) (by omega))) ?_
      refine bl_set 14 sc_law.nd (d := .int (lawS B one c)) (dv_add (dv_sub (dv_sub (dv_sn g (dv_name 2) (dv_add (dv_name 10) dv_int) (dv_add (dv_name 12) dv_int) (by omega) (by omega) (by omega) (by omega)) (dv_sn g (dv_name 2) (dv_add (dv_name 10) dv_int) (dv_name 12) (by omega) (by omega) (by omega) (by omega))) (dv_sn g (dv_name 2) (dv_name 10) (dv_add (dv_name 12) dv_int) (by omega) (by omega) (by omega) (by omega))) (dv_sn g (dv_name 2) (dv_name 10) (dv_name 12) (by omega) (by omega) (by omega) (by omega))) ?_
      refine bl_set 11 sc_law.nd (d := .bool ((((rangeI (K8.hi B - 1)).take i).all fun r => (rangeI (wi B - 1)).all fun c => cellOkB B r c) && ((rangeI (wi B - 1)).take (j + 1)).all fun c => cellOkB B one c)) (dv_is (dv_and (dv_name 11) fun _ => dv_and (dv_ge (dv_name 13) dv_int) fun _ => dv_one (dv_ge (dv_name 14) dv_int)) ?_) ?_
      · rw [all_take hj, Bool.and_assoc]
        rfl
      exact bl_out (by unfold gE; walk_at "envle") bl_nil
    · rw [all_take hi, List.take_length]
      exact bl_out (by unfold gE; walk_at "envle") bl_nil
  rw [List.take_length]
  have eg : ((rangeI (hi B - 1)).all fun r => (rangeI (wi B - 1)).all fun c => cellOkB B r c) = risesL B := law_good g
  rw [eg]
  refine bl_ifno (tv_is (tv_not (p := true) (tv_val (dv_is (dv_call F.lis hr (by decide) (av2 (dv_call F.rising hr (by decide) (av1 (dv_name 2)) ⟨B, g, rfl, rfl⟩) (dv_name 11)) ⟨risesL B, risesL B, rfl, rfl⟩) (by rw [beq_self_eq_true])))) rfl) ?_
  refine bl_par 15 16 rfl sc_law.nd dv_str (dv_is (z := .list (someB B)) (dv_lc0 (own := [("_law_one", 10), ("_law_line", 30)]) (as := bestsL B []) rfl sc_law.nd (pi_tup pe_w) (blkOk_by (N := N_law) (sc := defScope s_law) (by decide +kernel)) (fun _ _ _ _ _ => pg_pair (i := 10) (j := 30) rfl sc_law.nd)
    (src_pairsT (f1 := fun p => .int p.1) (f2 := fun p => .int p.2) 10 30 (dv_call F.bests hr (by decide) (av2 (dv_name 2) (dv_tup (xs := ([] : List Int).map .int) av_nil (by simp))) ⟨B, [], g, by simp, nil_rows g, nil_cols g, rfl, rfl⟩)) (by decide) (fun p => pairD (p.1, p.2 - hi B)) (by omega) fun s H C cl fp p hp => dv_tup (av2 (dv_name 10) (dv_sub (dv_name 30) (dv_name 3))) (by simp)) rfl) ?_
  refine bl_weak (ds' := qE r B (risesL B)) (by unfold gE qE; walk_at "envle") ?_
  have s1 : SeqAt.shaped (.str "") = true := by decide +kernel
  have s2 : SeqAt.shaped (.str "not") = true := by decide +kernel
  by_cases hu : risesL B = true
  · rw [hu]
    exact bl_tryok (law_try F T hr g hu) (law_tail F T hr s1 s1 (by decide +kernel))
  · have hu' : risesL B = false := by
      cases e : risesL B with
      | true => exact absurd e hu
      | false => rfl
    rw [hu']
    refine bl_tryX 23 15 TX rfl rfl sc_law.nd (fun pn xe W tk => ?_) (bl_weak (ds' := tE r false "not") (by unfold tE qE; walk_at "envle") (law_tail F T hr s2 s1 (by decide +kernel))) rfl (by decide)
    exact blr_two (X := (cxL P w K mg base f cdv A outer s H E).tr pn xe) 17 18 F.leastX hr (by decide) tk rfl sc_law.nd (av1 (dv_name 2)) ⟨B, g, hu', rfl⟩
end
end K8
set_option maxHeartbeats 1000000
namespace K8
open PySem PySem.Spec PyProof.Rows L2
local macro_rules | `(tactic| walk_at "envle") => `(tactic| (repeat (first | exact EnvLe.nil | apply EnvLe.keep | apply EnvLe.skip)))
theorem getD_in {l : List Int} {i : Nat} (h : ∀ x ∈ l, 0 ≤ x ∧ x ≤ 19) : 0 ≤ l.getD i 0 ∧ l.getD i 0 ≤ 19 := by
  by_cases hi : i < l.length
  · rw [List.getD_eq_getElem?_getD, List.getElem?_eq_getElem hi]
    exact h _ (List.getElem_mem hi)
  · rw [List.getD_eq_getElem?_getD, List.getElem?_eq_none (by omega)]
    decide
def slCell (f1 f2 : List Int) (sl st i j : Int) : Int × Int := (sl * i * j - f1.getD i.toNat 0, st * i * j - f2.getD j.toNat 0)
def slRow (f1 f2 : List Int) (sl st w i : Int) : List (Int × Int) := (rangeI w).map fun j => slCell f1 f2 sl st i j
section
variable {P : Program} {w : World} {K : PySem.W.Frag} {mg : Str → Option Value} {base : Heap} {C : Addr}
def rE (r : Addr) : DEnv := [none, some (.v (.ref r)), none, none, none, none, none, none, none, none, none, none, none, none, none, none, none, none, none, none, none, none, none, none, none, none, none, none, none, none, none]
def bE (r : Addr) (h w : Int) (rows : List PyData) (f1 f2 : List Int) (sl st : Int) : DEnv := [none, some (.v (.ref r)), none, some (.d (.int h)), some (.d (.int w)), some (.own rows), some (.d (intsL f1)), some (.d (intsL f2)), some (.d (.int sl)), some (.d (.int st)), none, none, none, none, none, none, none, none, none, none, none, none, none, none, none, none, none, none, none, none, none]
theorem law_head {r sc : Addr} {scr : List Int} {fl : Bool} (F : Fns P w K mg base C) (T : Txt mg) (TX : Exn K mg C) {f : Addr} {cdv : Value} {A : Around} {outer : List PySem.Env} {s : Shared} {H : Hp} {E : XK} (hr : Room 9 (cxL P w K mg base f cdv A outer s H E).A) :
    Bl (rowR K r sc scr fl) (cxL P w K mg base f cdv A outer s H E) (rE r) ((defBody s_law).drop 1) yes := by
  refine bl_setP 2 sc_law.nd (pp_rowcall 1 F.board hr (by decide) rfl (av_cons dv_int (av2 dv_int dv_int))) ?_
  rintro _ ⟨B, g, rfl⟩
  refine bl_ifP (N := fun e => ∃ B, Good B ∧ e = mE r B) (pt_gt (A' := fun _ => True) (pp_taken 1 F.taken hr (by decide) rfl dv_int (by decide) (by decide)) (pp_int dv_int trivial)) ?_ (bl_npr ⟨B, g, rfl⟩) ?_
  · refine bl_threeO 3 4 5 (P := inR 1 5) (P' := inR 1 5) rfl sc_law.nd (pp_add (A := fun i => i = 1) (A' := fun i => 0 ≤ i ∧ i ≤ 5 - 1) (pp_int dv_int rfl) (pp_taken 1 F.taken hr (by decide) rfl dv_int (by decide) (by decide)) (fun i j hi hj => by omega)) (pp_add (A := fun i => i = 1) (A' := fun i => 0 ≤ i ∧ i ≤ 5 - 1) (pp_int dv_int rfl) (pp_taken 1 F.taken hr (by decide) rfl dv_int (by decide) (by decide)) (fun i j hi hj => by omega)) (fun d1 d2 k ys h => ?_) (fun d1 d2 p1 p2 => ?_) (hii := by simp [rE])
    · exact absurd (List.mem_of_getElem? h) (by simp [rE])
    obtain ⟨h, rfl, hh⟩ := p1
    obtain ⟨w, rfl, hw⟩ := p2
    refine bl_twoP 6 7 (P := listP (rangeI 6).length (inR 0 19)) (P' := listP (rangeI 6).length (inR 0 19)) rfl sc_law.nd (pp_tup2 (pp_lc0 (P := inR 0 19) (own := [("_law_turn", 29)]) (as := rangeI 6) rfl sc_law.nd (pi_range1 (by rfl) T.range pa_w) (blkOk_by (N := N_law) (sc := defScope s_law) (by decide +kernel)) (fun _ _ _ _ _ => pg_name (i := 29) sc_law.nd rfl (Or.inl rfl))
        (src_rng 29 (av1 dv_int) (by decide) (by decide)) (by decide) (by rw [rangeI_len]; decide) (fun s H C cl fp a ha => by exact pp_to (pp_taken (n := 20) 1 F.taken hr (by decide) rfl dv_int (by decide) (by decide)) fun d hd => hd))
      (pp_lc0 (P := inR 0 19) (own := [("_law_turn", 29)]) (as := rangeI 6) rfl sc_law.nd (pi_range1 (by rfl) T.range pa_w) (blkOk_by (N := N_law) (sc := defScope s_law) (by decide +kernel)) (fun _ _ _ _ _ => pg_name (i := 29) sc_law.nd rfl (Or.inl rfl))
        (src_rng 29 (av1 dv_int) (by decide) (by decide)) (by decide) (by rw [rangeI_len]; decide) (fun s H C cl fp a ha => by exact pp_to (pp_taken (n := 20) 1 F.taken hr (by decide) rfl dv_int (by decide) (by decide)) fun d hd => hd))) ?_
    intro d1 d2 p1 p2
    obtain ⟨f1, rfl, hl1, hf1⟩ := listP_ints p1
    obtain ⟨f2, rfl, hl2, hf2⟩ := listP_ints p2
    have e6 : (rangeI 6).length = 6 := by rw [rangeI_len]; rfl
    rw [e6] at hl1 hl2
    refine bl_twoP 8 9 (P := inR 0 4) (P' := inR 0 4) rfl sc_law.nd (pp_tup2 (pp_to (pp_taken 1 F.taken hr (by decide) rfl dv_int (by decide) (by decide)) fun d hd => hd) (pp_to (pp_taken 1 F.taken hr (by decide) rfl dv_int (by decide) (by decide)) fun d hd => hd)) ?_
    rintro _ _ ⟨sl, rfl, hsl⟩ ⟨st, rfl, hst⟩
    refine bl_weak (ds' := bE r h w [] f1 f2 sl st) (by unfold rE bE; walk_at "envle") ?_
    have lh : (rangeI h).length = h.toNat := rangeI_len h
    have lw : (rangeI w).length = w.toNat := rangeI_len w
    refine bl_each (fun i => bE r h w (((rangeI h).take i).map fun i => rowD (slRow f1 f2 sl st w i)) f1 f2 sl st) PassesOwn.never rfl (pi_range1 (by rfl) T.range pa_w) (pg_name (i := 10) sc_law.nd rfl (Or.inr rfl)) (src_rng 10 (av1 (dv_name 3)) (by omega) (by omega)) (fun i a hi => ?_) ?_
    · have ha := mem_rangeI.mp (List.mem_of_getElem? hi)
      have ms := mul_in (k := 4) hsl (show 0 ≤ a ∧ a ≤ 4 by omega)
      have mt := mul_in (k := 4) hst (show 0 ≤ a ∧ a ≤ 4 by omega)
      refine bl_append 5 (d := rowD (slRow f1 f2 sl st w a)) (dv_is (dv_ct call_tuple_of bt_tuple rc_tupL T.tuple (av1 (dv_lc0 (own := [("_law_at", 12)]) (as := rangeI w) rfl sc_law.nd (pi_range1 (by rfl) T.range pa_w) (blkOk_by (N := N_law) (sc := defScope s_law) (by decide +kernel)) (fun _ _ _ _ _ => pg_name (i := 12) sc_law.nd rfl (Or.inl rfl))
        (src_rng 12 (av1 (dv_name 4)) (by omega) (by omega)) (by decide) (fun j => pairD (slCell f1 f2 sl st a j)) (by omega)
        fun s H C cl fp j hj => by
          have hj' := mem_rangeI.mp hj
          exact dv_tup (av2 (dv_sub (dv_mul (dv_mul (dv_name 8) (dv_name 10) (by omega)) (dv_name 12) (by omega)) (dv_ixL (xs := f1.map .int) (dv_name 6) (dv_name 10) (atI_getD ha.1 (by omega)))) (dv_sub (dv_mul (dv_mul (dv_name 9) (dv_name 10) (by omega)) (dv_name 12) (by omega)) (dv_ixL (xs := f2.map .int) (dv_name 7) (dv_name 12) (atI_getD hj'.1 (by omega))))) (by simp)))) ?_) rfl (by rw [List.length_map, List.length_take]; omega) ?_ (hh := fun hx he => pe_bm PySem.F.plainAttrs_list PySem.F.slot_list_append PySem.F.type_list_append mt_append hx (pa_cons he pa_nil))
      · show _ = PyData.tuple (((rangeI w).map fun j => slCell f1 f2 sl st a j).map pairD)
        rw [List.map_map]
        rfl
      · rw [take_succ_map hi]
        exact bl_out (by unfold bE; walk_at "envle") bl_nil
    · refine bl_known 5 rfl ?_
      refine bl_set 2 sc_law.nd (d := bd ((rangeI h).map fun i => (rangeI w).map fun j => slCell f1 f2 sl st i j)) (dv_is (dv_ct call_tuple_of bt_tuple rc_tupL T.tuple (av1 (dv_name 5))) ?_) ?_
      · rw [List.take_length]
        show _ = PyData.tuple (((rangeI h).map fun i => slRow f1 f2 sl st w i).map rowD)
        rw [List.map_map]
        rfl
      · refine bl_nxpr (ds1 := mE r ((rangeI h).map fun i => (rangeI w).map fun j => slCell f1 f2 sl st i j)) (bl_out (by unfold bE mE; walk_at "envle") bl_nil) ⟨_, grid_good ⟨hh.1, by omega⟩ ⟨hw.1, by omega⟩ fun i j i0 i1 j0 j1 => ?_, rfl⟩
        have a1 := mul_in (k := 4) hsl (show 0 ≤ i ∧ i ≤ 4 by omega)
        have a2 := mul_in (k := 4) hst (show 0 ≤ i ∧ i ≤ 4 by omega)
        have b1 := mul_in (k := 4) a1 (show 0 ≤ j ∧ j ≤ 4 by omega)
        have b2 := mul_in (k := 4) a2 (show 0 ≤ j ∧ j ≤ 4 by omega)
        have c1 := getD_in (i := i.toNat) hf1
        have c2 := getD_in (i := j.toNat) hf2
        show -1000 ≤ sl * i * j - f1.getD i.toNat 0 ∧ sl * i * j - f1.getD i.toNat 0 ≤ 1000 ∧ -1000 ≤ st * i * j - f2.getD j.toNat 0 ∧ st * i * j - f2.getD j.toNat 0 ≤ 1000
        omega
  · rintro _ ⟨B, g, rfl⟩
    exact law_mid F T TX hr g
end
end K8
set_option maxHeartbeats 1000000
namespace K8
open PySem PySem.Spec PyProof.Rows L2
def spLaw (K : PySem.W.Frag) : Sp := fun vs H Q _ => ∃ (a : Addr) (ns : List Int), vs = [.ref a] ∧ SqL K H a (ns.map V.int) ∧ ns.length ≤ 63 ∧ ∀ H', Q (.bl true) H'
section
variable {P : Program} {w : World} {K : PySem.W.Frag} {mg : Str → Option Value} {base : Heap} {C : Addr}
theorem rE_none : ∀ (k : Nat) (e : Ent) (r : Addr), (rE r)[k]? = some (some e) → k = 1 ∧ e = .v (.ref r) := fun k e r h => by
  have hk : k < 31 := by
    have := (List.getElem?_eq_some_iff.mp h).1
    simpa [rE] using this
  by_cases h1 : k = 1
  · subst h1
    refine ⟨rfl, ?_⟩
    have : (rE r)[1]? = some (some (.v (.ref r))) := rfl
    rw [this] at h
    injection h with h
    injection h with h
    exact h.symm
  · exfalso
    have key : ∀ k : Nat, k < 31 → k ≠ 1 → (rE r)[k]? = some none := by
      intro k hk h1
      unfold rE
      rcases k with _ | _ | k
      · rfl
      · exact absurd rfl h1
      · show (List.replicate 29 (none : Option Ent))[k]? = some none
        rw [List.getElem?_replicate, if_pos (by omega)]
    rw [key k hk h1] at h
    injection h with h
    cases h
theorem ok_law {f : Addr} {fd : FuncData} (FL : Fun K "law" "law" s_law f fd) (T : Txt mg) (TX : Exn K mg C) (F : Fns P w K mg base C) : FnOk P w K mg base CX0 10 f fd ["_law_script"] (spLaw K) := by
  refine FL.ok sc_law (fun vs H Q E h => ?_) (fun cdv A outer s H vs Q E hr h => ?_)
  · obtain ⟨a, ns, rfl, _⟩ := h
    rfl
  · obtain ⟨a, ns, rfl, hS, hl, q⟩ := h
    refine ⟨_, pss_w, ?_⟩
    have X0 : True := trivial
    refine ws_of (pss_cons (ps_set (i := 1) sc_law.nd rfl (Or.inr rfl) (pe_lst (pa_cons (pe_var (i := 0) rfl (Or.inl rfl) (by decide) (by decide)) (pa_cons pe_int (pa_cons pe_int (pa_cons pe_int pa_nil)))))) pss_w) ?_
    refine ⟨.ref a, rfl, Nat.le_trans (by decide : 4 ≤ 1000) (by decide), fun r hr1 => ?_⟩
    have s1 : Same H (upd H r (.lst [.ref a, .int 0, .int 5218, .int 0])) := same_new hr1
    obtain ⟨fl, hfl⟩ := scr_of (show SqL K (upd H r (.lst [.ref a, .int 0, .int 5218, .int 0])) a (ns.map V.int) from by
      rcases hS with h | h
      · exact .inl (rd_same s1 h)
      · exact .inr h)
    have ok : (rowR K r a ns fl).ok (upd H r (.lst [.ref a, .int 0, .int 5218, .int 0])) := ⟨⟨0, 5218, 0, by decide, ⟨by decide, by decide⟩, upd_same⟩, hfl⟩
    have e0 : Same (fun _ => none) (upd H r (.lst [.ref a, .int 0, .int 5218, .int 0])) := fun b o e => nomatch e
    refine law_head F T TX hr _ (fun _ => none) _ (fun _ => none) _ (.refl e0) ⟨e0, ok, rfl, fun i e h => ?_, fun i j xs ys b h1 => ?_, fun _ _ => rfl⟩ ok _ ⟨fun _ _ _ _ z => z.elim, fun v d H0' H' hd f dv => ?_⟩
    · obtain ⟨rfl, rfl⟩ := rE_none i e r h
      exact ⟨.ref r, rfl, rfl⟩
    · obtain ⟨_, z⟩ := rE_none i _ r h1
      cases z
    · subst hd
      cases dv
      exact q H'
end
/-- an error of the class at S is what «except S» names -/
theorem exm_self {K : PySem.W.Frag} {S : Addr} (h1 : PySem.W.subIn K (.ref S) (.type "BaseException") = some true) (h2 : PySem.W.isClsIn K S = true) (h3 : PySem.W.typeIn K (.ref S) = some (.type "type")) (h4 : PySem.W.subIn K (.ref S) (.ref S) = some true) :
    PySem.W.exmOne K (.ref S) (.ref S) = some true := by
  have e1 : (PySem.W.subIn K (.ref S) (.type "BaseException") == some true) = true := by rw [h1] <;> rfl
  have e2 : ((PySem.W.clsIn K S).isSome && PySem.W.typeIn K (.ref S) == some (.type "type")) = true := by
    have h2' : (PySem.W.clsIn K S).isSome = true := h2
    rw [h2', h3] <;> rfl
  show (if (PySem.W.subIn K (.ref S) (.type "BaseException") == some true) = true then (if ((PySem.W.clsIn K S).isSome && PySem.W.typeIn K (.ref S) == some (.type "type")) = true then PySem.W.subIn K (.ref S) (.ref S) else none) else none) = some true
  rw [if_pos e1, if_pos e2]
  exact h4
/-- a def of the text as the top has written it -/
structure Wr (K : PySem.W.Frag) (x : Str) (st : Stmt) (f : Addr) (fd : FuncData) : Prop where
  F : Fun K x x st f fd
  n : PySem.W.nsIn K mainGlobals x = some (some (.ref f))
theorem wr_mk {K : PySem.W.Frag} {x : Str} {st : Stmt} {f : Addr} {oc : Value} {od an : Option Addr} {osl : Array (Option Value)} {kV doc pm cdv ct : Value} (a : PySem.W.nsIn K mainGlobals x = some (some (.ref f))) (l : K.lookup f = some ⟨oc, od, .func (PySem.W.fnOf x x (defArgs st) (defBody st) (defScope st) .none kV doc pm an cdv ct), osl⟩)
    (c : PySem.W.codeIn K cdv x = true) (k : PySem.W.keepIn K (.ref f) = true) : ∃ f fd, Wr K x st f fd := ⟨f, _, ⟨fun_mk l c k, a⟩⟩
theorem Wr.at {K : PySem.W.Frag} {x : Str} {st : Stmt} {f : Addr} {fd : FuncData} {h : Heap} {mg : Str → Option Value} (d : Wr K x st f fd) (X : K.In h) (G : h.Ns mainGlobals mg) : DefAt K mg x st f fd := ⟨d.F, PySem.W.mg_of X G d.n⟩

theorem all_mk {l : PySem.W.OpenLaw} {w : World} {K : PySem.W.Frag} {h : Heap} {mg : Str → Option Value} {fa C : Addr} {t1 t2 : Tok} (X : K.In h) (G : h.Ns mainGlobals mg) (hfa : mg "law" = some (.ref fa))
    (d_is_int : ∃ f fd, Wr K "is_int" s_is_int f fd)
    (d_is_from : ∃ f fd, Wr K "is_from" s_is_from f fd)
    (d_need_from : ∃ f fd, Wr K "need_from" s_need_from f fd)
    (d_is_place : ∃ f fd, Wr K "is_place" s_is_place f fd)
    (d_need_board : ∃ f fd, Wr K "need_board" s_need_board f fd)
    (d_sides : ∃ f fd, Wr K "sides" s_sides f fd)
    (d_lines_of : ∃ f fd, Wr K "lines_of" s_lines_of f fd)
    (d_left_of : ∃ f fd, Wr K "left_of" s_left_of f fd)
    (d_numbers : ∃ f fd, Wr K "numbers" s_numbers f fd)
    (d_same_side : ∃ f fd, Wr K "same_side" s_same_side f fd)
    (d_is_greater : ∃ f fd, Wr K "is_greater" s_is_greater f fd)
    (d_can_fall : ∃ f fd, Wr K "can_fall" s_can_fall f fd)
    (d_ready_of : ∃ f fd, Wr K "ready_of" s_ready_of f fd)
    (d_with_line : ∃ f fd, Wr K "with_line" s_with_line f fd)
    (d_closure : ∃ f fd, Wr K "closure" s_closure f fd)
    (d_last_of : ∃ f fd, Wr K "last_of" s_last_of f fd)
    (d_last_lot : ∃ f fd, Wr K "last_lot" s_last_lot f fd)
    (d_rounds_of : ∃ f fd, Wr K "rounds_of" s_rounds_of f fd)
    (d_rounds : ∃ f fd, Wr K "rounds" s_rounds f fd)
    (d_answers_of : ∃ f fd, Wr K "answers_of" s_answers_of f fd)
    (d_bests_of : ∃ f fd, Wr K "bests_of" s_bests_of f fd)
    (d_rises : ∃ f fd, Wr K "rises" s_rises f fd)
    (d_is_rising : ∃ f fd, Wr K "is_rising" s_is_rising f fd)
    (d_need_rising : ∃ f fd, Wr K "need_rising" s_need_rising f fd)
    (d_answer_in : ∃ f fd, Wr K "answer_in" s_answer_in f fd)
    (d_climb : ∃ f fd, Wr K "climb" s_climb f fd)
    (d_least_best : ∃ f fd, Wr K "least_best" s_least_best f fd)
    (d_greatest_best : ∃ f fd, Wr K "greatest_best" s_greatest_best f fd)
    (d_corners_left : ∃ f fd, Wr K "corners_left" s_corners_left f fd)
    (d_count_rising : ∃ f fd, Wr K "count_rising" s_count_rising f fd)
    (d_need_effort : ∃ f fd, Wr K "need_effort" s_need_effort f fd)
    (d_weakest_board : ∃ f fd, Wr K "weakest_board" s_weakest_board f fd)
    (d_weakest_last : ∃ f fd, Wr K "weakest_last" s_weakest_last f fd)
    (d_weakest_rounds : ∃ f fd, Wr K "weakest_rounds" s_weakest_rounds f fd)
    (d_weakest_bests : ∃ f fd, Wr K "weakest_bests" s_weakest_bests f fd)
    (d_L_taken : ∃ f fd, Wr K "_law_taken" s_L_taken f fd)
    (d_L_alike : ∃ f fd, Wr K "_law_alike" s_L_alike f fd)
    (d_L_is : ∃ f fd, Wr K "_law_is" s_L_is f fd)
    (d_L_board : ∃ f fd, Wr K "_law_board" s_L_board f fd)
    (d_L_rows : ∃ f fd, Wr K "_law_rows" s_L_rows f fd)
    (d_L_columns : ∃ f fd, Wr K "_law_columns" s_L_columns f fd)
    (d_L_numbers : ∃ f fd, Wr K "_law_numbers" s_L_numbers f fd)
    (d_L_over : ∃ f fd, Wr K "_law_over" s_L_over f fd)
    (d_L_ready : ∃ f fd, Wr K "_law_ready" s_L_ready f fd)
    (d_L_with : ∃ f fd, Wr K "_law_with" s_L_with f fd)
    (d_L_end : ∃ f fd, Wr K "_law_end" s_L_end f fd)
    (d_L_answers : ∃ f fd, Wr K "_law_answers" s_L_answers f fd)
    (d_L_bests : ∃ f fd, Wr K "_law_bests" s_L_bests f fd)
    {od an : Option Addr} {sl : Array (Option Value)} {f : Addr} {oc kV dc pm cd ct : Value} (aL : PySem.W.nsIn K mainGlobals "law" = some (some (.ref f))) (lL : K.lookup f = some ⟨oc, od, .func (PySem.W.fnOf "law" "law" (defArgs s_law) (defBody s_law) (defScope s_law) .none kV dc pm an cd ct), sl⟩) (cL : PySem.W.codeIn K cd "law" = true) (kL : PySem.W.keepIn K (.ref f) = true)
    (z_isinstance : PySem.W.nsIn K mainGlobals "isinstance" = some none)
    (z_int : PySem.W.nsIn K mainGlobals "int" = some none)
    (z_bool : PySem.W.nsIn K mainGlobals "bool" = some none)
    (z_str : PySem.W.nsIn K mainGlobals "str" = some none)
    (z_tuple : PySem.W.nsIn K mainGlobals "tuple" = some none)
    (z_list : PySem.W.nsIn K mainGlobals "list" = some none)
    (z_dict : PySem.W.nsIn K mainGlobals "dict" = some none)
    (z_len : PySem.W.nsIn K mainGlobals "len" = some none)
    (z_all : PySem.W.nsIn K mainGlobals "all" = some none)
    (z_any : PySem.W.nsIn K mainGlobals "any" = some none)
    (z_enumerate : PySem.W.nsIn K mainGlobals "enumerate" = some none)
    (z_range : PySem.W.nsIn K mainGlobals "range" = some none)
    (z_sum : PySem.W.nsIn K mainGlobals "sum" = some none)
    (z_zip : PySem.W.nsIn K mainGlobals "zip" = some none)
    (z_sorted : PySem.W.nsIn K mainGlobals "sorted" = some none)
    (z_max : PySem.W.nsIn K mainGlobals "max" = some none)
    (z_min : PySem.W.nsIn K mainGlobals "min" = some none)
    (vS : PySem.W.nsIn K mainGlobals "MOST_SIDE" = some (some (.int 6 t1))) (vV : PySem.W.nsIn K mainGlobals "MOST_VALUE" = some (some (.int 1000 t2)))
    (gC : PySem.W.nsIn K mainGlobals "NotRising" = some (some (.ref C))) (xF : PySem.W.excIn K C [.type "ValueError", .type "Exception", .type "BaseException", .type "object"] "ValueError.__new__" = true) (kF : PySem.W.keepIn K (.ref C) = true) (bF : PySem.W.subIn K (.ref C) (.type "BaseException") = some true) (tF : PySem.W.typeIn K (.ref C) = some (.type "type")) (iF : PySem.W.isClsIn K C = true) (sF : PySem.W.subIn K (.ref C) (.ref C) = some true) :
    ∃ fd : FuncData, (∀ (s : Shared) (v : Value), BindsTo s fd ⟨[v], []⟩ [("_law_script", v)]) ∧ ∀ base : Heap, K.In base → base.Ns mainGlobals mg → FnOk l.prog w K mg base CX0 10 fa fd ["_law_script"] (spLaw K) := by
  have e := hfa.symm.trans (PySem.W.mg_of X G aL)
  cases e
  obtain ⟨_, _, d_is_int⟩ := d_is_int
  have D_is_int := d_is_int.at X G
  obtain ⟨_, _, d_is_from⟩ := d_is_from
  have D_is_from := d_is_from.at X G
  obtain ⟨_, _, d_need_from⟩ := d_need_from
  have D_need_from := d_need_from.at X G
  obtain ⟨_, _, d_is_place⟩ := d_is_place
  have D_is_place := d_is_place.at X G
  obtain ⟨_, _, d_need_board⟩ := d_need_board
  have D_need_board := d_need_board.at X G
  obtain ⟨_, _, d_sides⟩ := d_sides
  have D_sides := d_sides.at X G
  obtain ⟨_, _, d_lines_of⟩ := d_lines_of
  have D_lines_of := d_lines_of.at X G
  obtain ⟨_, _, d_left_of⟩ := d_left_of
  have D_left_of := d_left_of.at X G
  obtain ⟨_, _, d_numbers⟩ := d_numbers
  have D_numbers := d_numbers.at X G
  obtain ⟨_, _, d_same_side⟩ := d_same_side
  have D_same_side := d_same_side.at X G
  obtain ⟨_, _, d_is_greater⟩ := d_is_greater
  have D_is_greater := d_is_greater.at X G
  obtain ⟨_, _, d_can_fall⟩ := d_can_fall
  have D_can_fall := d_can_fall.at X G
  obtain ⟨_, _, d_ready_of⟩ := d_ready_of
  have D_ready_of := d_ready_of.at X G
  obtain ⟨_, _, d_with_line⟩ := d_with_line
  have D_with_line := d_with_line.at X G
  obtain ⟨_, _, d_closure⟩ := d_closure
  have D_closure := d_closure.at X G
  obtain ⟨_, _, d_last_of⟩ := d_last_of
  have D_last_of := d_last_of.at X G
  obtain ⟨_, _, d_last_lot⟩ := d_last_lot
  have D_last_lot := d_last_lot.at X G
  obtain ⟨_, _, d_rounds_of⟩ := d_rounds_of
  have D_rounds_of := d_rounds_of.at X G
  obtain ⟨_, _, d_rounds⟩ := d_rounds
  have D_rounds := d_rounds.at X G
  obtain ⟨_, _, d_answers_of⟩ := d_answers_of
  have D_answers_of := d_answers_of.at X G
  obtain ⟨_, _, d_bests_of⟩ := d_bests_of
  have D_bests_of := d_bests_of.at X G
  obtain ⟨_, _, d_rises⟩ := d_rises
  have D_rises := d_rises.at X G
  obtain ⟨_, _, d_is_rising⟩ := d_is_rising
  have D_is_rising := d_is_rising.at X G
  obtain ⟨_, _, d_need_rising⟩ := d_need_rising
  have D_need_rising := d_need_rising.at X G
  obtain ⟨_, _, d_answer_in⟩ := d_answer_in
  have D_answer_in := d_answer_in.at X G
  obtain ⟨_, _, d_climb⟩ := d_climb
  have D_climb := d_climb.at X G
  obtain ⟨_, _, d_least_best⟩ := d_least_best
  have D_least_best := d_least_best.at X G
  obtain ⟨_, _, d_greatest_best⟩ := d_greatest_best
  have D_greatest_best := d_greatest_best.at X G
  obtain ⟨_, _, d_corners_left⟩ := d_corners_left
  have D_corners_left := d_corners_left.at X G
  obtain ⟨_, _, d_count_rising⟩ := d_count_rising
  have D_count_rising := d_count_rising.at X G
  obtain ⟨_, _, d_need_effort⟩ := d_need_effort
  have D_need_effort := d_need_effort.at X G
  obtain ⟨_, _, d_weakest_board⟩ := d_weakest_board
  have D_weakest_board := d_weakest_board.at X G
  obtain ⟨_, _, d_weakest_last⟩ := d_weakest_last
  have D_weakest_last := d_weakest_last.at X G
  obtain ⟨_, _, d_weakest_rounds⟩ := d_weakest_rounds
  have D_weakest_rounds := d_weakest_rounds.at X G
  obtain ⟨_, _, d_weakest_bests⟩ := d_weakest_bests
  have D_weakest_bests := d_weakest_bests.at X G
  obtain ⟨_, _, d_L_taken⟩ := d_L_taken
  have D_L_taken := d_L_taken.at X G
  obtain ⟨_, _, d_L_alike⟩ := d_L_alike
  have D_L_alike := d_L_alike.at X G
  obtain ⟨_, _, d_L_is⟩ := d_L_is
  have D_L_is := d_L_is.at X G
  obtain ⟨_, _, d_L_board⟩ := d_L_board
  have D_L_board := d_L_board.at X G
  obtain ⟨_, _, d_L_rows⟩ := d_L_rows
  have D_L_rows := d_L_rows.at X G
  obtain ⟨_, _, d_L_columns⟩ := d_L_columns
  have D_L_columns := d_L_columns.at X G
  obtain ⟨_, _, d_L_numbers⟩ := d_L_numbers
  have D_L_numbers := d_L_numbers.at X G
  obtain ⟨_, _, d_L_over⟩ := d_L_over
  have D_L_over := d_L_over.at X G
  obtain ⟨_, _, d_L_ready⟩ := d_L_ready
  have D_L_ready := d_L_ready.at X G
  obtain ⟨_, _, d_L_with⟩ := d_L_with
  have D_L_with := d_L_with.at X G
  obtain ⟨_, _, d_L_end⟩ := d_L_end
  have D_L_end := d_L_end.at X G
  obtain ⟨_, _, d_L_answers⟩ := d_L_answers
  have D_L_answers := d_L_answers.at X G
  obtain ⟨_, _, d_L_bests⟩ := d_L_bests
  have D_L_bests := d_L_bests.at X G
  have FL := fun_mk (st := s_law) lL cL kL
  have T : Txt mg := ⟨PySem.W.mg_none_of X G z_isinstance, PySem.W.mg_none_of X G z_int, PySem.W.mg_none_of X G z_bool, PySem.W.mg_none_of X G z_str, PySem.W.mg_none_of X G z_tuple, PySem.W.mg_none_of X G z_list, PySem.W.mg_none_of X G z_dict, PySem.W.mg_none_of X G z_len, PySem.W.mg_none_of X G z_all, PySem.W.mg_none_of X G z_any, PySem.W.mg_none_of X G z_enumerate, PySem.W.mg_none_of X G z_range, PySem.W.mg_none_of X G z_sum, PySem.W.mg_none_of X G z_zip, PySem.W.mg_none_of X G z_sorted, PySem.W.mg_none_of X G z_max, PySem.W.mg_none_of X G z_min, ⟨t1, PySem.W.mg_of X G vS⟩, ⟨t2, PySem.W.mg_of X G vV⟩⟩
  have TX : Exn K mg C := ⟨PySem.W.mg_of X G gC, xF, kF, bF, tF, exm_self bF iF tF sF⟩
  refine ⟨PySem.W.fnOf "law" "law" (defArgs s_law) (defBody s_law) (defScope s_law) .none kV dc pm an cd ct, fun s v => .of_eq rfl, fun base _ _ => ?_⟩
  have G_is_int := ok_is_int (P := l.prog) (w := w) (base := base) D_is_int T 
  have G_is_from := ok_is_from (P := l.prog) (w := w) (base := base) D_is_from T G_is_int
  have G_need_from := ok_need_from (P := l.prog) (w := w) (base := base) D_need_from T G_is_from
  have G_is_place := ok_is_place (P := l.prog) (w := w) (base := base) D_is_place T G_is_from
  have G_need_board := ok_need_board (P := l.prog) (w := w) (base := base) D_need_board T G_is_place
  have G_sides := ok_sides (P := l.prog) (w := w) (base := base) D_sides T 
  have G_lines_of := ok_lines (P := l.prog) (w := w) (base := base) D_lines_of T G_sides
  have G_left_of := ok_left (P := l.prog) (w := w) (base := base) D_left_of T G_lines_of
  have G_numbers := ok_numbers (P := l.prog) (w := w) (base := base) D_numbers T G_left_of
  have G_same_side := ok_same (P := l.prog) (w := w) (base := base) D_same_side T 
  have G_is_greater := ok_greater (P := l.prog) (w := w) (base := base) D_is_greater T G_same_side G_numbers
  have G_can_fall := ok_fall (P := l.prog) (w := w) (base := base) D_can_fall T G_lines_of G_is_greater
  have G_ready_of := ok_ready (P := l.prog) (w := w) (base := base) D_ready_of T G_lines_of G_can_fall
  have G_with_line := ok_with (P := l.prog) (w := w) (base := base) D_with_line T 
  have G_closure := ok_clo (P := l.prog) (w := w) (base := base) D_closure T G_can_fall G_with_line
  have G_last_of := ok_last (P := l.prog) (w := w) (base := base) D_last_of T G_lines_of G_closure
  have G_last_lot := ok_last_lot (P := l.prog) (w := w) (base := base) D_last_lot T G_need_board G_last_of
  have G_rounds_of := ok_rounds_of (P := l.prog) (w := w) (base := base) D_rounds_of T G_ready_of
  have G_rounds := ok_rounds (P := l.prog) (w := w) (base := base) D_rounds T G_need_board G_rounds_of
  have G_answers_of := ok_answers (P := l.prog) (w := w) (base := base) D_answers_of T G_left_of
  have G_bests_of := ok_bests (P := l.prog) (w := w) (base := base) D_bests_of T G_left_of G_answers_of
  have G_rises := ok_rises (P := l.prog) (w := w) (base := base) D_rises T 
  have G_is_rising := ok_is_rising (P := l.prog) (w := w) (base := base) D_is_rising T G_need_board G_rises
  have G_need_rising := ok_need_rising (P := l.prog) (w := w) (base := base) D_need_rising T G_need_board G_rises
  have G_answer_in := ok_answer_in (P := l.prog) (w := w) (base := base) D_answer_in T 
  have G_climb := ok_climb (P := l.prog) (w := w) (base := base) D_climb T G_answer_in
  have G_least_best := ok_least (P := l.prog) (w := w) (base := base) D_least_best T G_need_rising G_climb
  have G_greatest_best := ok_greatest (P := l.prog) (w := w) (base := base) D_greatest_best T G_need_rising G_climb
  have G_corners_left := ok_corners (P := l.prog) (w := w) (base := base) D_corners_left T G_need_rising G_left_of G_last_of
  have G_count_rising := ok_count (P := l.prog) (w := w) (base := base) D_count_rising T G_need_rising G_bests_of
  have G_need_effort := ok_need_effort (P := l.prog) (w := w) (base := base) D_need_effort T G_is_from
  have G_weakest_board := ok_weak_board (P := l.prog) (w := w) (base := base) D_weakest_board T G_need_effort G_need_from
  have G_weakest_last := ok_weak_last (P := l.prog) (w := w) (base := base) D_weakest_last T G_need_effort G_need_from
  have G_weakest_rounds := ok_weak_rounds (P := l.prog) (w := w) (base := base) D_weakest_rounds T G_need_effort G_need_from
  have G_weakest_bests := ok_weak_bests (P := l.prog) (w := w) (base := base) D_weakest_bests T G_need_effort G_need_from
  have G_L_taken := ok_taken (P := l.prog) (w := w) (base := base) D_L_taken T 
  have G_L_alike := ok_alike (P := l.prog) (w := w) (base := base) D_L_alike T 
  have G_L_is := ok_lis (P := l.prog) (w := w) (base := base) D_L_is T 
  have G_L_board := ok_lboard (P := l.prog) (w := w) (base := base) D_L_board T G_L_taken
  have G_L_rows := ok_lrows (P := l.prog) (w := w) (base := base) D_L_rows T 
  have G_L_columns := ok_lcols (P := l.prog) (w := w) (base := base) D_L_columns T 
  have G_L_numbers := ok_lnums (P := l.prog) (w := w) (base := base) D_L_numbers T G_L_rows G_L_columns
  have G_L_over := ok_lover (P := l.prog) (w := w) (base := base) D_L_over T G_L_rows G_L_columns G_L_numbers
  have G_L_ready := ok_lready (P := l.prog) (w := w) (base := base) D_L_ready T G_L_rows G_L_columns G_L_over
  have G_L_with := ok_lwith (P := l.prog) (w := w) (base := base) D_L_with T 
  have G_L_end := ok_lend (P := l.prog) (w := w) (base := base) D_L_end T G_L_ready G_L_with
  have G_L_answers := ok_lans (P := l.prog) (w := w) (base := base) D_L_answers T G_L_rows G_L_columns
  have G_L_bests := ok_lbests (P := l.prog) (w := w) (base := base) D_L_bests T G_L_rows G_L_columns G_L_answers
  have X_need_rising := okx_need_rising (P := l.prog) (w := w) (base := base) D_need_rising T TX G_need_board G_rises
  have X_least_best := okx_least_best (P := l.prog) (w := w) (base := base) D_least_best T X_need_rising
  exact ok_law FL T TX ⟨G_L_taken, G_L_board, G_L_is, G_L_alike, G_L_rows, G_L_columns, G_L_end, G_L_bests, G_is_rising, G_least_best, X_least_best, G_greatest_best, G_count_rising, G_corners_left, G_weakest_board, G_weakest_last, G_weakest_rounds, G_weakest_bests, G_last_lot, G_rounds⟩
end K8
open PySem PySem.W PyProof.Rows
set_option maxHeartbeats 0 in
theorem PySem.Challenge.cw_struckboards_k18_whole_rising_boards_holds : PySem.Challenge.rw_struckboards_k18_whole_rising_boards.Holds := by
  w_on; o_law; k_head; (case hw => w_witness2)
  k_fill
  refine L2.walk_of (l := PySem.Challenge.rw_struckboards_k18_whole_rising_boards) (n := 63) (k := 10) (x := "_law_script") (CX := fun _ => L2.CX0) (sp := fun w => K8.spLaw _) rfl (by decide) rfl ⟨rfl, by decide, by decide⟩ (fun w h Y => PySem.W.kIn_of Y) ?F (fun _ _ a ns hl _ hS => ⟨a, ns, rfl, hS, hl, fun _ => rfl⟩) (fun _ _ _ _ _ h => h)
  case F =>
    intro w mg fa h KX G hmg
    refine' K8.all_mk KX G hmg (K8.wr_mk ?a_is_int ?l_is_int ?c_is_int ?k_is_int) (K8.wr_mk ?a_is_from ?l_is_from ?c_is_from ?k_is_from) (K8.wr_mk ?a_need_from ?l_need_from ?c_need_from ?k_need_from) (K8.wr_mk ?a_is_place ?l_is_place ?c_is_place ?k_is_place) (K8.wr_mk ?a_need_board ?l_need_board ?c_need_board ?k_need_board) (K8.wr_mk ?a_sides ?l_sides ?c_sides ?k_sides) (K8.wr_mk ?a_lines_of ?l_lines_of ?c_lines_of ?k_lines_of) (K8.wr_mk ?a_left_of ?l_left_of ?c_left_of ?k_left_of) (K8.wr_mk ?a_numbers ?l_numbers ?c_numbers ?k_numbers) (K8.wr_mk ?a_same_side ?l_same_side ?c_same_side ?k_same_side) (K8.wr_mk ?a_is_greater ?l_is_greater ?c_is_greater ?k_is_greater) (K8.wr_mk ?a_can_fall ?l_can_fall ?c_can_fall ?k_can_fall) (K8.wr_mk ?a_ready_of ?l_ready_of ?c_ready_of ?k_ready_of) (K8.wr_mk ?a_with_line ?l_with_line ?c_with_line ?k_with_line) (K8.wr_mk ?a_closure ?l_closure ?c_closure ?k_closure) (K8.wr_mk ?a_last_of ?l_last_of ?c_last_of ?k_last_of) (K8.wr_mk ?a_last_lot ?l_last_lot ?c_last_lot ?k_last_lot) (K8.wr_mk ?a_rounds_of ?l_rounds_of ?c_rounds_of ?k_rounds_of) (K8.wr_mk ?a_rounds ?l_rounds ?c_rounds ?k_rounds) (K8.wr_mk ?a_answers_of ?l_answers_of ?c_answers_of ?k_answers_of) (K8.wr_mk ?a_bests_of ?l_bests_of ?c_bests_of ?k_bests_of) (K8.wr_mk ?a_rises ?l_rises ?c_rises ?k_rises) (K8.wr_mk ?a_is_rising ?l_is_rising ?c_is_rising ?k_is_rising) (K8.wr_mk ?a_need_rising ?l_need_rising ?c_need_rising ?k_need_rising) (K8.wr_mk ?a_answer_in ?l_answer_in ?c_answer_in ?k_answer_in) (K8.wr_mk ?a_climb ?l_climb ?c_climb ?k_climb) (K8.wr_mk ?a_least_best ?l_least_best ?c_least_best ?k_least_best) (K8.wr_mk ?a_greatest_best ?l_greatest_best ?c_greatest_best ?k_greatest_best) (K8.wr_mk ?a_corners_left ?l_corners_left ?c_corners_left ?k_corners_left) (K8.wr_mk ?a_count_rising ?l_count_rising ?c_count_rising ?k_count_rising) (K8.wr_mk ?a_need_effort ?l_need_effort ?c_need_effort ?k_need_effort) (K8.wr_mk ?a_weakest_board ?l_weakest_board ?c_weakest_board ?k_weakest_board) (K8.wr_mk ?a_weakest_last ?l_weakest_last ?c_weakest_last ?k_weakest_last) (K8.wr_mk ?a_weakest_rounds ?l_weakest_rounds ?c_weakest_rounds ?k_weakest_rounds) (K8.wr_mk ?a_weakest_bests ?l_weakest_bests ?c_weakest_bests ?k_weakest_bests) (K8.wr_mk ?a_L_taken ?l_L_taken ?c_L_taken ?k_L_taken) (K8.wr_mk ?a_L_alike ?l_L_alike ?c_L_alike ?k_L_alike) (K8.wr_mk ?a_L_is ?l_L_is ?c_L_is ?k_L_is) (K8.wr_mk ?a_L_board ?l_L_board ?c_L_board ?k_L_board) (K8.wr_mk ?a_L_rows ?l_L_rows ?c_L_rows ?k_L_rows) (K8.wr_mk ?a_L_columns ?l_L_columns ?c_L_columns ?k_L_columns) (K8.wr_mk ?a_L_numbers ?l_L_numbers ?c_L_numbers ?k_L_numbers) (K8.wr_mk ?a_L_over ?l_L_over ?c_L_over ?k_L_over) (K8.wr_mk ?a_L_ready ?l_L_ready ?c_L_ready ?k_L_ready) (K8.wr_mk ?a_L_with ?l_L_with ?c_L_with ?k_L_with) (K8.wr_mk ?a_L_end ?l_L_end ?c_L_end ?k_L_end) (K8.wr_mk ?a_L_answers ?l_L_answers ?c_L_answers ?k_L_answers) (K8.wr_mk ?a_L_bests ?l_L_bests ?c_L_bests ?k_L_bests) ?a_law ?l_law ?c_law ?k_law ?z_isinstance ?z_int ?z_bool ?z_str ?z_tuple ?z_list ?z_dict ?z_len ?z_all ?z_any ?z_enumerate ?z_range ?z_sum ?z_zip ?z_sorted ?z_max ?z_min ?vS ?vV ?gC ?xF ?kF ?bF ?tF ?iF ?sF
    (case a_is_int => k_is)
    (case l_is_int => k_is)
    (case c_is_int => k_is)
    (case k_is_int => k_is)
    (case a_is_from => k_is)
    (case l_is_from => k_is)
    (case c_is_from => k_is)
    (case k_is_from => k_is)
    (case a_need_from => k_is)
    (case l_need_from => k_is)
    (case c_need_from => k_is)
    (case k_need_from => k_is)
    (case a_is_place => k_is)
    (case l_is_place => k_is)
    (case c_is_place => k_is)
    (case k_is_place => k_is)
    (case a_need_board => k_is)
    (case l_need_board => k_is)
    (case c_need_board => k_is)
    (case k_need_board => k_is)
    (case a_sides => k_is)
    (case l_sides => k_is)
    (case c_sides => k_is)
    (case k_sides => k_is)
    (case a_lines_of => k_is)
    (case l_lines_of => k_is)
    (case c_lines_of => k_is)
    (case k_lines_of => k_is)
    (case a_left_of => k_is)
    (case l_left_of => k_is)
    (case c_left_of => k_is)
    (case k_left_of => k_is)
    (case a_numbers => k_is)
    (case l_numbers => k_is)
    (case c_numbers => k_is)
    (case k_numbers => k_is)
    (case a_same_side => k_is)
    (case l_same_side => k_is)
    (case c_same_side => k_is)
    (case k_same_side => k_is)
    (case a_is_greater => k_is)
    (case l_is_greater => k_is)
    (case c_is_greater => k_is)
    (case k_is_greater => k_is)
    (case a_can_fall => k_is)
    (case l_can_fall => k_is)
    (case c_can_fall => k_is)
    (case k_can_fall => k_is)
    (case a_ready_of => k_is)
    (case l_ready_of => k_is)
    (case c_ready_of => k_is)
    (case k_ready_of => k_is)
    (case a_with_line => k_is)
    (case l_with_line => k_is)
    (case c_with_line => k_is)
    (case k_with_line => k_is)
    (case a_closure => k_is)
    (case l_closure => k_is)
    (case c_closure => k_is)
    (case k_closure => k_is)
    (case a_last_of => k_is)
    (case l_last_of => k_is)
    (case c_last_of => k_is)
    (case k_last_of => k_is)
    (case a_last_lot => k_is)
    (case l_last_lot => k_is)
    (case c_last_lot => k_is)
    (case k_last_lot => k_is)
    (case a_rounds_of => k_is)
    (case l_rounds_of => k_is)
    (case c_rounds_of => k_is)
    (case k_rounds_of => k_is)
    (case a_rounds => k_is)
    (case l_rounds => k_is)
    (case c_rounds => k_is)
    (case k_rounds => k_is)
    (case a_answers_of => k_is)
    (case l_answers_of => k_is)
    (case c_answers_of => k_is)
    (case k_answers_of => k_is)
    (case a_bests_of => k_is)
    (case l_bests_of => k_is)
    (case c_bests_of => k_is)
    (case k_bests_of => k_is)
    (case a_rises => k_is)
    (case l_rises => k_is)
    (case c_rises => k_is)
    (case k_rises => k_is)
    (case a_is_rising => k_is)
    (case l_is_rising => k_is)
    (case c_is_rising => k_is)
    (case k_is_rising => k_is)
    (case a_need_rising => k_is)
    (case l_need_rising => k_is)
    (case c_need_rising => k_is)
    (case k_need_rising => k_is)
    (case a_answer_in => k_is)
    (case l_answer_in => k_is)
    (case c_answer_in => k_is)
    (case k_answer_in => k_is)
    (case a_climb => k_is)
    (case l_climb => k_is)
    (case c_climb => k_is)
    (case k_climb => k_is)
    (case a_least_best => k_is)
    (case l_least_best => k_is)
    (case c_least_best => k_is)
    (case k_least_best => k_is)
    (case a_greatest_best => k_is)
    (case l_greatest_best => k_is)
    (case c_greatest_best => k_is)
    (case k_greatest_best => k_is)
    (case a_corners_left => k_is)
    (case l_corners_left => k_is)
    (case c_corners_left => k_is)
    (case k_corners_left => k_is)
    (case a_count_rising => k_is)
    (case l_count_rising => k_is)
    (case c_count_rising => k_is)
    (case k_count_rising => k_is)
    (case a_need_effort => k_is)
    (case l_need_effort => k_is)
    (case c_need_effort => k_is)
    (case k_need_effort => k_is)
    (case a_weakest_board => k_is)
    (case l_weakest_board => k_is)
    (case c_weakest_board => k_is)
    (case k_weakest_board => k_is)
    (case a_weakest_last => k_is)
    (case l_weakest_last => k_is)
    (case c_weakest_last => k_is)
    (case k_weakest_last => k_is)
    (case a_weakest_rounds => k_is)
    (case l_weakest_rounds => k_is)
    (case c_weakest_rounds => k_is)
    (case k_weakest_rounds => k_is)
    (case a_weakest_bests => k_is)
    (case l_weakest_bests => k_is)
    (case c_weakest_bests => k_is)
    (case k_weakest_bests => k_is)
    (case a_L_taken => k_is)
    (case l_L_taken => k_is)
    (case c_L_taken => k_is)
    (case k_L_taken => k_is)
    (case a_L_alike => k_is)
    (case l_L_alike => k_is)
    (case c_L_alike => k_is)
    (case k_L_alike => k_is)
    (case a_L_is => k_is)
    (case l_L_is => k_is)
    (case c_L_is => k_is)
    (case k_L_is => k_is)
    (case a_L_board => k_is)
    (case l_L_board => k_is)
    (case c_L_board => k_is)
    (case k_L_board => k_is)
    (case a_L_rows => k_is)
    (case l_L_rows => k_is)
    (case c_L_rows => k_is)
    (case k_L_rows => k_is)
    (case a_L_columns => k_is)
    (case l_L_columns => k_is)
    (case c_L_columns => k_is)
    (case k_L_columns => k_is)
    (case a_L_numbers => k_is)
    (case l_L_numbers => k_is)
    (case c_L_numbers => k_is)
    (case k_L_numbers => k_is)
    (case a_L_over => k_is)
    (case l_L_over => k_is)
    (case c_L_over => k_is)
    (case k_L_over => k_is)
    (case a_L_ready => k_is)
    (case l_L_ready => k_is)
    (case c_L_ready => k_is)
    (case k_L_ready => k_is)
    (case a_L_with => k_is)
    (case l_L_with => k_is)
    (case c_L_with => k_is)
    (case k_L_with => k_is)
    (case a_L_end => k_is)
    (case l_L_end => k_is)
    (case c_L_end => k_is)
    (case k_L_end => k_is)
    (case a_L_answers => k_is)
    (case l_L_answers => k_is)
    (case c_L_answers => k_is)
    (case k_L_answers => k_is)
    (case a_L_bests => k_is)
    (case l_L_bests => k_is)
    (case c_L_bests => k_is)
    (case k_L_bests => k_is)
    (case a_law => k_is)
    (case l_law => k_is)
    (case c_law => k_is)
    (case k_law => k_is)
    (case z_isinstance => k_is)
    (case z_int => k_is)
    (case z_bool => k_is)
    (case z_str => k_is)
    (case z_tuple => k_is)
    (case z_list => k_is)
    (case z_dict => k_is)
    (case z_len => k_is)
    (case z_all => k_is)
    (case z_any => k_is)
    (case z_enumerate => k_is)
    (case z_range => k_is)
    (case z_sum => k_is)
    (case z_zip => k_is)
    (case z_sorted => k_is)
    (case z_max => k_is)
    (case z_min => k_is)
    (case vS => k_is)
    (case vV => k_is)
    (case gC => k_is)
    (case xF => k_exc); (case kF => k_is); (case bF => k_is); (case tF => k_is); (case iF => k_is); (case sF => first | rfl | k_is)
