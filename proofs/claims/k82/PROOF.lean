import PyProof.Rows.All
import HandS.ForMost
import HandS.IsInst
import HandS.FStr
import HandS.DictComp
import HandS.Flow
import HandS.Strs
import HandS.Exc
import HandS.TryOnly
import HandS.ExcOwn
import HandS.WordsExc
import OpenK.KMore
import HandS.Style
import HandS.Defaults
import KE.GoesZip
import KE.GoesMore
import KE.GoesEnum
import HandS.DictTup
import KE.SortData
import KE.KDictPairs
import PyProof.SumWalkG
import PyProof.Rows.SumGenD
import PySem.Challenge.RW_sendround_k82_lands_divided
set_option Elab.async false
set_option linter.all false
set_option maxRecDepth 100000
/-! Values by trees and a store of the objects that may change, over the hand layer's heaps. -/
namespace L2
open PySem PySem.Spec
section
variable {X : Cx}
theorem PE.imp {e : Expr} {t t' : TE} (h : PE X e t) (f : ∀ σ H Q, t' σ H Q → t σ H Q) : PE X e t' := ⟨fun pins s σ H Q I w => h.run pins s σ H Q I (f _ _ _ w)⟩
theorem PT.imp {e : Expr} {t t' : TT} (h : PT X e t) (f : ∀ σ H Q, t' σ H Q → t σ H Q) : PT X e t' := ⟨fun pins s σ H Q I w => h.run pins s σ H Q I (f _ _ _ w)⟩
theorem PW.imp {e : Expr} {t t' : TT} (h : PW X e t) (f : ∀ σ H Q, t' σ H Q → t σ H Q) : PW X e t' := ⟨fun wh pins s σ H Q I w => h.run wh pins s σ H Q I (f _ _ _ w)⟩
theorem PA.imp {e : List Expr} {t t' : TA} (h : PA X e t) (f : ∀ σ H Q, t' σ H Q → t σ H Q) : PA X e t' := ⟨fun pos pins s σ H Q I w => h.run pos pins s σ H Q I (f _ _ _ w)⟩
theorem PS.imp {e : Stmt} {t t' : TS} (h : PS X e t) (f : ∀ D σ H, t' D σ H → t D σ H) : PS X e t' := ⟨fun pins s σ H Q I w => h.run pins s σ H Q I (f _ _ _ w)⟩
theorem PSs.imp {e : List Stmt} {t t' : TS} (h : PSs X e t) (f : ∀ D σ H, t' D σ H → t D σ H) : PSs X e t' := ⟨fun pins s σ H Q I w => h.run pins s σ H Q I (f _ _ _ w)⟩
theorem PG.imp {e : Expr} {t t' : TG} (h : PG X e t) (f : ∀ v σ H Q, t' v σ H Q → t v σ H Q) : PG X e t' := ⟨fun pins s σ H v u Q I r w => h.run pins s σ H v u Q I r (f _ _ _ _ w)⟩
theorem PGs.imp {e : List Expr} {t t' : TGs} (h : PGs X e t) (f : ∀ v σ H Q, t' v σ H Q → t v σ H Q) : PGs X e t' := ⟨fun pins s σ H v u Q I r w => h.run pins s σ H v u Q I r (f _ _ _ _ w)⟩
theorem PI.imp {g e : Expr} {t t' : TI} (h : PI X g e t) (f : ∀ σ H Q, t' σ H Q → t σ H Q) : PI X g e t' := ⟨fun pins s σ H Q I w => h.run pins s σ H Q I (f _ _ _ w)⟩
end
end L2
namespace PyA
open PySem PySem.Spec L2

/-- a value: data (tupk: a tuple whose very object is known), or the n-th object of one's own store, or a value as it stands -/
inductive A where
  | non | bl (b : Bool) | int (i : Int) | str (x : Str) | tup (xs : List A) | tupk (xs : List A) | own (n : Nat) | raw (v : V)
/-- what stands in the store -/
inductive AO where
  | lst (xs : List A) | dK (kvs : List (Key × A)) | dT (kvs : List (List Key × A))
abbrev Own := List AO
/-- the n-th from the end -/
def lv {α : Type} : List α → Nat → Option α
  | [], _ => none
  | x :: r, n => if n = r.length then some x else lv r n
def lput {α : Type} : List α → Nat → α → List α
  | [], _, _ => []
  | x :: r, n, y => if n = r.length then y :: r else x :: lput r n y
section
variable {α : Type} {x y : α} {l r : List α} {n m : Nat}
theorem lv_lt : ∀ {l : List α} {n : Nat} {x : α}, lv l n = some x → n < l.length
  | [], _, _, h => nomatch h
  | y :: r, n, x, h => by
    unfold lv at h
    by_cases e : n = r.length
    · rw [e, List.length_cons]; exact Nat.lt_succ_self _
    · rw [if_neg e] at h
      exact Nat.lt_succ_of_lt (lv_lt h)
theorem lv_some : ∀ {l : List α} {n : Nat}, n < l.length → ∃ x, lv l n = some x
  | [], _, h => absurd h (Nat.not_lt_zero _)
  | y :: r, n, h => by
    unfold lv
    by_cases e : n = r.length
    · exact ⟨y, if_pos e⟩
    · rw [if_neg e]
      exact lv_some (by rw [List.length_cons] at h; omega)
theorem lv_self : lv (x :: r) r.length = some x := by unfold lv; rw [if_pos rfl]
theorem lv_ne (h : n ≠ r.length) : lv (x :: r) n = lv r n := by rw [lv, if_neg h]
theorem lv_old (h : n < r.length) : lv (x :: r) n = lv r n := lv_ne (Nat.ne_of_lt h)
theorem lv_cons_of (h : lv r n = some y) : lv (x :: r) n = some y := (lv_old (lv_lt h)).trans h
theorem lv_app : ∀ {k : List α}, lv r n = some y → lv (k ++ r) n = some y
  | [], h => h
  | x :: k, h => by
    rw [List.cons_append]
    exact lv_cons_of (lv_app (k := k) h)
theorem lput_length : ∀ {l : List α} {n : Nat} {y : α}, (lput l n y).length = l.length
  | [], _, _ => rfl
  | x :: r, n, y => by
    unfold lput
    by_cases e : n = r.length
    · rw [if_pos e]; rfl
    · rw [if_neg e, List.length_cons, List.length_cons, lput_length]
theorem lv_lput_same : ∀ {l : List α} {n : Nat} {y : α}, n < l.length → lv (lput l n y) n = some y
  | [], _, _, h => absurd h (Nat.not_lt_zero _)
  | x :: r, n, y, h => by
    unfold lput
    by_cases e : n = r.length
    · rw [if_pos e, e]; exact lv_self
    · rw [if_neg e]
      have h2 : n < r.length := by rw [List.length_cons] at h; omega
      rw [lv_ne (by rw [lput_length]; exact e)]
      exact lv_lput_same h2
theorem lv_lput_ne : ∀ {l : List α} {n m : Nat} {y : α}, m ≠ n → lv (lput l n y) m = lv l m
  | [], _, _, _, _ => rfl
  | x :: r, n, m, y, h => by
    unfold lput
    by_cases e : n = r.length
    · rw [if_pos e, lv_ne (by omega), lv_ne (by omega)]
    · rw [if_neg e]
      by_cases e2 : m = r.length
      · rw [e2, lv_self]
        have : lv (x :: lput r n y) (lput r n y).length = some x := lv_self
        rw [lput_length] at this
        exact this
      · rw [lv_ne (by rw [lput_length]; exact e2), lv_ne e2]
        exact lv_lput_ne h
theorem lv_mem : ∀ {l : List α} {n : Nat} {x : α}, lv l n = some x → x ∈ l
  | [], _, _, h => nomatch h
  | y :: r, n, x, h => by
    unfold lv at h
    by_cases e : n = r.length
    · rw [if_pos e] at h; cases h; exact List.mem_cons_self
    · rw [if_neg e] at h; exact List.mem_cons_of_mem _ (lv_mem h)
theorem mem_lv : ∀ {l : List α} {x : α}, x ∈ l → ∃ n, lv l n = some x
  | [], _, h => nomatch h
  | y :: r, x, h => by
    rcases List.mem_cons.mp h with e | h
    · exact ⟨r.length, by rw [e]; exact lv_self⟩
    · obtain ⟨n, hn⟩ := mem_lv h
      exact ⟨n, lv_cons_of hn⟩
theorem lv_inj : ∀ {l : List α} {n m : Nat} {x : α}, l.Nodup → lv l n = some x → lv l m = some x → n = m
  | [], _, _, _, _, h, _ => nomatch h
  | y :: r, n, m, x, nd, h1, h2 => by
    obtain ⟨ny, nr⟩ := List.nodup_cons.mp nd
    by_cases e1 : n = r.length
    · by_cases e2 : m = r.length
      · rw [e1, e2]
      · rw [e1, lv_self] at h1
        cases h1
        rw [lv_ne e2] at h2
        exact absurd (lv_mem h2) ny
    · by_cases e2 : m = r.length
      · rw [e2, lv_self] at h2
        cases h2
        rw [lv_ne e1] at h1
        exact absurd (lv_mem h1) ny
      · rw [lv_ne e1] at h1
        rw [lv_ne e2] at h2
        exact lv_inj nr h1 h2
end

/-! ### what stands for what -/
mutual
def RelA (H : Hp) (ρ : List Addr) : A → V → Prop
  | .non, v => v = .non
  | .bl b, v => v = .bl b
  | .int i, v => v = .int i
  | .str x, v => v = .str x
  | .tup xs, v => ∃ p vs, v = .ref p ∧ H p = some (.tup vs) ∧ RelAs H ρ xs vs
  | .tupk xs, v => ∃ p vs o, v = .ref p ∧ H p = some (.frz o (.tup vs)) ∧ o.dict = none ∧ RelAs H ρ xs vs
  | .own n, v => ∃ p, v = .ref p ∧ lv ρ n = some p
  | .raw w, v => v = w
def RelAs (H : Hp) (ρ : List Addr) : List A → List V → Prop
  | [], vs => vs = []
  | x :: xs, vs => ∃ v r, vs = v :: r ∧ RelA H ρ x v ∧ RelAs H ρ xs r
end
def RelO (H : Hp) (ρ : List Addr) : AO → HO → Prop
  | .lst xs, o => ∃ vs, o = .lst vs ∧ RelAs H ρ xs vs
  | .dK kvs, o => ∃ kws, o = .dK kws ∧ Paired (fun (p : Key × A) (q : Key × V) => p.1 = q.1 ∧ RelA H ρ p.2 q.2) kvs kws
  | .dT kvs, o => ∃ kws, o = .dT kws ∧ Paired (fun (p : List Key × A) (q : List Key × V) => p.1 = q.1 ∧ RelA H ρ p.2 q.2) kvs kws
/-- objects that are set aside: what they are may change, but only among what is well -/
structure Res where
  dom : List Addr
  ok : Hp → Prop
  mu : ∀ H, ok H → ∀ p ∈ dom, Mut (H p)
  loc : ∀ H H' : Hp, ok H → (∀ p ∈ dom, H' p = H p) → ok H'
structure Fm (R : Res) (ρ : List Addr) (O : Own) (H : Hp) : Prop where
  len : ρ.length = O.length
  nd : ρ.Nodup
  ob : ∀ n o, lv O n = some o → ∃ p ho, lv ρ n = some p ∧ H p = some ho ∧ RelO H ρ o ho
  ap : ∀ p ∈ ρ, p ∉ R.dom
  res : R.ok H
/-- a step: new objects, objects of one's own changed, all else kept -/
structure Sp (R : Res) (ρ : List Addr) (H : Hp) (ρ' : List Addr) (H' : Hp) : Prop where
  ext : ∃ n, ρ' = n ++ ρ ∧ ∀ p ∈ n, H p = none
  keep : ∀ p o, p ∉ ρ → p ∉ R.dom → H p = some o → H' p = some o
section
variable {R : Res} {ρ ρ' ρ1 ρ2 : List Addr} {O O' : Own} {H H' H1 H2 : Hp}
theorem RelO.mut {o : AO} {ho : HO} (h : RelO H ρ o ho) : Mut (some ho) := by
  cases o with
  | lst xs => obtain ⟨vs, rfl, _⟩ := h; trivial
  | dK xs => obtain ⟨vs, rfl, _⟩ := h; trivial
  | dT xs => obtain ⟨vs, rfl, _⟩ := h; trivial
theorem Fm.mut (F : Fm R ρ O H) {p : Addr} (hp : p ∈ ρ) : Mut (H p) := by
  obtain ⟨n, hn⟩ := mem_lv hp
  obtain ⟨o, ho⟩ := lv_some (l := O) (n := n) (by rw [← F.len]; exact lv_lt hn)
  obtain ⟨q, k, hq, hk, r⟩ := F.ob n o ho
  rw [hn] at hq
  cases hq
  rw [hk]
  exact r.mut
theorem Fm.out (F : Fm R ρ O H) {p : Addr} (h : ¬ Mut (H p)) : p ∉ ρ ∧ p ∉ R.dom := ⟨fun z => h (F.mut z), fun z => h (R.mu H F.res p z)⟩
theorem Fm.fresh (F : Fm R ρ O H) {p : Addr} (h : H p = none) : p ∉ ρ ∧ p ∉ R.dom := F.out (by rw [h]; exact fun z => z)
theorem Sp.refl : Sp R ρ H ρ H := ⟨⟨[], rfl, fun _ h => nomatch h⟩, fun _ _ _ _ h => h⟩
theorem Sp.tup (F : Fm R ρ O H) (s : Sp R ρ H ρ' H') {p : Addr} {o : HO} (h : H p = some o) (m : ¬ Mut (some o)) : H' p = some o := by
  have q := F.out (p := p) (by rw [h]; exact m)
  exact s.keep p _ q.1 q.2 h
theorem Sp.up (s : Sp R ρ H ρ' H') {n : Nat} {p : Addr} (h : lv ρ n = some p) : lv ρ' n = some p := by
  obtain ⟨k, rfl, _⟩ := s.ext
  exact lv_app h
theorem Sp.trans (F : Fm R ρ O H) (F1 : Fm R ρ1 O' H1) (s : Sp R ρ H ρ1 H1) (t : Sp R ρ1 H1 ρ2 H2) : Sp R ρ H ρ2 H2 := by
  obtain ⟨n, rfl, hn⟩ := s.ext
  obtain ⟨m, rfl, hm⟩ := t.ext
  refine ⟨⟨m ++ n, by rw [List.append_assoc], fun p hp => ?_⟩, fun p o h1 h2 h3 => ?_⟩
  · rcases List.mem_append.mp hp with hp | hp
    · have h1 := hm p hp
      have h2 := F1.fresh h1
      cases e : H p with
      | none => rfl
      | some o =>
        have h3 := s.keep p o (fun z => h2.1 (List.mem_append_right _ z)) h2.2 e
        rw [h1] at h3
        cases h3
    · exact hn p hp
  · have h4 := s.keep p o h1 h2 h3
    refine t.keep p o (fun z => ?_) h2 h4
    rcases List.mem_append.mp z with z | z
    · rw [hn p z] at h3; cases h3
    · exact h1 z
mutual
theorem RelA.mv (ht : ∀ p o, H p = some o → ¬ Mut (some o) → H' p = some o) (hρ : ∀ n p, lv ρ n = some p → lv ρ' n = some p) : ∀ {a : A} {v : V}, RelA H ρ a v → RelA H' ρ' a v
  | .non, _, h => by unfold RelA at h ⊢; exact h
  | .bl _, _, h => by unfold RelA at h ⊢; exact h
  | .int _, _, h => by unfold RelA at h ⊢; exact h
  | .str _, _, h => by unfold RelA at h ⊢; exact h
  | .tup xs, _, h => by
    unfold RelA at h ⊢
    obtain ⟨p, vs, e, hp, r⟩ := h
    exact ⟨p, vs, e, ht p _ hp (fun z => z), RelAs.mv ht hρ r⟩
  | .tupk xs, _, h => by
    unfold RelA at h ⊢
    obtain ⟨p, vs, o, e, hp, hd, r⟩ := h
    exact ⟨p, vs, o, e, ht p _ hp (fun z => z), hd, RelAs.mv ht hρ r⟩
  | .own n, _, h => by
    unfold RelA at h ⊢
    obtain ⟨p, e, hp⟩ := h
    exact ⟨p, e, hρ n p hp⟩
  | .raw _, _, h => by unfold RelA at h ⊢; exact h
theorem RelAs.mv (ht : ∀ p o, H p = some o → ¬ Mut (some o) → H' p = some o) (hρ : ∀ n p, lv ρ n = some p → lv ρ' n = some p) : ∀ {xs : List A} {vs : List V}, RelAs H ρ xs vs → RelAs H' ρ' xs vs
  | [], _, h => by unfold RelAs at h ⊢; exact h
  | x :: xs, _, h => by
    unfold RelAs at h ⊢
    obtain ⟨v, r, e, h1, h2⟩ := h
    exact ⟨v, r, e, RelA.mv ht hρ h1, RelAs.mv ht hρ h2⟩
end
theorem RelA.step (F : Fm R ρ O H) (s : Sp R ρ H ρ' H') {a : A} {v : V} (h : RelA H ρ a v) : RelA H' ρ' a v := RelA.mv (fun _ _ z m => s.tup F z m) (fun _ _ z => s.up z) h
theorem RelAs.step (F : Fm R ρ O H) (s : Sp R ρ H ρ' H') {a : List A} {v : List V} (h : RelAs H ρ a v) : RelAs H' ρ' a v := RelAs.mv (fun _ _ z m => s.tup F z m) (fun _ _ z => s.up z) h
theorem RelO.mv (ht : ∀ p o, H p = some o → ¬ Mut (some o) → H' p = some o) (hρ : ∀ n p, lv ρ n = some p → lv ρ' n = some p) : ∀ {a : AO} {v : HO}, RelO H ρ a v → RelO H' ρ' a v
  | .lst xs, _, ⟨vs, e, h⟩ => ⟨vs, e, h.mv ht hρ⟩
  | .dK xs, _, ⟨vs, e, h⟩ => ⟨vs, e, L2.Paired.mapP h fun _ _ q => ⟨q.1, q.2.mv ht hρ⟩⟩
  | .dT xs, _, ⟨vs, e, h⟩ => ⟨vs, e, L2.Paired.mapP h fun _ _ q => ⟨q.1, q.2.mv ht hρ⟩⟩

theorem RelAs.nil_iff {vs : List V} : RelAs H ρ [] vs ↔ vs = [] := by unfold RelAs; exact Iff.rfl
theorem RelAs.cons_iff {x : A} {xs : List A} {vs : List V} : RelAs H ρ (x :: xs) vs ↔ ∃ v r, vs = v :: r ∧ RelA H ρ x v ∧ RelAs H ρ xs r := by
  constructor
  · intro h; unfold RelAs at h; exact h
  · intro h; unfold RelAs; exact h
theorem RelAs.cons {x : A} {xs : List A} {v : V} {vs : List V} (h : RelA H ρ x v) (t : RelAs H ρ xs vs) : RelAs H ρ (x :: xs) (v :: vs) := RelAs.cons_iff.mpr ⟨v, vs, rfl, h, t⟩
theorem RelAs.nil : RelAs H ρ [] [] := RelAs.nil_iff.mpr rfl
theorem RelAs.length : ∀ {xs : List A} {vs : List V}, RelAs H ρ xs vs → xs.length = vs.length
  | [], _, h => by rw [RelAs.nil_iff.mp h]; rfl
  | x :: xs, _, h => by
    obtain ⟨v, r, rfl, _, h2⟩ := RelAs.cons_iff.mp h
    rw [List.length_cons, List.length_cons, RelAs.length h2]
theorem RelAs.get : ∀ {xs : List A} {vs : List V} {i : Nat} {x : A}, RelAs H ρ xs vs → xs[i]? = some x → ∃ v, vs[i]? = some v ∧ RelA H ρ x v
  | [], _, _, _, _, h => by simp at h
  | y :: xs, _, 0, x, h, e => by
    obtain ⟨v, r, rfl, h1, h2⟩ := RelAs.cons_iff.mp h
    simp at e
    subst e
    exact ⟨v, rfl, h1⟩
  | y :: xs, _, i + 1, x, h, e => by
    obtain ⟨v, r, rfl, h1, h2⟩ := RelAs.cons_iff.mp h
    obtain ⟨w, h3, h4⟩ := RelAs.get (i := i) (x := x) h2 (by simpa using e)
    exact ⟨w, by simpa using h3, h4⟩
theorem RelAs.getV : ∀ {xs : List A} {vs : List V} {i : Nat} {v : V}, RelAs H ρ xs vs → vs[i]? = some v → ∃ x, xs[i]? = some x ∧ RelA H ρ x v
  | [], _, _, _, h, e => by rw [RelAs.nil_iff.mp h] at e; simp at e
  | y :: xs, _, 0, x, h, e => by
    obtain ⟨v, r, rfl, h1, h2⟩ := RelAs.cons_iff.mp h
    simp at e
    subst e
    exact ⟨y, rfl, h1⟩
  | y :: xs, _, i + 1, x, h, e => by
    obtain ⟨v, r, rfl, h1, h2⟩ := RelAs.cons_iff.mp h
    obtain ⟨w, h3, h4⟩ := RelAs.getV (i := i) (v := x) h2 (by simpa using e)
    exact ⟨w, by simpa using h3, h4⟩
theorem RelAs.append : ∀ {xs ys : List A} {vs ws : List V}, RelAs H ρ xs vs → RelAs H ρ ys ws → RelAs H ρ (xs ++ ys) (vs ++ ws)
  | [], _, _, _, h, g => by rw [RelAs.nil_iff.mp h]; exact g
  | x :: xs, ys, _, ws, h, g => by
    obtain ⟨v, r, rfl, h1, h2⟩ := RelAs.cons_iff.mp h
    exact RelAs.cons h1 (RelAs.append h2 g)
theorem RelAs.set : ∀ {xs : List A} {vs : List V} {x : A} {v : V} (i : Nat), RelAs H ρ xs vs → RelA H ρ x v → RelAs H ρ (xs.set i x) (vs.set i v)
  | [], _, _, _, _, h, _ => by rw [RelAs.nil_iff.mp h]; exact RelAs.nil
  | y :: xs, _, _, _, 0, h, g => by
    obtain ⟨v, r, rfl, h1, h2⟩ := RelAs.cons_iff.mp h
    exact RelAs.cons g h2
  | y :: xs, _, _, _, i + 1, h, g => by
    obtain ⟨v, r, rfl, h1, h2⟩ := RelAs.cons_iff.mp h
    exact RelAs.cons h1 (RelAs.set i h2 g)
theorem RelAs.take : ∀ {xs : List A} {vs : List V} (i : Nat), RelAs H ρ xs vs → RelAs H ρ (xs.take i) (vs.take i)
  | _, _, 0, _ => RelAs.nil
  | [], _, _ + 1, h => by rw [RelAs.nil_iff.mp h]; exact RelAs.nil
  | y :: xs, _, i + 1, h => by
    obtain ⟨v, r, rfl, h1, h2⟩ := RelAs.cons_iff.mp h
    exact RelAs.cons h1 (RelAs.take i h2)
theorem RelAs.drop : ∀ {xs : List A} {vs : List V} (i : Nat), RelAs H ρ xs vs → RelAs H ρ (xs.drop i) (vs.drop i)
  | _, _, 0, h => h
  | [], _, _ + 1, h => by rw [RelAs.nil_iff.mp h]; exact RelAs.nil
  | y :: xs, _, i + 1, h => by
    obtain ⟨v, r, rfl, h1, h2⟩ := RelAs.cons_iff.mp h
    exact RelAs.drop i h2
theorem RelAs.reverse : ∀ {xs : List A} {vs : List V}, RelAs H ρ xs vs → RelAs H ρ xs.reverse vs.reverse
  | [], _, h => by rw [RelAs.nil_iff.mp h]; exact RelAs.nil
  | y :: xs, _, h => by
    obtain ⟨v, r, rfl, h1, h2⟩ := RelAs.cons_iff.mp h
    rw [List.reverse_cons, List.reverse_cons]
    exact (RelAs.reverse h2).append (RelAs.cons h1 RelAs.nil)
theorem RelAs.eraseIdx : ∀ {xs : List A} {vs : List V} (i : Nat), RelAs H ρ xs vs → RelAs H ρ (xs.eraseIdx i) (vs.eraseIdx i)
  | [], _, _, h => by rw [RelAs.nil_iff.mp h]; exact RelAs.nil
  | y :: xs, _, 0, h => by
    obtain ⟨v, r, rfl, h1, h2⟩ := RelAs.cons_iff.mp h
    exact h2
  | y :: xs, _, i + 1, h => by
    obtain ⟨v, r, rfl, h1, h2⟩ := RelAs.cons_iff.mp h
    exact RelAs.cons h1 (RelAs.eraseIdx i h2)
theorem RelAs.ints : ∀ {ns : List Int} {vs : List V}, RelAs H ρ (ns.map A.int) vs → vs = ns.map V.int
  | [], _, h => RelAs.nil_iff.mp h
  | n :: ns, _, h => by
    obtain ⟨v, r, rfl, h1, h2⟩ := RelAs.cons_iff.mp h
    unfold RelA at h1
    rw [h1, RelAs.ints h2]
    rfl

/-- a new object of one's own -/
theorem Fm.push (F : Fm R ρ O H) {p : Addr} (hp : H p = none) {o : AO} {ho : HO} (r : RelO H ρ o ho) : Fm R (p :: ρ) (o :: O) (upd H p ho) ∧ Sp R ρ H (p :: ρ) (upd H p ho) := by
  have hf := F.fresh hp
  have kt : ∀ q o, H q = some o → ¬ Mut (some o) → upd H p ho q = some o := fun q o z _ => by rw [upd_ne (ne_of_none z hp)]; exact z
  have kl : ∀ n q, lv ρ n = some q → lv (p :: ρ) n = some q := fun n q z => lv_cons_of z
  refine ⟨⟨by rw [List.length_cons, List.length_cons, F.len], List.nodup_cons.mpr ⟨hf.1, F.nd⟩, fun n u hu => ?_, fun q hq => ?_, R.loc H _ F.res fun q hq => ?_⟩, ⟨[p], rfl, fun q hq => ?_⟩, fun q u h1 h2 h3 => ?_⟩
  · unfold lv at hu
    by_cases e : n = O.length
    · rw [if_pos e] at hu
      cases hu
      refine ⟨p, ho, ?_, upd_same, r.mv kt kl⟩
      rw [e, ← F.len]
      exact lv_self
    · rw [if_neg e] at hu
      obtain ⟨q, k, h1, h2, h3⟩ := F.ob n u hu
      exact ⟨q, k, kl _ _ h1, by rw [upd_ne (ne_of_none h2 hp)]; exact h2, h3.mv kt kl⟩
  · rcases List.mem_cons.mp hq with e | hq
    · rw [e]; exact hf.2
    · exact F.ap q hq
  · exact upd_ne fun e => hf.2 (e ▸ hq)
  · rw [List.mem_singleton.mp hq]; exact hp
  · rw [upd_ne (ne_of_none h3 hp)]; exact h3
/-- a new object beside the store -/
theorem Fm.tupd (F : Fm R ρ O H) {p : Addr} (hp : H p = none) {t : HO} : Fm R ρ O (upd H p t) ∧ Sp R ρ H ρ (upd H p t) := by
  have hf := F.fresh hp
  have kt : ∀ q o, H q = some o → ¬ Mut (some o) → upd H p t q = some o := fun q o z _ => by rw [upd_ne (ne_of_none z hp)]; exact z
  refine ⟨⟨F.len, F.nd, fun n u hu => ?_, F.ap, R.loc H _ F.res fun q hq => ?_⟩, ⟨[], rfl, fun q hq => nomatch hq⟩, fun q u h1 h2 h3 => ?_⟩
  · obtain ⟨q, k, h1, h2, h3⟩ := F.ob n u hu
    exact ⟨q, k, h1, by rw [upd_ne (ne_of_none h2 hp)]; exact h2, h3.mv kt fun _ _ z => z⟩
  · exact upd_ne fun e => hf.2 (e ▸ hq)
  · rw [upd_ne (ne_of_none h3 hp)]; exact h3
/-- an object of one's own is changed -/
theorem Fm.put (F : Fm R ρ O H) {n : Nat} {p : Addr} (hn : lv ρ n = some p) {o : AO} {ho : HO} (r : RelO H ρ o ho) : Fm R ρ (lput O n o) (upd H p ho) ∧ Sp R ρ H ρ (upd H p ho) := by
  have hp : p ∈ ρ := lv_mem hn
  have hm := F.mut hp
  have kt : ∀ q o, H q = some o → ¬ Mut (some o) → upd H p ho q = some o := fun q o z m => by
    rw [upd_ne (fun e => by rw [e] at z; rw [z] at hm; exact m hm)]; exact z
  refine ⟨⟨by rw [lput_length]; exact F.len, F.nd, fun m u hu => ?_, F.ap, R.loc H _ F.res fun q hq => ?_⟩, ⟨[], rfl, fun q hq => nomatch hq⟩, fun q u h1 h2 h3 => ?_⟩
  · by_cases e : m = n
    · subst e
      rw [lv_lput_same (by rw [← F.len]; exact lv_lt hn)] at hu
      cases hu
      exact ⟨p, ho, hn, upd_same, r.mv kt fun _ _ z => z⟩
    · rw [lv_lput_ne e] at hu
      obtain ⟨q, k, h1, h2, h3⟩ := F.ob m u hu
      refine ⟨q, k, h1, ?_, h3.mv kt fun _ _ z => z⟩
      rw [upd_ne (show q ≠ p from fun z => e (lv_inj F.nd (z ▸ h1) hn))]
      exact h2
  · exact upd_ne (show q ≠ p from fun e => F.ap p hp (e ▸ hq))
  · rw [upd_ne (show q ≠ p from fun e => h1 (e ▸ hp))]; exact h3
theorem Fm.lst (F : Fm R ρ O H) {n : Nat} {xs : List A} (h : lv O n = some (.lst xs)) {v : V} (r : RelA H ρ (.own n) v) : ∃ p vs, v = .ref p ∧ lv ρ n = some p ∧ H p = some (.lst vs) ∧ RelAs H ρ xs vs := by
  obtain ⟨p, ho, h1, h2, vs, rfl, h3⟩ := F.ob n _ h
  unfold RelA at r
  obtain ⟨q, rfl, hq⟩ := r
  rw [h1] at hq
  cases hq
  exact ⟨p, vs, rfl, h1, h2, h3⟩
end

/-! ### slots -/
abbrev Slots := List (Option A)
structure Sl (H : Hp) (ρ : List Addr) (δ : Slots) (σ : St) : Prop where
  len : δ.length = σ.length
  at' : ∀ (i : Nat) (a : A), δ[i]? = some (some a) → ∃ v, σ[i]? = some (some v) ∧ RelA H ρ a v
structure Bs where
  R : Res
  ρ : List Addr
  O : Own
  H : Hp
  ex : Value → Own → Prop
structure Wd (B : Bs) (ρ : List Addr) (O : Own) (δ : Slots) (σ : St) (H : Hp) : Prop where
  fm : Fm B.R ρ O H
  sl : Sl H ρ δ σ
  f0 : Fm B.R B.ρ B.O B.H
  sp : Sp B.R B.ρ B.H ρ H
section
variable {B : Bs} {R : Res} {ρ ρ' : List Addr} {O O' : Own} {H H' : Hp} {δ : Slots} {σ : St}
theorem Wd.move (w : Wd B ρ O δ σ H) (f : Fm B.R ρ' O' H') (s : Sp B.R ρ H ρ' H') : Wd B ρ' O' δ σ H' :=
  ⟨f, ⟨w.sl.len, fun i a h => let ⟨v, h1, h2⟩ := w.sl.at' i a h; ⟨v, h1, h2.step w.fm s⟩⟩, w.f0, w.sp.trans w.f0 w.fm s⟩
theorem Wd.set (w : Wd B ρ O δ σ H) (i : Nat) {a : A} {v : V} (r : RelA H ρ a v) : Wd B ρ O (δ.set i (some a)) (σ.set i (some v)) H := by
  refine ⟨w.fm, ⟨by rw [List.length_set, List.length_set]; exact w.sl.len, fun j b h => ?_⟩, w.f0, w.sp⟩
  by_cases e : j = i
  · subst e
    by_cases hj : j < δ.length
    · rw [List.getElem?_set_self hj] at h
      cases h
      exact ⟨v, by rw [List.getElem?_set_self (by rw [← w.sl.len]; exact hj)], r⟩
    · rw [List.getElem?_eq_none (by rw [List.length_set]; omega)] at h
      cases h
  · rw [List.getElem?_set_ne (Ne.symm e)] at h ⊢
    exact w.sl.at' j b h
theorem Wd.unset (w : Wd B ρ O δ σ H) (i : Nat) : Wd B ρ O (δ.set i none) (σ.set i none) H := by
  refine ⟨w.fm, ⟨by rw [List.length_set, List.length_set]; exact w.sl.len, fun j b h => ?_⟩, w.f0, w.sp⟩
  by_cases e : j = i
  · subst e
    by_cases hj : j < δ.length
    · rw [List.getElem?_set_self hj] at h
      cases h
    · rw [List.getElem?_eq_none (by rw [List.length_set]; omega)] at h
      cases h
  · rw [List.getElem?_set_ne (Ne.symm e)] at h ⊢
    exact w.sl.at' j b h
end

/-! ### readings of expressions -/
abbrev AK := A → Own → Prop
abbrev AE := Slots → Own → AK → Prop
abbrev ABK := Bool → Own → Prop
abbrev AT := Slots → Own → ABK → Prop
abbrev ALK := List A → Own → Prop
abbrev AL := Slots → Own → ALK → Prop
/-- what follows a value -/
def KE (R : Res) (ρ : List Addr) (H : Hp) (Q : AK) (QV : VK) : Prop := ∀ v H' ρ' O' a, Fm R ρ' O' H' → Sp R ρ H ρ' H' → RelA H' ρ' a v → Q a O' → QV v H'
def lE (B : Bs) (T : AE) : TE := fun σ H QV => ∃ ρ O δ Q, Wd B ρ O δ σ H ∧ T δ O Q ∧ KE B.R ρ H Q QV
def lT (B : Bs) (T : AT) : TT := fun σ H QV => ∃ ρ O δ Q, Wd B ρ O δ σ H ∧ T δ O Q ∧ ∀ b H' ρ' O', Fm B.R ρ' O' H' → Sp B.R ρ H ρ' H' → Q b O' → QV b H'
def lL (B : Bs) (T : AL) : TA := fun σ H QV => ∃ ρ O δ Q, Wd B ρ O δ σ H ∧ T δ O Q ∧ ∀ vs H' ρ' O' as, Fm B.R ρ' O' H' → Sp B.R ρ H ρ' H' → RelAs H' ρ' as vs → Q as O' → QV vs H'
abbrev LE (X : Cx) (B : Bs) (e : Expr) (T : AE) : Prop := PE X e (lE B T)
abbrev LT (X : Cx) (B : Bs) (e : Expr) (T : AT) : Prop := PT X e (lT B T)
abbrev LW (X : Cx) (B : Bs) (e : Expr) (T : AT) : Prop := PW X e (lT B T)
abbrev LL (X : Cx) (B : Bs) (es : List Expr) (T : AL) : Prop := PA X es (lL B T)
end PyA

set_option Elab.async false
set_option linter.all false
set_option maxRecDepth 100000
set_option maxHeartbeats 2000000
/-! The rules for expressions. -/
namespace PyA
open PySem PySem.Spec L2

def sg : Slots → Nat → Option A
  | [], _ => none
  | a :: _, 0 => a
  | _ :: r, n + 1 => sg r n
theorem sg_get : ∀ {δ : Slots} {i : Nat} {a : A}, sg δ i = some a → δ[i]? = some (some a)
  | [], _, _, h => nomatch h
  | b :: _, 0, a, h => by rw [show b = some a from h]; rfl
  | _ :: r, n + 1, a, h => by rw [List.getElem?_cons_succ]; exact sg_get h
section
variable {X : Cx} {B : Bs} {R : Res} {pos : Pos} {ρ ρ' : List Addr} {O O' : Own} {H H' : Hp} {δ : Slots} {σ : L2.St}

theorem KE.here {Q : AK} {QV : VK} (k : KE R ρ H Q QV) (F : Fm R ρ O H) {a : A} {v : V} (r : RelA H ρ a v) (q : Q a O) : QV v H := k v H ρ O a F Sp.refl r q
theorem KE.new {Q : AK} {QV : VK} (k : KE R ρ H Q QV) (F : Fm R ρ O H) {p : Addr} (hp : H p = none) {o : AO} {ho : HO} (r : RelO H ρ o ho) (q : Q (.own O.length) (o :: O)) : QV (.ref p) (upd H p ho) := by
  obtain ⟨F', s⟩ := F.push hp r
  refine k _ _ (p :: ρ) _ _ F' s ?_ q
  unfold RelA
  exact ⟨p, rfl, by rw [← F.len]; exact lv_self⟩
theorem KE.tup {Q : AK} {QV : VK} (k : KE R ρ H Q QV) (F : Fm R ρ O H) {p : Addr} (hp : H p = none) {xs : List A} {vs : List V} (r : RelAs H ρ xs vs) (q : Q (.tup xs) O) : QV (.ref p) (upd H p (.tup vs)) := by
  obtain ⟨F', s⟩ := F.tupd (t := .tup vs) hp
  refine k _ _ ρ _ _ F' s ?_ q
  unfold RelA
  exact ⟨p, vs, rfl, upd_same, r.step F s⟩
theorem KE.put {Q : AK} {QV : VK} (k : KE R ρ H Q QV) (F : Fm R ρ O H) {n : Nat} {p : Addr} (hn : lv ρ n = some p) {o : AO} {ho : HO} (r : RelO H ρ o ho) {a : A} {v : V} (ra : RelA H ρ a v) (q : Q a (lput O n o)) : QV v (upd H p ho) := by
  obtain ⟨F', s⟩ := F.put hn r
  exact k _ _ ρ _ _ F' s (ra.step F s) q
/-- two steps -/
theorem KE.next {Q : AK} {QV : VK} (k : KE R ρ H Q QV) (F : Fm R ρ O H) (F' : Fm R ρ' O' H') (s : Sp R ρ H ρ' H') : KE R ρ' H' Q QV := fun v H2 ρ2 O2 a F2 s2 r q => k v H2 ρ2 O2 a F2 (s.trans F F' s2) r q

/-! ### names, constants -/
def aVar (i : Nat) : AE := fun δ O Q => match sg δ i with | some a => Q a O | none => False
def aC (a : A) : AE := fun _ O Q => Q a O
theorem le_var (i : Nat) {x : Str} (hN : X.N[i]? = some x := by rfl) (hv : Vis X.env.scope x := by first | exact Or.inl rfl | exact Or.inr (Or.inl rfl) | exact Or.inr (Or.inr rfl)) (hd : (x == ("__debug__" : Str)) = false := by decide)
    (hcd : (x == ("__classdict__" : Str)) = false := by decide) : LE X B (.Name x pos) (aVar i) := (pe_var hN hv hd hcd).imp fun σ H QV ⟨ρ, O, δ, Q, w, t, k⟩ => by
  unfold aVar at t
  cases e : sg δ i with
  | none => rw [e] at t; exact t.elim
  | some a =>
    rw [e] at t
    obtain ⟨v, hv, r⟩ := w.sl.at' i a (sg_get e)
    exact ⟨v, hv, k.here w.fm r t⟩
theorem rel_int {i : Int} : RelA H ρ (.int i) (.int i) := by unfold RelA; rfl
theorem rel_bl {i : Bool} : RelA H ρ (.bl i) (.bl i) := by unfold RelA; rfl
theorem rel_str {i : Str} : RelA H ρ (.str i) (.str i) := by unfold RelA; rfl
theorem rel_non : RelA H ρ .non .non := by unfold RelA; rfl
theorem rel_raw {v : V} : RelA H ρ (.raw v) v := by unfold RelA; rfl
theorem le_int {i j} : LE X B (.Constant (.int i) j pos) (aC (.int i)) := pe_int.imp fun σ H QV ⟨ρ, O, δ, Q, w, t, k⟩ => k.here w.fm rel_int t
theorem le_str {i j} : LE X B (.Constant (.str i) j pos) (aC (.str i)) := pe_str.imp fun σ H QV ⟨ρ, O, δ, Q, w, t, k⟩ => k.here w.fm rel_str t
theorem le_bl {i j} : LE X B (.Constant (.bool i) j pos) (aC (.bl i)) := pe_bl.imp fun σ H QV ⟨ρ, O, δ, Q, w, t, k⟩ => k.here w.fm rel_bl t
theorem le_non {j} : LE X B (.Constant .none j pos) (aC .non) := pe_non.imp fun σ H QV ⟨ρ, O, δ, Q, w, t, k⟩ => k.here w.fm rel_non t
/-- a module's constant -/
theorem le_glob {x : Str} {a : A} {v : V} {u : Value} (hg : Gl X x) (hm : X.mg x = some u) (r : RelV v u) (ra : ∀ H ρ, RelA H ρ a v) (hd : (x == ("__debug__" : Str)) = false := by decide) : LE X B (.Name x pos) (aC a) :=
  (pe_glob hg hm r hd).imp fun σ H QV ⟨ρ, O, δ, Q, w, t, k⟩ => k.here w.fm (ra H ρ) t

/-! ### operators -/
abbrev A2 := A → A → Own → AK → Prop
def l2 (R : Res) (f : A2) : R2 := fun x y H QV => ∃ ρ O a b Q, Fm R ρ O H ∧ RelA H ρ a x ∧ RelA H ρ b y ∧ f a b O Q ∧ KE R ρ H Q QV
abbrev OpL (X : Cx) (R : Res) (f : Value → Value → Sem Value) (g : A2) : Prop := OpR X f (l2 R g)
def aBin (g : A2) (ta tb : AE) : AE := fun δ O Q => ta δ O fun a O1 => tb δ O1 fun b O2 => g a b O2 Q
theorem lift2 {g : A2} {ta tb : AE} {σ : L2.St} {QV : VK} (h : lE B (aBin g ta tb) σ H QV) : lE B ta σ H fun x H1 => lE B tb σ H1 fun y H2 => l2 B.R g x y H2 QV := by
  obtain ⟨ρ, O, δ, Q, w, t, k⟩ := h
  refine ⟨ρ, O, δ, _, w, t, fun x H1 ρ1 O1 a F1 s1 ra t1 => ⟨ρ1, O1, δ, _, w.move F1 s1, t1, fun y H2 ρ2 O2 b F2 s2 rb t2 => ⟨ρ2, O2, a, b, Q, F2, ra.step F1 s2, rb, t2, ?_⟩⟩⟩
  exact (k.next w.fm F1 s1).next F1 F2 s2
theorem le_bin {op : Operator} {g : A2} {a b : Expr} {ta tb : AE} (ho : OpL X B.R (binaryOp op) g) (ha : LE X B a ta) (hb : LE X B b tb) : LE X B (.BinOp a op b pos) (aBin g ta tb) :=
  (pe_op ho ha hb).imp fun σ H QV h => lift2 h
theorem le_cmp {op : CmpOp} {g : A2} {a b : Expr} {ta tb : AE} (ho : OpL X B.R (compareOp op) g) (ha : LE X B a ta) (hb : LE X B b tb) (hm : behindInMarks op b = false) : LE X B (.Compare a [op] [b] pos) (aBin g ta tb) :=
  (pe_cmpR ho ha hb hm).imp fun σ H QV h => lift2 h
/-- a value that is True or False -/
def aBl (t : AE) : AT := fun δ O Q => t δ O fun a O1 => match a with | .bl b => Q b O1 | _ => False
theorem liftB {t : AE} {σ : L2.St} {QV : Bool → Hp → Prop} (h : lT B (aBl t) σ H QV) : lE B t σ H fun x H' => ∃ k, x = .bl k ∧ QV k H' := by
  obtain ⟨ρ, O, δ, Q, w, t, k⟩ := h
  refine ⟨ρ, O, δ, _, w, t, fun x H1 ρ1 O1 a F1 s1 ra t1 => ?_⟩
  cases a with
  | bl b =>
    unfold RelA at ra
    exact ⟨b, ra, k b H1 ρ1 O1 F1 s1 t1⟩
  | _ => exact False.elim t1
theorem lE.mono {t : AE} {σ : L2.St} {QV QV' : VK} (h : lE B t σ H QV) (f : ∀ v H', QV v H' → QV' v H') : lE B t σ H QV' := by
  obtain ⟨ρ, O, δ, Q, w, t, k⟩ := h
  exact ⟨ρ, O, δ, Q, w, t, fun v H1 ρ1 O1 a F1 s1 ra t1 => f _ _ (k v H1 ρ1 O1 a F1 s1 ra t1)⟩
theorem lt_cmp {op : CmpOp} {g : A2} {a b : Expr} {ta tb : AE} (ho : OpL X B.R (compareOp op) g) (ha : LE X B a ta) (hb : LE X B b tb) (hm : behindInMarks op b = false) : LT X B (.Compare a [op] [b] pos) (aBl (aBin g ta tb)) :=
  (pt_cmpR ho ha hb hm).imp fun σ H QV h => lift2 (liftB h)
theorem lt_val {e : Expr} {t : AE} (h : LE X B e t) (he : ∀ whole, isTrue e X.env whole = (do let v ← whole; standAt e.pos; holding [v] (truthy v)) := by intro _; rfl) : LT X B e (aBl t) :=
  (pt_val h he).imp fun σ H QV h => liftB h

def tupOf : A → Option (List A)
  | .tup xs => some xs
  | .tupk xs => some xs
  | _ => none
theorem tupOf_of {K : PySem.W.Frag} {a : A} {xs : List A} {x : V} (h : tupOf a = some xs) (r : RelA H ρ a x) : ∃ p vs, x = .ref p ∧ SqT K H p vs ∧ RelAs H ρ xs vs := by
  cases a <;> first
    | (cases h; done)
    | (cases h; unfold RelA at r; obtain ⟨p, vs, e, hp, rr⟩ := r; exact ⟨p, vs, e, SqT.of hp, rr⟩)
    | (cases h; unfold RelA at r; obtain ⟨p, vs, o, e, hp, _, rr⟩ := r; exact ⟨p, vs, e, .inl (.inr ⟨o, hp⟩), rr⟩)
def opAdd : A2
  | .int i, .int j, O, Q => Q (.int (i + j)) O
  | .str x, .str y, O, Q => x.length + y.length ≤ sizeLine ∧ Q (.str (x ++ y)) O
  | .own m, .own n, O, Q => match lv O m, lv O n with | some (.lst xs), some (.lst ys) => xs.length + ys.length ≤ sizeLine ∧ Q (.own O.length) (.lst (xs ++ ys) :: O) | _, _ => False
  | a, b, O, Q => match tupOf a, tupOf b with | some xs, some ys => xs ≠ [] ∧ ys ≠ [] ∧ xs.length + ys.length ≤ sizeLine ∧ Q (.tup (xs ++ ys)) O | _, _ => False
theorem RelAs.ne_nil {xs : List A} {vs : List V} (h : RelAs H ρ xs vs) (n : xs ≠ []) : vs ≠ [] := by
  intro e
  have := h.length
  rw [e] at this
  exact n (List.length_eq_zero_iff.mp this)
theorem ol_add : OpL X R (binaryOp .Add) opAdd := by
  intro pins s σ H x y v u QV I rx ry ⟨ρ, O, a, b, Q, F, ra, rb, h, k⟩
  have tups : ∀ {a b : A}, RelA H ρ a x → RelA H ρ b y → (match tupOf a, tupOf b with | some xs, some ys => xs ≠ [] ∧ ys ≠ [] ∧ xs.length + ys.length ≤ sizeLine ∧ Q (.tup (xs ++ ys)) O | _, _ => False) → wpAny (model X.prog X.w) X.A (binaryOp .Add v u) (EP X pins σ QV) X.xe s := by
    intro a b ra rb h
    cases e1 : tupOf a with
    | none => simp only [e1] at h
    | some xs =>
      cases e2 : tupOf b with
      | none => simp only [e1, e2] at h
      | some ys =>
        simp only [e1, e2] at h
        obtain ⟨h1, h2, h3, h4⟩ := h
        obtain ⟨p, vs, rfl, hp, r1⟩ := tupOf_of (K := X.K) e1 ra
        obtain ⟨q, ws, rfl, hq, r2⟩ := tupOf_of (K := X.K) e2 rb
        refine op_catT pins s σ H _ _ v u QV I rx ry ⟨p, q, vs, ws, rfl, rfl, hp, hq, r1.ne_nil h1, by rw [← r1.length, ← r2.length]; exact h3, fun e => absurd e (r2.ne_nil h2), fun _ p hp => ?_⟩
        exact k.tup F hp (r1.append r2) h4
  cases a with
  | int i =>
    cases b with
    | int j =>
      unfold RelA at ra rb
      exact op_add pins s σ H x y v u QV I rx ry ⟨i, j, ra, rb, k.here F rel_int h⟩
    | _ => exact False.elim h
  | str i =>
    cases b with
    | str j =>
      unfold RelA at ra rb
      exact op_add_str pins s σ H x y v u QV I rx ry ⟨i, j, ra, rb, h.1, k.here F rel_str h.2⟩
    | _ => exact False.elim h
  | tup xs => exact tups ra rb (by cases b <;> exact h)
  | tupk xs => exact tups ra rb (by cases b <;> exact h)
  | own m =>
    cases b with
    | own n =>
      unfold opAdd at h
      cases e1 : lv O m with
      | none => simp only [e1] at h
      | some o1 =>
        cases o1 with
        | lst xs =>
          cases e2 : lv O n with
          | none => simp only [e1, e2] at h
          | some o2 =>
            cases o2 with
            | lst ys =>
              simp only [e1, e2] at h
              obtain ⟨p, vs, rfl, _, hp, r1⟩ := F.lst e1 ra
              obtain ⟨q, ws, rfl, _, hq, r2⟩ := F.lst e2 rb
              refine op_cat pins s σ H _ _ v u QV I rx ry ⟨p, q, vs, ws, rfl, rfl, hp, hq, by rw [← r1.length, ← r2.length]; exact h.1, fun p hp => ?_⟩
              exact k.new F hp (o := .lst (xs ++ ys)) ⟨_, rfl, r1.append r2⟩ h.2
            | _ => simp only [e1, e2] at h
        | _ => simp only [e1] at h
    | _ => exact False.elim h
  | _ => cases b <;> exact False.elim h
/-- two ints -/
def opI (f : Int → Int → Option A) : A2
  | .int i, .int j, O, Q => match f i j with | some a => Q a O | none => False
  | _, _, _, _ => False
theorem ol_I {op : Value → Value → Sem Value} {C : Int → Int → Prop} {g : Int → Int → V} {f : Int → Int → Option A} (ho : OpR X op (rI C g)) (hf : ∀ i j a, f i j = some a → C i j ∧ ∀ H ρ, RelA H ρ a (g i j)) : OpL X R op (opI f) := by
  intro pins s σ H x y v u QV I rx ry ⟨ρ, O, a, b, Q, F, ra, rb, h, k⟩
  cases a with
  | int i =>
    cases b with
    | int j =>
      unfold RelA at ra rb
      unfold opI at h
      cases e : f i j with
      | none => simp only [e] at h
      | some a =>
        simp only [e] at h
        obtain ⟨h1, h2⟩ := hf i j a e
        exact ho pins s σ H x y v u QV I rx ry ⟨i, j, ra, rb, h1, k.here F (h2 H ρ) h⟩
    | _ => exact False.elim h
  | _ => exact False.elim h
theorem rI_of {op : Value → Value → Sem Value} {g : Int → Int → V} (h : OpR X op (rI0 g)) : OpR X op (rI (fun _ _ => True) g) := fun pins s σ H x y v u Q I rx ry ⟨i, j, e1, e2, _, q⟩ => h pins s σ H x y v u Q I rx ry ⟨i, j, e1, e2, q⟩
def opSub : A2 := opI fun i j => some (.int (i - j))
theorem ol_sub : OpL X R (binaryOp .Sub) opSub := ol_I (rI_of op_sub) fun i j a e => by cases e; exact ⟨trivial, fun _ _ => rel_int⟩
/-- the one or the other below 2^64 -/
def mulOk (i j : Int) : Bool := (decide (-(2 ^ 64) < i) && decide (i < 2 ^ 64)) || (decide (-(2 ^ 64) < j) && decide (j < 2 ^ 64))
def opMul : A2
  | .int i, .int j, O, Q => mulOk i j = true ∧ Q (.int (i * j)) O
  | .own m, .int j, O, Q => match lv O m with | some (.lst xs) => (-(2 ^ 63) ≤ j ∧ j < 2 ^ 63 ∧ xs.length * j.toNat ≤ sizeLine) ∧ Q (.own O.length) (.lst (List.replicate j.toNat xs).flatten :: O) | _ => False
  | _, _, _, _ => False
theorem RelAs.rep {xs : List A} {vs : List V} (h : RelAs H ρ xs vs) : ∀ n : Nat, RelAs H ρ (List.replicate n xs).flatten (List.replicate n vs).flatten
  | 0 => RelAs.nil
  | n + 1 => by
    rw [List.replicate_succ, List.replicate_succ, List.flatten_cons, List.flatten_cons]
    exact h.append (RelAs.rep h n)
theorem ol_mul : OpL X R (binaryOp .Mult) opMul := by
  intro pins s σ H x y v u QV I rx ry ⟨ρ, O, a, b, Q, F, ra, rb, h, k⟩
  cases a with
  | int i =>
    cases b with
    | int j =>
      unfold RelA at ra rb
      obtain ⟨h1, h2⟩ := h
      refine op_mul pins s σ H x y v u QV I rx ry ⟨i, j, ra, rb, ?_, k.here F rel_int h2⟩
      unfold mulOk at h1
      simp only [Bool.or_eq_true, Bool.and_eq_true, decide_eq_true_eq] at h1
      exact h1
    | _ => exact False.elim h
  | own m =>
    cases b with
    | int j =>
      unfold opMul at h
      cases e1 : lv O m with
      | none => simp only [e1] at h
      | some o1 =>
        cases o1 with
        | lst xs =>
          simp only [e1] at h
          obtain ⟨p, vs, rfl, _, hp, r1⟩ := F.lst e1 ra
          unfold RelA at rb
          refine op_rep pins s σ H _ _ v u QV I rx ry ⟨p, j, vs, rfl, rb, hp, h.1.1, h.1.2.1, by rw [← r1.length]; exact h.1.2.2, fun p hp => ?_⟩
          exact k.new F hp (o := .lst (List.replicate j.toNat xs).flatten) ⟨_, rfl, r1.rep _⟩ h.2
        | _ => simp only [e1] at h
    | _ => exact False.elim h
  | _ => exact False.elim h
/-- // of a divisor that is not 0, below 2^30 -/
def opFdiv : A2 := opI fun i j => if j ≠ 0 ∧ j.natAbs < 1073741824 then some (.int (i.fdiv j)) else none
theorem ol_fdiv : OpL X R (binaryOp .FloorDiv) opFdiv := ol_I op_fdivN fun i j a e => by
  by_cases h : j ≠ 0 ∧ j.natAbs < 1073741824
  · rw [if_pos h] at e; cases e; exact ⟨h, fun _ _ => rel_int⟩
  · rw [if_neg h] at e; cases e
def opMod : A2 := opI fun i j => if j ≠ 0 then some (.int (i.fmod j)) else none
theorem ol_mod : OpL X R (binaryOp .Mod) opMod := ol_I op_modN fun i j a e => by
  by_cases h : j ≠ 0
  · rw [if_pos h] at e; cases e; exact ⟨h, fun _ _ => rel_int⟩
  · rw [if_neg h] at e; cases e
def powOk (i j : Int) : Bool := decide (0 ≤ j) && decide (j ≤ 1000000) && decide (i.natAbs < 2 ^ 64)
def opPow : A2 := opI fun i j => if powOk i j = true then some (.int (i ^ j.toNat)) else none
theorem ol_pow : OpL X R (binaryOp .Pow) opPow := ol_I op_pow fun i j a e => by
  by_cases h : powOk i j = true
  · rw [if_pos h] at e
    cases e
    unfold powOk at h
    simp only [Bool.and_eq_true, decide_eq_true_eq] at h
    exact ⟨⟨h.1.1, h.1.2, h.2⟩, fun _ _ => rel_int⟩
  · rw [if_neg h] at e; cases e
def opLt : A2 := opI fun i j => some (.bl (decide (i < j)))
def opLe : A2 := opI fun i j => some (.bl (decide (i ≤ j)))
def opGt : A2 := opI fun i j => some (.bl (decide (j < i)))
def opGe : A2 := opI fun i j => some (.bl (decide (j ≤ i)))
theorem ol_lt : OpL X R (compareOp .Lt) opLt := ol_I (rI_of op_lt) fun i j a e => by cases e; exact ⟨trivial, fun _ _ => rel_bl⟩
theorem ol_le : OpL X R (compareOp .LtE) opLe := ol_I (rI_of op_le) fun i j a e => by cases e; exact ⟨trivial, fun _ _ => rel_bl⟩
theorem ol_gt : OpL X R (compareOp .Gt) opGt := ol_I (rI_of op_gt) fun i j a e => by cases e; exact ⟨trivial, fun _ _ => rel_bl⟩
theorem ol_ge : OpL X R (compareOp .GtE) opGe := ol_I (rI_of op_ge) fun i j a e => by cases e; exact ⟨trivial, fun _ _ => rel_bl⟩
/-- == of scalars of one kind -/
def eqS : A → A → Option Bool
  | .int i, .int j => some (decide (i = j))
  | .bl i, .bl j => some (decide (i = j))
  | .str i, .str j => some (decide (i = j))
  | .non, .non => some true
  | _, _ => none
def opEq : A2 := fun a b O Q => match eqS a b with | some k => Q (.bl k) O | none => False
def opNe : A2 := fun a b O Q => match eqS a b with | some k => Q (.bl (!k)) O | none => False
theorem eqS_of {a b : A} {k : Bool} {x y : V} (h : eqS a b = some k) (ra : RelA H ρ a x) (rb : RelA H ρ b y) : scal x y = true ∧ decide (x = y) = k := by
  cases a <;> cases b <;> first
    | (cases h; done)
    | (unfold RelA at ra rb
       subst ra rb
       cases h
       refine ⟨rfl, ?_⟩
       simp)
theorem ol_eq : OpL X R (compareOp .Eq) opEq := by
  intro pins s σ H x y v u QV I rx ry ⟨ρ, O, a, b, Q, F, ra, rb, h, k⟩
  unfold opEq at h
  cases e : eqS a b with
  | none => simp only [e] at h
  | some c =>
    simp only [e] at h
    obtain ⟨h1, h2⟩ := eqS_of e ra rb
    exact op_eq pins s σ H x y v u QV I rx ry ⟨h1, by rw [h2]; exact k.here F rel_bl h⟩
theorem ol_ne : OpL X R (compareOp .NotEq) opNe := by
  intro pins s σ H x y v u QV I rx ry ⟨ρ, O, a, b, Q, F, ra, rb, h, k⟩
  unfold opNe at h
  cases e : eqS a b with
  | none => simp only [e] at h
  | some c =>
    simp only [e] at h
    obtain ⟨h1, h2⟩ := eqS_of e ra rb
    exact op_ne pins s σ H x y v u QV I rx ry ⟨h1, by rw [h2]; exact k.here F rel_bl h⟩
def isNon : A → Option Bool
  | .non => some true
  | .raw _ => none
  | _ => some false
def opIsN : A2 := fun a b O Q => match b, isNon a with | .non, some k => Q (.bl k) O | _, _ => False
def opNotN : A2 := fun a b O Q => match b, isNon a with | .non, some k => Q (.bl (!k)) O | _, _ => False
theorem isNon_of {a : A} {k : Bool} {x : V} (h : isNon a = some k) (ra : RelA H ρ a x) : decide (x = .non) = k := by
  cases a <;> unfold RelA at ra <;> first
    | (cases h; done)
    | (subst ra; cases h; rfl)
    | (obtain ⟨p, vs, rfl, _⟩ := ra; cases h; rfl)
    | (obtain ⟨p, vs, o, rfl, _⟩ := ra; cases h; rfl)
    | (obtain ⟨p, rfl, _⟩ := ra; cases h; rfl)
theorem ol_isN : OpL X R (compareOp .Is) opIsN := by
  intro pins s σ H x y v u QV I rx ry ⟨ρ, O, a, b, Q, F, ra, rb, h, k⟩
  cases b with
  | non =>
    unfold opIsN at h
    cases e : isNon a with
    | none => simp only [e] at h
    | some c =>
      simp only [e] at h
      unfold RelA at rb
      exact op_isN pins s σ H x y v u QV I rx ry ⟨rb, by rw [isNon_of e ra]; exact k.here F rel_bl h⟩
  | _ => unfold opIsN at h; cases e : isNon a <;> simp only [e] at h
theorem ol_notN : OpL X R (compareOp .IsNot) opNotN := by
  intro pins s σ H x y v u QV I rx ry ⟨ρ, O, a, b, Q, F, ra, rb, h, k⟩
  cases b with
  | non =>
    unfold opNotN at h
    cases e : isNon a with
    | none => simp only [e] at h
    | some c =>
      simp only [e] at h
      unfold RelA at rb
      exact op_notN pins s σ H x y v u QV I rx ry ⟨rb, by rw [isNon_of e ra]; exact k.here F rel_bl h⟩
  | _ => unfold opNotN at h; cases e : isNon a <;> simp only [e] at h

/-! ### one operand -/
abbrev A1 := A → Own → AK → Prop
def l1 (R : Res) (f : A1) : V → Hp → VK → Prop := fun x H QV => ∃ ρ O a Q, Fm R ρ O H ∧ RelA H ρ a x ∧ f a O Q ∧ KE R ρ H Q QV
def aUn (g : A1) (ta : AE) : AE := fun δ O Q => ta δ O fun a O1 => g a O1 Q
theorem lift1 {g : A1} {ta : AE} {σ : L2.St} {QV : VK} (h : lE B (aUn g ta) σ H QV) : lE B ta σ H fun x H1 => l1 B.R g x H1 QV := by
  obtain ⟨ρ, O, δ, Q, w, t, k⟩ := h
  exact ⟨ρ, O, δ, _, w, t, fun x H1 ρ1 O1 a F1 s1 ra t1 => ⟨ρ1, O1, a, Q, F1, ra, t1, k.next w.fm F1 s1⟩⟩
def unNeg : A1
  | .int i, O, Q => Q (.int (-i)) O
  | _, _, _ => False
theorem le_neg {a : Expr} {ta : AE} (ha : LE X B a ta) : LE X B (.UnaryOp .USub a pos) (aUn unNeg ta) :=
  (pe_un (r := l1 B.R unNeg) (fun pins s σ H x v QV I rx ⟨ρ, O, a, Q, F, ra, h, k⟩ => by
    cases a with
    | int i =>
      unfold RelA at ra
      exact un_neg pins s σ H x v QV I rx ⟨i, ra, k.here F rel_int h⟩
    | _ => exact False.elim h) ha).imp fun σ H QV h => lift1 h

/-! ### and, or, not, if -/
def aAnd (t u : AT) : AT := fun δ O Q => t δ O fun c O1 => match c with | true => u δ O1 Q | false => Q false O1
def aOr (t u : AT) : AT := fun δ O Q => t δ O fun c O1 => match c with | true => Q true O1 | false => u δ O1 Q
def aNot (t : AT) : AT := fun δ O Q => t δ O fun c O1 => Q (!c) O1
abbrev KB (R : Res) (ρ : List Addr) (H : Hp) (Q : ABK) (QV : Bool → Hp → Prop) : Prop := ∀ b H' ρ' O', Fm R ρ' O' H' → Sp R ρ H ρ' H' → Q b O' → QV b H'
theorem KB.next {Q : ABK} {QV : Bool → Hp → Prop} (k : KB R ρ H Q QV) (F : Fm R ρ O H) (F' : Fm R ρ' O' H') (s : Sp R ρ H ρ' H') : KB R ρ' H' Q QV := fun b H2 ρ2 O2 F2 s2 q => k b H2 ρ2 O2 F2 (s.trans F F' s2) q
section
variable {a b : Expr} {rest : List Expr} {ta tb : AT}
theorem lw_and1 (ha : LT X B a ta) : LW X B (.BoolOp .And [a] pos) ta := pw_and1 ha
theorem lw_or1 (ha : LT X B a ta) : LW X B (.BoolOp .Or [a] pos) ta := pw_or1 ha
theorem lw_and (ha : LT X B a ta) (hb : LW X B (.BoolOp .And (b :: rest) pos) tb) : LW X B (.BoolOp .And (a :: b :: rest) pos) (aAnd ta tb) := (pw_and ha hb).imp fun σ H QV h => by
  obtain ⟨ρ, O, δ, Q, w, t, k⟩ := h
  refine ⟨ρ, O, δ, _, w, t, fun c H1 ρ1 O1 F1 s1 t1 => ?_⟩
  cases c with
  | true =>
    rw [if_pos rfl]
    exact ⟨ρ1, O1, δ, Q, w.move F1 s1, t1, KB.next k w.fm F1 s1⟩
  | false =>
    rw [if_neg Bool.false_ne_true]
    exact k _ _ _ _ F1 s1 t1
theorem lw_or (ha : LT X B a ta) (hb : LW X B (.BoolOp .Or (b :: rest) pos) tb) : LW X B (.BoolOp .Or (a :: b :: rest) pos) (aOr ta tb) := (pw_or ha hb).imp fun σ H QV h => by
  obtain ⟨ρ, O, δ, Q, w, t, k⟩ := h
  refine ⟨ρ, O, δ, _, w, t, fun c H1 ρ1 O1 F1 s1 t1 => ?_⟩
  cases c with
  | false =>
    rw [if_neg Bool.false_ne_true]
    exact ⟨ρ1, O1, δ, Q, w.move F1 s1, t1, KB.next k w.fm F1 s1⟩
  | true =>
    rw [if_pos rfl]
    exact k _ _ _ _ F1 s1 t1
theorem lt_w {e : Expr} (h : LW X B e ta) : LT X B e ta := h.pt
theorem lt_not (ha : LT X B a ta) : LT X B (.UnaryOp .Not a pos) (aNot ta) := (pt_not ha).imp fun σ H QV h => by
  obtain ⟨ρ, O, δ, Q, w, t, k⟩ := h
  exact ⟨ρ, O, δ, _, w, t, fun c H1 ρ1 O1 F1 s1 t1 => k _ _ _ _ F1 s1 t1⟩
end
/-- as values -/
def aAndV (t u : AE) : AE := fun δ O Q => t δ O fun c O1 => match c with | .bl true => u δ O1 Q | .bl false => Q (.bl false) O1 | _ => False
def aOrV (t u : AE) : AE := fun δ O Q => t δ O fun c O1 => match c with | .bl true => Q (.bl true) O1 | .bl false => u δ O1 Q | _ => False
def aNotV (t : AE) : AE := fun δ O Q => t δ O fun c O1 => match c with | .bl b => Q (.bl (!b)) O1 | _ => False
def aIf (t : AT) (u v : AE) : AE := fun δ O Q => t δ O fun c O1 => match c with | true => u δ O1 Q | false => v δ O1 Q
section
variable {a b c : Expr} {rest : List Expr} {ta tb : AE} {tc : AT}
theorem le_one {op} (h : LE X B a ta) : LE X B (.BoolOp op [a] pos) ta := pe_one h
theorem le_and (ha : LE X B a ta) (hb : LE X B (.BoolOp .And (b :: rest) pos) tb) : LE X B (.BoolOp .And (a :: b :: rest) pos) (aAndV ta tb) := (pe_and ha hb).imp fun σ H QV h => by
  obtain ⟨ρ, O, δ, Q, w, t, k⟩ := h
  refine ⟨ρ, O, δ, _, w, t, fun x H1 ρ1 O1 a F1 s1 ra t1 => ?_⟩
  cases a with
  | bl c =>
    unfold RelA at ra
    refine ⟨c, ra, ?_⟩
    cases c with
    | true => rw [if_pos rfl]; exact ⟨ρ1, O1, δ, Q, w.move F1 s1, t1, KE.next k w.fm F1 s1⟩
    | false => rw [if_neg Bool.false_ne_true]; exact k _ _ _ _ _ F1 s1 rel_bl t1
  | _ => exact False.elim t1
theorem le_or (ha : LE X B a ta) (hb : LE X B (.BoolOp .Or (b :: rest) pos) tb) : LE X B (.BoolOp .Or (a :: b :: rest) pos) (aOrV ta tb) := (pe_or ha hb).imp fun σ H QV h => by
  obtain ⟨ρ, O, δ, Q, w, t, k⟩ := h
  refine ⟨ρ, O, δ, _, w, t, fun x H1 ρ1 O1 a F1 s1 ra t1 => ?_⟩
  cases a with
  | bl c =>
    unfold RelA at ra
    refine ⟨c, ra, ?_⟩
    cases c with
    | false => rw [if_neg Bool.false_ne_true]; exact ⟨ρ1, O1, δ, Q, w.move F1 s1, t1, KE.next k w.fm F1 s1⟩
    | true => rw [if_pos rfl]; exact k _ _ _ _ _ F1 s1 rel_bl t1
  | _ => exact False.elim t1
theorem le_not (ha : LE X B a ta) : LE X B (.UnaryOp .Not a pos) (aNotV ta) := (pe_not ha).imp fun σ H QV h => by
  obtain ⟨ρ, O, δ, Q, w, t, k⟩ := h
  refine ⟨ρ, O, δ, _, w, t, fun x H1 ρ1 O1 a F1 s1 ra t1 => ?_⟩
  cases a with
  | bl c =>
    unfold RelA at ra
    exact ⟨c, ra, k _ _ _ _ _ F1 s1 rel_bl t1⟩
  | _ => exact False.elim t1
theorem le_if (hc : LT X B c tc) (ha : LE X B a ta) (hb : LE X B b tb) : LE X B (.IfExp c a b pos) (aIf tc ta tb) := (pe_ifExp hc ha hb).imp fun σ H QV h => by
  obtain ⟨ρ, O, δ, Q, w, t, k⟩ := h
  refine ⟨ρ, O, δ, _, w, t, fun c H1 ρ1 O1 F1 s1 t1 => ?_⟩
  cases c with
  | true => rw [if_pos rfl]; exact ⟨ρ1, O1, δ, Q, w.move F1 s1, t1, KE.next k w.fm F1 s1⟩
  | false => rw [if_neg Bool.false_ne_true]; exact ⟨ρ1, O1, δ, Q, w.move F1 s1, t1, KE.next k w.fm F1 s1⟩
end
/-! ### truth of any value -/
def truA (O : Own) : A → Option Bool
  | .non => some false
  | .bl b => some b
  | .int i => some (i != 0)
  | .tup xs => some (!xs.isEmpty)
  | .tupk xs => some (!xs.isEmpty)
  | .own n => match lv O n with | some (.lst xs) => some (!xs.isEmpty) | some (.dK kvs) => some (!kvs.isEmpty) | _ => none
  | _ => none
def aTru (t : AE) : AT := fun δ O Q => t δ O fun a O1 => match truA O1 a with | some b => Q b O1 | none => False
theorem RelAs.empty {xs : List A} {vs : List V} (h : RelAs H ρ xs vs) : vs.isEmpty = xs.isEmpty := by
  have e := h.length
  cases xs <;> cases vs <;> first | rfl | (simp at e)
theorem Paired.empty {α β : Type} {F : α → β → Prop} {xs : List α} {ys : List β} (h : Paired F xs ys) : ys.isEmpty = xs.isEmpty := by
  cases h <;> rfl
theorem truA_of (F : Fm R ρ O H) {a : A} {b : Bool} {x : V} (h : truA O a = some b) (r : RelA H ρ a x) (K : PySem.W.Frag) : TruV K x H b := by
  cases a with
  | non => unfold RelA at r; subst r; cases h; rfl
  | bl c => unfold RelA at r; subst r; cases h; rfl
  | int i => unfold RelA at r; subst r; cases h; rfl
  | str i => exact nomatch h
  | raw i => exact nomatch h
  | tup xs =>
    unfold RelA at r
    obtain ⟨p, vs, rfl, hp, rr⟩ := r
    cases h
    exact .inr (.inl ⟨vs, SqT.of hp, by rw [rr.empty]⟩)
  | tupk xs =>
    obtain ⟨p, vs, rfl, hp, rr⟩ := tupOf_of (K := K) (a := .tupk xs) rfl r
    cases h
    exact .inr (.inl ⟨vs, hp, by rw [rr.empty]⟩)
  | own n =>
    unfold truA at h
    cases e : lv O n with
    | none => simp only [e] at h; exact nomatch h
    | some o =>
      obtain ⟨p, ho, h1, h2, h3⟩ := F.ob n o e
      unfold RelA at r
      obtain ⟨q, rfl, hq⟩ := r
      rw [h1] at hq
      cases hq
      cases o with
      | lst xs =>
        simp only [e] at h
        cases h
        obtain ⟨vs, rfl, rr⟩ := h3
        exact .inl ⟨vs, SqL.of h2, by rw [rr.empty]⟩
      | dK kvs =>
        simp only [e] at h
        cases h
        obtain ⟨vs, rfl, rr⟩ := h3
        exact .inr (.inr ⟨vs, h2, by rw [Paired.empty rr]⟩)
      | dT kvs => simp only [e] at h; exact nomatch h
theorem lt_tru {e : Expr} {t : AE} (h : LE X B e t) (he : ∀ whole, isTrue e X.env whole = (do let v ← whole; standAt e.pos; holding [v] (truthy v)) := by intro _; rfl) : LT X B e (aTru t) := (pt_truth h he).imp fun σ H QV h => by
  obtain ⟨ρ, O, δ, Q, w, t, k⟩ := h
  refine ⟨ρ, O, δ, _, w, t, fun x H1 ρ1 O1 a F1 s1 ra t1 => ?_⟩
  cases e : truA O1 a with
  | none => simp only [e] at t1
  | some b =>
    simp only [e] at t1
    exact ⟨b, truA_of F1 e ra _, k _ _ _ _ F1 s1 t1⟩
end
end PyA

set_option Elab.async false
set_option linter.all false
set_option maxRecDepth 100000
set_option maxHeartbeats 2000000
/-! Displays, subscripts, calls, built-ins, methods. -/
namespace PyA
open PySem PySem.Spec L2
section
variable {X : Cx} {B : Bs} {R : Res} {pos : Pos} {ρ ρ' : List Addr} {O O' : Own} {H H' : Hp} {δ : Slots} {σ : L2.St}

/-! ### argument lists, displays -/
def aNil : AL := fun _ O Q => Q [] O
def aCons (t : AE) (ts : AL) : AL := fun δ O Q => t δ O fun a O1 => ts δ O1 fun as O2 => Q (a :: as) O2
theorem ll_nil : LL X B [] aNil := pa_nil.imp fun σ H QV ⟨ρ, O, δ, Q, w, t, k⟩ => k _ _ _ _ _ w.fm Sp.refl RelAs.nil t
theorem ll_cons {e : Expr} {es : List Expr} {t : AE} {ts : AL} (he : LE X B e t) (hs : LL X B es ts) (hst : starEach (e :: es) X.env = (false, eval e X.env) :: starEach es X.env := by rfl) : LL X B (e :: es) (aCons t ts) := (pa_cons he hs hst).imp fun σ H QV ⟨ρ, O, δ, Q, w, t, k⟩ => by
  refine ⟨ρ, O, δ, _, w, t, fun x H1 ρ1 O1 a F1 s1 ra t1 => ⟨ρ1, O1, δ, _, w.move F1 s1, t1, fun xs H2 ρ2 O2 as F2 s2 rs t2 => ?_⟩⟩
  exact k _ _ _ _ _ F2 (s1.trans w.fm F1 s2) (RelAs.cons (ra.step F1 s2) rs) t2
def aTup (ts : AL) : AE := fun δ O Q => ts δ O fun as O1 => as.length ≤ sizeLine ∧ Q (.tup as) O1
def aLst (ts : AL) : AE := fun δ O Q => ts δ O fun as O1 => as.length ≤ sizeLine ∧ Q (.own O1.length) (.lst as :: O1)
theorem le_tup {es : List Expr} {ts : AL} {k : Nat} (h : LL X B es ts) : LE X B (.Tuple es k pos) (aTup ts) := (pe_tup h).imp fun σ H QV ⟨ρ, O, δ, Q, w, t, k⟩ => by
  refine ⟨ρ, O, δ, _, w, t, fun vs H1 ρ1 O1 as F1 s1 rs t1 => ⟨by rw [← rs.length]; exact t1.1, fun p hp => ?_⟩⟩
  exact (k.next w.fm F1 s1).tup F1 hp rs t1.2
theorem le_lst {es : List Expr} {ts : AL} (h : LL X B es ts) : LE X B (.List es pos) (aLst ts) := (pe_lst h).imp fun σ H QV ⟨ρ, O, δ, Q, w, t, k⟩ => by
  refine ⟨ρ, O, δ, _, w, t, fun vs H1 ρ1 O1 as F1 s1 rs t1 => ⟨by rw [← rs.length]; exact t1.1, fun p hp => ?_⟩⟩
  exact (k.next w.fm F1 s1).new F1 hp (o := .lst as) ⟨vs, rfl, rs⟩ t1.2

/-! ### lists and tuples, read -/
def seqA (O : Own) : A → Option (List A)
  | .own n => match lv O n with | some (.lst xs) => some xs | _ => none
  | a => tupOf a
theorem seqA_of {K : PySem.W.Frag} (F : Fm R ρ O H) {a : A} {xs : List A} {x : V} (h : seqA O a = some xs) (r : RelA H ρ a x) : ∃ p vs, x = .ref p ∧ (SqL K H p vs ∨ SqT K H p vs) ∧ RelAs H ρ xs vs := by
  have tups : ∀ {b : A}, tupOf b = some xs → RelA H ρ b x → ∃ p vs, x = .ref p ∧ (SqL K H p vs ∨ SqT K H p vs) ∧ RelAs H ρ xs vs := fun {b} e rb => by
    obtain ⟨p, vs, e1, e2, e3⟩ := tupOf_of (K := K) e rb
    exact ⟨p, vs, e1, .inr e2, e3⟩
  cases a with
  | own n =>
    unfold seqA at h
    cases e : lv O n with
    | none => simp only [e] at h; cases h
    | some o =>
      cases o with
      | lst ys =>
        simp only [e] at h
        cases h
        obtain ⟨p, vs, e1, _, e2, e3⟩ := F.lst e r
        exact ⟨p, vs, e1, .inl (SqL.of e2), e3⟩
      | _ => simp only [e] at h; cases h
  | _ => exact tups (by unfold seqA at h; exact h) r
theorem RelAs.atI {xs : List A} {vs : List V} {i : Int} {x : A} (h : RelAs H ρ xs vs) (e : L2.atI xs i = some x) : ∃ v, L2.atI vs i = some v ∧ RelA H ρ x v := by
  unfold L2.atI at e ⊢
  rw [← h.length]
  cases q : ixN xs.length i with
  | none => rw [q] at e; cases e
  | some j =>
    rw [q] at e
    exact h.get e
def ixA : A2 := fun a b O Q => match seqA O a, b with
  | some xs, .int i => (match L2.atI xs i with | some v => Q v O | none => False)
  | _, _ => False
theorem le_ix {a b : Expr} {ta tb : AE} (ha : LE X B a ta) (hb : LE X B b tb) (hs : PlainIx b := by intro _ _; rfl) : LE X B (.Subscript a b pos) (aBin ixA ta tb) :=
  (pe_ix (r := l2 B.R ixA) (fun value slice pins s σ H x y v u QV I rx ry ⟨ρ, O, a, b, Q, F, ra, rb, h, k⟩ hs => by
    unfold ixA at h
    cases e1 : seqA O a with
    | none => simp only [e1] at h
    | some xs =>
      cases b with
      | int i =>
        simp only [e1] at h
        cases e2 : L2.atI xs i with
        | none => simp only [e2] at h
        | some z =>
          simp only [e2] at h
          obtain ⟨p, vs, rfl, sq, rr⟩ := seqA_of (K := X.K) F e1 ra
          obtain ⟨w, hw, rw'⟩ := rr.atI e2
          unfold RelA at rb
          rcases sq with sq | sq
          · exact ix_list value slice pins s σ H _ _ v u QV I rx ry ⟨p, vs, i, w, rfl, rb, sq, hw, k.here F rw' h⟩ hs
          · exact ix_tup value slice pins s σ H _ _ v u QV I rx ry ⟨p, vs, i, w, rfl, rb, sq, hw, k.here F rw' h⟩ hs
      | _ => simp only [e1] at h) ha hb hs).imp fun σ H QV h => lift2 h

/-! ### dicts -/
def keyOf : A → Option Key
  | .int i => some (.inl i)
  | .str x => some (.inr x)
  | _ => none
def keysOf : List A → Option (List Key)
  | [] => some []
  | a :: as => match keyOf a, keysOf as with | some k, some ks => some (k :: ks) | _, _ => none
def valA {κ : Type} [DecidableEq κ] (kvs : List (κ × A)) (k : κ) : Option A := (kvs.find? fun kv => decide (kv.1 = k)).map (·.2)
def putA {κ : Type} [DecidableEq κ] (kvs : List (κ × A)) (k : κ) (v : A) : List (κ × A) :=
  if (kvs.any fun kv => decide (kv.1 = k)) = true then kvs.map (fun kv => if kv.1 = k then (kv.1, v) else kv) else kvs ++ [(k, v)]
theorem keyOf_of {a : A} {k : Key} {x : V} (h : keyOf a = some k) (r : RelA H ρ a x) : x = kV k := by
  cases a <;> first
    | (cases h; done)
    | (cases h; unfold RelA at r; exact r)
theorem keysOf_of : ∀ {as : List A} {ks : List Key} {xs : List V}, keysOf as = some ks → RelAs H ρ as xs → xs = ks.map kV
  | [], ks, xs, h, r => by cases h; exact RelAs.nil_iff.mp r
  | a :: as, ks, xs, h, r => by
    unfold keysOf at h
    cases e1 : keyOf a with
    | none => simp only [e1] at h; cases h
    | some k =>
      cases e2 : keysOf as with
      | none => simp only [e1, e2] at h; cases h
      | some ks' =>
        simp only [e1, e2] at h
        cases h
        obtain ⟨v, r', rfl, h1, h2⟩ := RelAs.cons_iff.mp r
        rw [keyOf_of e1 h1, keysOf_of e2 h2]
        rfl
section
variable {κ : Type} [DecidableEq κ]
abbrev RelK (H : Hp) (ρ : List Addr) : List (κ × A) → List (κ × V) → Prop := Paired fun (p : κ × A) (q : κ × V) => p.1 = q.1 ∧ RelA H ρ p.2 q.2
theorem RelK.val : ∀ {kvs : List (κ × A)} {kws : List (κ × V)} (k : κ), RelK H ρ kvs kws → (∀ a, valA kvs k = some a → ∃ v, valV kws k = some v ∧ RelA H ρ a v) ∧ (valA kvs k = none → valV kws k = none)
  | _, _, k, .nil => ⟨fun a h => (nomatch h), fun _ => rfl⟩
  | _, _, k, .cons (a := p) (b := q) (l₁ := l) (l₂ := m) h t => by
    have ih := RelK.val k t
    by_cases e : p.1 = k
    · have e2 : q.1 = k := h.1 ▸ e
      rw [valV_pos e2]
      have : valA (p :: l) k = some p.2 := by unfold valA; rw [List.find?_cons, show decide (p.1 = k) = true from decide_eq_true e]; rfl
      rw [this]
      exact ⟨fun a z => ⟨q.2, rfl, Option.some.inj z ▸ h.2⟩, fun z => nomatch z⟩
    · have e2 : ¬ q.1 = k := fun z => e (h.1.trans z)
      rw [valV_neg e2]
      have : valA (p :: l) k = valA l k := by unfold valA; rw [List.find?_cons, show decide (p.1 = k) = false from decide_eq_false e]
      rw [this]
      exact ih
theorem RelK.any {kvs : List (κ × A)} {kws : List (κ × V)} (k : κ) (h : RelK H ρ kvs kws) : (kws.any fun kv => decide (kv.1 = k)) = (kvs.any fun kv => decide (kv.1 = k)) := by
  induction h with
  | nil => rfl
  | cons r t ih => rw [List.any_cons, List.any_cons, ih, r.1]
theorem RelK.length {kvs : List (κ × A)} {kws : List (κ × V)} (h : RelK H ρ kvs kws) : kvs.length = kws.length := by
  induction h with
  | nil => rfl
  | cons r t ih => rw [List.length_cons, List.length_cons, ih]
theorem RelK.append {kvs : List (κ × A)} {kws : List (κ × V)} {l : List (κ × A)} {m : List (κ × V)} (h : RelK H ρ kvs kws) (g : RelK H ρ l m) : RelK H ρ (kvs ++ l) (kws ++ m) := by
  induction h with
  | nil => exact g
  | cons r t ih => exact .cons r ih
theorem RelK.put {kvs : List (κ × A)} {kws : List (κ × V)} (k : κ) {a : A} {v : V} (h : RelK H ρ kvs kws) (r : RelA H ρ a v) : RelK H ρ (putA kvs k a) (putK kws k v) := by
  unfold putA putK
  rw [h.any k]
  by_cases e : (kvs.any fun kv => decide (kv.1 = k)) = true
  · rw [if_pos e, if_pos e]
    clear e
    induction h with
    | nil => exact .nil
    | @cons p q l m r' t ih =>
      rw [List.map_cons, List.map_cons]
      refine .cons ?_ ih
      by_cases e : p.1 = k
      · rw [if_pos e, if_pos (r'.1 ▸ e)]; exact ⟨r'.1, r⟩
      · rw [if_neg e, if_neg (fun z => e (r'.1.trans z))]; exact r'
  · rw [if_neg e, if_neg e]
    exact h.append (.cons ⟨rfl, r⟩ .nil)
end
/-- what d[k] is: found or not; none where this is no such dict or key -/
def dgetA (O : Own) (d k : A) : Option (Option A) := match d with
  | .own n => match lv O n, k with
    | some (.dK kvs), k => (keyOf k).map (valA kvs)
    | some (.dT kvs), .tup ks => (keysOf ks).map (valA kvs)
    | _, _ => none
  | _ => none
theorem dgetA_of (F : Fm R ρ O H) {d k : A} {o : Option A} {x y : V} (h : dgetA O d k = some o) (rd : RelA H ρ d x) (rk : RelA H ρ k y) :
    ∃ a u, x = .ref a ∧ IsD H a ∧ DGet H a y u ∧ (∀ z, o = some z → ∃ v, u = some v ∧ RelA H ρ z v) ∧ (o = none → u = none) := by
  cases d with
  | own n =>
    unfold dgetA at h
    cases e : lv O n with
    | none => simp only [e] at h; cases h
    | some ob =>
      obtain ⟨p, ho, h1, h2, h3⟩ := F.ob n ob e
      unfold RelA at rd
      obtain ⟨q, rfl, hq⟩ := rd
      rw [h1] at hq
      cases hq
      cases ob with
      | lst xs => simp only [e] at h; cases h
      | dK kvs =>
        simp only [e] at h
        obtain ⟨kws, rfl, rr⟩ := h3
        cases e2 : keyOf k with
        | none => rw [e2] at h; cases h
        | some kk =>
          rw [e2] at h
          cases h
          have ev := RelK.val kk rr
          rw [keyOf_of e2 rk]
          exact ⟨p, _, rfl, .inl ⟨_, .inl h2⟩, DGet.k h2, ev.1, ev.2⟩
      | dT kvs =>
        cases k with
        | tup ks =>
          simp only [e] at h
          obtain ⟨kws, rfl, rr⟩ := h3
          cases e2 : keysOf ks with
          | none => rw [e2] at h; cases h
          | some kk =>
            rw [e2] at h
            cases h
            have ev := RelK.val kk rr
            unfold RelA at rk
            obtain ⟨b, vs, rfl, hb, rs⟩ := rk
            rw [keysOf_of e2 rs] at hb
            exact ⟨p, _, rfl, .inr ⟨_, .inl h2⟩, DGet.t h2 hb, ev.1, ev.2⟩
        | _ => simp only [e] at h; cases h
  | _ => cases h
/-- d[k], there -/
def dixA : A2 := fun d k O Q => match dgetA O d k with | some (some v) => Q v O | _ => False
theorem le_dix {a b : Expr} {ta tb : AE} {k : Nat} (hr : Room k X.A) (ha : LE X B a ta) (hb : LE X B b tb) (hs : NoSl b := by exact fun _ _ => rfl) : LE X B (.Subscript a b pos) (aBin dixA ta tb) := (pe_dget (hu_of hr) ha hb hs).imp fun σ H QV h => by
  have h := lift2 h
  refine lE.mono h fun x H1 h => lE.mono h fun y H2 h => ?_
  obtain ⟨ρ, O, d, k, Q, F, rd, rk, hh, kk⟩ := h
  unfold dixA at hh
  cases e : dgetA O d k with
  | none => simp only [e] at hh
  | some o =>
    cases o with
    | none => simp only [e] at hh
    | some z =>
      simp only [e] at hh
      obtain ⟨a, u, rfl, _, g, h1, _⟩ := dgetA_of F e rd rk
      obtain ⟨v, rfl, rv⟩ := h1 z rfl
      exact ⟨a, v, rfl, g, kk.here F rv hh⟩
/-- k in d -/
def dinA : A2 := fun k d O Q => match dgetA O d k with | some o => Q (.bl o.isSome) O | _ => False
def dnotinA : A2 := fun k d O Q => match dgetA O d k with | some o => Q (.bl (!o.isSome)) O | _ => False
theorem isSome_of {o : Option A} {u : Option V} (h1 : ∀ z, o = some z → ∃ v, u = some v ∧ RelA H ρ z v) (h2 : o = none → u = none) : u.isSome = o.isSome := by
  cases o with
  | none => rw [h2 rfl]; rfl
  | some z => obtain ⟨v, rfl, _⟩ := h1 z rfl; rfl
theorem lift_in {ta tb : AE} {QV : VK} (h : lE B (aBin dinA ta tb) σ H QV) : tDIn (lE B ta) (lE B tb) σ H QV := by
  have h := lift2 h
  refine lE.mono h fun x H1 h => lE.mono h fun y H2 h => ?_
  obtain ⟨ρ, O, k, d, Q, F, rk, rd, h, kk⟩ := h
  unfold dinA at h
  cases e : dgetA O d k with
  | none => simp only [e] at h
  | some o =>
    simp only [e] at h
    obtain ⟨a, u, rfl, _, g, h1, h2⟩ := dgetA_of F e rd rk
    exact ⟨a, u, rfl, g, by rw [isSome_of h1 h2]; exact kk.here F rel_bl h⟩
theorem lift_notin {ta tb : AE} {QV : VK} (h : lE B (aBin dnotinA ta tb) σ H QV) : tDNotIn (lE B ta) (lE B tb) σ H QV := by
  have h := lift2 h
  refine lE.mono h fun x H1 h => lE.mono h fun y H2 h => ?_
  obtain ⟨ρ, O, k, d, Q, F, rk, rd, h, kk⟩ := h
  unfold dnotinA at h
  cases e : dgetA O d k with
  | none => simp only [e] at h
  | some o =>
    simp only [e] at h
    obtain ⟨a, u, rfl, _, g, h1, h2⟩ := dgetA_of F e rd rk
    exact ⟨a, u, rfl, g, by rw [isSome_of h1 h2]; exact kk.here F rel_bl h⟩
theorem le_din {a b : Expr} {ta tb : AE} {k : Nat} (hr : Room k X.A) (ha : LE X B a ta) (hb : LE X B b tb) (h1 : behindInMarks .In b = false := by rfl) : LE X B (.Compare a [.In] [b] pos) (aBin dinA ta tb) := (pe_cmp (pc_din (hu_of hr) ha hb) h1).imp fun σ H QV h => lift_in h
theorem le_dnotin {a b : Expr} {ta tb : AE} {k : Nat} (hr : Room k X.A) (ha : LE X B a ta) (hb : LE X B b tb) (h1 : behindInMarks .NotIn b = false := by rfl) : LE X B (.Compare a [.NotIn] [b] pos) (aBin dnotinA ta tb) := (pe_cmp (pc_dnotin (hu_of hr) ha hb) h1).imp fun σ H QV h => lift_notin h
theorem lt_din {a b : Expr} {ta tb : AE} {k : Nat} (hr : Room k X.A) (ha : LE X B a ta) (hb : LE X B b tb) (h1 : behindInMarks .In b = false := by rfl) : LT X B (.Compare a [.In] [b] pos) (aBl (aBin dinA ta tb)) := (pt_cmp (pc_din (hu_of hr) ha hb) h1).imp fun σ H QV h => lift_in (liftB h)
theorem lt_dnotin {a b : Expr} {ta tb : AE} {k : Nat} (hr : Room k X.A) (ha : LE X B a ta) (hb : LE X B b tb) (h1 : behindInMarks .NotIn b = false := by rfl) : LT X B (.Compare a [.NotIn] [b] pos) (aBl (aBin dnotinA ta tb)) := (pt_cmp (pc_dnotin (hu_of hr) ha hb) h1).imp fun σ H QV h => lift_notin (liftB h)
def aNewK : AE := fun _ O Q => Q (.own O.length) (.dK [] :: O)
def aNewT : AE := fun _ O Q => Q (.own O.length) (.dT [] :: O)
theorem le_newK : LE X B (.Dict [] [] pos) aNewK := pe_dnewK.imp fun σ H QV ⟨ρ, O, δ, Q, w, t, k⟩ p hp => k.new w.fm hp (o := .dK []) ⟨[], rfl, .nil⟩ t
theorem le_newT : LE X B (.Dict [] [] pos) aNewT := pe_dnewT.imp fun σ H QV ⟨ρ, O, δ, Q, w, t, k⟩ p hp => k.new w.fm hp (o := .dT []) ⟨[], rfl, .nil⟩ t
def isDictA (O : Own) : A → Bool
  | .own n => match lv O n with | some (.dK _) => true | some (.dT _) => true | _ => false
  | _ => false
theorem isDictA_of (F : Fm R ρ O H) {d : A} {x : V} (h : isDictA O d = true) (rd : RelA H ρ d x) : ∃ a, x = .ref a ∧ IsD H a := by
  cases d with
  | own n =>
    unfold isDictA at h
    cases e : lv O n with
    | none => simp only [e] at h; cases h
    | some ob =>
      obtain ⟨p, ho, h1, h2, h3⟩ := F.ob n ob e
      unfold RelA at rd
      obtain ⟨q, rfl, hq⟩ := rd
      rw [h1] at hq
      cases hq
      cases ob with
      | lst xs => simp only [e] at h; cases h
      | dK kvs =>
        obtain ⟨kws, rfl, rr⟩ := h3
        exact ⟨p, rfl, .inl ⟨_, .inl h2⟩⟩
      | dT kvs =>
        obtain ⟨kws, rfl, rr⟩ := h3
        exact ⟨p, rfl, .inr ⟨_, .inl h2⟩⟩
  | _ => cases h
def aDget2 (td tk tz : AE) : AE := fun δ O Q => td δ O fun d O1 => isDictA O1 d = true ∧ tk δ O1 fun k O2 => tz δ O2 fun z O3 => match dgetA O3 d k with | some o => Q (o.getD z) O3 | _ => False
theorem le_dget2 {o e f : Expr} {td tk tz : AE} {k : Nat} {apos : Pos} (hr : Room k X.A) (ho : LE X B o td) (he : LE X B e tk) (hf : LE X B f tz) (m : M2 X o "get" apos e f pos) : LE X B (.Call (.Attribute o "get" apos) [e, f] [] pos) (aDget2 td tk tz) := (pe_dget2 (hu_of hr) ho he hf m).imp fun σ H QV ⟨ρ, O, δ, Q, w, t, kk⟩ => by
  refine ⟨ρ, O, δ, _, w, t, fun x H1 ρ1 O1 d F1 s1 rd t1 => ?_⟩
  obtain ⟨hd, t1⟩ := t1
  obtain ⟨a, rfl, isd⟩ := isDictA_of F1 hd rd
  refine ⟨a, rfl, isd, ρ1, O1, δ, _, w.move F1 s1, t1, fun y H2 ρ2 O2 k F2 s2 rk t2 => ⟨ρ2, O2, δ, _, (w.move F1 s1).move F2 s2, t2, fun z H3 ρ3 O3 zz F3 s3 rz t3 => ?_⟩⟩
  cases e : dgetA O3 d k with
  | none => simp only [e] at t3
  | some o =>
    simp only [e] at t3
    obtain ⟨a', u, e1, _, g, h1, h2⟩ := dgetA_of F3 e ((rd.step F1 s2).step F2 s3) (rk.step F2 s3)
    cases e1
    have kk3 := ((kk.next w.fm F1 s1).next F1 F2 s2).next F2 F3 s3
    refine ⟨u, g, ?_⟩
    cases o with
    | none => rw [h2 rfl]; exact kk3.here F3 rz t3
    | some c =>
      obtain ⟨v, rfl, rv⟩ := h1 c rfl
      exact kk3.here F3 rv t3

/-! ### calls of one's own defs -/
/-- a def's promise: the arguments, the store, the wanted end, the wanted exception -/
abbrev ASp := List A → Own → AK → (Value → Own → Prop) → Prop
def liftSp (R : Res) (sp : ASp) : L2.Sp := fun vs H QV E => ∃ ρ O as Q QE, Fm R ρ O H ∧ RelAs H ρ as vs ∧ sp as O Q QE ∧ KE R ρ H Q QV ∧ ∀ cls H' ρ' O', Fm R ρ' O' H' → Sp R ρ H ρ' H' → QE cls O' → E cls none H'
abbrev noEx : Value → Own → Prop := fun _ _ => False
def aCall (sp : ASp) (ex : Value → Own → Prop) (ts : AL) : AE := fun δ O Q => ts δ O fun as O1 => sp as O1 Q ex
section
variable {k : Nat} {f : Addr} {fd : FuncData} {ps ks : List Str} {sp : ASp} {x : Str} {p : Pos} {e : Expr} {es : List Expr} {ts : AL} {kws : List Keyword}
theorem le_call (G : FnOk X.prog X.w X.K X.mg X.base CX0 k f fd ps (liftSp B.R sp)) (hr : Room k X.A) (hg : Gl X x) (hm : X.mg x = some (.ref f)) (hk : PySem.W.keepIn X.K (.ref f) = true) (hb : Binds X.K fd ps [])
    (ha : LL X B (e :: es) ts) (hdb : (x == ("__debug__" : Str)) = false := by decide) (he : starEach (e :: es) X.env = (false, eval e X.env) :: starEach es X.env := by rfl) (hpl : (backTo pos (starEach es X.env)).any (·.1) = false := by rfl) :
    LE X B (.Call (.Name x p) (e :: es) [] pos) (aCall sp noEx ts) := (pe_call G hr hg hm hk hb .nil pass0 ha hdb he hpl).imp fun σ H QV ⟨ρ, O, δ, Q, w, t, kk⟩ => by
  refine ⟨ρ, O, δ, _, w, t, fun vs H1 ρ1 O1 as F1 s1 rs t1 => ⟨ρ1, O1, as, Q, noEx, F1, ?_, t1, kk.next w.fm F1 s1, fun _ _ _ _ _ _ z => z.elim⟩⟩
  rw [List.append_nil]
  exact rs
/-- what is wanted of an exception that leaves -/
structure Thr (X : Cx) (B : Bs) : Prop where
  ex : ∃ W, Takes X W ∧ ∀ cls σ H ρ O, Fm B.R ρ O H → Sp B.R B.ρ B.H ρ H → B.ex cls O → W cls none σ H
abbrev thrE (B : Bs) : XK := fun cls d H => d = none ∧ ∃ ρ O, Fm B.R ρ O H ∧ Sp B.R B.ρ B.H ρ H ∧ B.ex cls O
theorem Thr.passes (t : Thr X B) : Passes (CX X.prog X.w) X (thrE B) := by
  obtain ⟨W, tk, h⟩ := t.ex
  intro pins σ H s e s' I c
  exact passes_call tk (E := thrE B) (fun cls d σ H ⟨e, ρ, O, F, s, x⟩ => e ▸ h cls σ H ρ O F s x) pins σ H s e s' I c
theorem le_callX (th : Thr X B) (G : FnOk X.prog X.w X.K X.mg X.base (CX X.prog X.w) k f fd ps (liftSp B.R sp)) (hr : Room k X.A) (hg : Gl X x) (hm : X.mg x = some (.ref f)) (hk : PySem.W.keepIn X.K (.ref f) = true) (hb : Binds X.K fd ps [])
    (ha : LL X B (e :: es) ts) (hdb : (x == ("__debug__" : Str)) = false := by decide) (he : starEach (e :: es) X.env = (false, eval e X.env) :: starEach es X.env := by rfl) (hpl : (backTo pos (starEach es X.env)).any (·.1) = false := by rfl) :
    LE X B (.Call (.Name x p) (e :: es) [] pos) (aCall sp B.ex ts) := (pe_call G hr hg hm hk hb .nil th.passes ha hdb he hpl).imp fun σ H QV ⟨ρ, O, δ, Q, w, t, kk⟩ => by
  refine ⟨ρ, O, δ, _, w, t, fun vs H1 ρ1 O1 as F1 s1 rs t1 => ⟨ρ1, O1, as, Q, B.ex, F1, ?_, t1, kk.next w.fm F1 s1, fun cls H' ρ' O' F' s' z => ⟨rfl, ρ', O', F', ?_, z⟩⟩⟩
  · rw [List.append_nil]
    exact rs
  · exact (w.move F1 s1).sp.trans w.f0 F1 s'
end
end
end PyA

set_option Elab.async false
set_option linter.all false
set_option maxRecDepth 100000
set_option maxHeartbeats 2000000
/-! Built-in functions, built-in methods, keywords. -/
namespace PyA
open PySem PySem.Spec L2
section
variable {X : Cx} {B : Bs} {R : Res} {pos : Pos} {ρ ρ' : List Addr} {O O' : Own} {H H' : Hp} {δ : Slots} {σ : L2.St}
abbrev AC := List A → Own → AK → Prop
def lC (R : Res) (f : AC) : List V → Hp → VK → Prop := fun vs H QV => ∃ ρ O as Q, Fm R ρ O H ∧ RelAs H ρ as vs ∧ f as O Q ∧ KE R ρ H Q QV
abbrev CallL (X : Cx) (R : Res) (f : Value) (g : AC) : Prop := CallR X f (lC R g)
def aFn (g : AC) (ts : AL) : AE := fun δ O Q => ts δ O fun as O1 => g as O1 Q
theorem liftC {g : AC} {ts : AL} {QV : VK} (h : lE B (aFn g ts) σ H QV) : lL B ts σ H fun vs H1 => lC B.R g vs H1 QV := by
  obtain ⟨ρ, O, δ, Q, w, t, k⟩ := h
  exact ⟨ρ, O, δ, _, w, t, fun vs H1 ρ1 O1 as F1 s1 ra t1 => ⟨ρ1, O1, as, Q, F1, ra, t1, k.next w.fm F1 s1⟩⟩
section
variable {x : Str} {p : Pos} {e : Expr} {es : List Expr} {ts : AL} {id T : String} {g : AC}
theorem le_bi (hc : CallL X B.R (.builtin id) g) (hg : Gl X x) (hm : X.mg x = none) (hv : bootBuiltins x = some (.builtin id)) (ha : LL X B (e :: es) ts) (hn : x ≠ "__name__" := by decide) (hdb : (x == ("__debug__" : Str)) = false := by decide)
    (he : starEach (e :: es) X.env = (false, eval e X.env) :: starEach es X.env := by rfl) (hpl : (backTo pos (starEach es X.env)).any (·.1) = false := by rfl) : LE X B (.Call (.Name x p) (e :: es) [] pos) (aFn g ts) :=
  (pe_callB hc hg hm hv ha hn hdb he hpl).imp fun σ H QV h => liftC h
theorem le_ty (hc : CallL X B.R (.type T) g) (hg : Gl X x) (hm : X.mg x = none) (hv : bootBuiltins x = some (.type T)) (ha : LL X B (e :: es) ts) (hn : x ≠ "__name__" := by decide) (hdb : (x == ("__debug__" : Str)) = false := by decide)
    (he : starEach (e :: es) X.env = (false, eval e X.env) :: starEach es X.env := by rfl) (hpl : (backTo pos (starEach es X.env)).any (·.1) = false := by rfl) : LE X B (.Call (.Name x p) (e :: es) [] pos) (aFn g ts) :=
  (pe_callTy hc hg hm hv ha hn hdb he hpl).imp fun σ H QV h => liftC h
/-- a built-in class as a value -/
theorem le_cls (hg : Gl X x) (hm : X.mg x = none) (hv : bootBuiltins x = some (.type T)) (hn : x ≠ "__name__" := by decide) (hd : (x == ("__debug__" : Str)) = false := by decide) : LE X B (.Name x pos) (aC (.raw (.ty T))) :=
  (pe_bltn hg hm hv (v := .ty T) rfl hn hd).imp fun σ H QV ⟨ρ, O, δ, Q, w, t, k⟩ => k.here w.fm rel_raw t
end
theorem rel1 {a : A} {vs : List V} (r : RelAs H ρ [a] vs) : ∃ v, vs = [v] ∧ RelA H ρ a v := by
  obtain ⟨v, r, rfl, h1, h2⟩ := RelAs.cons_iff.mp r
  rw [RelAs.nil_iff.mp h2]
  exact ⟨v, rfl, h1⟩
theorem rel2 {a b : A} {vs : List V} (r : RelAs H ρ [a, b] vs) : ∃ v w, vs = [v, w] ∧ RelA H ρ a v ∧ RelA H ρ b w := by
  obtain ⟨v, r, rfl, h1, h2⟩ := RelAs.cons_iff.mp r
  obtain ⟨w, rfl, h3⟩ := rel1 h2
  exact ⟨v, w, rfl, h1, h3⟩
def bLen : AC
  | [.str x], O, Q => x.length ≤ sizeLine ∧ Q (.int x.length) O
  | [a], O, Q => match seqA O a with | some xs => Q (.int xs.length) O | none => False
  | _, _, _ => False
theorem lenV_of {K : PySem.W.Frag} (F : Fm R ρ O H) {a : A} {xs : List A} {x : V} (h : seqA O a = some xs) (r : RelA H ρ a x) : LenV K x H xs.length := by
  obtain ⟨p, vs, rfl, sq, rr⟩ := seqA_of (K := K) F h r
  rw [rr.length]
  rcases sq with sq | sq
  · exact .inl ⟨vs, sq, rfl⟩
  · exact .inr ⟨vs, sq, rfl⟩
theorem bl_len : CallL X R (.builtin "len") bLen := by
  intro pins s σ H vs us QV I r ⟨ρ, O, as, Q, F, rs, h, k⟩
  cases as with
  | nil => exact False.elim h
  | cons a as =>
    cases as with
    | cons b c => unfold bLen at h; cases a <;> exact False.elim h
    | nil =>
      obtain ⟨v, rfl, ra⟩ := rel1 rs
      have seqs : (match seqA O a with | some xs => Q (.int xs.length) O | none => False) → wpAny (model X.prog X.w) X.A (call (.builtin "len") us) (EP X pins σ QV) X.xe s := by
        intro h
        cases e : seqA O a with
        | none => simp only [e] at h
        | some xs =>
          simp only [e] at h
          exact call_len pins s σ H _ us QV I r ⟨v, _, rfl, lenV_of F e ra, k.here F rel_int h⟩
      cases a with
      | str x =>
        unfold RelA at ra
        subst ra
        exact call_len pins s σ H _ us QV I r ⟨.str x, _, rfl, ⟨h.1, rfl⟩, k.here F rel_int h.2⟩
      | _ => exact seqs h
def bAbs : AC
  | [.int i], O, Q => Q (.int (if i < 0 then -i else i)) O
  | _, _, _ => False
theorem bl_abs : CallL X R (.builtin "abs") bAbs := by
  intro pins s σ H vs us QV I r ⟨ρ, O, as, Q, F, rs, h, k⟩
  unfold bAbs at h
  split at h
  · obtain ⟨v, rfl, ra⟩ := rel1 rs
    unfold RelA at ra
    subst ra
    exact call_abs pins s σ H _ us QV I r ⟨_, rfl, k.here F rel_int h⟩
  · exact h.elim
def tInt : AC
  | [.int i], O, Q => Q (.int i) O
  | [.bl b], O, Q => Q (.int (if b then 1 else 0)) O
  | _, _, _ => False
theorem tl_int : CallL X R (.type "int") tInt := by
  intro pins s σ H vs us QV I r ⟨ρ, O, as, Q, F, rs, h, k⟩
  unfold tInt at h
  split at h
  · obtain ⟨v, rfl, ra⟩ := rel1 rs
    unfold RelA at ra
    subst ra
    exact call_int1 pins s σ H _ us QV I r (.inl ⟨_, rfl, k.here F rel_int h⟩)
  · obtain ⟨v, rfl, ra⟩ := rel1 rs
    unfold RelA at ra
    subst ra
    exact call_int1 pins s σ H _ us QV I r (.inr ⟨_, rfl, k.here F rel_int h⟩)
  · exact h.elim
def tStr : AC
  | [.int i], O, Q => i.natAbs.log2 < 1920 ∧ Q (.str (toString i)) O
  | _, _, _ => False
theorem tl_str : CallL X R (.type "str") tStr := by
  intro pins s σ H vs us QV I r ⟨ρ, O, as, Q, F, rs, h, k⟩
  unfold tStr at h
  split at h
  · obtain ⟨v, rfl, ra⟩ := rel1 rs
    unfold RelA at ra
    subst ra
    exact call_str_int pins s σ H _ us QV I r ⟨_, rfl, h.1, k.here F rel_str h.2⟩
  · exact h.elim
def tList : AC
  | [a], O, Q => match seqA O a with | some xs => Q (.own O.length) (.lst xs :: O) | none => False
  | _, _, _ => False
theorem tl_list : CallL X R (.type "list") tList := by
  intro pins s σ H vs us QV I r ⟨ρ, O, as, Q, F, rs, h, k⟩
  unfold tList at h
  split at h
  · rename_i a
    obtain ⟨v, rfl, ra⟩ := rel1 rs
    cases e : seqA O a with
    | none => simp only [e] at h
    | some xs =>
      simp only [e] at h
      obtain ⟨p, ws, rfl, sq, rr⟩ := seqA_of (K := X.K) F e ra
      exact call_list_of pins s σ H _ us QV I r ⟨p, ws, rfl, sq, fun l hl => k.new F hl (o := .lst xs) ⟨ws, rfl, rr⟩ h⟩
  · exact h.elim
def tTuple : AC
  | [.own n], O, Q => match lv O n with | some (.lst xs) => Q (.tup xs) O | _ => False
  | [a], O, Q => match tupOf a with | some _ => Q a O | none => False
  | _, _, _ => False
theorem tl_tuple : CallL X R (.type "tuple") tTuple := by
  intro pins s σ H vs us QV I r ⟨ρ, O, as, Q, F, rs, h, k⟩
  unfold tTuple at h
  split at h
  · rename_i n
    obtain ⟨v, rfl, ra⟩ := rel1 rs
    cases e : lv O n with
    | none => simp only [e] at h
    | some o =>
      cases o with
      | lst xs =>
        simp only [e] at h
        obtain ⟨p, ws, rfl, _, hp, rr⟩ := F.lst e ra
        exact call_tuple_of pins s σ H _ us QV I r ⟨p, ws, rfl, .inl ⟨SqL.of hp, fun l hl => k.tup F hl rr h⟩⟩
      | _ => simp only [e] at h
  · rename_i a _
    obtain ⟨v, rfl, ra⟩ := rel1 rs
    cases e : tupOf a with
    | none => simp only [e] at h
    | some xs =>
      simp only [e] at h
      obtain ⟨p, ws, rfl, sq, rr⟩ := tupOf_of (K := X.K) e ra
      exact call_tuple_of pins s σ H _ us QV I r ⟨p, ws, rfl, .inr ⟨sq, k.here F ra h⟩⟩
  · exact h.elim
def intsOf : List A → Option (List Int)
  | [] => some []
  | .int i :: r => (intsOf r).map (i :: ·)
  | _ => none
theorem intsOf_map (ns : List Int) : intsOf (ns.map A.int) = some ns := by
  induction ns with
  | nil => rfl
  | cons n ns ih => rw [List.map_cons]; unfold intsOf; rw [ih]; rfl
theorem intsOf_eq : ∀ {xs : List A} {ns : List Int}, intsOf xs = some ns → xs = ns.map A.int
  | [], ns, h => by cases h; rfl
  | a :: r, ns, h => by
    cases a with
    | int i =>
      unfold intsOf at h
      cases e : intsOf r with
      | none => rw [e] at h; cases h
      | some ms => rw [e] at h; cases h; rw [intsOf_eq e]; rfl
    | _ => cases h
def strsOf : List A → Option (List Str)
  | [] => some []
  | .str i :: r => (strsOf r).map (i :: ·)
  | _ => none
theorem strsOf_map (ns : List Str) : strsOf (ns.map A.str) = some ns := by
  induction ns with
  | nil => rfl
  | cons n ns ih => rw [List.map_cons]; unfold strsOf; rw [ih]; rfl
theorem strsOf_eq : ∀ {xs : List A} {ns : List Str}, strsOf xs = some ns → xs = ns.map A.str
  | [], ns, h => by cases h; rfl
  | a :: r, ns, h => by
    cases a with
    | str i =>
      unfold strsOf at h
      cases e : strsOf r with
      | none => rw [e] at h; cases h
      | some ms => rw [e] at h; cases h; rw [strsOf_eq e]; rfl
    | _ => cases h
theorem RelAs.strs : ∀ {ns : List Str} {vs : List V}, RelAs H ρ (ns.map A.str) vs → vs = ns.map V.str
  | [], _, h => RelAs.nil_iff.mp h
  | n :: ns, _, h => by
    obtain ⟨v, r, rfl, h1, h2⟩ := RelAs.cons_iff.mp h
    unfold RelA at h1
    rw [h1, RelAs.strs h2]
    rfl
/-- isinstance of a built-in class -/
def tyName (O : Own) : A → Option String
  | .non => some "NoneType"
  | .bl _ => some "bool"
  | .int _ => some "int"
  | .str _ => some "str"
  | .tup _ => some "tuple"
  | .tupk _ => some "tuple"
  | .own n => match lv O n with | some (.lst _) => some "list" | some (.dK _) => some "dict" | some (.dT _) => some "dict" | none => none
  | .raw _ => none
theorem tyName_of {K : PySem.W.Frag} (F : Fm R ρ O H) {a : A} {n : String} {x : V} (h : tyName O a = some n) (r : RelA H ρ a x) : TyX K H x (.type n) := by
  cases a with
  | non => cases h; unfold RelA at r; subst r; exact .base .non
  | bl b => cases h; unfold RelA at r; subst r; exact .base (.bl b)
  | int b => cases h; unfold RelA at r; subst r; exact .base (.int b)
  | str b => cases h; unfold RelA at r; subst r; exact .base (.str b)
  | tup xs => cases h; unfold RelA at r; obtain ⟨p, vs, rfl, hp, _⟩ := r; exact .base (.tup hp)
  | tupk xs => cases h; unfold RelA at r; obtain ⟨p, vs, o, rfl, hp, _⟩ := r; exact .fTuple hp
  | raw v => cases h
  | own m =>
    unfold tyName at h
    cases e : lv O m with
    | none => simp only [e] at h; cases h
    | some ob =>
      obtain ⟨p, ho, h1, h2, h3⟩ := F.ob m ob e
      unfold RelA at r
      obtain ⟨q, rfl, hq⟩ := r
      rw [h1] at hq
      cases hq
      cases ob with
      | lst xs => simp only [e] at h; cases h; obtain ⟨kws, rfl, rr⟩ := h3; exact .base (.lst h2)
      | dK kvs => simp only [e] at h; cases h; obtain ⟨kws, rfl, rr⟩ := h3; exact .base (.dK h2)
      | dT kvs => simp only [e] at h; cases h; obtain ⟨kws, rfl, rr⟩ := h3; exact .base (.dT h2)
/-- the answers that are needed, in full -/
def isiT : List (String × String × Bool) := [("NoneType", "bool", false), ("NoneType", "int", false), ("NoneType", "str", false), ("NoneType", "tuple", false), ("NoneType", "list", false),
  ("bool", "bool", true), ("bool", "int", true), ("bool", "str", false), ("bool", "tuple", false), ("bool", "list", false), ("int", "bool", false), ("int", "int", true), ("int", "str", false), ("int", "tuple", false), ("int", "list", false),
  ("str", "bool", false), ("str", "int", false), ("str", "str", true), ("str", "tuple", false), ("str", "list", false), ("tuple", "bool", false), ("tuple", "int", false), ("tuple", "str", false), ("tuple", "tuple", true), ("tuple", "list", false),
  ("list", "bool", false), ("list", "int", false), ("list", "str", false), ("list", "tuple", false), ("list", "list", true)]
theorem isiT_ok : ∀ q ∈ isiT, kitB q.1 q.2.1 = some q.2.2 := by decide +kernel
def isiA (a b : String) : Option Bool := (isiT.find? fun q => q.1 == a && q.2.1 == b).map (·.2.2)
theorem isiA_ok {a b : String} {c : Bool} (h : isiA a b = some c) : kitB a b = some c := by
  unfold isiA at h
  cases e : isiT.find? fun q => q.1 == a && q.2.1 == b with
  | none => rw [e] at h; cases h
  | some q =>
    rw [e] at h
    cases h
    have h1 := List.find?_some e
    simp only [Bool.and_eq_true, beq_iff_eq] at h1
    have h2 := isiT_ok q (List.mem_of_find?_eq_some e)
    rw [h1.1, h1.2] at h2
    exact h2
def bIsi : AC
  | [a, .raw (.ty c)], O, Q => match tyName O a with | some n => (match isiA n c with | some b => Q (.bl b) O | none => False) | none => False
  | _, _, _ => False
theorem bl_isi : CallL X R (.builtin "isinstance") bIsi := by
  intro pins s σ H vs us QV I r ⟨ρ, O, as, Q, F, rs, h, k⟩
  unfold bIsi at h
  split at h
  · rename_i a c
    obtain ⟨v, w, rfl, ra, rc⟩ := rel2 rs
    unfold RelA at rc
    subst rc
    cases e : tyName O a with
    | none => simp only [e] at h
    | some n =>
      simp only [e] at h
      cases e2 : isiA n c with
      | none => simp only [e2] at h
      | some b =>
        simp only [e2] at h
        exact call_isi pins s σ H _ us QV I r ⟨v, .ty c, .type n, .type c, b, rfl, .ty c, tyName_of F e ra, kit_ty (isiA_ok e2), k.here F rel_bl h⟩
  · exact h.elim
/-- sum of a list of ints -/
def bSum : AC
  | [.own n], O, Q => match lv O n with | some (.lst xs) => (match intsOf xs with | some ns => Q (.int ns.sum) O | none => False) | _ => False
  | _, _, _ => False
theorem bl_sum (hc : X.calm = true) : CallL X R (.builtin "sum") bSum := by
  intro pins s σ H vs us QV I r ⟨ρ, O, as, Q, F, rs, h, k⟩
  unfold bSum at h
  split at h
  · rename_i n
    obtain ⟨v, rfl, ra⟩ := rel1 rs
    cases e : lv O n with
    | none => simp only [e] at h
    | some o =>
      cases o with
      | lst xs =>
        simp only [e] at h
        cases e2 : intsOf xs with
        | none => simp only [e2] at h
        | some ns =>
          simp only [e2] at h
          obtain ⟨p, ws, rfl, _, hp, rr⟩ := F.lst e ra
          rw [intsOf_eq e2] at rr
          rw [rr.ints] at hp
          exact cr_sum hc pins s σ H _ us QV I r ⟨p, ns, rfl, SqL.of hp, k.here F rel_int h⟩
      | _ => simp only [e] at h
  · exact h.elim

/-! ### methods -/
abbrev AM := A → List A → Own → AK → Prop
def lM (R : Res) (f : AM) : V → List V → Hp → VK → Prop := fun x vs H QV => ∃ ρ O a as Q, Fm R ρ O H ∧ RelA H ρ a x ∧ RelAs H ρ as vs ∧ f a as O Q ∧ KE R ρ H Q QV
abbrev MtL (X : Cx) (R : Res) (id : String) (g : AM) : Prop := MtR X id (lM R g)
/-- the receiver is a list -/
def isLst (O : Own) : A → Bool
  | .own n => match lv O n with | some (.lst _) => true | _ => false
  | _ => false
theorem isLst_of (F : Fm R ρ O H) {a : A} {x : V} (h : isLst O a = true) (r : RelA H ρ a x) : ∃ n xs p vs, a = .own n ∧ lv O n = some (.lst xs) ∧ x = .ref p ∧ H p = some (.lst vs) := by
  cases a with
  | own n =>
    unfold isLst at h
    cases e : lv O n with
    | none => simp only [e] at h; cases h
    | some o =>
      cases o with
      | lst xs =>
        obtain ⟨p, vs, e1, _, e2, _⟩ := F.lst e r
        exact ⟨n, xs, p, vs, rfl, e, e1, e2⟩
      | _ => simp only [e] at h; cases h
  | _ => cases h
def aML (g : AM) (to : AE) (ts : AL) : AE := fun δ O Q => to δ O fun a O1 => isLst O1 a = true ∧ ts δ O1 fun as O2 => g a as O2 Q
def aML0 (g : AM) (to : AE) : AE := fun δ O Q => to δ O fun a O1 => isLst O1 a = true ∧ g a [] O1 Q
section
variable {o e : Expr} {es : List Expr} {to : AE} {ts : AL} {name : Str} {apos : Pos} {id : String} {g : AM}
theorem le_ml (slot : Slot "list" name id) (hty : typeOf (.builtin id) = pure (.type "method_descriptor")) (hm : MtL X B.R id g) (ho : LE X B o to) (ha : LL X B (e :: es) ts)
    (hbase : attributeBase o name X.env (eval o X.env) = eval o X.env := by rfl)
    (hfew : ((backTo pos (starEach (e :: es) X.env)).all (fun x => !x.1) && (backToKw pos (keywordEach [] X.env)).all (fun x => x.1.isSome)
      && decide ((e :: es).length + ([] : List Keyword).length + (if ([] : List Keyword).isEmpty then 0 else 1) < 30)) = true := by rfl)
    (hline : (apos.endLine == pos.line) = true := by rfl) (hs : starEach (e :: es) X.env = (false, eval e X.env) :: starEach es X.env := by rfl) (hplain : (backTo pos (starEach es X.env)).any (·.1) = false := by rfl) :
    LE X B (.Call (.Attribute o name apos) (e :: es) [] pos) (aML g to ts) := (pe_bm PySem.F.plainAttrs_list slot hty hm ho ha hbase hfew hline hs hplain).imp fun σ H QV ⟨ρ, O, δ, Q, w, t, k⟩ => by
  refine ⟨ρ, O, δ, _, w, t, fun x H1 ρ1 O1 a F1 s1 ra t1 => ?_⟩
  obtain ⟨n, xs, p, vs, rfl, e1, rfl, e2⟩ := isLst_of F1 t1.1 ra
  refine ⟨.inl ⟨rfl, vs, SqL.of e2⟩, ρ1, O1, δ, _, w.move F1 s1, t1.2, fun ws H2 ρ2 O2 as F2 s2 rs t2 => ⟨ρ2, O2, .own n, as, Q, F2, ra.step F1 s2, rs, t2, (k.next w.fm F1 s1).next F1 F2 s2⟩⟩
theorem le_ml0 (slot : Slot "list" name id) (hty : typeOf (.builtin id) = pure (.type "method_descriptor")) (hm : MtL X B.R id g) (ho : LE X B o to)
    (hbase : attributeBase o name X.env (eval o X.env) = eval o X.env := by rfl) (hline : (apos.endLine == pos.line) = true := by rfl) :
    LE X B (.Call (.Attribute o name apos) [] [] pos) (aML0 g to) := (pe_bm0 PySem.F.plainAttrs_list slot hty hm ho hbase hline).imp fun σ H QV ⟨ρ, O, δ, Q, w, t, k⟩ => by
  refine ⟨ρ, O, δ, _, w, t, fun x H1 ρ1 O1 a F1 s1 ra t1 => ?_⟩
  obtain ⟨n, xs, p, vs, rfl, e1, rfl, e2⟩ := isLst_of F1 t1.1 ra
  exact ⟨.inl ⟨rfl, vs, SqL.of e2⟩, ρ1, O1, .own n, [], Q, F1, ra, RelAs.nil, t1.2, k.next w.fm F1 s1⟩
end
def mAppend : AM := fun a as O Q => match a, as with
  | .own n, [y] => (match lv O n with | some (.lst xs) => xs.length < sizeLine ∧ Q .non (lput O n (.lst (xs ++ [y]))) | _ => False)
  | _, _ => False
theorem ml_append : MtL X R "list.append" mAppend := by
  intro pins s σ H x vs v us QV I rx rvs ⟨ρ, O, a, as, Q, F, ra, rs, h, k⟩
  unfold mAppend at h
  split at h
  · rename_i n y
    cases e : lv O n with
    | none => simp only [e] at h
    | some o =>
      cases o with
      | lst xs =>
        simp only [e] at h
        obtain ⟨p, ws, rfl, hn, hp, rr⟩ := F.lst e ra
        obtain ⟨z, rfl, rz⟩ := rel1 rs
        refine mt_append pins s σ H _ _ v us QV I rx rvs ⟨p, ws, z, rfl, rfl, hp, by rw [← rr.length]; exact h.1, ?_⟩
        exact k.put F hn (o := .lst (xs ++ [y])) ⟨_, rfl, rr.append (RelAs.cons rz RelAs.nil)⟩ rel_non h.2
      | _ => simp only [e] at h
  · exact h.elim
def mExtend : AM := fun a as O Q => match a, as with
  | .own n, [.own m] => (match lv O n, lv O m with | some (.lst xs), some (.lst ys) => xs.length + ys.length ≤ sizeLine ∧ Q .non (lput O n (.lst (xs ++ ys))) | _, _ => False)
  | _, _ => False
theorem ml_extend : MtL X R "list.extend" mExtend := by
  intro pins s σ H x vs v us QV I rx rvs ⟨ρ, O, a, as, Q, F, ra, rs, h, k⟩
  unfold mExtend at h
  split at h
  · rename_i n m
    cases e : lv O n with
    | none => simp only [e] at h
    | some o =>
      cases o with
      | lst xs =>
        cases e2 : lv O m with
        | none => simp only [e, e2] at h
        | some o2 =>
          cases o2 with
          | lst ys =>
            simp only [e, e2] at h
            obtain ⟨p, ws, rfl, hn, hp, rr⟩ := F.lst e ra
            obtain ⟨z, rfl, rz⟩ := rel1 rs
            obtain ⟨q, ws2, rfl, hn2, hp2, rr2⟩ := F.lst e2 rz
            refine mt_extend pins s σ H _ _ v us QV I rx rvs ⟨p, q, ws, ws2, rfl, rfl, hp, hp2, by rw [← rr.length, ← rr2.length]; exact h.1, ?_⟩
            exact k.put F hn (o := .lst (xs ++ ys)) ⟨_, rfl, rr.append rr2⟩ rel_non h.2
          | _ => simp only [e, e2] at h
      | _ => simp only [e] at h
  · exact h.elim
def mPop : AM := fun a as O Q => match a, as with
  | .own n, [] => (match lv O n with | some (.lst xs) => (match xs[xs.length - 1]? with | some y => Q y (lput O n (.lst xs.dropLast)) | none => False) | _ => False)
  | _, _ => False
theorem RelAs.dropLast {xs : List A} {vs : List V} (h : RelAs H ρ xs vs) : RelAs H ρ xs.dropLast vs.dropLast := by
  rw [List.dropLast_eq_take, List.dropLast_eq_take, h.length]
  exact h.take _
theorem ml_pop : MtL X R "list.pop" mPop := by
  intro pins s σ H x vs v us QV I rx rvs ⟨ρ, O, a, as, Q, F, ra, rs, h, k⟩
  unfold mPop at h
  split at h
  · rename_i n
    cases e : lv O n with
    | none => simp only [e] at h
    | some o =>
      cases o with
      | lst xs =>
        simp only [e] at h
        cases e2 : xs[xs.length - 1]? with
        | none => simp only [e2] at h
        | some y =>
          simp only [e2] at h
          obtain ⟨p, ws, rfl, hn, hp, rr⟩ := F.lst e ra
          obtain ⟨z, hz, rz⟩ := rr.get e2
          rw [rr.length] at hz
          refine mt_pop pins s σ H _ _ v us QV I rx rvs ⟨p, ws, z, rfl, RelAs.nil_iff.mp rs, hp, hz, ?_⟩
          exact k.put F hn (o := .lst xs.dropLast) ⟨_, rfl, rr.dropLast⟩ rz h
      | _ => simp only [e] at h
  · exact h.elim
def mPopAt : AM := fun a as O Q => match a, as with
  | .own n, [.int i] => (match lv O n with | some (.lst xs) => (0 ≤ i ∧ i < 2 ^ 63) ∧ (match xs[i.toNat]? with | some y => Q y (lput O n (.lst (xs.eraseIdx i.toNat))) | none => False) | _ => False)
  | _, _ => False
theorem ml_popAt : MtL X R "list.pop" mPopAt := by
  intro pins s σ H x vs v us QV I rx rvs ⟨ρ, O, a, as, Q, F, ra, rs, h, k⟩
  unfold mPopAt at h
  split at h
  · rename_i n i
    cases e : lv O n with
    | none => simp only [e] at h
    | some o =>
      cases o with
      | lst xs =>
        simp only [e] at h
        obtain ⟨⟨h0, h63⟩, h⟩ := h
        cases e2 : xs[i.toNat]? with
        | none => simp only [e2] at h
        | some y =>
          simp only [e2] at h
          obtain ⟨p, ws, rfl, hn, hp, rr⟩ := F.lst e ra
          obtain ⟨z, hz, rz⟩ := rr.get e2
          obtain ⟨w, rfl, rw'⟩ := rel1 rs
          unfold RelA at rw'
          subst rw'
          have hl := (List.getElem?_eq_some_iff.mp hz).1
          refine mt_popAt pins s σ H _ _ v us QV I rx rvs ⟨p, ws, i, i.toNat, z, rfl, rfl, hp, by omega, h63, _root_.PySem.seqIndex_of h0 (by omega), hz, ?_⟩
          exact k.put F hn (o := .lst (xs.eraseIdx i.toNat)) ⟨_, rfl, rr.eraseIdx _⟩ rz h
      | _ => simp only [e] at h
  · exact h.elim
def mReverse : AM := fun a as O Q => match a, as with
  | .own n, [] => (match lv O n with | some (.lst xs) => Q .non (lput O n (.lst xs.reverse)) | _ => False)
  | _, _ => False
theorem ml_reverse : MtL X R "list.reverse" mReverse := by
  intro pins s σ H x vs v us QV I rx rvs ⟨ρ, O, a, as, Q, F, ra, rs, h, k⟩
  unfold mReverse at h
  split at h
  · rename_i n
    cases e : lv O n with
    | none => simp only [e] at h
    | some o =>
      cases o with
      | lst xs =>
        simp only [e] at h
        obtain ⟨p, ws, rfl, hn, hp, rr⟩ := F.lst e ra
        refine mt_reverse pins s σ H _ _ v us QV I rx rvs ⟨p, ws, rfl, RelAs.nil_iff.mp rs, hp, ?_⟩
        exact k.put F hn (o := .lst xs.reverse) ⟨_, rfl, rr.reverse⟩ rel_non h
      | _ => simp only [e] at h
  · exact h.elim
/-- the first place -/
def firstIx (z : Str) : List Str → Option Nat
  | [] => none
  | x :: r => if x = z then some 0 else (firstIx z r).map (· + 1)
theorem firstIx_of {z : Str} : ∀ {ys : List Str} {j : Nat}, firstIx z ys = some j → ys[j]? = some z ∧ ∀ m, m < j → ys[m]? ≠ some z
  | [], _, h => nomatch h
  | x :: r, j, h => by
    unfold firstIx at h
    by_cases e : x = z
    · rw [if_pos e] at h
      cases h
      exact ⟨by rw [e]; rfl, fun m hm => absurd hm (Nat.not_lt_zero _)⟩
    · rw [if_neg e] at h
      cases q : firstIx z r with
      | none => rw [q] at h; cases h
      | some i =>
        rw [q] at h
        cases h
        obtain ⟨h1, h2⟩ := firstIx_of q
        refine ⟨by rw [List.getElem?_cons_succ]; exact h1, fun m hm => ?_⟩
        cases m with
        | zero => intro c; exact e (Option.some.inj c)
        | succ m =>
        have hm' : m + 1 < i + 1 := hm
        rw [List.getElem?_cons_succ]; exact h2 m (by omega)
def mIndex : AM := fun a as O Q => match a, as with
  | .own n, [.str z] => (match lv O n with | some (.lst xs) => (match strsOf xs with | some ys => (match firstIx z ys with | some j => Q (.int (j : Nat)) O | none => False) | none => False) | _ => False)
  | _, _ => False
theorem ml_index : MtL X R "list.index" mIndex := by
  intro pins s σ H x vs v us QV I rx rvs ⟨ρ, O, a, as, Q, F, ra, rs, h, k⟩
  unfold mIndex at h
  split at h
  · rename_i n zz
    cases e : lv O n with
    | none => simp only [e] at h
    | some o =>
      cases o with
      | lst xs =>
        simp only [e] at h
        cases e2 : strsOf xs with
        | none => simp only [e2] at h
        | some ys =>
          simp only [e2] at h
          cases e3 : firstIx zz ys with
          | none => simp only [e3] at h
          | some j =>
            simp only [e3] at h
            obtain ⟨p, ws, rfl, hn, hp, rr⟩ := F.lst e ra
            rw [strsOf_eq e2] at rr
            rw [rr.strs] at hp
            obtain ⟨w, rfl, rw'⟩ := rel1 rs
            unfold RelA at rw'
            subst rw'
            obtain ⟨f1, f2⟩ := firstIx_of e3
            refine mt_index pins s σ H _ _ v us QV I rx rvs ⟨p, ys.map V.str, .str zz, j, .str zz, rfl, rfl, SqL.of hp, rfl, flat_strs ys, by rw [List.getElem?_map, f1]; rfl, ?_, fun m z' hm hz => ?_, k.here F rel_int h⟩
            · show (zz == zz) = true
              exact beq_self_eq_true zz
            · rw [List.getElem?_map] at hz
              cases e4 : ys[m]? with
              | none => rw [e4] at hz; cases hz
              | some y =>
                rw [e4] at hz
                cases hz
                show (y == zz) = false
                exact beq_eq_false_iff_ne.mpr fun c => f2 m hm (by rw [e4, c])
      | _ => simp only [e] at h
  · exact h.elim
/-- t.index(x) of a tuple that is known -/
def aTIx (to tz : AE) : AE := fun δ O Q => to δ O fun a O1 => match a with
  | .tupk xs => tz δ O1 fun z O2 => (match z, strsOf xs with | .str z, some ys => (match firstIx z ys with | some j => Q (.int (j : Nat)) O2 | none => False) | _, _ => False)
  | _ => False
theorem le_tix {o e : Expr} {to tz : AE} {apos : Pos} (ho : LE X B o to) (he : LE X B e tz) (hs : starEach [e] X.env = [(false, eval e X.env)] := by rfl)
    (hbase : attributeBase o "index" X.env (eval o X.env) = eval o X.env := by rfl)
    (hfew : ((backTo pos (starEach [e] X.env)).all (fun x => !x.1) && (backToKw pos (keywordEach [] X.env)).all (fun x => x.1.isSome)
      && decide ([e].length + ([] : List Keyword).length + (if ([] : List Keyword).isEmpty then 0 else 1) < 30)) = true := by rfl)
    (hline : (apos.endLine == pos.line) = true := by rfl) : LE X B (.Call (.Attribute o "index" apos) [e] [] pos) (aTIx to tz) := by
  refine ⟨fun pins s σ H QV I h => ?_⟩
  obtain ⟨ρ, O, δ, Q, w, t, k⟩ := h
  refine wpAny_Call_method_late hbase hfew hline rfl (thn (ho.run pins s σ H (fun x H1 => ∃ ρ1 O1 a, Fm B.R ρ1 O1 H1 ∧ Sp B.R ρ H ρ1 H1 ∧ RelA H1 ρ1 a x ∧ (match a with
    | .tupk xs => tz δ O1 fun z O2 => (match z, strsOf xs with | .str z, some ys => (match firstIx z ys with | some j => Q (.int (j : Nat)) O2 | none => False) | _, _ => False)
    | _ => False)) I ⟨ρ, O, δ, _, w, t, fun x H1 ρ1 O1 a F1 s1 ra t1 => ⟨ρ1, O1, a, F1, s1, ra, t1⟩⟩) fun u s1 ⟨x, H1, I1, r1, ρ1, O1, a, F1, sp1, ra, t1⟩ => ?_)
  cases a with
  | tupk xs =>
    have ra0 := ra
    unfold RelA at ra
    obtain ⟨p, vs, ob, rfl, hp, hd, rr⟩ := ra
    cases r1
    obtain ⟨hg, its, _⟩ := I1.hok p _ hp
    have hg : s1.heap.get? p = some ob := hg
    obtain ⟨_, its, rv, hT⟩ := (show ObjOk X.prog X.w H1 s1.heap p (.tup vs) from (I1.hok p _ hp).2)
    obtain ⟨ob2, g2, hc, n, hdat⟩ := hT
    rw [hg] at g2
    cases g2
    refine ⟨"tuple", "tuple.index", PySem.F.plainAttrs_tuple, PySem.F.slot_tuple_index, PySem.F.type_tuple_index, ⟨ob, hg, hc⟩, fun a e => by cases e; exact ⟨ob, hg, hd⟩, ?_⟩
    let Qx : List A → Own → Prop := fun as O2 => match as with
      | [z] => (match z, strsOf xs with | .str z, some ys => (match firstIx z ys with | some j => Q (.int (j : Nat)) O2 | none => False) | _, _ => False)
      | _ => False
    have hA := (ll_cons he ll_nil hs).run pos pins s1 σ H1 (fun ws H2 => ∃ ρ2 O2 as, Fm B.R ρ2 O2 H2 ∧ Sp B.R ρ1 H1 ρ2 H2 ∧ RelAs H2 ρ2 as ws ∧ Qx as O2) I1
      ⟨ρ1, O1, δ, Qx, w.move F1 sp1, (show aCons tz aNil δ O1 Qx from t1), fun ws H2 ρ2 O2 as F2 s2 rs t2 => ⟨ρ2, O2, as, F2, s2, rs, t2⟩⟩
    rw [hs] at hA ⊢
    refine Calls.callWith_builtin rfl (Calls.evalArgs_plain ?_)
    refine thn hA fun us s2 ⟨ws, H2, I2, r2, ρ2, O2, as, F2, sp2, rs, t2⟩ => ?_
    cases as with
    | nil => exact t2.elim
    | cons z as =>
      cases as with
      | cons _ _ => exact t2.elim
      | nil =>
        cases z with
        | str z =>
          have t2 : (match A.str z, strsOf xs with | .str z, some ys => (match firstIx z ys with | some j => Q (.int (j : Nat)) O2 | none => False) | _, _ => False) := t2
          cases e2 : strsOf xs with
          | none => simp only [e2] at t2
          | some ys =>
            simp only [e2] at t2
            cases e3 : firstIx z ys with
            | none => simp only [e3] at t2
            | some j =>
              simp only [e3] at t2
              have rr2 := rr.step F1 sp2
              rw [strsOf_eq e2] at rr2
              have hp2 := sp2.tup F1 hp (fun z => z)
              rw [rr2.strs] at hp2
              obtain ⟨w2, rfl, rw'⟩ := rel1 rs
              unfold RelA at rw'
              subst rw'
              obtain ⟨f1, f2⟩ := firstIx_of e3
              exact mt_tup_index pins s2 σ H2 (.ref p) _ (.ref p) us QV I2 rfl r2 ⟨p, ys, z, j, rfl, rfl, .inl (.inr ⟨ob, hp2⟩), f1, f2, ((k.next w.fm F1 sp1).next F1 F2 sp2).here F2 rel_int t2⟩
        | _ => exact t2.elim
  | _ => exact t1.elim
end
end PyA

set_option Elab.async false
set_option linter.all false
set_option maxRecDepth 100000
set_option maxHeartbeats 2000000
/-! Targets, what is walked, comprehensions. -/
namespace PyA
open PySem PySem.Spec L2
section
variable {X : Cx} {B : Bs} {R : Res} {pos : Pos} {ρ ρ' : List Addr} {O O' : Own} {H H' : Hp} {δ : Slots} {σ : L2.St}

/-! ### targets -/
abbrev SK := Slots → Own → Prop
abbrev AG := A → Slots → Own → SK → Prop
abbrev AGs := List A → Slots → Own → SK → Prop
def KG (B : Bs) (is : List Nat) (ρ : List Addr) (σ : L2.St) (H : Hp) (Q : SK) (QV : L2.St → Hp → Prop) : Prop := ∀ σ' H' ρ' O' δ', Wd B ρ' O' δ' σ' H' → Sp B.R ρ H ρ' H' → σ'.length = σ.length → (∀ i, i ∉ is → σ'[i]? = σ[i]?) → Q δ' O' → QV σ' H'
def lG (B : Bs) (is : List Nat) (g : AG) : TG := fun v σ H QV => ∃ ρ O δ a Q, Wd B ρ O δ σ H ∧ RelA H ρ a v ∧ g a δ O Q ∧ KG B is ρ σ H Q QV
def lGs (B : Bs) (is : List Nat) (g : AGs) : TGs := fun vs σ H QV => ∃ ρ O δ as Q, Wd B ρ O δ σ H ∧ RelAs H ρ as vs ∧ g as δ O Q ∧ KG B is ρ σ H Q QV
abbrev LG (X : Cx) (B : Bs) (tg : Expr) (is : List Nat) (g : AG) : Prop := PG X tg (lG B is g)
abbrev LGs (X : Cx) (B : Bs) (tgs : List Expr) (is : List Nat) (g : AGs) : Prop := PGs X tgs (lGs B is g)
def agN (i : Nat) : AG := fun a δ O Q => Q (δ.set i (some a)) O
def agNil : AGs := fun as δ O Q => match as with | [] => Q δ O | _ => False
def agCons (g : AG) (gs : AGs) : AGs := fun as δ O Q => match as with | a :: r => g a δ O fun δ1 O1 => gs r δ1 O1 Q | _ => False
def agTup (n : Nat) (gs : AGs) : AG := fun a δ O Q => match tupOf a with | some xs => xs.length = n ∧ gs xs δ O Q | none => False
theorem lg_name (i : Nat) {x : Str} (hN : X.N.Nodup) (hi : X.N[i]? = some x := by rfl) (hx : Loc X.env.scope x := by first | exact Or.inl rfl | exact Or.inr rfl) (hf : X.fn x = true ∨ X.env.scope.names.lookup x = some .local := by first | exact .inl rfl | exact .inr rfl) : LG X B (.Name x pos) [i] (agN i) :=
  (pg_name hN hi hx hf).imp fun v σ H QV ⟨ρ, O, δ, a, Q, w, r, g, k⟩ => by
    refine k _ _ ρ O _ (w.set i r) Sp.refl (List.length_set ..) (fun j hj => ?_) g
    rw [List.getElem?_set_ne (fun e => hj (by rw [e]; exact List.mem_singleton.mpr rfl))]
theorem lgs_nil : LGs X B [] [] agNil := pgs_nil.imp fun vs σ H QV ⟨ρ, O, δ, as, Q, w, r, g, k⟩ => by
  cases as with
  | nil => exact ⟨RelAs.nil_iff.mp r, k _ _ ρ O _ w Sp.refl rfl (fun _ _ => rfl) g⟩
  | cons _ _ => exact g.elim
theorem lgs_cons {e : Expr} {es : List Expr} {i1 i2 : List Nat} {g1 : AG} {g2 : AGs} (h1 : LG X B e i1 g1) (h2 : LGs X B es i2 g2)
    (hs : (assignEach (e :: es) X.env).map (·.2) = assign e X.env :: (assignEach es X.env).map (·.2) := by rfl) : LGs X B (e :: es) (i1 ++ i2) (agCons g1 g2) := (pgs_cons h1 h2 hs).imp fun vs σ H QV ⟨ρ, O, δ, as, Q, w, r, g, k⟩ => by
  cases as with
  | nil => exact g.elim
  | cons a as =>
    obtain ⟨v, vr, rfl, r1, r2⟩ := RelAs.cons_iff.mp r
    refine ⟨v, vr, rfl, ρ, O, δ, a, _, w, r1, g, fun σ1 H1 ρ1 O1 δ1 w1 s1 l1 k1 q1 => ⟨ρ1, O1, δ1, as, Q, w1, r2.step w.fm s1, q1, fun σ2 H2 ρ2 O2 δ2 w2 s2 l2 k2 q2 => ?_⟩⟩
    refine k σ2 H2 ρ2 O2 δ2 w2 (s1.trans w.fm w1.fm s2) (l2.trans l1) (fun i hi => ?_) q2
    rw [k2 i (fun z => hi (List.mem_append_right _ z)), k1 i (fun z => hi (List.mem_append_left _ z))]
theorem lg_tup {es : List Expr} {is : List Nat} {k n : Nat} {gs : AGs} (hc : X.calm = true) (h : LGs X B es is gs)
    (hn : (assignEach es X.env).length = n := by rfl) (hst : (assignEach es X.env).findIdx? (·.1) = none := by rfl) : LG X B (.Tuple es k pos) is (agTup n gs) := (pg_tup hc h hn hst).imp fun v σ H QV ⟨ρ, O, δ, a, Q, w, r, g, kk⟩ => by
  unfold agTup at g
  cases e : tupOf a with
  | none => simp only [e] at g
  | some xs =>
    simp only [e] at g
    obtain ⟨p, vs, rfl, hp, rr⟩ := tupOf_of (K := X.K) e r
    exact ⟨p, vs, rfl, hp, by rw [← rr.length]; exact g.1, ρ, O, δ, xs, Q, w, rr, g.2, kk⟩

/-! ### what a loop walks -/
structure ItA (R : Res) (J : It) (items : List A) (chk : Own → Prop) (ρ₀ : List Addr) (H₀ : Hp) : Prop where
  go : ∀ i ρ O H, Fm R ρ O H → Sp R ρ₀ H₀ ρ H → chk O → i < items.length → J.go i H
  stop : ∀ i ρ O H, Fm R ρ O H → Sp R ρ₀ H₀ ρ H → chk O → i = items.length → J.stop i H
  yld : ∀ i ρ O H x H', Fm R ρ O H → Sp R ρ₀ H₀ ρ H → chk O → J.yld i H x H' → i < items.length → ∃ a, items[i]? = some a ∧ Fm R ρ O H' ∧ Sp R ρ H ρ H' ∧ RelA H' ρ a x
abbrev IK := List A → (Own → Prop) → Own → Prop
abbrev AI := Slots → Own → IK → Prop
def lI (B : Bs) (T : AI) : TI := fun σ H QV => ∃ ρ O δ Q, Wd B ρ O δ σ H ∧ T δ O Q ∧ ∀ J H' ρ' O' items chk, Fm B.R ρ' O' H' → Sp B.R ρ H ρ' H' → ItA B.R J items chk ρ' H' → Q items chk O' → QV J H'
abbrev LI (X : Cx) (B : Bs) (tg iter : Expr) (T : AI) : Prop := PI X tg iter (lI B T)
/-- a list of one's own that stays as it is -/
def aiL (t : AE) : AI := fun δ O Q => t δ O fun a O1 => match a with
  | .own n => (match lv O1 n with | some (.lst xs) => Q xs (fun O => lv O n = some (.lst xs)) O1 | _ => False)
  | _ => False
def aiT (t : AE) : AI := fun δ O Q => t δ O fun a O1 => match tupOf a with | some xs => Q xs (fun _ => True) O1 | none => False
def rangeA (lo : Int) (n : Nat) : List A := (List.range n).map fun i => .int (lo + (i : Nat))
def r1K (Q : IK) : ALK := fun as O1 => match as with
  | [.int j] => j < 2 ^ 62 ∧ -(2 ^ 62) ≤ j ∧ Q (rangeA 0 j.toNat) (fun _ => True) O1
  | _ => False
def r2K (Q : IK) : ALK := fun as O1 => match as with
  | [.int i, .int j] => (-(2 ^ 62) ≤ i ∧ i < 2 ^ 62 ∧ -(2 ^ 62) ≤ j ∧ j < 2 ^ 62) ∧ Q (rangeA i (j - i).toNat) (fun _ => True) O1
  | _ => False
def aiR1 (t : AE) : AI := fun δ O Q => t δ O fun a O1 => r1K Q [a] O1
def aiR2 (t u : AE) : AI := fun δ O Q => t δ O fun a O1 => u δ O1 fun b O2 => r2K Q [a, b] O2
theorem rangeA_get {lo : Int} {n i : Nat} (h : i < n) : (rangeA lo n)[i]? = some (.int (lo + (i : Nat))) := by
  unfold rangeA
  rw [List.getElem?_map, List.getElem?_range h]
  rfl
theorem rangeA_len {lo : Int} {n : Nat} : (rangeA lo n).length = n := by unfold rangeA; rw [List.length_map, List.length_range]
theorem itA_range (lo : Int) (n : Nat) {ρ : List Addr} {H : Hp} : ItA R (Itr lo n) (rangeA lo n) (fun _ => True) ρ H :=
  ⟨fun i _ _ _ _ _ _ h => by rw [rangeA_len] at h; exact h, fun i _ _ _ _ _ _ h => by rw [rangeA_len] at h; exact Nat.le_of_eq h.symm, fun i ρ O H x H' F s c y h => by
    rw [rangeA_len] at h
    obtain ⟨rfl, rfl⟩ := y
    exact ⟨_, rangeA_get h, F, Sp.refl, rel_int⟩⟩
theorem SqL.at {K : PySem.W.Frag} {p : Addr} {vs ws : List V} (h : SqL K H p vs) (e : H p = some (.lst ws)) (hk : K.lookup p = none ∨ vs = ws) : vs = ws := by
  rcases hk with hk | hk
  · rcases h with (h | ⟨o, h⟩) | ⟨o, its, n, h, _⟩
    · rw [e] at h; cases h; rfl
    · rw [e] at h; cases h
    · rw [hk] at h; cases h
  · exact hk
theorem li_list {tg l : Expr} {t : AE} (h : LE X B l t) : LI X B tg l (aiL t) := by
  refine ⟨fun pins s σ H RR I hw => ?_⟩
  obtain ⟨ρ, O, δ, Q, w, t, k⟩ := hw
  refine (pi_list h).run pins s σ H RR I ?_
  refine ⟨ρ, O, δ, _, w, t, fun x H1 ρ1 O1 a F1 s1 ra t1 => ?_⟩
  cases a with
  | own n =>
    cases e : lv O1 n with
    | none => simp only [e] at t1
    | some o =>
      cases o with
      | lst xs =>
        simp only [e] at t1
        obtain ⟨p, vs, rfl, hn, hp, rr⟩ := F1.lst e ra
        have here : ∀ {ρ2 O2 H2}, Fm B.R ρ2 O2 H2 → Sp B.R ρ1 H1 ρ2 H2 → lv O2 n = some (.lst xs) → ∃ ws, H2 p = some (.lst ws) ∧ RelAs H2 ρ2 xs ws := fun {ρ2 O2 H2} F2 s2 e2 => by
          obtain ⟨q, ws, e3, _, h3, r3⟩ := F2.lst e2 (ra.step F1 s2)
          cases e3
          exact ⟨ws, h3, r3⟩
        refine ⟨p, rfl, ⟨vs, SqL.of hp⟩, k _ _ ρ1 O1 xs _ F1 s1 ⟨fun i ρ2 O2 H2 F2 s2 c hi => ?_, fun i ρ2 O2 H2 F2 s2 c hi => ?_, fun i ρ2 O2 H2 x H3 F2 s2 c y hi => ?_⟩ t1⟩
        · obtain ⟨ws, h3, r3⟩ := here F2 s2 c
          obtain ⟨v, hv, _⟩ := r3.get (List.getElem?_eq_getElem hi)
          exact ⟨ws, v, SqL.of h3, hv⟩
        · obtain ⟨ws, h3, r3⟩ := here F2 s2 c
          exact ⟨ws, SqL.of h3, by rw [← r3.length]; exact Nat.le_of_eq hi.symm⟩
        · obtain ⟨rfl, y⟩ := y
          obtain ⟨ws, h3, r3⟩ := here F2 s2 c
          obtain ⟨v, hv, rv⟩ := r3.get (List.getElem?_eq_getElem hi)
          have e5 := y ws (SqL.of h3)
          rw [hv] at e5
          cases e5
          exact ⟨_, List.getElem?_eq_getElem hi, F2, Sp.refl, rv⟩
      | _ => simp only [e] at t1
  | _ => exact t1.elim
theorem li_tup {tg l : Expr} {t : AE} (h : LE X B l t) : LI X B tg l (aiT t) := by
  refine ⟨fun pins s σ H RR I hw => ?_⟩
  obtain ⟨ρ, O, δ, Q, w, t, k⟩ := hw
  refine (pi_tup h).run pins s σ H RR I ?_
  refine ⟨ρ, O, δ, _, w, t, fun x H1 ρ1 O1 a F1 s1 ra t1 => ?_⟩
  cases e : tupOf a with
  | none => simp only [e] at t1
  | some xs =>
    simp only [e] at t1
    have here : ∀ {ρ2 O2 H2}, Fm B.R ρ2 O2 H2 → Sp B.R ρ1 H1 ρ2 H2 → ∃ p ws, x = .ref p ∧ SqT X.K H2 p ws ∧ RelAs H2 ρ2 xs ws := fun {ρ2 O2 H2} F2 s2 => tupOf_of e (ra.step F1 s2)
    obtain ⟨p, vs, rfl, hp, rr⟩ := tupOf_of (K := X.K) e ra
    refine ⟨p, rfl, ⟨vs, hp⟩, k _ _ ρ1 O1 xs _ F1 s1 ⟨fun i ρ2 O2 H2 F2 s2 c hi => ?_, fun i ρ2 O2 H2 F2 s2 c hi => ?_, fun i ρ2 O2 H2 x H3 F2 s2 c y hi => ?_⟩ t1⟩
    · obtain ⟨q, ws, e1, h3, r3⟩ := here F2 s2
      cases e1
      obtain ⟨v, hv, _⟩ := r3.get (List.getElem?_eq_getElem hi)
      exact ⟨ws, v, h3, hv⟩
    · obtain ⟨q, ws, e1, h3, r3⟩ := here F2 s2
      cases e1
      exact ⟨ws, h3, by rw [← r3.length]; exact Nat.le_of_eq hi.symm⟩
    · obtain ⟨rfl, y⟩ := y
      obtain ⟨q, ws, e1, h3, r3⟩ := here F2 s2
      cases e1
      obtain ⟨v, hv, rv⟩ := r3.get (List.getElem?_eq_getElem hi)
      have e5 := y ws h3
      rw [hv] at e5
      cases e5
      exact ⟨_, List.getElem?_eq_getElem hi, F2, Sp.refl, rv⟩
theorem li_range1 {tg a : Expr} {t : AE} {p : Pos} (hg : Gl X "range") (hm : X.mg "range" = none) (ha : LE X B a t) (hs : starEach [a] X.env = [(false, eval a X.env)] := by rfl) : LI X B tg (.Call (.Name "range" p) [a] [] pos) (aiR1 t) :=
  (pi_range1 hg hm (ll_cons ha ll_nil hs) hs).imp fun σ H QV ⟨ρ, O, δ, Q, w, t, k⟩ => by
    refine ⟨ρ, O, δ, r1K Q, w, t, fun vs H1 ρ1 O1 as F1 s1 rs t1 => ?_⟩
    unfold r1K at t1
    split at t1
    · rename_i j
      obtain ⟨v, rfl, rv⟩ := rel1 rs
      unfold RelA at rv
      subst rv
      exact ⟨j, rfl, t1.2.1, t1.1, k _ _ ρ1 O1 _ _ F1 s1 (itA_range 0 j.toNat) t1.2.2⟩
    · exact t1.elim
theorem li_range2 {tg a b : Expr} {t u : AE} {p : Pos} (hg : Gl X "range") (hm : X.mg "range" = none) (ha : LE X B a t) (hb : LE X B b u) (hs : starEach [a, b] X.env = [(false, eval a X.env), (false, eval b X.env)] := by rfl) (hs2 : starEach [b] X.env = [(false, eval b X.env)] := by rfl) :
    LI X B tg (.Call (.Name "range" p) [a, b] [] pos) (aiR2 t u) :=
  (pi_range2 hg hm (ll_cons ha (ll_cons hb ll_nil hs2) (by rw [hs, hs2])) hs hs2).imp fun σ H QV ⟨ρ, O, δ, Q, w, t, k⟩ => by
    refine ⟨ρ, O, δ, r2K Q, w, t, fun vs H1 ρ1 O1 as F1 s1 rs t1 => ?_⟩
    unfold r2K at t1
    split at t1
    · rename_i i j
      obtain ⟨v, v2, rfl, rv, rv2⟩ := rel2 rs
      unfold RelA at rv rv2
      subst rv rv2
      exact ⟨i, j, rfl, t1.1, k _ _ ρ1 O1 _ _ F1 s1 (itA_range i (j - i).toNat) t1.2⟩
    · exact t1.elim

/-! ### the same list through a comprehension's list -/
theorem Fm.adopt (F : Fm R ρ O H) {p : Addr} {o : AO} {ho : HO} (hp : H p = some ho) (h1 : p ∉ ρ) (h2 : p ∉ R.dom) (r : RelO H ρ o ho) : Fm R (p :: ρ) (o :: O) H := by
  have kl : ∀ n q, lv ρ n = some q → lv (p :: ρ) n = some q := fun n q z => lv_cons_of z
  refine ⟨by rw [List.length_cons, List.length_cons, F.len], List.nodup_cons.mpr ⟨h1, F.nd⟩, fun n u hu => ?_, fun q hq => ?_, F.res⟩
  · unfold lv at hu
    by_cases e : n = O.length
    · rw [if_pos e] at hu
      cases hu
      refine ⟨p, ho, ?_, hp, r.mv (fun _ _ z _ => z) kl⟩
      rw [e, ← F.len]
      exact lv_self
    · rw [if_neg e] at hu
      obtain ⟨q, k, h1, h2, h3⟩ := F.ob n u hu
      exact ⟨q, k, kl _ _ h1, h2, h3.mv (fun _ _ z _ => z) kl⟩
  · rcases List.mem_cons.mp hq with e | hq
    · rw [e]; exact h2
    · exact F.ap q hq
/-- a write to an object that is neither of one's own nor set aside nor older than the beginning -/
theorem Fm.side (F : Fm R ρ O H) {p : Addr} {ho : HO} (h1 : p ∉ ρ) (h2 : p ∉ R.dom) (m : Mut (H p)) : Fm R ρ O (upd H p ho) ∧ (∀ q o, H q = some o → ¬ Mut (some o) → upd H p ho q = some o) := by
  have kt : ∀ q o, H q = some o → ¬ Mut (some o) → upd H p ho q = some o := fun q o z n => by
    rw [upd_ne (fun e => by rw [e] at z; rw [z] at m; exact n m)]; exact z
  refine ⟨⟨F.len, F.nd, fun n u hu => ?_, F.ap, R.loc H _ F.res fun q hq => ?_⟩, kt⟩
  · obtain ⟨q, k, e1, e2, e3⟩ := F.ob n u hu
    refine ⟨q, k, e1, ?_, e3.mv kt fun _ _ z => z⟩
    rw [upd_ne (show q ≠ p from fun e => h1 (e ▸ lv_mem e1))]
    exact e2
  · exact upd_ne (show q ≠ p from fun e => h2 (e ▸ hq))
theorem Sp.side {H1 : Hp} {ρ1 : List Addr} (s : Sp R ρ1 H1 ρ H) {p : Addr} {ho : HO} (n : H1 p = none) : Sp R ρ1 H1 ρ (upd H p ho) := ⟨s.ext, fun q o h1 h2 h3 => by rw [upd_ne (ne_of_none h3 n)]; exact s.keep q o h1 h2 h3⟩

/-! ### comprehensions -/
def wipeA (δ : Slots) : List Nat → Slots
  | [] => δ
  | v :: vs => (wipeA δ vs).set v none
theorem Wd.wipe (w : Wd B ρ O δ σ H) : ∀ vs, Wd B ρ O (wipeA δ vs) (L2.wipe σ vs) H
  | [] => w
  | v :: vs => (Wd.wipe w vs).unset v
theorem wipe_get (σ : L2.St) : ∀ (vs : List Nat) (i : Nat), (L2.wipe σ vs)[i]? = if i ∈ vs ∧ i < σ.length then some none else σ[i]?
  | [], i => by rw [if_neg (fun z => nomatch z.1)]; rfl
  | v :: vs, i => by
    unfold L2.wipe
    by_cases e : v = i
    · subst e
      by_cases h : v < σ.length
      · rw [List.getElem?_set_self (by rw [L2.wipe_length]; exact h), if_pos ⟨List.mem_cons_self, h⟩]
      · rw [if_neg (fun z => h z.2), List.getElem?_eq_none (by rw [List.length_set, L2.wipe_length]; omega), List.getElem?_eq_none (by omega)]
    · rw [List.getElem?_set_ne e, wipe_get σ vs i]
      by_cases h : i ∈ vs ∧ i < σ.length
      · rw [if_pos h, if_pos ⟨List.mem_cons_of_mem _ h.1, h.2⟩]
      · rw [if_neg h, if_neg fun z => h ⟨(List.mem_cons.mp z.1).resolve_left (Ne.symm e), z.2⟩]
theorem wipe_eq {σ σ2 : L2.St} {is vs : List Nat} (hi : ∀ i ∈ is, i ∈ vs) (hl : σ2.length = (L2.wipe σ vs).length) (h : ∀ i, i ∉ is → σ2[i]? = (L2.wipe σ vs)[i]?) : L2.wipe σ2 vs = L2.wipe σ vs := by
  rw [L2.wipe_length] at hl
  refine List.ext_getElem? fun i => ?_
  rw [wipe_get, wipe_get, hl]
  by_cases e : i ∈ vs ∧ i < σ.length
  · rw [if_pos e, if_pos e]
  · rw [if_neg e, if_neg e]
    by_cases e2 : i ∈ is
    · have : ¬ i < σ.length := fun z => e ⟨hi i e2, z⟩
      rw [List.getElem?_eq_none (by omega), List.getElem?_eq_none (by omega)]
    · rw [h i e2, wipe_get, if_neg e]
def aYes : AT := fun _ O Q => Q true O
def compA (chk : Own → Prop) (g : AG) (tt : AT) (te : AE) (δ : Slots) : List A → List A → Own → ALK → Prop
  | [], acc, O, Q => chk O ∧ Q acc O
  | x :: xs, acc, O, Q => chk O ∧ g x δ O fun δ1 O1 => tt δ1 O1 fun b O2 => match b with
    | true => te δ1 O2 fun y O3 => acc.length < sizeLine ∧ compA chk g tt te δ xs (acc ++ [y]) O3 Q
    | false => compA chk g tt te δ xs acc O2 Q
def aLc (ti : AI) (g : AG) (tt : AT) (te : AE) (vs : List Nat) : AE := fun δ O Q => ti δ O fun items chk O1 => compA chk g tt te (wipeA δ vs) items [] O1 fun acc O2 => Q (.own O2.length) (.lst acc :: O2)
theorem drop_get {α : Type} {xs r : List α} {x : α} {i : Nat} (h : xs.drop i = x :: r) : xs[i]? = some x ∧ xs.drop (i + 1) = r ∧ i < xs.length := by
  have h0 : i < xs.length := by
    apply Nat.lt_of_not_le
    intro z
    rw [List.drop_eq_nil_of_le z] at h
    cases h
  rw [List.drop_eq_getElem_cons h0] at h
  cases h
  exact ⟨List.getElem?_eq_getElem h0, rfl, h0⟩
theorem lift_lc {ti : AI} {is : List Nat} {g : AG} {tt : AT} {te : AE} {vs : List Nat} {QV : VK} (hi : ∀ i ∈ is, i ∈ vs) (h : lE B (aLc ti g tt te vs) σ H QV) : tLc (lI B ti) (lG B is g) (lT B tt) (lE B te) vs σ H QV := by
  obtain ⟨ρ, O, δ, Q, w, t, k⟩ := h
  refine ⟨ρ, O, δ, _, w, t, fun J H1 ρ1 O1 items chk F1 s1 it t1 => fun D nD => ?_⟩
  have fD := F1.fresh nD
  obtain ⟨F1', s1'⟩ := F1.tupd (t := .lst []) nD
  refine ⟨fun i m H2 => i + m = items.length ∧ ∃ ρ2 O2 acc ws, Fm B.R ρ2 O2 H2 ∧ Sp B.R ρ1 H1 ρ2 H2 ∧ D ∉ ρ2 ∧ H2 D = some (.lst ws) ∧ RelAs H2 ρ2 acc ws ∧ compA chk g tt te (wipeA δ vs) (items.drop i) acc O2 fun acc O2 => Q (.own O2.length) (.lst acc :: O2),
    ⟨items.length, by omega, ρ1, O1, [], [], F1', s1', fD.1, upd_same, RelAs.nil, t1⟩, fun i m H2 hW => ?_⟩
  obtain ⟨em, ρ2, O2, acc, ws, F2, s2, nD2, hD, rs, t2⟩ := hW
  cases hd : items.drop i with
  | nil =>
    have hi : items.length ≤ i := by
      apply Nat.le_of_not_lt
      intro z
      rw [List.drop_eq_getElem_cons z] at hd
      cases hd
    rw [hd] at t2
    obtain ⟨c, q⟩ := t2
    refine .inl ⟨it.stop i ρ2 O2 H2 F2 s2 c (by omega), ?_⟩
    have FA := F2.adopt (o := .lst acc) hD nD2 fD.2 ⟨ws, rfl, rs⟩
    have SA : Sp B.R ρ1 H1 (D :: ρ2) H2 := by
      obtain ⟨n, rfl, hn⟩ := s2.ext
      exact ⟨⟨D :: n, rfl, fun p hp => (List.mem_cons.mp hp).elim (fun e => e ▸ nD) (hn p)⟩, s2.keep⟩
    refine k _ _ (D :: ρ2) _ _ FA (s1.trans w.fm F1 SA) ?_ q
    unfold RelA
    exact ⟨D, rfl, by rw [← F2.len]; exact lv_self⟩
  | cons a rest =>
    obtain ⟨ha, hr, hlt⟩ := drop_get hd
    rw [hd] at t2
    obtain ⟨c, t2⟩ := t2
    refine .inr ⟨it.go i ρ2 O2 H2 F2 s2 c hlt, fun H' => (i + 1) + (m - 1) = items.length ∧ ∃ ρ2 O2 acc ws, Fm B.R ρ2 O2 H' ∧ Sp B.R ρ1 H1 ρ2 H' ∧ D ∉ ρ2 ∧ H' D = some (.lst ws) ∧ RelAs H' ρ2 acc ws ∧ compA chk g tt te (wipeA δ vs) (items.drop (i + 1)) acc O2 fun acc O2 => Q (.own O2.length) (.lst acc :: O2),
      fun H' hN => ⟨m - 1, by omega, hN⟩, fun x H3 y => ?_⟩
    obtain ⟨b, hb, F3, s3, rb⟩ := it.yld i ρ2 O2 H2 x H3 F2 s2 c y hlt
    rw [ha] at hb
    cases hb
    have kD : ∀ {ρ' : List Addr} {H' : Hp}, Sp B.R ρ2 H2 ρ' H' → H' D = some (.lst ws) ∧ D ∉ ρ' := fun {ρ' H'} s => by
      refine ⟨s.keep D _ nD2 fD.2 hD, fun z => ?_⟩
      obtain ⟨n, rfl, hn⟩ := s.ext
      rcases List.mem_append.mp z with z | z
      · rw [hn D z] at hD; cases hD
      · exact nD2 z
    have w3 : Wd B ρ2 O2 (wipeA δ vs) (L2.wipe σ vs) H3 := ((w.move F1 s1).move F2 s2).wipe vs |>.move F3 s3
    refine ⟨ρ2, O2, wipeA δ vs, a, _, w3, rb, t2, fun σ4 H4 ρ4 O4 δ4 w4 s4 l4 k4 t4 => ⟨wipe_eq hi l4 k4, ρ4, O4, δ4, _, w4, t4, fun bb H5 ρ5 O5 F5 s5 t5 => ?_⟩⟩
    have s25 : Sp B.R ρ2 H2 ρ5 H5 := (s3.trans F2 F3 s4).trans F2 w4.fm s5
    cases bb with
    | false =>
      refine iteF ?_
      obtain ⟨e1, e2⟩ := kD s25
      exact ⟨by omega, ρ5, O5, acc, ws, F5, s2.trans F1 F2 s25, e2, e1, rs.step F2 s25, by rw [hr]; exact t5⟩
    | true =>
      refine iteT ?_
      refine ⟨ρ5, O5, δ4, _, w4.move F5 s5, t5, fun z H6 ρ6 O6 zz F6 s6 rz t6 => ?_⟩
      have s26 := s25.trans F2 F5 s6
      obtain ⟨e1, e2⟩ := kD s26
      have rs6 := rs.step F2 s26
      obtain ⟨F7, kt⟩ := F6.side (p := D) (ho := .lst (ws ++ [z])) e2 fD.2 (by rw [e1]; trivial)
      refine ⟨ws, e1, by rw [← rs.length]; exact t6.1, by omega, ρ6, O6, acc ++ [zz], ws ++ [z], F7, (s2.trans F1 F2 s26).side nD, e2, upd_same, ?_, by rw [hr]; exact t6.2⟩
      exact (rs6.append (RelAs.cons rz RelAs.nil)).mv kt fun _ _ z => z
section
variable {elt tg iter : Expr} {ifs : List Expr} {scope : Scope} {own : List (Str × Nat)} {ti : AI} {is : List Nat} {g : AG} {tt : AT} {te : AE}
abbrev LTs (X : Cx) (B : Bs) (es : List Expr) (T : AT) : Prop := PTs X es (lT B T)
theorem lts_nil : LTs X B [] aYes := ⟨fun pins s σ H Q I h => by
  obtain ⟨ρ, O, δ, Q, w, t, k⟩ := h
  exact pts_nil.run pins s σ H _ I (k _ _ _ _ w.fm Sp.refl t)⟩
theorem lts_one {c : Expr} {t : AT} (h : LT X B c t) : LTs X B [c] t := pts_one h
theorem le_lc (hc : X.calm = true) (hN : X.N.Nodup) (hi : LI X B tg iter ti) (ok : BlkOk X.N X.env.scope scope own)
    (hg : ∀ (s : Shared) (H : Hp) (C : Addr) (cl : List (Str × Addr)) (fp : List Addr), LG (X.blk s H scope (compEnvC scope cl C X.env) fp) B tg is g) (ht : ∀ (s : Shared) (H : Hp) (C : Addr) (cl : List (Str × Addr)) (fp : List Addr), LTs (X.blk s H scope (compEnvC scope cl C X.env) fp) B ifs tt)
    (he : ∀ (s : Shared) (H : Hp) (C : Addr) (cl : List (Str × Addr)) (fp : List Addr), LE (X.blk s H scope (compEnvC scope cl C X.env) fp) B elt te)
    (his : ∀ i ∈ is, i ∈ own.map (·.2) := by decide) (hs : ∀ x, foldedSetIterable iter X.env x = pure x := by intro _; rfl) :
    LE X B (.ListComp elt [⟨tg, iter, ifs, 0⟩] scope pos) (aLc ti g tt te (own.map (·.2))) := (pe_lc hc hN hi ok hg ht he hs).imp fun σ H QV h => lift_lc his h
end
/-- a dict by a comprehension, its keys ints and texts -/
def compD (chk : Own → Prop) (g : AG) (tt : AT) (tk te : AE) (δ : Slots) : List A → List (Key × A) → Own → (List (Key × A) → Own → Prop) → Prop
  | [], acc, O, Q => chk O ∧ Q acc O
  | x :: xs, acc, O, Q => chk O ∧ g x δ O fun δ1 O1 => tt δ1 O1 fun b O2 => match b with
    | true => tk δ1 O2 fun z O3 => te δ1 O3 fun y O4 => acc.length < sizeLine ∧ (match keyOf z with | some kk => compD chk g tt tk te δ xs (putA acc kk y) O4 Q | none => False)
    | false => compD chk g tt tk te δ xs acc O2 Q
def aDc (ti : AI) (g : AG) (tt : AT) (tk te : AE) (vs : List Nat) : AE := fun δ O Q => ti δ O fun items chk O1 => compD chk g tt tk te (wipeA δ vs) items [] O1 fun acc O2 => Q (.own O2.length) (.dK acc :: O2)
theorem lift_dc {ti : AI} {is : List Nat} {g : AG} {tt : AT} {tk te : AE} {vs : List Nat} {QV : VK} (hi : ∀ i ∈ is, i ∈ vs) (h : lE B (aDc ti g tt tk te vs) σ H QV) : tDc (lI B ti) (lG B is g) (lT B tt) (lE B tk) (lE B te) vs σ H QV := by
  obtain ⟨ρ, O, δ, Q, w, t, k⟩ := h
  refine ⟨ρ, O, δ, _, w, t, fun J H1 ρ1 O1 items chk F1 s1 it t1 => fun D nD => ?_⟩
  have fD := F1.fresh nD
  obtain ⟨F1', s1'⟩ := F1.tupd (t := .dK []) nD
  refine ⟨fun i m H2 => i + m = items.length ∧ ∃ ρ2 O2 acc ws, Fm B.R ρ2 O2 H2 ∧ Sp B.R ρ1 H1 ρ2 H2 ∧ D ∉ ρ2 ∧ H2 D = some (.dK ws) ∧ RelK H2 ρ2 acc ws ∧ compD chk g tt tk te (wipeA δ vs) (items.drop i) acc O2 fun acc O2 => Q (.own O2.length) (.dK acc :: O2),
    ⟨items.length, by omega, ρ1, O1, [], [], F1', s1', fD.1, upd_same, .nil, t1⟩, fun i m H2 hW => ?_⟩
  obtain ⟨em, ρ2, O2, acc, ws, F2, s2, nD2, hD, rs, t2⟩ := hW
  have mvK : ∀ {ρ ρ' : List Addr} {H H' : Hp} {l : List (Key × A)} {m : List (Key × V)}, (∀ p o, H p = some o → ¬ Mut (some o) → H' p = some o) → (∀ n p, lv ρ n = some p → lv ρ' n = some p) → RelK H ρ l m → RelK H' ρ' l m :=
    fun ht hρ h => L2.Paired.mapP h fun _ _ q => ⟨q.1, q.2.mv ht hρ⟩
  cases hd : items.drop i with
  | nil =>
    have hi : items.length ≤ i := by
      apply Nat.le_of_not_lt
      intro z
      rw [List.drop_eq_getElem_cons z] at hd
      cases hd
    rw [hd] at t2
    obtain ⟨c, q⟩ := t2
    refine .inl ⟨it.stop i ρ2 O2 H2 F2 s2 c (by omega), ?_⟩
    have FA := F2.adopt (o := .dK acc) hD nD2 fD.2 ⟨ws, rfl, rs⟩
    have SA : Sp B.R ρ1 H1 (D :: ρ2) H2 := by
      obtain ⟨n, rfl, hn⟩ := s2.ext
      exact ⟨⟨D :: n, rfl, fun p hp => (List.mem_cons.mp hp).elim (fun e => e ▸ nD) (hn p)⟩, s2.keep⟩
    refine k _ _ (D :: ρ2) _ _ FA (s1.trans w.fm F1 SA) ?_ q
    unfold RelA
    exact ⟨D, rfl, by rw [← F2.len]; exact lv_self⟩
  | cons a rest =>
    obtain ⟨ha, hr, hlt⟩ := drop_get hd
    rw [hd] at t2
    obtain ⟨c, t2⟩ := t2
    refine .inr ⟨it.go i ρ2 O2 H2 F2 s2 c hlt, fun H' => (i + 1) + (m - 1) = items.length ∧ ∃ ρ2 O2 acc ws, Fm B.R ρ2 O2 H' ∧ Sp B.R ρ1 H1 ρ2 H' ∧ D ∉ ρ2 ∧ H' D = some (.dK ws) ∧ RelK H' ρ2 acc ws ∧ compD chk g tt tk te (wipeA δ vs) (items.drop (i + 1)) acc O2 fun acc O2 => Q (.own O2.length) (.dK acc :: O2),
      fun H' hN => ⟨m - 1, by omega, hN⟩, fun x H3 y => ?_⟩
    obtain ⟨b, hb, F3, s3, rb⟩ := it.yld i ρ2 O2 H2 x H3 F2 s2 c y hlt
    rw [ha] at hb
    cases hb
    have kD : ∀ {ρ' : List Addr} {H' : Hp}, Sp B.R ρ2 H2 ρ' H' → H' D = some (.dK ws) ∧ D ∉ ρ' := fun {ρ' H'} s => by
      refine ⟨s.keep D _ nD2 fD.2 hD, fun z => ?_⟩
      obtain ⟨n, rfl, hn⟩ := s.ext
      rcases List.mem_append.mp z with z | z
      · rw [hn D z] at hD; cases hD
      · exact nD2 z
    have w3 : Wd B ρ2 O2 (wipeA δ vs) (L2.wipe σ vs) H3 := ((w.move F1 s1).move F2 s2).wipe vs |>.move F3 s3
    refine ⟨ρ2, O2, wipeA δ vs, a, _, w3, rb, t2, fun σ4 H4 ρ4 O4 δ4 w4 s4 l4 k4 t4 => ⟨wipe_eq hi l4 k4, ρ4, O4, δ4, _, w4, t4, fun bb H5 ρ5 O5 F5 s5 t5 => ?_⟩⟩
    have s25 : Sp B.R ρ2 H2 ρ5 H5 := (s3.trans F2 F3 s4).trans F2 w4.fm s5
    cases bb with
    | false =>
      refine iteF ?_
      obtain ⟨e1, e2⟩ := kD s25
      exact ⟨by omega, ρ5, O5, acc, ws, F5, s2.trans F1 F2 s25, e2, e1, mvK (fun _ _ z m => s25.tup F2 z m) (fun _ _ z => s25.up z) rs, by rw [hr]; exact t5⟩
    | true =>
      refine iteT ?_
      refine ⟨ρ5, O5, δ4, _, w4.move F5 s5, t5, fun z H6 ρ6 O6 zz F6 s6 rz t6 => ⟨ρ6, O6, δ4, _, (w4.move F5 s5).move F6 s6, t6, fun y H7 ρ7 O7 yy F7 s7 ry t7 => ?_⟩⟩
      have s27 := (s25.trans F2 F5 s6).trans F2 F6 s7
      obtain ⟨e1, e2⟩ := kD s27
      cases ek : keyOf zz with
      | none => simp only [ek] at t7; exact t7.2.elim
      | some kk =>
        simp only [ek] at t7
        have rs7 : RelK H7 ρ7 acc ws := mvK (fun _ _ z m => s27.tup F2 z m) (fun _ _ z => s27.up z) rs
        obtain ⟨F8, kt⟩ := F7.side (p := D) (ho := .dK (putK ws kk y)) e2 fD.2 (by rw [e1]; trivial)
        refine ⟨ws, kk, keyOf_of ek rz, e1, by rw [← rs.length]; exact t7.1, by omega, ρ7, O7, putA acc kk yy, putK ws kk y, F8, (s2.trans F1 F2 s27).side nD, e2, upd_same, ?_, by rw [hr]; exact t7.2⟩
        exact mvK kt (fun _ _ z => z) (rs7.put kk ry)
section
variable {kx vx tg iter : Expr} {ifs : List Expr} {scope : Scope} {own : List (Str × Nat)} {ti : AI} {is : List Nat} {g : AG} {tt : AT} {tk te : AE}
theorem le_dc (hc : X.calm = true) (hN : X.N.Nodup) (hi : LI X B tg iter ti) (ok : BlkOk X.N X.env.scope scope own)
    (hg : ∀ (s : Shared) (H : Hp) (C : Addr) (cl : List (Str × Addr)) (fp : List Addr), LG (X.blk s H scope (compEnvC scope cl C X.env) fp) B tg is g) (ht : ∀ (s : Shared) (H : Hp) (C : Addr) (cl : List (Str × Addr)) (fp : List Addr), LTs (X.blk s H scope (compEnvC scope cl C X.env) fp) B ifs tt)
    (hk : ∀ (s : Shared) (H : Hp) (C : Addr) (cl : List (Str × Addr)) (fp : List Addr), LE (X.blk s H scope (compEnvC scope cl C X.env) fp) B kx tk)
    (he : ∀ (s : Shared) (H : Hp) (C : Addr) (cl : List (Str × Addr)) (fp : List Addr), LE (X.blk s H scope (compEnvC scope cl C X.env) fp) B vx te)
    (his : ∀ i ∈ is, i ∈ own.map (·.2) := by decide) (hs : ∀ x, foldedSetIterable iter X.env x = pure x := by intro _; rfl) :
    LE X B (.DictComp kx vx [⟨tg, iter, ifs, 0⟩] scope pos) (aDc ti g tt tk te (own.map (·.2))) := (pe_dc hc hN hi ok hg ht hk he hs).imp fun σ H QV h => lift_dc his h
end
end
end PyA

set_option Elab.async false
set_option linter.all false
set_option maxRecDepth 100000
set_option maxHeartbeats 2000000
/-! Statements, defs. -/
namespace PyA
open PySem PySem.Spec L2
structure AEnds where
  nx : Slots → Own → Prop
  rt : A → Own → Prop
  bk : Slots → Own → Prop := fun _ _ => False
  ct : Slots → Own → Prop := fun _ _ => False
abbrev AS := AEnds → Slots → Own → Prop
structure EndsOk (B : Bs) (AD : AEnds) (D : Ends) (ρ₀ : List Addr) (H₀ : Hp) : Prop where
  nx : ∀ σ H ρ O δ, Wd B ρ O δ σ H → Sp B.R ρ₀ H₀ ρ H → AD.nx δ O → D.nx σ H
  rt : ∀ v H ρ O a, Fm B.R ρ O H → Sp B.R ρ₀ H₀ ρ H → RelA H ρ a v → AD.rt a O → D.rt v H
  bk : ∀ σ H ρ O δ, Wd B ρ O δ σ H → Sp B.R ρ₀ H₀ ρ H → AD.bk δ O → D.bk σ H
  ct : ∀ σ H ρ O δ, Wd B ρ O δ σ H → Sp B.R ρ₀ H₀ ρ H → AD.ct δ O → D.ct σ H
theorem EndsOk.next {B : Bs} {AD : AEnds} {D : Ends} {ρ ρ' : List Addr} {O O' : Own} {H H' : Hp} (k : EndsOk B AD D ρ H) (F : Fm B.R ρ O H) (F' : Fm B.R ρ' O' H') (s : Sp B.R ρ H ρ' H') : EndsOk B AD D ρ' H' :=
  ⟨fun σ H2 ρ2 O2 δ2 w s2 q => k.nx σ H2 ρ2 O2 δ2 w (s.trans F F' s2) q, fun v H2 ρ2 O2 a F2 s2 r q => k.rt v H2 ρ2 O2 a F2 (s.trans F F' s2) r q, fun σ H2 ρ2 O2 δ2 w s2 q => k.bk σ H2 ρ2 O2 δ2 w (s.trans F F' s2) q, fun σ H2 ρ2 O2 δ2 w s2 q => k.ct σ H2 ρ2 O2 δ2 w (s.trans F F' s2) q⟩
def lS (B : Bs) (T : AS) : TS := fun D σ H => ∃ ρ O δ AD, Wd B ρ O δ σ H ∧ T AD δ O ∧ EndsOk B AD D ρ H
abbrev LS (X : Cx) (B : Bs) (s : Stmt) (T : AS) : Prop := PS X s (lS B T)
abbrev LSs (X : Cx) (B : Bs) (ss : List Stmt) (T : AS) : Prop := PSs X ss (lS B T)
section
variable {X : Cx} {B : Bs} {R : Res} {pos : Pos} {ρ ρ' : List Addr} {O O' : Own} {H H' : Hp} {δ : Slots} {σ : L2.St}
def sNext : AS := fun D δ O => D.nx δ O
def sSeq (t u : AS) : AS := fun D δ O => t { D with nx := u D } δ O
theorem lss_nil : LSs X B [] sNext := pss_nil.imp fun D σ H ⟨ρ, O, δ, AD, w, t, k⟩ => k.nx _ _ _ _ _ w Sp.refl t
theorem lss_cons {st : Stmt} {rest : List Stmt} {t u : AS} (h1 : LS X B st t) (h2 : LSs X B rest u) : LSs X B (st :: rest) (sSeq t u) := (pss_cons h1 h2).imp fun D σ H ⟨ρ, O, δ, AD, w, t, k⟩ =>
  ⟨ρ, O, δ, _, w, t, ⟨fun σ' H' ρ' O' δ' w' s' q => ⟨ρ', O', δ', AD, w', q, k.next w.fm w'.fm s'⟩, k.rt, k.bk, k.ct⟩⟩
theorem lss_one {st : Stmt} {t : AS} (h1 : LS X B st t) : LSs X B [st] t := pss_one h1
def sBreak : AS := fun D δ O => D.bk δ O
def sCont : AS := fun D δ O => D.ct δ O
theorem ls_pass : LS X B (.Pass pos) sNext := ps_pass.imp fun D σ H ⟨ρ, O, δ, AD, w, t, k⟩ => k.nx _ _ _ _ _ w Sp.refl t
theorem ls_break : LS X B (.Break pos) sBreak := ps_break.imp fun D σ H ⟨ρ, O, δ, AD, w, t, k⟩ => k.bk _ _ _ _ _ w Sp.refl t
theorem ls_cont : LS X B (.Continue pos) sCont := ps_continue.imp fun D σ H ⟨ρ, O, δ, AD, w, t, k⟩ => k.ct _ _ _ _ _ w Sp.refl t
def sExpr (te : AE) : AS := fun D δ O => te δ O fun _ O1 => D.nx δ O1
theorem ls_expr {e : Expr} {te : AE} (he : LE X B e te) (hs : swapsWith e none pos.line X.env = pure false := by rfl) : LS X B (.Expr e pos) (sExpr te) := (ps_expr he hs).imp fun D σ H ⟨ρ, O, δ, AD, w, t, k⟩ =>
  ⟨ρ, O, δ, _, w, t, fun v H1 ρ1 O1 a F1 s1 ra t1 => k.nx _ _ _ _ _ (w.move F1 s1) s1 t1⟩
def sRet (te : AE) : AS := fun D δ O => te δ O D.rt
theorem ls_ret {e : Expr} {te : AE} (he : LE X B e te) : LS X B (.Return (some e) pos) (sRet te) := (ps_ret he).imp fun D σ H ⟨ρ, O, δ, AD, w, t, k⟩ =>
  ⟨ρ, O, δ, _, w, t, fun v H1 ρ1 O1 a F1 s1 ra t1 => k.rt _ _ _ _ _ F1 s1 ra t1⟩
def sRetN : AS := fun D _ O => D.rt .non O
theorem ls_retN : LS X B (.Return none pos) sRetN := ps_retN.imp fun D σ H ⟨ρ, O, δ, AD, w, t, k⟩ => k.rt _ _ _ _ _ w.fm Sp.refl rel_non t
def sIf (c : AT) (t u : AS) : AS := fun D δ O => c δ O fun b O1 => match b with | true => t D δ O1 | false => u D δ O1
theorem ls_if {c : Expr} {a b : List Stmt} {tc : AT} {t u : AS} (hc : LT X B c tc) (ha : LSs X B a t) (hb : LSs X B b u) : LS X B (.If c a b pos) (sIf tc t u) := (ps_if hc ha hb).imp fun D σ H ⟨ρ, O, δ, AD, w, t, k⟩ => by
  refine ⟨ρ, O, δ, _, w, t, fun b H1 ρ1 O1 F1 s1 t1 => ?_⟩
  cases b with
  | true => exact iteT ⟨ρ1, O1, δ, AD, w.move F1 s1, t1, k.next w.fm F1 s1⟩
  | false => exact iteF ⟨ρ1, O1, δ, AD, w.move F1 s1, t1, k.next w.fm F1 s1⟩
def sAsg (te : AE) (g : AG) : AS := fun D δ O => te δ O fun a O1 => g a δ O1 D.nx
theorem lift_asg {is : List Nat} {te : AE} {g : AG} {D : Ends} (h : lS B (sAsg te g) D σ H) : tAsg (lE B te) (lG B is g) D σ H := by
  obtain ⟨ρ, O, δ, AD, w, t, k⟩ := h
  refine ⟨ρ, O, δ, _, w, t, fun v H1 ρ1 O1 a F1 s1 ra t1 => ⟨ρ1, O1, δ, a, AD.nx, w.move F1 s1, ra, t1, fun σ2 H2 ρ2 O2 δ2 w2 s2 l2 k2 q2 => k.nx _ _ _ _ _ w2 (s1.trans w.fm F1 s2) q2⟩⟩
theorem ls_asg {tg e : Expr} {te : AE} {is : List Nat} {g : AG} (he : LE X B e te) (hg : LG X B tg is g) (hs : swapsWithSole [tg] e pos.line X.env = pure false := by rfl) (hw : swappedStores [tg] e X.env = pure none := by rfl)
    (h1 : (assignEach [tg] X.env).map (·.2) = [assign tg X.env] := by rfl) : LS X B (.Assign [tg] e pos) (sAsg te g) := (ps_asg he hg hs hw h1).imp fun D σ H h => lift_asg h
theorem ls_set (i : Nat) {x : Str} {e : Expr} {te : AE} {pos' : Pos} (hN : X.N.Nodup) (he : LE X B e te) (hi : X.N[i]? = some x := by rfl) (hx : Loc X.env.scope x := by first | exact Or.inl rfl | exact Or.inr rfl) (hs : swapsWith e (some (.Name x pos')) pos.line X.env = pure false := by rfl)
    (hf : X.fn x = true ∨ X.env.scope.names.lookup x = some .local := by first | exact .inl rfl | exact .inr rfl) : LS X B (.Assign [.Name x pos'] e pos) (sAsg te (agN i)) := (ps_set hN hi hx he hs hf).imp fun D σ H ⟨ρ, O, δ, AD, w, t, k⟩ =>
  ⟨ρ, O, δ, _, w, t, fun v H1 ρ1 O1 a F1 s1 ra t1 => k.nx _ _ _ _ _ ((w.move F1 s1).set i ra) s1 t1⟩
/-- name = [..] -/
theorem ls_setLc (i : Nat) {y : Str} {py : Pos} {elt tg iter : Expr} {ifs : List Expr} {scope : Scope} {own : List (Str × Nat)} {spos : Pos} {ti : AI} {is : List Nat} {g : AG} {tt : AT} {te : AE} (hc : X.calm = true) (hN : X.N.Nodup)
    (hsw : swapsWith (.ListComp elt [⟨tg, iter, ifs, 0⟩] scope pos) (some (.Name y py)) spos.line X.env = pure true) (hi : LI X B tg iter ti) (ok : BlkOk X.N X.env.scope scope own)
    (hg : ∀ (s : Shared) (H : Hp) (C : Addr) (cl : List (Str × Addr)) (fp : List Addr), LG (X.blk s H scope (compEnvC scope cl C X.env) fp) B tg is g) (ht : ∀ (s : Shared) (H : Hp) (C : Addr) (cl : List (Str × Addr)) (fp : List Addr), LTs (X.blk s H scope (compEnvC scope cl C X.env) fp) B ifs tt)
    (he : ∀ (s : Shared) (H : Hp) (C : Addr) (cl : List (Str × Addr)) (fp : List Addr), LE (X.blk s H scope (compEnvC scope cl C X.env) fp) B elt te)
    (hy : X.N[i]? = some y := by rfl) (hyl : X.env.scope.names.lookup y = some .local := by rfl)
    (his : ∀ i ∈ is, i ∈ own.map (·.2) := by decide) (hs : ∀ x, foldedSetIterable iter X.env x = pure x := by intro _; rfl) :
    LS X B (.Assign [.Name y py] (.ListComp elt [⟨tg, iter, ifs, 0⟩] scope pos) spos) (sAsg (aLc ti g tt te (own.map (·.2))) (agN i)) := (ps_setLc hc hN hy hyl hsw hi ok hg ht he hs).imp fun D σ H ⟨ρ, O, δ, AD, w, t, k⟩ =>
  lift_lc (QV := fun x H1 => gName i x σ H1 D.nx) his ⟨ρ, O, δ, _, w, t, fun v H1 ρ1 O1 a F1 s1 ra t1 => k.nx _ _ _ _ _ ((w.move F1 s1).set i ra) s1 t1⟩
/-- a, b = x, y -/
def sPar (i j : Nat) (ts : AL) : AS := fun D δ O => ts δ O fun as O1 => match as with | [a, b] => D.nx ((δ.set i (some a)).set j (some b)) O1 | _ => False
theorem ls_par (i j : Nat) {x y : Str} {a b : Expr} {ts : AL} {px py pt : Pos} {kt k2 pt2} (hc : X.calm = true) (hN : X.N.Nodup) (ha : LL X B [a, b] ts)
    (hi : X.N[i]? = some x := by rfl) (hj : X.N[j]? = some y := by rfl) (hij : i ≠ j := by decide) (hx : X.env.scope.names.lookup x = some .local := by rfl) (hy : X.env.scope.names.lookup y = some .local := by rfl)
    (hw : swappedStores [.Tuple [.Name x px, .Name y py] kt pt] (.Tuple [a, b] k2 pt2) X.env = pure (some [x, y]) := by rfl)
    (hs : swapsWithSole [.Tuple [.Name x px, .Name y py] kt pt] (.Tuple [a, b] k2 pt2) pos.line X.env = pure false := by rfl) :
    LS X B (.Assign [.Tuple [.Name x px, .Name y py] kt pt] (.Tuple [a, b] k2 pt2) pos) (sPar i j ts) := (ps_par hc hN hi hj hij hx hy ha hw hs).imp fun D σ H ⟨ρ, O, δ, AD, w, t, k⟩ => by
  refine ⟨ρ, O, δ, _, w, t, fun vs H1 ρ1 O1 as F1 s1 rs t1 => ?_⟩
  split at t1
  · obtain ⟨v, v2, rfl, rv, rv2⟩ := rel2 rs
    exact ⟨v, v2, rfl, k.nx _ _ _ _ _ (((w.move F1 s1).set i rv).set j rv2) s1 t1⟩
  · exact t1.elim
def sPar3 (i j l : Nat) (ts : AL) : AS := fun D δ O => ts δ O fun as O1 => match as with | [a, b, c] => D.nx (((δ.set i (some a)).set j (some b)).set l (some c)) O1 | _ => False
theorem rel3 {a b c : A} {vs : List V} (r : RelAs H ρ [a, b, c] vs) : ∃ u v w, vs = [u, v, w] ∧ RelA H ρ a u ∧ RelA H ρ b v ∧ RelA H ρ c w := by
  obtain ⟨v, r, rfl, h1, h2⟩ := RelAs.cons_iff.mp r
  obtain ⟨w, w2, rfl, h3, h4⟩ := rel2 h2
  exact ⟨v, w, w2, rfl, h1, h3, h4⟩
theorem ls_par3 (i j l : Nat) {x y z : Str} {a b c : Expr} {ts : AL} {px py pz pt : Pos} {kt k2 pt2} (hc : X.calm = true) (hN : X.N.Nodup) (ha : LL X B [a, b, c] ts)
    (hi : X.N[i]? = some x := by rfl) (hj : X.N[j]? = some y := by rfl) (hl : X.N[l]? = some z := by rfl) (hij : i ≠ j := by decide) (hil : i ≠ l := by decide) (hjl : j ≠ l := by decide)
    (hx : X.env.scope.names.lookup x = some .local := by rfl) (hy : X.env.scope.names.lookup y = some .local := by rfl) (hz : X.env.scope.names.lookup z = some .local := by rfl)
    (hw : swappedStores [.Tuple [.Name x px, .Name y py, .Name z pz] kt pt] (.Tuple [a, b, c] k2 pt2) X.env = pure (some [x, y, z]) := by rfl)
    (hs : swapsWithSole [.Tuple [.Name x px, .Name y py, .Name z pz] kt pt] (.Tuple [a, b, c] k2 pt2) pos.line X.env = pure false := by rfl) :
    LS X B (.Assign [.Tuple [.Name x px, .Name y py, .Name z pz] kt pt] (.Tuple [a, b, c] k2 pt2) pos) (sPar3 i j l ts) := (ps_par3 hc hN hi hj hl hij hil hjl hx hy hz ha hw hs).imp fun D σ H ⟨ρ, O, δ, AD, w, t, k⟩ => by
  refine ⟨ρ, O, δ, _, w, t, fun vs H1 ρ1 O1 as F1 s1 rs t1 => ?_⟩
  split at t1
  · obtain ⟨v, v2, v3, rfl, rv, rv2, rv3⟩ := rel3 rs
    exact ⟨v, v2, v3, rfl, k.nx _ _ _ _ _ ((((w.move F1 s1).set i rv).set j rv2).set l rv3) s1 t1⟩
  · exact t1.elim

/-! ### stores -/
/-- o[i] = v of a list -/
def setA (O : Own) (o i v : A) : Option Own := match o, i with
  | .own n, .int k => (match lv O n with | some (.lst xs) => (ixN xs.length k).map fun j => lput O n (.lst (xs.set j v)) | _ => none)
  | _, _ => none
theorem setA_of {R : Res} (F : Fm R ρ O H) {o i a : A} {O' : Own} {x y v : V} (h : setA O o i a = some O') (ro : RelA H ρ o x) (ri : RelA H ρ i y) (rv : RelA H ρ a v) : ∃ p xs k j, x = .ref p ∧ y = .int k ∧ H p = some (.lst xs) ∧ ixN xs.length k = some j ∧ Fm R ρ O' (upd H p (.lst (xs.set j v))) ∧ Sp R ρ H ρ (upd H p (.lst (xs.set j v))) := by
  unfold setA at h
  split at h
  · rename_i n k
    cases e : lv O n with
    | none => simp only [e] at h; cases h
    | some ob =>
      cases ob with
      | lst xs =>
        simp only [e] at h
        cases e2 : ixN xs.length k with
        | none => rw [e2] at h; cases h
        | some j =>
          rw [e2] at h
          cases h
          obtain ⟨p, ws, rfl, hn, hp, rr⟩ := F.lst e ro
          unfold RelA at ri
          obtain ⟨F', s⟩ := F.put hn (o := .lst (xs.set j a)) (ho := .lst (ws.set j v)) ⟨_, rfl, rr.set j rv⟩
          exact ⟨p, ws, k, j, rfl, ri, hp, by rw [← rr.length]; exact e2, F', s⟩
      | _ => simp only [e] at h; cases h
  · cases h
def sSub (to ti tv : AE) : AS := fun D δ O => tv δ O fun v O1 => to δ O1 fun o O2 => ti δ O2 fun i O3 => match setA O3 o i v with | some O4 => D.nx δ O4 | none => False
theorem ls_sub {o i e : Expr} {to ti tv : AE} {pos' : Pos} (ho : LE X B o to) (hi : LE X B i ti) (he : LE X B e tv) (hs : swapsWithSole [.Subscript o i pos'] e pos.line X.env = pure false := by rfl) (hw : swappedStores [.Subscript o i pos'] e X.env = pure none := by rfl)
    (h1 : (assignEach [.Subscript o i pos'] X.env).map (·.2) = [assign (.Subscript o i pos') X.env] := by rfl)
    (ha : ∀ v, assign (.Subscript o i pos') X.env v = (do
      let ov ← holding [v] (eval o X.env)
      let iv ← holding [v, ov] (eval i X.env)
      standAt pos'
      holding [v, ov, iv] (setItem ov iv v)
      release [v, ov, iv] []) := by intro _; rfl) : LS X B (.Assign [.Subscript o i pos'] e pos) (sSub to ti tv) := (ps_asg he (pg_sub ho hi set_list ha) hs hw h1).imp fun D σ H ⟨ρ, O, δ, AD, w, t, k⟩ => by
  refine ⟨ρ, O, δ, _, w, t, fun v H1 ρ1 O1 a F1 s1 ra t1 => ⟨ρ1, O1, δ, _, w.move F1 s1, t1, fun x H2 ρ2 O2 o F2 s2 ro t2 => ⟨ρ2, O2, δ, _, (w.move F1 s1).move F2 s2, t2, fun y H3 ρ3 O3 i F3 s3 ri t3 => ?_⟩⟩⟩
  cases e : setA O3 o i a with
  | none => simp only [e] at t3
  | some O4 =>
    simp only [e] at t3
    obtain ⟨p, xs, kk, j, rfl, rfl, h1, h2, F4, s4⟩ := setA_of F3 e (ro.step F2 s3) ri ((ra.step F1 s2).step F2 s3)
    exact ⟨p, xs, kk, j, rfl, rfl, h1, h2, k.nx _ _ _ _ _ ((((w.move F1 s1).move F2 s2).move F3 s3).move F4 s4) (((s1.trans w.fm F1 s2).trans w.fm F2 s3).trans w.fm F3 s4) t3⟩
/-- d[k] = v -/
def dputA (O : Own) (d k v : A) : Option Own := match d with
  | .own n => match lv O n, k with
    | some (.dK kvs), k => if kvs.length < sizeLine then (keyOf k).map fun kk => lput O n (.dK (putA kvs kk v)) else none
    | some (.dT kvs), .tup ks => if kvs.length < sizeLine then (keysOf ks).map fun kk => lput O n (.dT (putA kvs kk v)) else none
    | _, _ => none
  | _ => none
theorem dputA_of {R : Res} (F : Fm R ρ O H) {d i a : A} {O' : Own} {x y v : V} (h : dputA O d i a = some O') (rd : RelA H ρ d x) (ri : RelA H ρ i y) (rv : RelA H ρ a v) : ∃ p H', x = .ref p ∧ DPut H p y v H' ∧ Fm R ρ O' H' ∧ Sp R ρ H ρ H' := by
  cases d with
  | own n =>
    unfold dputA at h
    cases e : lv O n with
    | none => simp only [e] at h; cases h
    | some ob =>
      obtain ⟨p, ho, h1, h2, h3⟩ := F.ob n ob e
      unfold RelA at rd
      obtain ⟨q, rfl, hq⟩ := rd
      rw [h1] at hq
      cases hq
      cases ob with
      | lst xs => simp only [e] at h; cases h
      | dK kvs =>
        simp only [e] at h
        obtain ⟨kws, rfl, rr⟩ := h3
        by_cases hz : kvs.length < sizeLine
        · rw [if_pos hz] at h
          cases e2 : keyOf i with
          | none => rw [e2] at h; cases h
          | some kk =>
            rw [e2] at h
            cases h
            rw [keyOf_of e2 ri]
            obtain ⟨F', s⟩ := F.put h1 (o := .dK (putA kvs kk a)) (ho := .dK (putK kws kk v)) ⟨_, rfl, RelK.put kk rr rv⟩
            exact ⟨p, _, rfl, DPut.k h2 (by rw [← RelK.length rr]; exact hz), F', s⟩
        · rw [if_neg hz] at h; cases h
      | dT kvs =>
        cases i with
        | tup ks =>
          simp only [e] at h
          obtain ⟨kws, rfl, rr⟩ := h3
          by_cases hz : kvs.length < sizeLine
          · rw [if_pos hz] at h
            cases e2 : keysOf ks with
            | none => rw [e2] at h; cases h
            | some kk =>
              rw [e2] at h
              cases h
              unfold RelA at ri
              obtain ⟨b, vs, rfl, hb, rs⟩ := ri
              rw [keysOf_of e2 rs] at hb
              obtain ⟨F', s⟩ := F.put h1 (o := .dT (putA kvs kk a)) (ho := .dT (putK kws kk v)) ⟨_, rfl, RelK.put kk rr rv⟩
              exact ⟨p, _, rfl, DPut.t h2 hb (by rw [← RelK.length rr]; exact hz), F', s⟩
          · rw [if_neg hz] at h; cases h
        | _ => simp only [e] at h; cases h
  | _ => cases h
def sDPutA (to ti tv : AE) : AS := fun D δ O => tv δ O fun v O1 => to δ O1 fun o O2 => ti δ O2 fun i O3 => match dputA O3 o i v with | some O4 => D.nx δ O4 | none => False
theorem ls_dput {o i e : Expr} {to ti tv : AE} {pos' : Pos} {k : Nat} (hr : Room k X.A) (ho : LE X B o to) (hi : LE X B i ti) (he : LE X B e tv) (hs : swapsWith e (some (.Subscript o i pos')) pos.line X.env = pure false := by rfl) :
    LS X B (.Assign [.Subscript o i pos'] e pos) (sDPutA to ti tv) := (ps_dput (hu_of hr) ho hi he hs).imp fun D σ H ⟨ρ, O, δ, AD, w, t, k⟩ => by
  refine ⟨ρ, O, δ, _, w, t, fun v H1 ρ1 O1 a F1 s1 ra t1 => ⟨ρ1, O1, δ, _, w.move F1 s1, t1, fun x H2 ρ2 O2 o F2 s2 ro t2 => ⟨ρ2, O2, δ, _, (w.move F1 s1).move F2 s2, t2, fun y H3 ρ3 O3 i F3 s3 ri t3 => ?_⟩⟩⟩
  cases e : dputA O3 o i a with
  | none => simp only [e] at t3
  | some O4 =>
    simp only [e] at t3
    obtain ⟨p, H4, rfl, h1, F4, s4⟩ := dputA_of F3 e (ro.step F2 s3) ri ((ra.step F1 s2).step F2 s3)
    exact ⟨p, H4, rfl, h1, k.nx _ _ _ _ _ ((((w.move F1 s1).move F2 s2).move F3 s3).move F4 s4) (((s1.trans w.fm F1 s2).trans w.fm F2 s3).trans w.fm F3 s4) t3⟩
/-- name op= e, of ints -/
def sAug (i : Nat) (g : A2) (te : AE) : AS := fun D δ O => match sg δ i with | some a => te δ O fun b O1 => g a b O1 fun c O2 => D.nx (δ.set i (some c)) O2 | none => False
theorem ls_aug (i : Nat) {x : Str} {e : Expr} {te : AE} {op : Operator} {g : A2} {pos' : Pos} (hN : X.N.Nodup) (ho : OpL X B.R (inplaceOp op) g) (he : LE X B e te) (hi : X.N[i]? = some x := by rfl) (hx : Loc X.env.scope x := by first | exact Or.inl rfl | exact Or.inr rfl) (hf : X.fn x = true ∨ X.env.scope.names.lookup x = some .local := by first | exact .inl rfl | exact .inr rfl) :
    LS X B (.AugAssign (.Name x pos') op e pos) (sAug i g te) := (ps_aug hN hi hx he (ti := l2 B.R g) (fun pins s σ H x y v u Q I rx ry h => ho pins s σ H x y v u Q I rx ry h) hf).imp fun D σ H ⟨ρ, O, δ, AD, w, t, k⟩ => by
  unfold sAug at t
  cases e : sg δ i with
  | none => simp only [e] at t
  | some a =>
    simp only [e] at t
    obtain ⟨v, hv, ra⟩ := w.sl.at' i a (sg_get e)
    refine ⟨v, hv, ρ, O, δ, _, w, t, fun y H1 ρ1 O1 b F1 s1 rb t1 => ⟨ρ1, O1, a, b, _, F1, ra.step w.fm s1, rb, t1, fun z H2 ρ2 O2 c F2 s2 rc t2 => ?_⟩⟩
    exact k.nx _ _ _ _ _ (((w.move F1 s1).move F2 s2).set i rc) (s1.trans w.fm F1 s2) t2
theorem oi_add : OpL X R (inplaceOp .Add) (opI fun i j => some (.int (i + j))) := ol_I (rI_of iop_add) fun i j a e => by cases e; exact ⟨trivial, fun _ _ => rel_int⟩
theorem oi_sub : OpL X R (inplaceOp .Sub) (opI fun i j => some (.int (i - j))) := ol_I (rI_of iop_sub) fun i j a e => by cases e; exact ⟨trivial, fun _ _ => rel_int⟩
/-- o[i] op= e of a list -/
theorem get_listV : PGet X (rIxL X.K) := by
  intro pins s σ H x y v u Q I rx ry h
  obtain ⟨p, xs, i, z, rfl, rfl, hq, he, q⟩ := h
  cases rx
  obtain ⟨t, rfl⟩ := ry
  obtain ⟨its, r, pl, hz⟩ := I.list hq
  obtain ⟨j, h1, h2, h3, h4, h5⟩ := atI_get he
  obtain ⟨w, ew, rw'⟩ := r.get h2
  have hl := r.length
  have hn := line63
  have fin : EP X pins σ Q w s := ⟨z, H, I, rw', q⟩
  by_cases h0 : 0 ≤ i
  · have hj : i.toNat = j := by
      rw [_root_.PySem.seqIndex_of h0 h5] at h1
      exact Option.some.inj h1
    exact wpAny_getItem_list pl.isList h0 (by omega) (by rw [hj]; simpa using ew) fin
  · have hj : (i + (its.toArray.size : Int)).toNat = j := by
      rw [_root_.PySem.seqIndex_neg (by omega) h4] at h1
      rw [List.size_toArray, ← hl]
      exact Option.some.inj h1
    exact wpAny_getItem_list_neg pl.isList (by omega) (by rw [List.size_toArray] <;> omega) (by omega) (by rw [hj]; simpa using ew) fin
def ixLA : A2
  | .own n, .int i, O, Q => (match lv O n with | some (.lst xs) => (match L2.atI xs i with | some v => Q v O | none => False) | _ => False)
  | _, _, _, _ => False
def sAugS (g : A2) (to ti te : AE) : AS := fun D δ O => to δ O fun o O1 => ti δ O1 fun i O2 => ixLA o i O2 fun x O3 => te δ O3 fun y O4 => g x y O4 fun z O5 => match setA O5 o i z with | some O6 => D.nx δ O6 | none => False
theorem ls_augS {o i e : Expr} {to ti te : AE} {g : A2} {op : Operator} {tpos : Pos} (hop : OpL X B.R (inplaceOp op) g) (ho : LE X B o to) (hi : LE X B i ti) (he : LE X B e te)
    (ha : ∀ ov iv new, augStore i ov iv new = (do holding [new, ov, iv] (setItem ov iv new); release [new, ov, iv] []; pure .next) := by intros; rfl) : LS X B (.AugAssign (.Subscript o i tpos) op e pos) (sAugS g to ti te) :=
  (ps_augS ho hi get_listV he (tip := l2 B.R g) (fun pins s σ H x y v u Q I rx ry h => hop pins s σ H x y v u Q I rx ry h) set_list ha).imp fun D σ H ⟨ρ, O, δ, AD, w, t, k⟩ => by
  refine ⟨ρ, O, δ, _, w, t, fun x H1 ρ1 O1 oa F1 s1 ro t1 => ⟨ρ1, O1, δ, _, w.move F1 s1, t1, fun y H2 ρ2 O2 ia F2 s2 ri t2 => ?_⟩⟩
  have w2 := (w.move F1 s1).move F2 s2
  cases ia with
  | int i =>
    cases oa with
    | own n =>
      cases e1 : lv O2 n with
      | none => simp only [ixLA, e1] at t2
      | some ob =>
        cases ob with
        | lst xs =>
          simp only [ixLA, e1] at t2
          cases e2 : L2.atI xs i with
          | none => simp only [e2] at t2
          | some z =>
            simp only [e2] at t2
            obtain ⟨p, vs, rfl, hn, hp, rr⟩ := F2.lst e1 (ro.step F1 s2)
            obtain ⟨zv, hz, rz⟩ := rr.atI e2
            have ri0 := ri
            unfold RelA at ri
            subst ri
            refine ⟨p, vs, i, zv, rfl, rfl, SqL.of hp, hz, ρ2, O2, δ, _, w2, t2, fun y4 H4 ρ4 O4 b F4 s4 rb t4 => ⟨ρ4, O4, z, b, _, F4, rz.step F2 s4, rb, t4, fun z5 H5 ρ5 O5 c F5 s5 rc t5 => ?_⟩⟩
            cases e : setA O5 (.own n) (.int i) c with
            | none => simp only [e] at t5
            | some O6 =>
              simp only [e] at t5
              obtain ⟨p', ys, kk, j, e3, e4, h1, h2, F6, s6⟩ := setA_of F5 e (((ro.step F1 s2).step F2 s4).step F4 s5) ((ri0.step F2 s4).step F4 s5) rc
              exact ⟨p', ys, kk, j, e3, e4, h1, h2, k.nx _ _ _ _ _ (((w2.move F4 s4).move F5 s5).move F6 s6) ((((s1.trans w.fm F1 s2).trans w.fm F2 s4).trans w.fm F4 s5).trans w.fm F5 s6) t5⟩
        | _ => simp only [ixLA, e1] at t2
    | _ => exact t2.elim
  | _ => cases oa <;> exact t2.elim

/-! ### loops -/
def forA (chk : Own → Prop) (g : AG) (body : AS) (D : AEnds) : List A → Slots → Own → Prop
  | [], δ, O => chk O ∧ D.nx δ O
  | x :: xs, δ, O => chk O ∧ g x δ O fun δ1 O1 => body { nx := forA chk g body D xs, rt := D.rt, bk := D.nx, ct := forA chk g body D xs } δ1 O1
def sFor (ti : AI) (g : AG) (body : AS) : AS := fun D δ O => ti δ O fun items chk O1 => forA chk g body D items δ O1
theorem ls_for {tg iter : Expr} {bd : List Stmt} {ti : AI} {is : List Nat} {g : AG} {body : AS} (hp : PassesOwn (model X.prog X.w) X.A X.env X.xe) (hc : X.calm = true) (hi : LI X B tg iter ti) (hg : LG X B tg is g) (hb : LSs X B bd body)
    (hs : ∀ x, foldedSetIterable iter X.env x = pure x := by intro _; rfl) : LS X B (.For tg iter bd [] pos) (sFor ti g body) := (ps_for hp hc hi hg hb hs).imp fun D σ H ⟨ρ, O, δ, AD, w, t, k⟩ => by
  refine ⟨ρ, O, δ, _, w, t, fun J H1 ρ1 O1 items chk F1 s1 it t1 => ?_⟩
  refine ⟨fun i m σ2 H2 => i + m = items.length ∧ ∃ ρ2 O2 δ2, Wd B ρ2 O2 δ2 σ2 H2 ∧ Sp B.R ρ1 H1 ρ2 H2 ∧ forA chk g body AD (items.drop i) δ2 O2,
    ⟨items.length, by omega, ρ1, O1, δ, w.move F1 s1, Sp.refl, t1⟩, fun i m σ2 H2 hW => ?_⟩
  obtain ⟨em, ρ2, O2, δ2, w2, s2, t2⟩ := hW
  cases hd : items.drop i with
  | nil =>
    have hi : items.length ≤ i := by
      apply Nat.le_of_not_lt
      intro z
      rw [List.drop_eq_getElem_cons z] at hd
      cases hd
    rw [hd] at t2
    exact .inl ⟨it.stop i ρ2 O2 H2 w2.fm s2 t2.1 (by omega), k.nx _ _ _ _ _ w2 (s1.trans w.fm F1 s2) t2.2⟩
  | cons a rest =>
    obtain ⟨ha, hr, hlt⟩ := drop_get hd
    rw [hd] at t2
    obtain ⟨c, t2⟩ := t2
    refine .inr ⟨it.go i ρ2 O2 H2 w2.fm s2 c hlt, fun σ' H' => (i + 1) + (m - 1) = items.length ∧ ∃ ρ3 O3 δ3, Wd B ρ3 O3 δ3 σ' H' ∧ Sp B.R ρ1 H1 ρ3 H' ∧ forA chk g body AD (items.drop (i + 1)) δ3 O3,
      fun σ' H' hN => ⟨m - 1, by omega, hN⟩, fun x H3 y => ?_⟩
    obtain ⟨b, hb', F3, s3, rb⟩ := it.yld i ρ2 O2 H2 x H3 w2.fm s2 c y hlt
    rw [ha] at hb'
    cases hb'
    have w3 := w2.move F3 s3
    refine ⟨ρ2, O2, δ2, a, _, w3, rb, t2, fun σ4 H4 ρ4 O4 δ4 w4 s4 l4 k4 t4 => ?_⟩
    have s14 := (s2.trans F1 w2.fm s3).trans F1 F3 s4
    have s04 := s1.trans w.fm F1 s14
    have kn := k.next w.fm w4.fm s04
    refine ⟨ρ4, O4, δ4, _, w4, t4, ⟨fun σ5 H5 ρ5 O5 δ5 w5 s5 q5 => ⟨by omega, ρ5, O5, δ5, w5, s14.trans F1 w4.fm s5, by rw [hr]; exact q5⟩, kn.rt, kn.nx, fun σ5 H5 ρ5 O5 δ5 w5 s5 q5 => ⟨by omega, ρ5, O5, δ5, w5, s14.trans F1 w4.fm s5, by rw [hr]; exact q5⟩⟩⟩
def whileA (c : AT) (body : AS) (D : AEnds) : Nat → Slots → Own → Prop
  | 0, _, _ => False
  | n + 1, δ, O => c δ O fun b O1 => match b with
    | true => body { nx := whileA c body D n, rt := D.rt, bk := D.nx, ct := whileA c body D n } δ O1
    | false => D.nx δ O1
def sWhile (c : AT) (body : AS) : AS := fun D δ O => ∃ n, whileA c body D n δ O
theorem ls_while {c : Expr} {bd : List Stmt} {tc : AT} {body : AS} (hp : PassesOwn (model X.prog X.w) X.A X.env X.xe) (hc : LT X B c tc) (hb : LSs X B bd body) : LS X B (.While c bd [] pos) (sWhile tc body) := (ps_while hp hc hb).imp fun D σ H ⟨ρ, O, δ, AD, w, t, k⟩ => by
  obtain ⟨n0, t⟩ := t
  refine ⟨fun m σ2 H2 => ∃ ρ2 O2 δ2, Wd B ρ2 O2 δ2 σ2 H2 ∧ Sp B.R ρ H ρ2 H2 ∧ whileA tc body AD m δ2 O2, ⟨n0, ρ, O, δ, w, Sp.refl, t⟩, fun m σ2 H2 hW => ?_⟩
  obtain ⟨ρ2, O2, δ2, w2, s2, t2⟩ := hW
  cases m with
  | zero => exact t2.elim
  | succ m =>
    refine ⟨ρ2, O2, δ2, _, w2, t2, fun b H3 ρ3 O3 F3 s3 t3 => ?_⟩
    have s03 := s2.trans w.fm w2.fm s3
    have w3 := w2.move F3 s3
    have kn := k.next w.fm F3 s03
    cases b with
    | true =>
      refine iteT ⟨fun σ4 H4 => ∃ ρ4 O4 δ4, Wd B ρ4 O4 δ4 σ4 H4 ∧ Sp B.R ρ H ρ4 H4 ∧ whileA tc body AD m δ4 O4, fun σ4 H4 h4 => ⟨m, Nat.lt_succ_self _, h4⟩, ρ3, O3, δ2, _, w3, t3,
        ⟨fun σ5 H5 ρ5 O5 δ5 w5 s5 q5 => ⟨ρ5, O5, δ5, w5, s03.trans w.fm F3 s5, q5⟩, kn.rt, kn.nx, fun σ5 H5 ρ5 O5 δ5 w5 s5 q5 => ⟨ρ5, O5, δ5, w5, s03.trans w.fm F3 s5, q5⟩⟩⟩
    | false => exact iteF (k.nx _ _ _ _ _ w3 s03 t3)

/-! ### raise, try -/
def sRaise (cls : Value) (ex : Value → Own → Prop) : AS := fun _ _ O => ex cls O
/-- X(), a class of one's own over ValueError without an __init__ of its own -/
theorem pmk_own0 {C : Addr} {bmB : List Value} {B newId initId : String} {x : Str} {p : Pos} (F : ExcBaseFacts B newId initId bmB) (q : PySem.W.excIn X.K C bmB newId = true) (gC : X.mg x = some (.ref C)) (kC : PySem.W.keepIn X.K (.ref C) = true) (r : Raises X (.ref C)) (hg : Gl X x)
    (hdb : (x == ("__debug__" : Str)) = false := by decide) : PMk X (.Call (.Name x p) [] [] pos) (fun _ H Q => Q (.ref C) none H) := by
  intro pins s σ H Q I h
  refine wpAny_Call_Name_kw (ld_glob I hg gC ?_ hdb)
  refine PySem.W.callWith_K0 I.kIn kC ?_
  obtain ⟨bm, N, nm, qn, bs, hdct, sn, sub, ab, col, dd, k0, k1, k2, k3, k5, mN, hC, hN, hni, T⟩ := exc_obj I.kIn q
  exact wpAny_call_exc_subT F T hC hN hni (fun h' e hm => mk_of I hm r h (I.hok.gone hm.new)) (Nat.zero_le _)
theorem ls_raise {pos2 : Pos} {C : Addr} {bmB : List Value} {Bn newId initId : String} {x : Str} {p : Pos} (th : Thr X B) (hc : X.calm = true) (F : ExcBaseFacts Bn newId initId bmB) (q : PySem.W.excIn X.K C bmB newId = true) (gC : X.mg x = some (.ref C)) (kC : PySem.W.keepIn X.K (.ref C) = true) (r : Raises X (.ref C)) (hg : Gl X x)
    (hdb : (x == ("__debug__" : Str)) = false := by decide) : LS X B (.Raise (some (.Call (.Name x p) [] [] pos)) none pos2) (sRaise (.ref C) B.ex) := by
  obtain ⟨W, tk, h⟩ := th.ex
  exact (ps_raise hc tk (pmk_own0 F q gC kC r hg hdb)).imp fun D σ H ⟨ρ, O, δ, AD, w, t, k⟩ => h _ σ H ρ O w.fm w.sp t
end
end PyA

set_option Elab.async false
set_option linter.all false
set_option maxRecDepth 100000
set_option maxHeartbeats 2000000
/-! try, defs, what a def leaves behind. -/
namespace PyA
open PySem PySem.Spec L2
section
variable {X : Cx} {B : Bs} {R : Res} {pos : Pos} {ρ ρ' : List Addr} {O O' : Own} {H H' : Hp} {δ : Slots} {σ : L2.St}
/-- try: body, except C: suite; the slots are forgotten in the suite -/
def sTry (C : Value) (T : (Value → Own → Prop) → AS) (S : AS) : AS := fun D δ O => T (fun cls O' => cls = C ∧ ∀ n, S D (List.replicate n none) O') D δ O
theorem ls_try {x : Str} {C : Addr} {body suite : List Stmt} {b₀ : Stmt} {np pos' : Pos} {T : (Value → Own → Prop) → AS} {S : AS} (hs : X.stack = X.env :: X.outer) (hf : X.env.frame = some X.env.locals) (hc : Names X x (.ref C)) (hC : PySem.W.exmOne X.K (.ref C) (.ref C) = some true)
    (hb : ∀ (ρ : List Addr) (O : Own) (H : Hp) (ex : Value → Own → Prop) (pn : List (Addr × Obj)) (xe : Value → Shared → Prop), Thr (X.tr pn xe) ⟨B.R, ρ, O, H, ex⟩ → PassesOwn (model X.prog X.w) X.A X.env xe → LSs (X.tr pn xe) ⟨B.R, ρ, O, H, ex⟩ body (T ex))
    (hsu : ∀ (a : Addr) (oe : Obj) (pn : List (Addr × Obj)), LSs (X.suite a ((a, oe) :: pn)) B (b₀ :: suite) S) :
    LS X B (.Try body [.ExceptHandler (some (.Name x np)) none (b₀ :: suite) pos'] [] [] pos) (sTry (.ref C) T S) := by
  refine (ps_try_only (tb := fun W D σ H => ∃ ρ O ex, (∀ cls σ2 H2 ρ2 O2, Fm B.R ρ2 O2 H2 → Sp B.R ρ H ρ2 H2 → ex cls O2 → W cls none σ2 H2) ∧ lS ⟨B.R, ρ, O, H, ex⟩ (T ex) D σ H) (ts := fun _ _ _ => lS B S) hs hf hc takes0 (fun W pn xe tk hp => ?_) fun a oe cls d pn hz hd => hsu a oe pn).imp fun D σ H ⟨ρ, O, δ, AD, w, t, k⟩ => ?_
  · refine ⟨fun pins s σ H D I h => ?_⟩
    obtain ⟨ρ, O, ex, hx, h⟩ := h
    exact (hb ρ O H ex pn xe ⟨W, tk, hx⟩ hp).run pins s σ H D I h
  · have back : ∀ {ex : Value → Own → Prop} {ρ2 O2 δ2 σ2 H2}, Wd ⟨B.R, ρ, O, H, ex⟩ ρ2 O2 δ2 σ2 H2 → Wd B ρ2 O2 δ2 σ2 H2 := fun {ex ρ2 O2 δ2 σ2 H2} w2 => ⟨w2.fm, w2.sl, w.f0, w.sp.trans w.f0 w.fm w2.sp⟩
    refine ⟨ρ, O, _, fun cls σ2 H2 ρ2 O2 F2 s2 e2 => ⟨true, by rw [e2.1]; exact hC, fun _ a ha => ?_, fun z => nomatch z⟩, ρ, O, δ, AD, ⟨w.fm, w.sl, w.fm, Sp.refl⟩, t, ⟨fun σ H ρ O δ w s q => k.nx σ H ρ O δ (back w) s q, k.rt, fun σ H ρ O δ w s q => k.bk σ H ρ O δ (back w) s q, fun σ H ρ O δ w s q => k.ct σ H ρ O δ (back w) s q⟩⟩
    have hsl : Sl H2 ρ2 (List.replicate σ2.length none) σ2 := ⟨by rw [List.length_replicate], fun i a h => by
      rw [List.getElem?_replicate] at h
      split at h <;> cases h⟩
    exact ⟨ρ2, O2, _, AD, ⟨F2, hsl, w.f0, w.sp.trans w.f0 w.fm s2⟩, e2.2 σ2.length, k.next w.fm F2 s2⟩

/-! ### what is left behind -/
mutual
def ltA (n : Nat) : A → Bool
  | .tup xs => ltAs n xs
  | .tupk xs => ltAs n xs
  | .own m => decide (m < n)
  | _ => true
def ltAs (n : Nat) : List A → Bool
  | [] => true
  | x :: xs => ltA n x && ltAs n xs
end
def ltO (n : Nat) : AO → Bool
  | .lst xs => ltAs n xs
  | .dK kvs => kvs.all fun p => ltA n p.2
  | .dT kvs => kvs.all fun p => ltA n p.2
/-- the value a and the store Oe may be seen as a' and O' from the store O₀ at the entry -/
def Conv (O₀ : Own) (a : A) (Oe : Own) (a' : A) (O' : Own) : Prop := ∀ R ρ₀ H₀ ρ H v, Fm R ρ₀ O₀ H₀ → Fm R ρ Oe H → Sp R ρ₀ H₀ ρ H → RelA H ρ a v → ∃ ρ', Fm R ρ' O' H ∧ Sp R ρ₀ H₀ ρ' H ∧ RelA H ρ' a' v
theorem Conv.refl {O₀ : Own} {a : A} {Oe : Own} : Conv O₀ a Oe a Oe := fun _ _ _ ρ _ _ _ F s r => ⟨ρ, F, s, r⟩
mutual
theorem RelA.lt : ∀ {a : A} {v : V}, RelA H ρ a v → ltA ρ.length a = true
  | .non, _, _ => rfl
  | .bl _, _, _ => rfl
  | .int _, _, _ => rfl
  | .str _, _, _ => rfl
  | .raw _, _, _ => rfl
  | .tup xs, _, h => by
    unfold RelA at h
    obtain ⟨p, vs, e, hp, r⟩ := h
    unfold ltA
    exact RelAs.lt r
  | .tupk xs, _, h => by
    unfold RelA at h
    obtain ⟨p, vs, o, e, hp, _, r⟩ := h
    unfold ltA
    exact RelAs.lt r
  | .own n, _, h => by
    unfold RelA at h
    obtain ⟨p, e, hp⟩ := h
    unfold ltA
    exact decide_eq_true (lv_lt hp)
theorem RelAs.lt : ∀ {xs : List A} {vs : List V}, RelAs H ρ xs vs → ltAs ρ.length xs = true
  | [], _, _ => rfl
  | x :: xs, _, h => by
    obtain ⟨v, r, rfl, h1, h2⟩ := RelAs.cons_iff.mp h
    unfold ltAs
    rw [RelA.lt h1, RelAs.lt h2]
    rfl
end
theorem lv_cut {α : Type} {l r : List α} {n : Nat} {x : α} (h : lv (l ++ r) n = some x) (hn : n < r.length) : lv r n = some x := by
  obtain ⟨y, hy⟩ := lv_some hn
  rw [lv_app hy] at h
  cases h
  exact hy
mutual
theorem RelA.cut {k : List Addr} : ∀ {a : A} {v : V}, RelA H (k ++ ρ) a v → ltA ρ.length a = true → RelA H ρ a v
  | .non, _, h, _ => by unfold RelA at h ⊢; exact h
  | .bl _, _, h, _ => by unfold RelA at h ⊢; exact h
  | .int _, _, h, _ => by unfold RelA at h ⊢; exact h
  | .str _, _, h, _ => by unfold RelA at h ⊢; exact h
  | .raw _, _, h, _ => by unfold RelA at h ⊢; exact h
  | .tup xs, _, h, l => by
    unfold RelA at h ⊢
    unfold ltA at l
    obtain ⟨p, vs, e, hp, r⟩ := h
    exact ⟨p, vs, e, hp, RelAs.cut r l⟩
  | .tupk xs, _, h, l => by
    unfold RelA at h ⊢
    unfold ltA at l
    obtain ⟨p, vs, o, e, hp, hd, r⟩ := h
    exact ⟨p, vs, o, e, hp, hd, RelAs.cut r l⟩
  | .own n, _, h, l => by
    unfold RelA at h ⊢
    unfold ltA at l
    obtain ⟨p, e, hp⟩ := h
    exact ⟨p, e, lv_cut hp (of_decide_eq_true l)⟩
theorem RelAs.cut {k : List Addr} : ∀ {xs : List A} {vs : List V}, RelAs H (k ++ ρ) xs vs → ltAs ρ.length xs = true → RelAs H ρ xs vs
  | [], _, h, _ => RelAs.nil_iff.mpr (RelAs.nil_iff.mp h)
  | x :: xs, _, h, l => by
    obtain ⟨v, r, rfl, h1, h2⟩ := RelAs.cons_iff.mp h
    unfold ltAs at l
    rw [Bool.and_eq_true] at l
    exact RelAs.cons (RelA.cut h1 l.1) (RelAs.cut h2 l.2)
end
theorem RelK.lt {κ : Type} [DecidableEq κ] {kvs : List (κ × A)} {kws : List (κ × V)} (h : RelK H ρ kvs kws) : (kvs.all fun p => ltA ρ.length p.2) = true := by
  induction h with
  | nil => rfl
  | cons r t ih => rw [List.all_cons, r.2.lt, ih]; rfl
theorem RelK.cut {κ : Type} [DecidableEq κ] {k : List Addr} {kvs : List (κ × A)} {kws : List (κ × V)} (h : RelK H (k ++ ρ) kvs kws) (l : (kvs.all fun p => ltA ρ.length p.2) = true) : RelK H ρ kvs kws := by
  induction h with
  | nil => exact .nil
  | cons r t ih =>
    rw [List.all_cons, Bool.and_eq_true] at l
    exact .cons ⟨r.1, r.2.cut l.1⟩ (ih l.2)
theorem RelO.lt : ∀ {o : AO} {ho : HO}, RelO H ρ o ho → ltO ρ.length o = true
  | .lst xs, _, ⟨vs, _, h⟩ => h.lt
  | .dK xs, _, ⟨vs, _, h⟩ => RelK.lt h
  | .dT xs, _, ⟨vs, _, h⟩ => RelK.lt h
theorem RelO.cut {k : List Addr} : ∀ {o : AO} {ho : HO}, RelO H (k ++ ρ) o ho → ltO ρ.length o = true → RelO H ρ o ho
  | .lst xs, _, ⟨vs, e, h⟩, l => ⟨vs, e, h.cut l⟩
  | .dK xs, _, ⟨vs, e, h⟩, l => ⟨vs, e, RelK.cut h l⟩
  | .dT xs, _, ⟨vs, e, h⟩, l => ⟨vs, e, RelK.cut h l⟩
theorem app_inj_len {α : Type} {a b c d : List α} (h : a ++ b = c ++ d) (hl : b.length = d.length) : a = c ∧ b = d := by
  have h1 : a.length = c.length := by
    have := congrArg List.length h
    rw [List.length_append, List.length_append] at this
    omega
  exact List.append_inj h h1
/-- the new objects are forgotten: nothing that is old leads to them -/
theorem Fm.drop {ρ₀ : List Addr} {O₀ : Own} {H₀ : Hp} {Ob : Own} {k : List Addr} {N : Own} (F : Fm R (k ++ ρ₀) (N ++ Ob) H) (hl : ρ₀.length = Ob.length) (hc : ∀ n o, lv Ob n = some o → ltO Ob.length o = true) : Fm R ρ₀ Ob H := by
  refine ⟨hl, (List.nodup_append.mp F.nd).2.1, fun n o h => ?_, fun p hp => F.ap p (List.mem_append_right _ hp), F.res⟩
  obtain ⟨p, ho, h1, h2, h3⟩ := F.ob n o (lv_app h)
  have hn := lv_lt h
  refine ⟨p, ho, lv_cut h1 (by omega), h2, h3.cut (by rw [hl]; exact hc n o h)⟩
theorem Fm.closed (F : Fm R ρ O H) : ∀ n o, lv O n = some o → ltO O.length o = true := fun n o h => by
  obtain ⟨p, ho, _, _, r⟩ := F.ob n o h
  rw [← F.len]
  exact r.lt
theorem Conv.data {O₀ : Own} {a : A} {N Ob : Own} (hl : Ob.length = O₀.length) (ha : ltA O₀.length a = true) (hc : Ob = O₀ ∨ ∀ n o, lv Ob n = some o → ltO Ob.length o = true) : Conv O₀ a (N ++ Ob) a Ob := fun R ρ₀ H₀ ρ H v F₀ F s r => by
  obtain ⟨k, rfl, hk⟩ := s.ext
  have hlen := F₀.len
  refine ⟨ρ₀, F.drop (O₀ := O₀) (H₀ := H₀) (by omega) (fun n o h => ?_), ⟨⟨[], rfl, fun _ z => nomatch z⟩, s.keep⟩, r.cut (by rw [hlen]; exact ha)⟩
  rcases hc with hc | hc
  · rw [hc] at h ⊢
    exact F₀.closed n o h
  · exact hc n o h
/-- a new object handed back -/
theorem Conv.new {O₀ : Own} {m : Nat} {N : Own} {o : AO} (hm : O₀.length ≤ m) (ho : lv (N ++ O₀) m = some o) (hc : ltO O₀.length o = true) : Conv O₀ (.own m) (N ++ O₀) (.own O₀.length) (o :: O₀) := fun R ρ₀ H₀ ρ H v F₀ F s r => by
  obtain ⟨k, rfl, hk⟩ := s.ext
  have hlen := F₀.len
  have F1 : Fm R ρ₀ O₀ H := F.drop (O₀ := O₀) (H₀ := H₀) hlen F₀.closed
  obtain ⟨p, hob, h1, h2, h3⟩ := F.ob m o ho
  unfold RelA at r
  obtain ⟨q, rfl, hq⟩ := r
  rw [h1] at hq
  cases hq
  have hp : p ∉ ρ₀ := fun z => by
    obtain ⟨j, hj⟩ := mem_lv z
    have := lv_inj F.nd (lv_app hj) h1
    have := lv_lt hj
    omega
  have hpk : p ∈ k := (List.mem_append.mp (lv_mem h1)).resolve_right hp
  refine ⟨p :: ρ₀, F1.adopt h2 hp (F.ap p (lv_mem h1)) (h3.cut (by rw [hlen]; exact hc)), ⟨⟨[p], rfl, fun z hz => by rw [List.mem_singleton.mp hz]; exact hk p hpk⟩, s.keep⟩, ?_⟩
  unfold RelA
  exact ⟨p, rfl, by rw [← hlen]; exact lv_self⟩

/-! ### defs -/
def fin (O₀ : Own) (Q : AK) : AK := fun a Oe => ∃ a' O', Conv O₀ a Oe a' O' ∧ Q a' O'
def startA (N : List Str) (as : List A) : Slots := as.map some ++ List.replicate (N.length - as.length) none
theorem start_sl {N : List Str} {as : List A} {vs : List V} (h : RelAs H ρ as vs) : Sl H ρ (startA N as) (L2.start N vs) := by
  have hl := h.length
  refine ⟨by unfold startA L2.start; simp [hl], fun i a e => ?_⟩
  unfold startA at e
  by_cases hi : i < as.length
  · rw [List.getElem?_append_left (by simpa using hi), List.getElem?_map] at e
    cases e2 : as[i]? with
    | none => rw [e2] at e; cases e
    | some b =>
      rw [e2] at e
      cases e
      obtain ⟨v, hv, r⟩ := h.get e2
      refine ⟨v, ?_, r⟩
      unfold L2.start
      rw [List.getElem?_append_left (by rw [List.length_map, ← hl]; exact hi), List.getElem?_map, hv]
      rfl
  · rw [List.getElem?_append_right (by simpa using hi), List.getElem?_replicate] at e
    split at e <;> cases e
section
variable {P : Program} {w : World} {K : PySem.W.Frag} {mg : Str → Option Value} {base : Heap}
theorem def_ok {R : Res} {x qual : Str} {st : Stmt} {f : Addr} {fd : FuncData} {N ps : List Str} {k : Nat} {sp : ASp} (F : Fun K x qual st f fd) (S : FnScope N ps (defScope st)) (len : ∀ as O Q QE, sp as O Q QE → as.length = ps.length)
    (hbody : ∀ (cdv : Value) (A : Around) (outer : List Env) (s : Shared) (H : Hp) (E : XK) (ρ : List Addr) (O : Own) (ex : Value → Own → Prop), Room k (A.deeper (PyProof.Rows.envOfC qual (defScope st) s.heap.objs.size f cdv)) →
      ∃ T, LSs (cxOf CX0 P w K mg base N qual (defScope st) f cdv A outer s H E).nox ⟨R, ρ, O, H, ex⟩ (defBody st) T ∧ ∀ as Q QE, sp as O Q QE → T { nx := fun _ O' => fin O Q .non O', rt := fin O Q } (startA N as) O) : FnOk P w K mg base CX0 (k + 1) f fd ps (liftSp R sp) := by
  refine F.ok S (fun vs H Q E h => ?_) fun cdv A outer s H vs QV E hr h => ?_
  · obtain ⟨ρ, O, as, Q, QE, F, rs, h, _⟩ := h
    rw [← rs.length]
    exact len as O Q QE h
  · obtain ⟨ρ, O, as, Q, QE, Fm0, rs, h, kk, _⟩ := h
    obtain ⟨T, hT, q⟩ := hbody cdv A outer s H E ρ O (fun _ _ => False) hr
    refine ⟨_, hT, ρ, O, startA N as, _, ⟨Fm0, start_sl rs, Fm0, Sp.refl⟩, q as Q QE h, ⟨fun σ H' ρ' O' δ' w' s' z => ?_, fun v H' ρ' O' a F' s' r z => ?_, fun _ _ _ _ _ _ _ z => z.elim, fun _ _ _ _ _ _ _ z => z.elim⟩⟩
    · obtain ⟨a', O'', c, q⟩ := z
      obtain ⟨ρ'', F'', s'', r''⟩ := c R ρ H ρ' H' _ Fm0 w'.fm s' rel_non
      exact kk _ _ _ _ _ F'' s'' r'' q
    · obtain ⟨a', O'', c, q⟩ := z
      obtain ⟨ρ'', F'', s'', r''⟩ := c R ρ H ρ' H' _ Fm0 F' s' r
      exact kk _ _ _ _ _ F'' s'' r'' q
/-- .. of a def that may raise -/
theorem def_okX {R : Res} {x qual : Str} {st : Stmt} {f : Addr} {fd : FuncData} {N ps : List Str} {k : Nat} {sp : ASp} (F : Fun K x qual st f fd) (S : FnScope N ps (defScope st)) (len : ∀ as O Q QE, sp as O Q QE → as.length = ps.length)
    (hbody : ∀ (cdv : Value) (A : Around) (outer : List Env) (s : Shared) (H : Hp) (E : XK) (ρ : List Addr) (O : Own) (ex : Value → Own → Prop), Room k (A.deeper (PyProof.Rows.envOfC qual (defScope st) s.heap.objs.size f cdv)) →
      Thr (cxOf (L2.CX P w) P w K mg base N qual (defScope st) f cdv A outer s H E) ⟨R, ρ, O, H, ex⟩ →
      ∃ T, LSs (cxOf (L2.CX P w) P w K mg base N qual (defScope st) f cdv A outer s H E) ⟨R, ρ, O, H, ex⟩ (defBody st) T ∧ ∀ as Q QE, (∀ cls Oe, ex cls Oe ↔ ∃ O', Conv O .non Oe .non O' ∧ QE cls O') → sp as O Q QE → T { nx := fun _ O' => fin O Q .non O', rt := fin O Q } (startA N as) O) : FnOk P w K mg base (L2.CX P w) (k + 1) f fd ps (liftSp R sp) := by
  refine F.okX S (fun vs H Q E h => ?_) fun cdv A outer s H vs QV E hr h => ?_
  · obtain ⟨ρ, O, as, Q, QE, F, rs, h, _⟩ := h
    rw [← rs.length]
    exact len as O Q QE h
  · obtain ⟨ρ, O, as, Q, QE, Fm0, rs, h, kk, kx⟩ := h
    have th : Thr (cxOf (L2.CX P w) P w K mg base N qual (defScope st) f cdv A outer s H E) ⟨R, ρ, O, H, fun cls Oe => ∃ O', Conv O .non Oe .non O' ∧ QE cls O'⟩ := by
      refine ⟨_, takes_of rfl rfl rfl rfl, fun cls σ2 H2 ρ2 O2 F2 s2 e2 => ?_⟩
      obtain ⟨O', c, e3⟩ := e2
      obtain ⟨ρ'', F'', s'', _⟩ := c R ρ H ρ2 H2 _ Fm0 F2 s2 rel_non
      exact kx cls H2 ρ'' O' F'' s'' e3
    obtain ⟨T, hT, q⟩ := hbody cdv A outer s H E ρ O (fun cls Oe => ∃ O', Conv O .non Oe .non O' ∧ QE cls O') hr th
    refine ⟨_, hT, ρ, O, startA N as, _, ⟨Fm0, start_sl rs, Fm0, Sp.refl⟩, q as Q QE (fun _ _ => Iff.rfl) h, ⟨fun σ H' ρ' O' δ' w' s' z => ?_, fun v H' ρ' O' a F' s' r z => ?_, fun _ _ _ _ _ _ _ z => z.elim, fun _ _ _ _ _ _ _ z => z.elim⟩⟩
    · obtain ⟨a', O'', c, q⟩ := z
      obtain ⟨ρ'', F'', s'', r''⟩ := c R ρ H ρ' H' _ Fm0 w'.fm s' rel_non
      exact kk _ _ _ _ _ F'' s'' r'' q
    · obtain ⟨a', O'', c, q⟩ := z
      obtain ⟨ρ'', F'', s'', r''⟩ := c R ρ H ρ' H' _ Fm0 F' s' r
      exact kk _ _ _ _ _ F'' s'' r'' q
end
end
end PyA

set_option Elab.async false
set_option linter.all false
set_option maxRecDepth 100000
set_option maxHeartbeats 2000000
/-! Keywords, f-strings, known tuples. -/
namespace PyA
open PySem PySem.Spec L2
section
variable {X : Cx} {B : Bs} {R : Res} {pos : Pos} {ρ ρ' : List Addr} {O O' : Own} {H H' : Hp} {δ : Slots} {σ : L2.St}

/-! ### calls by keywords alone -/
def permG (perm : List Nat) : List Value → List Value → List Value := fun _ ws => perm.map fun i => ws.getD i .none
def permV (perm : List Nat) : List V → List V → List V := fun _ ws => perm.map fun i => ws.getD i .non
def permA (perm : List Nat) (ws : List A) : List A := perm.map fun i => ws.getD i .non
abbrev KBp (K : PySem.W.Frag) (fd : FuncData) (ps ks : List Str) (perm : List Nat) : Prop := KBn K fd ps 0 ks (permG perm) (permV perm)
theorem Vals.getD {vs : List V} {us : List Value} (r : Vals vs us) (i : Nat) : RelV (vs.getD i .non) (us.getD i .none) := by
  by_cases h : i < vs.length
  · obtain ⟨u, h1, h2⟩ := r.get (List.getElem?_eq_getElem h)
    rw [List.getD_eq_getElem?_getD, List.getD_eq_getElem?_getD, List.getElem?_eq_getElem h, h1]
    exact h2
  · have hl := r.length
    rw [List.getD_eq_getElem?_getD, List.getD_eq_getElem?_getD, List.getElem?_eq_none (by omega), List.getElem?_eq_none (by omega)]
    rfl
theorem perm_rel (perm : List Nat) {zs : List V} {ws : List Value} (r : Vals zs ws) : Vals (perm.map fun i => zs.getD i .non) (perm.map fun i => ws.getD i .none) := by
  induction perm with
  | nil => exact .nil
  | cons i is ih => exact .cons (Vals.getD r i) ih
theorem RelAs.getD {as : List A} {vs : List V} (r : RelAs H ρ as vs) (i : Nat) : RelA H ρ (as.getD i .non) (vs.getD i .non) := by
  by_cases h : i < as.length
  · obtain ⟨u, h1, h2⟩ := r.get (List.getElem?_eq_getElem h)
    rw [List.getD_eq_getElem?_getD, List.getD_eq_getElem?_getD, List.getElem?_eq_getElem h, h1]
    exact h2
  · have hl := r.length
    rw [List.getD_eq_getElem?_getD, List.getD_eq_getElem?_getD, List.getElem?_eq_none (by omega), List.getElem?_eq_none (by omega)]
    exact rel_non
theorem RelAs.perm (perm : List Nat) {as : List A} {vs : List V} (r : RelAs H ρ as vs) : RelAs H ρ (permA perm as) (perm.map fun i => vs.getD i .non) := by
  unfold permA
  induction perm with
  | nil => exact RelAs.nil
  | cons i is ih => exact RelAs.cons (r.getD i) ih
theorem kbp_mk {K : PySem.W.Frag} {x qual : Str} {st : Stmt} {f : Addr} {fd : FuncData} {ps ks : List Str} {perm : List Nat} (F : Fun K x qual st f fd)
    (h : ∀ (kV doc pm : Value) (an : Option Addr) (cdv ct : Value) (ws : List Value), ws.length = ks.length → bindArgs (PySem.W.fnOf x qual (defArgs st) (defBody st) (defScope st) .none kV doc pm an cdv ct) ⟨[], ks.zip ws⟩ = pure (ps.zip (permG perm [] ws))) : KBp K fd ps ks perm := by
  obtain ⟨oc, od, kV, doc, pm, an, cdv, ct, osl, rfl, lk, hcd⟩ := F.ex
  refine ⟨fun s us ws _ hu hw => ?_, fun r rz => perm_rel perm rz⟩
  obtain rfl : us = [] := List.length_eq_zero_iff.mp hu
  exact .of_eq (h kV doc pm an cdv ct ws hw)
abbrev LK (X : Cx) (B : Bs) (kws : List Keyword) (T : AL) : Prop := PK X kws (lL B T)
theorem PK.imp {e : List Keyword} {t t' : TA} (h : PK X e t) (f : ∀ σ H Q, t' σ H Q → t σ H Q) : PK X e t' := ⟨fun pos pins s σ H Q I w => h.run pos pins s σ H Q I (f _ _ _ w)⟩
theorem lk_nil : LK X B [] aNil := PK.imp pk_nil fun σ H QV ⟨ρ, O, δ, Q, w, t, k⟩ => k _ _ _ _ _ w.fm Sp.refl RelAs.nil t
theorem lk_cons {e : Expr} {nm : Option Str} {kpos : Pos} {kws : List Keyword} {t : AE} {ts : AL} (he : LE X B e t) (hs : LK X B kws ts) : LK X B (⟨nm, e, kpos⟩ :: kws) (aCons t ts) := PK.imp (pk_cons he hs) fun σ H QV ⟨ρ, O, δ, Q, w, t, k⟩ => by
  refine ⟨ρ, O, δ, _, w, t, fun x H1 ρ1 O1 a F1 s1 ra t1 => ⟨ρ1, O1, δ, _, w.move F1 s1, t1, fun xs H2 ρ2 O2 as F2 s2 rs t2 => ?_⟩⟩
  exact k _ _ _ _ _ F2 (s1.trans w.fm F1 s2) (RelAs.cons (ra.step F1 s2) rs) t2
def aCallK (sp : ASp) (ex : Value → Own → Prop) (perm : List Nat) (ts : AL) : AE := fun δ O Q => ts δ O fun as O1 => as.length = perm.length ∧ sp (permA perm as) O1 Q ex
section
variable {CX : CXT} {k : Nat} {f : Addr} {fd : FuncData} {ps ks : List Str} {perm : List Nat} {sp : L2.Sp} {x : Str} {p : Pos} {kws : List Keyword} {tk : TA} {E : XK}
theorem pe_callK0 (F : FnOk X.prog X.w X.K X.mg X.base CX k f fd ps sp) (hr : Room k X.A) (hg : Gl X x) (hm : X.mg x = some (.ref f)) (hk : PySem.W.keepIn X.K (.ref f) = true) (hb : KBp X.K fd ps ks perm) (hx : Passes CX X E)
    (hkw : PK X kws tk) (hall : (backToKw pos (keywordEach kws X.env)).all (·.1.isSome) = true := by rfl) (hks : (backToKw pos (keywordEach kws X.env)).filterMap (·.1) = ks := by rfl)
    (hdb : (x == ("__debug__" : Str)) = false := by decide) (hpl : ((backTo pos (starEach [] X.env)).any (·.1) || (backToKw pos (keywordEach kws X.env)).any (·.1.isNone)) = false := by rfl) :
    PE X (.Call (.Name x p) [] kws pos) (fun σ H Q => tk σ H fun zs H2 => zs.length = ks.length ∧ sp (permV perm [] zs) H2 Q E) := by
  refine ⟨fun pins s σ H Q I h => ?_⟩
  refine wpAny_Call_Name_kw (ld_glob I hg hm ?_ hdb)
  refine PySem.W.callWith_KW0 (h₀ := X.base) I.ok.mod.kin hk hall (thn (hkw.run pos pins s σ H _ I h) fun ws s2 ⟨zs, H2, I2, rz, l2, q2⟩ => ⟨I2.kIn, ?_⟩) hpl
  rw [hks]
  exact run_fnN F hr hb hx I2 .nil rz rfl l2 q2
end
section
variable {k : Nat} {f : Addr} {fd : FuncData} {ps ks : List Str} {perm : List Nat} {sp : ASp} {x : Str} {p : Pos} {kws : List Keyword} {ts : AL}
theorem le_callK (G : FnOk X.prog X.w X.K X.mg X.base CX0 k f fd ps (liftSp B.R sp)) (hr : Room k X.A) (hg : Gl X x) (hm : X.mg x = some (.ref f)) (hk : PySem.W.keepIn X.K (.ref f) = true) (hb : KBp X.K fd ps ks perm)
    (hkw : LK X B kws ts) (hl : ks.length = perm.length := by rfl) (hall : (backToKw pos (keywordEach kws X.env)).all (·.1.isSome) = true := by rfl) (hks : (backToKw pos (keywordEach kws X.env)).filterMap (·.1) = ks := by rfl)
    (hdb : (x == ("__debug__" : Str)) = false := by decide) (hpl : ((backTo pos (starEach [] X.env)).any (·.1) || (backToKw pos (keywordEach kws X.env)).any (·.1.isNone)) = false := by rfl) :
    LE X B (.Call (.Name x p) [] kws pos) (aCallK sp noEx perm ts) := (pe_callK0 G hr hg hm hk hb pass0 hkw hall hks hdb hpl).imp fun σ H QV ⟨ρ, O, δ, Q, w, t, kk⟩ => by
  refine ⟨ρ, O, δ, _, w, t, fun vs H1 ρ1 O1 as F1 s1 rs t1 => ⟨by rw [← rs.length, t1.1, hl], ρ1, O1, permA perm as, Q, noEx, F1, rs.perm perm, t1.2, kk.next w.fm F1 s1, fun _ _ _ _ _ _ z => z.elim⟩⟩
theorem le_callKX (th : Thr X B) (G : FnOk X.prog X.w X.K X.mg X.base (CX X.prog X.w) k f fd ps (liftSp B.R sp)) (hr : Room k X.A) (hg : Gl X x) (hm : X.mg x = some (.ref f)) (hk : PySem.W.keepIn X.K (.ref f) = true) (hb : KBp X.K fd ps ks perm)
    (hkw : LK X B kws ts) (hl : ks.length = perm.length := by rfl) (hall : (backToKw pos (keywordEach kws X.env)).all (·.1.isSome) = true := by rfl) (hks : (backToKw pos (keywordEach kws X.env)).filterMap (·.1) = ks := by rfl)
    (hdb : (x == ("__debug__" : Str)) = false := by decide) (hpl : ((backTo pos (starEach [] X.env)).any (·.1) || (backToKw pos (keywordEach kws X.env)).any (·.1.isNone)) = false := by rfl) :
    LE X B (.Call (.Name x p) [] kws pos) (aCallK sp B.ex perm ts) := (pe_callK0 G hr hg hm hk hb th.passes hkw hall hks hdb hpl).imp fun σ H QV ⟨ρ, O, δ, Q, w, t, kk⟩ => by
  refine ⟨ρ, O, δ, _, w, t, fun vs H1 ρ1 O1 as F1 s1 rs t1 => ⟨by rw [← rs.length, t1.1, hl], ρ1, O1, permA perm as, Q, B.ex, F1, rs.perm perm, t1.2, kk.next w.fm F1 s1, fun cls H' ρ' O' F' s' z => ⟨rfl, ρ', O', F', (w.move F1 s1).sp.trans w.f0 F1 s', z⟩⟩⟩
end

/-! ### f'text{e}' of an int -/
def aFstr (x : Str) (t : AE) : AE := fun δ O Q => x.length ≤ sizeLine ∧ t δ O fun a O1 => match a with
  | .int i => (i.natAbs.log2 < 1920 ∧ (x ++ toString i : Str).length ≤ sizeLine) ∧ Q (.str (x ++ toString i)) O1
  | _ => False
theorem empty_app (x : Str) : Str.empty ++ x = x := by
  cases x with
  | mk a => exact congrArg Str.mk (Array.empty_append)
theorem le_fstr {x : Str} {j : Nat} {p1 p2 : Pos} {e : Expr} {t : AE} (he : LE X B e t) : LE X B (.JoinedStr [.Constant (.str x) j p1, .FormattedValue e (-1) none p2] pos) (aFstr x t) :=
  (pe_joined (.cons pe_str (.cons (pe_fmt he) .nil))).imp fun σ H QV ⟨ρ, O, δ, Q, w, t, k⟩ => by
    refine ⟨x, rfl, by rw [empty_app]; exact t.1, ρ, O, δ, _, w, t.2, fun v H1 ρ1 O1 a F1 s1 ra t1 => ?_⟩
    cases a with
    | int i =>
      unfold RelA at ra
      refine .inr ⟨i, ra, t1.1.1, toString i, rfl, ?_, ?_⟩
      · rw [empty_app]; exact t1.1.2
      · show QV (.str (Str.empty ++ x ++ toString i)) H1
        rw [empty_app]
        exact (k.next w.fm F1 s1).here F1 rel_str t1.2
    | _ => exact t1.elim

/-! ### tuple(xs), its very object known -/
def tTupleK : AC
  | [.own n], O, Q => match lv O n with | some (.lst xs) => Q (.tupk xs) O | _ => False
  | _, _, _ => False
theorem tl_tuplek : CallL X R (.type "tuple") tTupleK := by
  intro pins s σ H vs us QV I r ⟨ρ, O, as, Q, F, rs, h, k⟩
  unfold tTupleK at h
  split at h
  · rename_i n
    obtain ⟨v, rfl, ra⟩ := rel1 rs
    cases e : lv O n with
    | none => simp only [e] at h
    | some o =>
      cases o with
      | lst xs =>
        simp only [e] at h
        obtain ⟨p, ws, rfl, _, hp, rr⟩ := F.lst e ra
        obtain ⟨u, rfl, rx⟩ := vals1 r
        cases rx
        obtain ⟨its, r', pl, hz⟩ := I.list (SqL.of hp)
        have hlen := r'.length
        refine call_tuple_list pl.isList (fun h' kp => ?_) (by simp only [List.size_toArray] <;> omega)
        have J : L2.Inv X pins σ H { s with heap := h' } := I.kept (t' := s.toks) kp
        let ob : Obj := { cls := .type "tuple", data := .seq its.toArray }
        have hn : H h'.objs.size = none := J.hok.fresh (Nat.le_refl _)
        have J2 : L2.Inv X pins σ (upd H h'.objs.size (.frz ob (.tup ws))) { s with heap := h'.push ob } :=
          J.laid (t' := s.toks) (fun b o e => Heap.get?_push_of_some _ e) (Nat.le_refl _) (show ObjOk X.prog X.w _ _ _ (.frz ob (.tup ws)) from ⟨Heap.get?_push_size _ rfl, hz, its, r', PyProof.Rows.IsTup.new _ _⟩)
        obtain ⟨F', sp⟩ := F.tupd (t := .frz ob (.tup ws)) hn
        refine ⟨.ref h'.objs.size, _, J2, rfl, k _ _ ρ _ _ F' sp ?_ h⟩
        unfold RelA
        exact ⟨_, ws, ob, rfl, upd_same, rfl, rr.step F sp⟩
      | _ => simp only [e] at h
  · exact h.elim

/-! ### the script -/
structure Scr (K : PySem.W.Frag) (H : Hp) (a : Addr) (ns : List Int) : Prop where
  sq : SqL K H a (ns.map V.int)
  fz : ∀ o, H a = some o → ¬ Mut (some o)
theorem Scr.step {K : PySem.W.Frag} {a : Addr} {ns : List Int} (x : Scr K H a ns) (F : Fm R ρ O H) (s : Sp R ρ H ρ' H') : SqL K H' a (ns.map V.int) := by
  rcases x.sq with (h | ⟨o, h⟩) | h
  · exact absurd trivial (x.fz _ h)
  · exact .inl (.inr ⟨o, s.tup F h (x.fz _ h)⟩)
  · exact .inr h
theorem Only.scr {K : PySem.W.Frag} {a : Addr} {ns : List Int} (o : Only H) (h : SqL K H a (ns.map V.int)) : Scr K H a ns := ⟨h, fun u hu => by
  rcases o a with q | ⟨ob, xs, q⟩
  · rw [q] at hu; cases hu
  · rw [q] at hu; cases hu; exact fun z => z⟩
def aiScr (a : Addr) (ns : List Int) (t : AE) : AI := fun δ O Q => t δ O fun x O1 => x = .raw (.ref a) ∧ Q (ns.map A.int) (fun _ => True) O1
theorem li_scr {a : Addr} {ns : List Int} {tg l : Expr} {t : AE} (hS : Scr X.K B.H a ns) (h : LE X B l t) : LI X B tg l (aiScr a ns t) := by
  refine ⟨fun pins s σ H RR I hw => ?_⟩
  obtain ⟨ρ, O, δ, Q, w, t, k⟩ := hw
  refine (pi_list h).run pins s σ H RR I ?_
  refine ⟨ρ, O, δ, _, w, t, fun x H1 ρ1 O1 b F1 s1 ra t1 => ?_⟩
  obtain ⟨rfl, t1⟩ := t1
  unfold RelA at ra
  subst ra
  have w1 := w.move F1 s1
  have sq : ∀ {ρ2 O2 H2}, Fm B.R ρ2 O2 H2 → Sp B.R ρ1 H1 ρ2 H2 → SqL X.K H2 a (ns.map V.int) := fun {ρ2 O2 H2} F2 s2 => hS.step w.f0 (w1.sp.trans w.f0 F1 s2)
  refine ⟨a, rfl, ⟨_, sq F1 Sp.refl⟩, k _ _ ρ1 O1 _ _ F1 s1 ⟨fun i ρ2 O2 H2 F2 s2 c hi => ?_, fun i ρ2 O2 H2 F2 s2 c hi => ?_, fun i ρ2 O2 H2 x H3 F2 s2 c y hi => ?_⟩ t1⟩
  · rw [List.length_map] at hi
    exact ⟨_, .int ns[i], sq F2 s2, by rw [List.getElem?_map, List.getElem?_eq_getElem hi]; rfl⟩
  · exact ⟨_, sq F2 s2, by rw [List.length_map] at hi ⊢; exact Nat.le_of_eq hi.symm⟩
  · rw [List.length_map] at hi
    obtain ⟨rfl, y⟩ := y
    have e5 := y _ (sq F2 s2)
    rw [List.getElem?_map, List.getElem?_eq_getElem hi] at e5
    cases e5
    exact ⟨.int ns[i], by rw [List.getElem?_map, List.getElem?_eq_getElem hi]; rfl, F2, Sp.refl, rel_int⟩
end
end PyA

set_option Elab.async false
set_option linter.all false
set_option maxRecDepth 100000
set_option maxHeartbeats 2000000
/-! zip of lists and tuples in any mixture. -/
namespace PyA
open PySem PySem.Spec L2
/-- a list (true) or a tuple (false) that is read -/
def SqB (K : PySem.W.Frag) (H : Hp) : Bool → Addr → List V → Prop
  | true, a, xs => SqL K H a xs
  | false, a, xs => SqT K H a xs
def SrcB (h : Heap) : Bool → Addr → Array Value → Prop
  | true, a, its => h.IsList a its
  | false, a, its => h.IsTuple a its
def ItB (h : Heap) : Bool → Addr → Addr → Nat → Prop
  | true, it, a, i => h.IsListIter it a i
  | false, it, a, i => h.IsTupleIter it a i
def objB : Bool → Addr → Obj
  | true, a => { cls := .type "list_iterator", data := .fields #[.ref a, .int 0 0] }
  | false, a => { cls := .type "tuple_iterator", data := .fields #[.ref a, .int 0 0] }
section
variable {X : Cx} {pins : List (Addr × Obj)} {σ : L2.St} {H : Hp} {s : Shared} {a : Addr} {xs ys : List V} {k : Bool}
theorem SqB.src (I : L2.Inv X pins σ H s) (h : SqB X.K H k a xs) : ∃ its : List Value, Vals xs its ∧ SrcB s.heap k a its.toArray ∧ a < s.heap.objs.size := by
  cases k with
  | true =>
    obtain ⟨its, r, p, _⟩ := I.list h
    exact ⟨its, r, p.isList, p.lt⟩
  | false =>
    obtain ⟨its, r, p, _⟩ := I.tuple h
    exact ⟨its, r, p, p.lt⟩
theorem SqB.inj (I : L2.Inv X pins σ H s) (h : SqB X.K H k a xs) (h' : SqB X.K H k a ys) : xs = ys := by
  cases k with
  | true => exact I.list_inj h h'
  | false => exact I.tuple_inj h h'
theorem ItB.at {h h' : Heap} {it : Addr} {i : Nat} (x : ItB h k it a i) (e : ∀ o, h.get? it = some o → h'.get? it = some o) : ItB h' k it a i := by
  cases k with
  | true => exact Heap.IsListIter.at x e
  | false => exact Heap.IsTupleIter.at x e
theorem ItB.there {h : Heap} {it : Addr} {i : Nat} (x : ItB h k it a i) : ∃ o, h.get? it = some o ∧ ∀ v, o.data ≠ .cell v := by
  cases k with
  | true => obtain ⟨o, e, c, d⟩ := x; exact ⟨o, e, fun v z => by rw [d] at z; cases z⟩
  | false => obtain ⟨o, e, c, d⟩ := x; exact ⟨o, e, fun v z => by rw [d] at z; cases z⟩
theorem drawsB {prog : Program} {w : World} {A : Around} (hh : A.handled = none) (k : Bool) (it l : Addr) (hne : l ≠ it) (items : Array Value) :
    Draws prog w A it [it, l] items.size (fun i v => items[i]? = some v) (fun i h => ItB h k it l i ∧ SrcB h k l items) := by
  cases k with
  | true => exact Draws.list hh it l hne items
  | false => exact Draws.tuple hh it l hne items
theorem beginsB (k : Bool) (l : Addr) (items : Array Value) : Begins (.ref l) (objB k l) fun h => SrcB h k l items := by
  cases k with
  | true => exact begins_list l items
  | false => exact begins_tuple l items
theorem objB_it {h : Heap} {it l : Addr} (e : h.get? it = some (objB k l)) : ItB h k it l 0 := by
  cases k with
  | true => exact ⟨_, e, rfl, rfl⟩
  | false => exact ⟨_, e, rfl, rfl⟩
end
/-- zip(a, b) -/
def ItZ (K : PySem.W.Frag) (k1 k2 : Bool) (a b : Addr) : It :=
  ⟨fun i H => ∃ xs ys : List V, SqB K H k1 a xs ∧ SqB K H k2 b ys ∧ i < xs.length ∧ i < ys.length,
    fun i H v H' => ∃ T x y, v = .ref T ∧ H T = none ∧ H' = upd H T (.tup [x, y]) ∧ (∀ xs, SqB K H k1 a xs → xs[i]? = some x) ∧ ∀ ys, SqB K H k2 b ys → ys[i]? = some y,
    fun i H => ∃ xs ys : List V, SqB K H k1 a xs ∧ SqB K H k2 b ys ∧ i ≤ xs.length ∧ i ≤ ys.length ∧ (i = xs.length ∨ i = ys.length)⟩
theorem turn_zipB {P : Program} {w : World} {K : PySem.W.Frag} {elts : List Expr} {kk : Nat} {tpos : Pos} (k1 k2 : Bool) {a b z TI TO i1 i2 : Addr} (S : ZipSep2 z TI TO i1 i2 [i1, a] [i2, b]) (n1 : a ≠ i1) (n2 : b ≠ i2) :
    Turn P w K (.Tuple elts kk tpos) (ItZ K k1 k2 a b) [z, TI, TO, i1, i2] z (fun i h => IsZip h z TI TO .none ∧ IsTupOf2 h TI (.ref i1) (.ref i2) ∧ (∃ x y, IsTupOf2 h TO x y) ∧ ItB h k1 i1 a i ∧ ItB h k2 i2 b i) where
  mem := by simp
  obj := fun i h st c hc => by
    obtain ⟨hz, hTI, ⟨x, y, hTO⟩, h1, h2⟩ := st
    simp only [List.mem_cons, List.not_mem_nil, or_false] at hc
    rcases hc with q | q | q | q | q
    · exact q ▸ ⟨_, hz, fun v q => nomatch q⟩
    · exact q ▸ ⟨_, hTI, fun v q => nomatch q⟩
    · exact q ▸ ⟨_, hTO, fun v q => nomatch q⟩
    · exact q ▸ h1.there
    · exact q ▸ h2.there
  keep := fun i h h' st k => by
    obtain ⟨hz, hTI, ⟨x, y, hTO⟩, h1, h2⟩ := st
    have kz : ∀ c ∈ [z, TI, TO, i1, i2], ∀ o, h.get? c = some o → h'.get? c = some o := k
    simp only [List.forall_mem_cons] at kz
    obtain ⟨c1, c2, c3, c4, c5, _⟩ := kz
    exact ⟨c1 _ hz, c2 _ hTI, ⟨x, y, c3 _ hTO⟩, h1.at c4, h2.at c5⟩
  item := by
    intro X hP hw hK hc i pins s σ H E I hf st hg
    subst hP hw hK
    obtain ⟨hz, hTI, ⟨x0, y0, hTO⟩, h1, h2⟩ := st
    obtain ⟨xs, ys, qx, qy, lx, ly⟩ := hg
    obtain ⟨its, rv, p, _⟩ := qx.src I
    obtain ⟨its2, rv2, p2, _⟩ := qy.src I
    have l1 := rv.length
    have l2 := rv2.length
    have hd := I.ok.hd hc
    refine wpAny_pyNext_zipD2_item S (drawsB (A := X.A.in1) hd k1 i1 a n1 its.toArray) (drawsB (A := X.A.in1) hd k2 i2 b n2 its2.toArray) hz hTI hTO ⟨h1, p⟩ ⟨h2, p2⟩ (by simp; omega) (by simp; omega) fun u u2 h' tk e1 e2 z' TO' h1' h2' hT hsz hk => ?_
    have hzl : z < s.heap.objs.size := Heap.lt_size hz
    obtain ⟨v1, w1, r1⟩ := rv.get (List.getElem?_eq_getElem lx)
    obtain ⟨v2, w2, r2⟩ := rv2.get (List.getElem?_eq_getElem ly)
    have q1 : v1 = u := by simpa [w1] using e1
    have q2 : v2 = u2 := by simpa [w2] using e2
    subst q1 q2
    refine ⟨_, rfl, wpAny_letOwnedTupleGo_zip (s := { s with heap := h', toks := tk }) z' fun h'' z'' sb => ?_⟩
    have ne : s.heap.objs.size ≠ z := Nat.ne_of_gt hzl
    have hT2 : h''.get? s.heap.objs.size = some { cls := .type "tuple", data := .seq #[v1, v2] } := (sb.2 _ ne).trans hT
    have new : ObjOk X.prog X.w (upd H s.heap.objs.size (.tup [xs[i], ys[i]])) h'' s.heap.objs.size (.tup [xs[i], ys[i]]) :=
      ⟨by show 2 ≤ sizeLine; decide, [v1, v2], .cons r1 (.cons r2 .nil), ⟨_, hT2, rfl, _, rfl⟩⟩
    have old : ∀ c o, c ∉ [z, TI, TO, i1, i2] → s.heap.get? c = some o → h''.get? c = some o := fun c o hn e => by
      simp only [List.mem_cons, List.not_mem_nil, or_false, not_or] at hn
      exact (sb.2 c hn.1).trans (hk c o hn.1 hn.2.2.1 hn.2.2.2.1 hn.2.2.2.2 e)
    have J : L2.Inv X pins σ (upd H s.heap.objs.size (.tup [xs[i], ys[i]])) { s with heap := h'', toks := tk } := I.turnedNew (t' := tk) (ch := [z, TI, TO, i1, i2]) old hf (Nat.le_refl _) new
    refine ⟨.ref s.heap.objs.size, _, J, rfl, ⟨_, xs[i], ys[i], rfl, I.hok.fresh (Nat.le_refl _), rfl, fun l hl => by rw [hl.inj I qx, List.getElem?_eq_getElem lx], fun l hl => by rw [hl.inj I qy, List.getElem?_eq_getElem ly]⟩, ⟨z'', ?_, ⟨v1, v2, ?_⟩, ?_, ?_⟩, fun c hcm => ?_⟩
    · exact (sb.2 _ S.TIz).trans (hk _ _ S.TIz S.TITO S.TIi1 S.TIi2 hTI)
    · exact (sb.2 _ S.TOz).trans TO'
    · exact h1'.1.at fun o q => (sb.2 _ S.zi1.symm).trans q
    · exact h2'.1.at fun o q => (sb.2 _ S.zi2.symm).trans q
    · have hlt : c < s.heap.objs.size := by
        have q := hcm
        simp only [List.mem_cons, List.not_mem_nil, or_false] at q
        rcases q with q | q | q | q | q
        · exact q ▸ hzl
        · exact q ▸ Heap.lt_size hTI
        · exact q ▸ Heap.lt_size hTO
        · obtain ⟨o, e, _⟩ := h1.there; exact q ▸ Heap.lt_size e
        · obtain ⟨o, e, _⟩ := h2.there; exact q ▸ Heap.lt_size e
      rw [upd_ne (Nat.ne_of_lt hlt)]
      exact (hf c hcm).1
  done := by
    intro X hP hw hK hc i pins s σ H E I hf st hg
    subst hP hw hK
    obtain ⟨hz, hTI, ⟨x0, y0, hTO⟩, h1, h2⟩ := st
    obtain ⟨xs, ys, qx, qy, lx, ly, hend⟩ := hg
    obtain ⟨its, rv, p, _⟩ := qx.src I
    obtain ⟨its2, rv2, p2, _⟩ := qy.src I
    have l1 := rv.length
    have l2 := rv2.length
    have hd := I.ok.hd hc
    refine wpAny_pyNext_zipD2_end S (drawsB (A := X.A.in1) hd k1 i1 a n1 its.toArray) (drawsB (A := X.A.in1) hd k2 i2 b n2 its2.toArray) hz hTI hTO ⟨h1, p⟩ ⟨h2, p2⟩ (by simp; omega) (by simp; omega) (by simp; omega) fun h' tk hk => ⟨rfl, I.turnedL (t' := tk) (ch := [z, TI, TO, i1, i2]) (fun c o hn e => ?_) hf⟩
    simp only [List.mem_cons, List.not_mem_nil, or_false, not_or] at hn
    exact hk c o hn.1 hn.2.2.1 hn.2.2.2.1 hn.2.2.2.2 e
  self := fun A i s Q E st h => wpAny_pyIter_zip st.1 h
def iZipB (K : PySem.W.Frag) (k1 k2 : Bool) (ta : TA) : TI := fun σ H R => ta σ H fun vs H1 => ∃ a b xs ys, vs = [.ref a, .ref b] ∧ SqB K H1 k1 a xs ∧ SqB K H1 k2 b ys ∧ R (ItZ K k1 k2 a b) H1
theorem pi_zipB {X : Cx} {e e2 : Expr} {ta : TA} {p pos tpos : Pos} {elts : List Expr} {kk : Nat} (k1 k2 : Bool) (hg : Gl X "zip") (hm : X.mg "zip" = none) (ha : PA X [e, e2] ta)
    (hs : starEach [e, e2] X.env = (false, eval e X.env) :: starEach [e2] X.env := by rfl) (hpl : (backTo pos (starEach [e2] X.env)).any (·.1) = false := by rfl) :
    PI X (.Tuple elts kk tpos) (.Call (.Name "zip" p) [e, e2] [] pos) (iZipB X.K k1 k2 ta) := by
  refine ⟨fun pins s σ H R I h => PyProof.Rows.Call_ (ld_blt I hg hm PyProof.Rows.boot_zip (PyProof.Rows.callWith_type1 (thn (ha.run pos pins s σ H _ I h) fun us s1 ⟨vs, H1, I1, r1, q1⟩ => ?_) hs hpl))⟩
  obtain ⟨a, b, xs, ys, rfl, qx, qy, q⟩ := q1
  obtain ⟨u1, u2, rfl, c1, c2⟩ := vals2 r1
  cases c1
  cases c2
  obtain ⟨its, rv, p1, la⟩ := qx.src I1
  obtain ⟨its2, rv2, p2, lb⟩ := qy.src I1
  refine zip_begins2 (beginsB k1 a its.toArray) (beginsB k2 b its2.toArray) p1 p2 fun h' hz hTI hTO h1 h2 hsz hk => wpAny_pyIter_zip hz ?_
  have I2 : L2.Inv X pins σ H1 { s1 with heap := h' } := I1.kept (t' := s1.toks) hk
  have S : ZipSep2 (s1.heap.objs.size + 4) (s1.heap.objs.size + 2) (s1.heap.objs.size + 3) s1.heap.objs.size (s1.heap.objs.size + 1) [s1.heap.objs.size, a] [s1.heap.objs.size + 1, b] :=
    zip_sep2 (fp1 := [a]) (fp2 := [b]) (fun c hc => by rw [List.mem_singleton.mp hc]; exact la) (fun c hc => by rw [List.mem_singleton.mp hc]; exact lb)
  refine ⟨s1.heap.objs.size + 4, _, _, _, H1, rfl, I2, turn_zipB k1 k2 S (Nat.ne_of_lt la) (Nat.ne_of_lt (Nat.lt_succ_of_lt lb)), ⟨hz, hTI, ⟨_, _, hTO⟩, objB_it h1, objB_it h2⟩, fun c hcm => ?_, q⟩
  have hle : s1.heap.objs.size ≤ c := by
    simp only [List.mem_cons, List.not_mem_nil, or_false] at hcm
    rcases hcm with z | z | z | z | z <;> rw [z] <;> first | exact Nat.le_add_right _ _ | exact Nat.le_refl _
  exact I1.fpOk hle (I1.hok.fresh hle)
section
variable {X : Cx} {B : Bs} {R : Res} {pos : Pos} {ρ ρ' : List Addr} {O O' : Own} {H H' : Hp} {δ : Slots} {σ : L2.St}
/-- a list of one's own (true), a tuple (false) -/
def kindA : A → Bool
  | .own _ => true
  | _ => false
theorem seqB_of {K : PySem.W.Frag} (F : Fm R ρ O H) {a : A} {xs : List A} {x : V} (h : seqA O a = some xs) (r : RelA H ρ a x) : ∃ p vs, x = .ref p ∧ SqB K H (kindA a) p vs ∧ RelAs H ρ xs vs := by
  cases a with
  | own n =>
    unfold seqA at h
    cases e : lv O n with
    | none => simp only [e] at h; cases h
    | some o =>
      cases o with
      | lst ys =>
        simp only [e] at h
        cases h
        obtain ⟨p, vs, e1, _, e2, e3⟩ := F.lst e r
        exact ⟨p, vs, e1, SqL.of e2, e3⟩
      | _ => simp only [e] at h; cases h
  | _ => exact tupOf_of (by unfold seqA at h; exact h) r
def zipA : List A → List A → List A
  | x :: xs, y :: ys => .tup [x, y] :: zipA xs ys
  | _, _ => []
theorem zipA_len : ∀ xs ys : List A, (zipA xs ys).length = min xs.length ys.length
  | [], ys => by unfold zipA; simp
  | x :: xs, [] => by unfold zipA; simp
  | x :: xs, y :: ys => by unfold zipA; rw [List.length_cons, zipA_len xs ys, List.length_cons, List.length_cons]; omega
theorem zipA_get : ∀ {xs ys : List A} {i : Nat} {x y : A}, xs[i]? = some x → ys[i]? = some y → (zipA xs ys)[i]? = some (.tup [x, y])
  | [], _, _, _, _, h, _ => by simp at h
  | _ :: _, [], _, _, _, _, h => by simp at h
  | a :: xs, b :: ys, 0, x, y, h, g => by simp at h g; subst h g; rfl
  | a :: xs, b :: ys, i + 1, x, y, h, g => by
    unfold zipA
    rw [List.getElem?_cons_succ]
    exact zipA_get (by simpa using h) (by simpa using g)
def zK (k1 k2 : Bool) (Q : IK) : ALK := fun as O => match as with
  | [a, b] => (kindA a = k1 ∧ kindA b = k2) ∧ (match seqA O a, seqA O b with | some xs, some ys => Q (zipA xs ys) (fun O' => seqA O' a = some xs ∧ seqA O' b = some ys) O | _, _ => False)
  | _ => False
def aiZip (k1 k2 : Bool) (ts : AL) : AI := fun δ O Q => ts δ O (zK k1 k2 Q)
theorem li_zip (k1 k2 : Bool) {e e2 : Expr} {ts : AL} {p tpos : Pos} {elts : List Expr} {kk : Nat} (hg : Gl X "zip") (hm : X.mg "zip" = none) (ha : LL X B [e, e2] ts)
    (hs : starEach [e, e2] X.env = (false, eval e X.env) :: starEach [e2] X.env := by rfl) (hpl : (backTo pos (starEach [e2] X.env)).any (·.1) = false := by rfl) :
    LI X B (.Tuple elts kk tpos) (.Call (.Name "zip" p) [e, e2] [] pos) (aiZip k1 k2 ts) := (pi_zipB k1 k2 hg hm ha hs hpl).imp fun σ H QV ⟨ρ, O, δ, Q, w, t, k⟩ => by
  refine ⟨ρ, O, δ, zK k1 k2 Q, w, t, fun vs H1 ρ1 O1 as F1 s1 rs t1 => ?_⟩
  unfold zK at t1
  split at t1
  · rename_i a b
    obtain ⟨⟨e1, e2⟩, t1⟩ := t1
    obtain ⟨v, v2, rfl, ra, rb⟩ := rel2 rs
    cases h1 : seqA O1 a with
    | none => simp only [h1] at t1
    | some xs =>
      cases h2 : seqA O1 b with
      | none => simp only [h1, h2] at t1
      | some ys =>
        simp only [h1, h2] at t1
        obtain ⟨p, vs, rfl, sa, ra'⟩ := seqB_of (K := X.K) F1 h1 ra
        obtain ⟨q, ws, rfl, sb, rb'⟩ := seqB_of (K := X.K) F1 h2 rb
        rw [e1] at sa
        rw [e2] at sb
        have here : ∀ {ρ2 O2 H2}, Fm B.R ρ2 O2 H2 → Sp B.R ρ1 H1 ρ2 H2 → seqA O2 a = some xs ∧ seqA O2 b = some ys → ∃ vs ws, SqB X.K H2 k1 p vs ∧ SqB X.K H2 k2 q ws ∧ RelAs H2 ρ2 xs vs ∧ RelAs H2 ρ2 ys ws := fun {ρ2 O2 H2} F2 s2 c => by
          obtain ⟨p', vs', z1, g1, g2⟩ := seqB_of (K := X.K) F2 c.1 (ra.step F1 s2)
          obtain ⟨q', ws', z2, g3, g4⟩ := seqB_of (K := X.K) F2 c.2 (rb.step F1 s2)
          cases z1
          cases z2
          rw [e1] at g1
          rw [e2] at g3
          exact ⟨vs', ws', g1, g3, g2, g4⟩
        refine ⟨p, q, vs, ws, rfl, sa, sb, k _ _ ρ1 O1 _ _ F1 s1 ⟨fun i ρ2 O2 H2 F2 s2 c hi => ?_, fun i ρ2 O2 H2 F2 s2 c hi => ?_, fun i ρ2 O2 H2 x H3 F2 s2 c y hi => ?_⟩ t1⟩
        · obtain ⟨vs', ws', g1, g2, g3, g4⟩ := here F2 s2 c
          rw [zipA_len] at hi
          have l1 := g3.length
          have l2 := g4.length
          exact ⟨vs', ws', g1, g2, by omega, by omega⟩
        · obtain ⟨vs', ws', g1, g2, g3, g4⟩ := here F2 s2 c
          rw [zipA_len] at hi
          have l1 := g3.length
          have l2 := g4.length
          exact ⟨vs', ws', g1, g2, by omega, by omega, by omega⟩
        · obtain ⟨T, x1, y1, rfl, hT, rfl, f1, f2⟩ := y
          obtain ⟨vs', ws', g1, g2, g3, g4⟩ := here F2 s2 c
          rw [zipA_len] at hi
          have hx : i < xs.length := by omega
          have hy : i < ys.length := by omega
          obtain ⟨v1, hv1, r1⟩ := g3.get (List.getElem?_eq_getElem hx)
          obtain ⟨v2, hv2, r2⟩ := g4.get (List.getElem?_eq_getElem hy)
          have z1 := f1 _ g1
          have z2 := f2 _ g2
          rw [hv1] at z1
          rw [hv2] at z2
          obtain rfl := Option.some.inj z1
          obtain rfl := Option.some.inj z2
          obtain ⟨F3, s3⟩ := F2.tupd (t := .tup [v1, v2]) hT
          refine ⟨_, zipA_get (List.getElem?_eq_getElem hx) (List.getElem?_eq_getElem hy), F3, s3, ?_⟩
          unfold RelA
          exact ⟨T, _, rfl, upd_same, RelAs.cons (r1.step F2 s3) (RelAs.cons (r2.step F2 s3) RelAs.nil)⟩
  · exact t1.elim
end
end PyA

set_option Elab.async false
set_option linter.all false
set_option maxRecDepth 100000
set_option maxHeartbeats 2000000
/-! sum of a tuple, sorted(d.items()) and dict(pairs) where the keys are tuples. -/
namespace PyA
open PySem PySem.Spec L2
section
variable {X : Cx} {B : Bs} {R : Res} {pos : Pos} {ρ ρ' : List Addr} {O O' : Own} {H H' : Hp} {δ : Slots} {σ : L2.St}

/-! ### sum of a tuple of ints -/
theorem vals_ints_at : ∀ {ns : List Int} {us : List Value}, Vals (ns.map V.int) us → ∀ (i : Nat) (v : Value), us[i]? = some v → ∃ t, v = .int (ns.getD i 0) t
  | [], us, r, i, v, e => by cases r; simp at e
  | n :: ns, us, r, i, v, e => by
    cases r with
    | cons h t =>
      cases i with
      | zero => simp at e; subst e; obtain ⟨q, rfl⟩ := h; exact ⟨q, rfl⟩
      | succ i => exact vals_ints_at t i v (by simpa using e)
def rSumT (K : PySem.W.Frag) : List V → Hp → VK → Prop := fun vs H Q => ∃ (a : Addr) (ns : List Int), vs = [V.ref a] ∧ SqT K H a (ns.map V.int) ∧ Q (.int ns.sum) H
theorem cr_sumT (hc : X.calm = true) : CallR X (.builtin "sum") (rSumT X.K) := by
  intro pins s σ H vs us Q I r h
  obtain ⟨a, ns, rfl, hs, q⟩ := h
  obtain ⟨its, rv, ht, _⟩ := I.tuple hs
  have hlt : a < s.heap.objs.size := ht.lt
  rw [Vals.ref1 r]
  have hlen := rv.length
  rw [List.length_map] at hlen
  refine call_sum_walkG (wpAny_pyIter_tuple ht ?_)
  have hne : a ≠ s.heap.objs.size := Nat.ne_of_lt hlt
  refine ⟨_, _, _, _, _, _, fun i => ns.getD i 0, rfl, Walks.tuple (A := X.A.in1) (I.ok.hd hc) s.heap.objs.size a hne its.toArray, ⟨⟨_, Heap.get?_push_size _ rfl, rfl, rfl⟩, ht.push _⟩, fun c hcm => ?_, fun i v e => ?_, fun h' tk t' hk => ?_⟩
  · show c < (s.heap.push _).objs.size
    rw [Heap.size_push]
    simp only [List.mem_cons, List.not_mem_nil, or_false] at hcm
    rcases hcm with z | z <;> rw [z]
    · exact Nat.lt_succ_self _
    · exact Nat.lt_succ_of_lt hlt
  · exact vals_ints_at rv i v (by simpa using e)
  · have e : preSum (fun i => ns.getD i 0) its.toArray.size = ns.sum := by
      rw [PyProof.Rows.preSum_getD, List.take_of_length_le (by simp; omega)]
    rw [e]
    refine ⟨.int _, H, I.kept (fun b o eb => hk b o (fun z => ?_) (Heap.get?_push_of_some _ eb)), ⟨_, rfl⟩, q⟩
    rw [List.mem_singleton.mp z] at eb
    exact absurd (Heap.lt_size eb) (Nat.lt_irrefl _)
def bSumT : AC
  | [a], O, Q => match tupOf a with | some xs => (match intsOf xs with | some ns => Q (.int ns.sum) O | none => False) | none => False
  | _, _, _ => False
theorem bl_sumT (hc : X.calm = true) : CallL X R (.builtin "sum") bSumT := by
  intro pins s σ H vs us QV I r ⟨ρ, O, as, Q, F, rs, h, k⟩
  unfold bSumT at h
  split at h
  · rename_i a
    obtain ⟨v, rfl, ra⟩ := rel1 rs
    cases e : tupOf a with
    | none => simp only [e] at h
    | some xs =>
      simp only [e] at h
      cases e2 : intsOf xs with
      | none => simp only [e2] at h
      | some ns =>
        simp only [e2] at h
        obtain ⟨p, ws, rfl, hp, rr⟩ := tupOf_of e ra
        rw [intsOf_eq e2] at rr
        rw [rr.ints] at hp
        exact cr_sumT hc pins s σ H _ us QV I r ⟨p, ns, rfl, hp, k.here F rel_int h⟩
  · exact h.elim

/-! ### the heap has grown -/
theorem Fm.grown (F : Fm R ρ O H) (g : ∀ b o, H b = some o → H' b = some o) : Fm R ρ O H' ∧ Sp R ρ H ρ H' := by
  refine ⟨⟨F.len, F.nd, fun n o e => ?_, F.ap, R.loc H H' F.res fun p hp => ?_⟩, ⟨[], rfl, fun p hp => nomatch hp⟩, fun p o _ _ e => g p o e⟩
  · obtain ⟨p, ho, h1, h2, h3⟩ := F.ob n o e
    exact ⟨p, ho, h1, g _ _ h2, h3.mv (fun _ _ z _ => g _ _ z) fun _ _ z => z⟩
  · have m := R.mu H F.res p hp
    cases e : H p with
    | none => rw [e] at m; exact m.elim
    | some o => exact g _ _ e
theorem Fm.pushed (F : Fm R ρ O H) (g : ∀ b o, H b = some o → H' b = some o) {l : Addr} (hl : H l = none) {o : AO} {ho : HO} (h : H' l = some ho) (r : RelO H' ρ o ho) : Fm R (l :: ρ) (o :: O) H' ∧ Sp R ρ H (l :: ρ) H' := by
  obtain ⟨F1, s1⟩ := F.grown g
  have hf := F.fresh hl
  have kl : ∀ n q, lv ρ n = some q → lv (l :: ρ) n = some q := fun n q z => lv_cons_of z
  refine ⟨⟨by rw [List.length_cons, List.length_cons, F.len], List.nodup_cons.mpr ⟨hf.1, F.nd⟩, fun n u hu => ?_, fun q hq => ?_, F1.res⟩, ⟨[l], rfl, fun q hq => ?_⟩, fun q u _ _ h3 => g q u h3⟩
  · unfold lv at hu
    by_cases e : n = O.length
    · rw [if_pos e] at hu
      cases hu
      refine ⟨l, ho, ?_, h, r.mv (fun _ _ z _ => z) kl⟩
      rw [e, ← F.len]
      exact lv_self
    · rw [if_neg e] at hu
      obtain ⟨q, k, h1, h2, h3⟩ := F1.ob n u hu
      exact ⟨q, k, kl _ _ h1, h2, h3.mv (fun _ _ z _ => z) kl⟩
  · rcases List.mem_cons.mp hq with e | hq
    · rw [e]; exact hf.2
    · exact F.ap q hq
  · rw [List.mem_singleton.mp hq]; exact hl

/-! ### sorted(d.items()) -/
def kD : Key → PyData
  | .inl i => .int i
  | .inr y => .str y
def encE (e : List Key × Int) : PyData := .tuple [.tuple (e.1.map kD), .int e.2]
def rSortIt2 : List V → Hp → VK → Prop := fun vs H Q => ∃ (p a : Addr) (es : List (List Key × Int)), vs = [.ref p] ∧ H p = some (L2.DX.itemsO p a) ∧ H a = some (.dT (es.map fun e => (e.1, V.int e.2))) ∧
  (∀ e ∈ es, ∀ f ∈ es, PySem.W.alike (encE e) (encE f) = true) ∧
  ∀ (H' : Hp) (l : Addr) (zs : List (Addr × List Key × Int)), (∀ b o, H b = some o → H' b = some o) → (zs.map (·.2)).Perm es → H l = none → H' l = some (.lst (zs.map fun z => V.ref z.1)) →
    (∀ z ∈ zs, ∃ q, H' z.1 = some (.tup [.ref q, .int z.2.2]) ∧ H' q = some (.tup (z.2.1.map kV))) → Q (.ref l) H'
theorem reads_key {h : Heap} : ∀ {ks : List Key} {us : List Value}, Vals (ks.map kV) us → ReadsAll h us (ks.map kD) []
  | [], us, r => by cases r; exact .nil
  | k :: ks, us, r => by
    cases r with
    | cons h1 t =>
      refine ReadsAll.cons (as := []) (bs := []) ?_ (reads_key t)
      cases k with
      | inl i => obtain ⟨q, rfl⟩ := h1; exact .int i q
      | inr y => obtain ⟨q, rfl⟩ := h1; exact .str y q
theorem depth_keys : ∀ ks : List Key, PyData.depthAll (ks.map kD) = 0
  | [] => rfl
  | k :: ks => by
    rw [List.map_cons, PyData.depthAll, depth_keys ks]
    cases k <;> rfl
theorem each_fst : ∀ {out : List Value} {zs : List (Addr × List Key × Int)}, PySem.W.EachIs (fun v (z : Addr × List Key × Int) => v = Value.ref z.1) out zs → out = zs.map fun z => Value.ref z.1
  | _, _, .nil => rfl
  | _, _, .cons h t => by rw [h, each_fst t]; rfl
theorem cr_sortedItems2 (hc : X.calm = true) (hu : X.A.units + 64 < cLine) : CallR X (.builtin "sorted") rSortIt2 := by
  intro pins s σ H xs us Q I r h
  obtain ⟨p, a, ks, rfl, hp, ha, hal, q⟩ := h
  obtain rfl := Vals.ref1 r
  have view : s.heap.IsItemsView p a := (show ObjOk X.prog X.w H s.heap p (L2.DX.itemsO p a) from I.hok p _ hp).1
  obtain ⟨z, hd, xs', rel, o, es, ep, ho, hx, hdat, hes, his, hn⟩ := dt_of I.hok ha
  have l1 : (ks.map fun e => (e.1, V.int e.2)).length = xs'.length := Paired.length rel
  rw [List.length_map] at l1 z
  have l2 : es.size = xs'.length := PySem.size_of_entries hes
  have hh : X.A.handled = none := I.ok.hd hc
  refine DT.sortedI (es := es) (ep := ep) hh view ⟨o, ho, hx, hdat⟩ (by omega) fun h' tk as hk hlt hl hG => ?_
  have lak : as.length = ks.length := by omega
  have nd : as.Nodup := List.Pairwise.imp (fun h => Nat.ne_of_lt h) hG.rise
  have pr : ∀ (j : Nat) (b : Addr), as[j]? = some b → ∃ (e : List Key × Int) (kq : Addr) (t : Tok), ks[j]? = some e ∧ H kq = some (.tup (e.1.map kV)) ∧ h'.get? b = some { cls := .type "tuple", data := .seq #[Value.ref kq, Value.int e.2 t] } := by
    intro j b hj
    obtain ⟨en, he, hg⟩ := hG.pairs j b hj
    rw [PySem.entry_at hes j] at he
    cases hxj : xs'[j]? with
    | none =>
      rw [hxj] at he
      exact nomatch (show (none : Option DictEntry) = some en from he)
    | some x =>
      rw [hxj] at he
      have een : entryOfKey (tupleKind (mixKind X.prog X.w)) x = en := Option.some.inj he
      obtain ⟨e0, he0, r1, r2, r3⟩ := L2.DX.pget rel hxj
      rw [List.getElem?_map] at he0
      cases hkj : ks[j]? with
      | none =>
        rw [hkj] at he0
        exact nomatch (show (none : Option (List Key × V)) = some e0 from he0)
      | some e =>
        rw [hkj] at he0
        have ee : (e.1, V.int e.2) = e0 := Option.some.inj he0
        rw [← ee] at r2 r3
        obtain ⟨t, r3'⟩ : ∃ t, x.2.2 = Value.int e.2 t := r3
        refine ⟨e, x.2.1, t, rfl, r2, ?_⟩
        rw [hg, ← een, ← r3']
        all_goals rfl
  have hob : (h'.push { cls := .type "list", data := .seq (as.map Value.ref).toArray }).get? h'.objs.size = some (PyProof.Rows.seqObj "list" (as.map Value.ref).toArray 0) := Heap.get?_push_size _ rfl
  have kb : ∀ b o, s.heap.get? b = some o → (h'.push { cls := .type "list", data := .seq (as.map Value.ref).toArray }).get? b = some o := fun b o e => Heap.get?_push_of_some _ (hk b o e)
  have ne0 : ∀ b o, h'.get? b = some o → b ≠ h'.objs.size := fun b o e => Nat.ne_of_lt (Heap.lt_size e)
  generalize hh2 : h'.push { cls := .type "list", data := .seq (as.map Value.ref).toArray } = h2 at hob kb ⊢
  have ka : ∀ b o, h'.get? b = some o → h2.get? b = some o := fun b o e => by rw [← hh2]; exact Heap.get?_push_of_some _ e
  have zl : (as.zip ks).length = as.length := by rw [List.length_zip]; omega
  have zat : ∀ b ∈ as.zip ks, ∃ j : Nat, as[j]? = some b.1 ∧ ks[j]? = some b.2 := by
    intro z' hz'
    obtain ⟨j, hj⟩ := List.mem_iff_getElem?.mp hz'
    exact ⟨j, List.getElem?_zip_eq_some.mp hj⟩
  have e0 : PySem.W.EachIs (fun v (z : Addr × List Key × Int) => v = Value.ref z.1) (as.map Value.ref) (as.zip ks) := by
    refine PySem.W.EachIs.of_zip (by rw [List.length_map, zl]) fun p hp => ?_
    obtain ⟨j, hj⟩ := List.mem_iff_getElem?.mp hp
    obtain ⟨j1, j2⟩ := List.getElem?_zip_eq_some.mp hj
    rw [List.getElem?_map] at j1
    obtain ⟨j3, _⟩ := List.getElem?_zip_eq_some.mp j2
    rw [j3] at j1
    exact (Option.some.inj j1).symm
  have rds : ∀ b ∈ as.zip ks, Reads h2 (.ref b.1) (encE b.2) [] := by
    intro b hb
    obtain ⟨j, j1, j2⟩ := zat b hb
    obtain ⟨e, kq, t, he, hkq, hg⟩ := pr j b.1 j1
    rw [j2] at he
    cases he
    obtain ⟨_, its, rv, ot, hot, hct, nt, hdt⟩ := (show ObjOk X.prog X.w H s.heap kq (.tup (b.2.1.map kV)) from I.hok kq _ hkq)
    exact .tuple (ka _ _ hg) rfl rfl (ReadsAll.cons (as := []) (bs := []) (.tuple (kb _ _ hot) hct hdt (reads_key rv)) (ReadsAll.cons (as := []) (bs := []) (.int _ _) .nil))
  refine PySem.W.list_sort_data (enc := fun b : Addr × List Key × Int => encE b.2) hob e0 ?_ ?_ ?_ (by rw [zl]; omega) (fun b hb => ?_) fun out ho2 hout => ?_
  · exact (PySem.W.each_mem e0).mono fun v b ⟨hv, hb⟩ => ⟨[], by rw [hv]; exact rds b hb, List.not_mem_nil⟩
  · intro d hd d' hd'
    obtain ⟨b, hb, rfl⟩ := List.mem_map.mp hd
    obtain ⟨b', hb', rfl⟩ := List.mem_map.mp hd'
    exact hal _ (List.of_mem_zip hb).2 _ (List.of_mem_zip hb').2
  · exact PySem.W.Sortable.tuples fun b => ⟨_, _, rfl⟩
  · have e : (encE b.2).depth = 2 := by
      unfold encE
      simp only [PyData.depth, PyData.depthAll, depth_keys]
      rfl
    rw [e]
    show X.A.units + 1 + 1 + 2 < cLine
    omega
  · have hout2 := each_fst hout
    have hperm := List.mergeSort_perm (as.zip ks) (PySem.W.dataLe false fun b : Addr × List Key × Int => encE b.2)
    generalize (as.zip ks).mergeSort (PySem.W.dataLe false fun b : Addr × List Key × Int => encE b.2) = zs at hout2 hperm
    subst hout2
    have idx : ∀ z ∈ zs, ∃ j : Nat, as[j]? = some z.1 ∧ ks[j]? = some z.2 := fun z' hz' => zat _ (hperm.mem_iff.mp hz')
    have hp2 : (zs.map (·.2)).Perm ks := by
      have e := hperm.map (·.2)
      have m2 : (as.zip ks).map (·.2) = ks := List.map_snd_zip (by rw [lak]; exact Nat.le_refl _)
      rw [m2] at e
      exact e
    have hlz : zs.length = ks.length := by rw [← hp2.length_eq, List.length_map]
    show EP X pins σ Q (.ref h'.objs.size) { s with heap := PyProof.Rows.sortedHeap h2 h'.objs.size (as.map Value.ref) (zs.map fun z => Value.ref z.1).toArray, toks := tk }
    generalize hou : (zs.map fun z => Value.ref z.1).toArray = out
    have kF : ∀ b o, b ≠ h'.objs.size → h2.get? b = some o → (PyProof.Rows.sortedHeap h2 h'.objs.size (as.map Value.ref) out).get? b = some o := fun b o hb e => (PyProof.Rows.sortedHeap_old hb (Heap.lt_size e)).trans e
    have kS : ∀ b o, s.heap.get? b = some o → (PyProof.Rows.sortedHeap h2 h'.objs.size (as.map Value.ref) out).get? b = some o := fun b o e => kF b o (ne0 _ _ (hk b o e)) (kb b o e)
    obtain ⟨eF, heF⟩ := PyProof.Rows.sortedHeap_at (vs := as.map Value.ref) (out := out) hob
    have I1 : L2.Inv X pins σ H { s with heap := PyProof.Rows.sortedHeap h2 h'.objs.size (as.map Value.ref) out, toks := tk } := I.kept (t' := tk) kS
    have hn0 : H h'.objs.size = none := I.hok.fresh (Nat.le_of_lt hlt)
    have hlen : (zs.map fun z => V.ref z.1).length ≤ sizeLine := by rw [List.length_map]; omega
    have rv : Vals (zs.map fun z => V.ref z.1) out.toList := by
      rw [← hou]
      exact L2.vals_maps (fun z : Addr × List Key × Int => V.ref z.1) (fun z => Value.ref z.1) zs fun _ _ => rfl
    have I2 : L2.Inv X pins σ (upd H h'.objs.size (.lst (zs.map fun z => V.ref z.1))) { s with heap := PyProof.Rows.sortedHeap h2 h'.objs.size (as.map Value.ref) out, toks := tk } :=
      I1.take (h' := PyProof.Rows.sortedHeap h2 h'.objs.size (as.map Value.ref) out) (t' := tk) (fun b ob _ e => e) (I.fpOk (Nat.le_of_lt hlt) hn0) ⟨hlen, out.toList, eF, rv, heF⟩
    obtain ⟨H2, I3, g, qt⟩ := L2.DX.takeT (P := fun b vs => ∃ (j : Nat) (e : List Key × Int) (kq : Addr), as[j]? = some b ∧ ks[j]? = some e ∧ vs = [.ref kq, .int e.2] ∧ H kq = some (.tup (e.1.map kV))) I as _ I2 nd fun b hb => by
      obtain ⟨j, hj⟩ := List.mem_iff_getElem?.mp hb
      obtain ⟨e, kq, t, he, hkq, hg⟩ := pr j b hj
      have hbl : s.heap.objs.size ≤ b := Nat.le_of_lt (hG.above b hb)
      refine ⟨hbl, ?_, [.ref kq, .int e.2], ⟨j, e, kq, hj, he, rfl, hkq⟩, fun H3 => ⟨(by rw [sizeLine_eq]; show 2 ≤ 16777216; omega), [Value.ref kq, Value.int e.2 t], .cons rfl (.cons ⟨t, rfl⟩ .nil), ⟨_, kF _ _ (ne0 _ _ hg) (ka _ _ hg), rfl, 0, rfl⟩⟩⟩
      rw [upd_ne (ne0 _ _ hg)]
      exact I.hok.fresh hbl
    have gr : ∀ b o, H b = some o → H2 b = some o := fun b o e => g b o (by rw [upd_ne (ne_of_none e hn0)]; exact e)
    refine ⟨.ref h'.objs.size, H2, I3, rfl, q H2 h'.objs.size zs gr hp2 hn0 (g _ _ upd_same) fun z' hz' => ?_⟩
    obtain ⟨i, i1, i2⟩ := idx z' hz'
    obtain ⟨vs, ⟨j, e, kq, j1, j2, ev, hkq⟩, hH⟩ := qt z'.1 (List.mem_of_getElem? i1)
    have eij : i = j := (List.getElem?_inj (List.getElem?_eq_some_iff.mp i1).1 nd).mp (i1.trans j1.symm)
    subst eij
    have ee : e = z'.2 := Option.some.inj (j2.symm.trans i2)
    rw [ev, ee] at hH
    rw [ee] at hkq
    exact ⟨kq, hH, gr _ _ hkq⟩
/-- a dict whose keys are tuples and whose values are ints -/
def intKvs (es : List (List Key × Int)) : List (List Key × A) := es.map fun e => (e.1, .int e.2)
def kA : Key → A
  | .inl i => .int i
  | .inr y => .str y
def pairA (e : List Key × Int) : A := .tup [.tup (e.1.map kA), .int e.2]
theorem relK : ∀ {ks : List Key}, RelAs H ρ (ks.map kA) (ks.map kV)
  | [] => RelAs.nil
  | k :: ks => by
    refine RelAs.cons ?_ relK
    cases k with
    | inl i => exact rel_int
    | inr y => exact rel_str
theorem intKvs_of : ∀ {es : List (List Key × Int)} {kws : List (List Key × V)}, Paired (fun (p : List Key × A) (q : List Key × V) => p.1 = q.1 ∧ RelA H ρ p.2 q.2) (intKvs es) kws → kws = es.map fun e => (e.1, V.int e.2)
  | [], _, h => by
    unfold intKvs at h
    cases h
    rfl
  | e :: es, _, h => by
    unfold intKvs at h
    rw [List.map_cons] at h
    cases h with
    | @cons _ q _ qs h1 t =>
      obtain ⟨h1, h2⟩ := h1
      unfold RelA at h2
      rw [List.map_cons, ← intKvs_of (es := es) t]
      have : q = (e.1, V.int e.2) := Prod.ext h1.symm h2
      rw [this]
def aSortedItems (t : AE) : AE := fun δ O Q => t δ O fun a O1 => match a with
  | .own n => ∃ es : List (List Key × Int), lv O1 n = some (.dT (intKvs es)) ∧ (∀ e ∈ es, ∀ f ∈ es, PySem.W.alike (encE e) (encE f) = true) ∧ ∀ fs : List (List Key × Int), fs.Perm es → Q (.own O1.length) (.lst (fs.map pairA) :: O1)
  | _ => False
theorem le_sortedItems {o : Expr} {t : AE} {k : Nat} {p apos cpos : Pos} (hr : Room k X.A) (hg : Gl X "sorted") (hm : X.mg "sorted" = none) (ho : LE X B o t) (hc : X.calm = true := by rfl)
    (hbase : attributeBase o "items" X.env (eval o X.env) = eval o X.env := by rfl) (hline : (apos.endLine == cpos.line) = true := by rfl)
    (he : starEach [Expr.Call (.Attribute o "items" apos) [] [] cpos] X.env = [(false, eval (Expr.Call (.Attribute o "items" apos) [] [] cpos) X.env)] := by rfl) :
    LE X B (.Call (.Name "sorted" p) [.Call (.Attribute o "items" apos) [] [] cpos] [] pos) (aSortedItems t) :=
  (pe_callB (cr_sortedItems2 hc hr.units) hg hm (by first | rfl | exact PyProof.Rows.boot_sorted) (pa_cons (pe_bm0 PySem.F.plainAttrs_dict PySem.F.slot_dict_items PySem.F.type_dict_items L2.DX.mt_itemsT ho hbase hline) pa_nil he) (he := he)).imp fun σ H QV ⟨ρ, O, δ, Q, w, t, kk⟩ => by
  refine ⟨ρ, O, δ, _, w, t, fun x H1 ρ1 O1 a F1 s1 ra t1 => ?_⟩
  cases a with
  | own n =>
    obtain ⟨es, e1, hal, t1⟩ := t1
    obtain ⟨d, ho', h1, h2, kws, rfl, h3⟩ := F1.ob n _ e1
    unfold RelA at ra
    obtain ⟨d', rfl, h4⟩ := ra
    rw [h1] at h4
    cases h4
    obtain rfl := intKvs_of h3
    refine ⟨.inr (.inr (.inl ⟨rfl, .inr ⟨_, h2⟩⟩)), d, _, rfl, rfl, h2, fun p hp => ⟨p, d, es, rfl, upd_same, by rw [upd_ne (ne_of_none h2 hp)]; exact h2, hal, fun H' l zs g hperm hl hl' hz => ?_⟩⟩
    have hpl : H1 l = none := by
      by_cases e : l = p
      · rw [e]; exact hp
      · rw [upd_ne e] at hl; exact hl
    have g1 : ∀ b o, H1 b = some o → H' b = some o := fun b o e => g b o (by rw [upd_ne (ne_of_none e hp)]; exact e)
    have rr : RelAs H' ρ1 ((zs.map (·.2)).map pairA) (zs.map fun z => V.ref z.1) := by
      clear hl' hperm
      induction zs with
      | nil => exact RelAs.nil
      | cons z zs ih =>
        obtain ⟨q, q1, q2⟩ := hz z List.mem_cons_self
        refine RelAs.cons ?_ (ih fun z' hz' => hz z' (List.mem_cons_of_mem _ hz'))
        unfold pairA RelA
        refine ⟨_, _, rfl, q1, RelAs.cons ?_ (RelAs.cons rel_int RelAs.nil)⟩
        unfold RelA
        exact ⟨q, _, rfl, q2, relK⟩
    obtain ⟨F2, s2⟩ := F1.pushed g1 hpl hl' (o := .lst ((zs.map (·.2)).map pairA)) ⟨_, rfl, rr⟩
    refine kk _ _ _ _ (.own O1.length) F2 (s1.trans w.fm F1 s2) ?_ (t1 _ hperm)
    unfold RelA
    exact ⟨l, rfl, by rw [← F1.len]; exact lv_self⟩
  | _ => exact t1.elim

/-! ### dict(t) of a tuple of pairs -/
theorem atKey_none {κ : Type} [DecidableEq κ] {xs : List (κ × Addr × Value)} {k : κ} (h : k ∉ xs.map (·.1)) : atKey xs k = none := by
  unfold atKey
  rw [List.find?_eq_none.mpr]
  · rfl
  · intro x hx e
    exact h (List.mem_map.mpr ⟨x, hx, of_decide_eq_true e⟩)
theorem storedAllH_nd {κ : Type} [DecidableEq κ] : ∀ {ps xs : List (κ × Addr × Value)}, ((xs ++ ps).map (·.1)).Nodup → storedAllH xs ps = xs ++ ps
  | [], xs, _ => by rw [List.append_nil]; rfl
  | p :: ps, xs, h => by
    have e : storedAllH xs (p :: ps) = storedAllH (storedH xs p.1 p.2.1 p.2.2) ps := rfl
    have hk : p.1 ∉ xs.map (·.1) := by
      rw [List.map_append, List.nodup_append] at h
      exact fun z => h.2.2 _ z _ (List.mem_map.mpr ⟨p, List.mem_cons_self, rfl⟩) rfl
    rw [e, storedH_new (atKey_none hk)]
    have e2 : xs ++ [(p.1, p.2.1, p.2.2)] ++ ps = xs ++ p :: ps := by rw [List.append_assoc]; rfl
    rw [storedAllH_nd (by rw [e2]; exact h), e2]
def rDictT : List V → Hp → VK → Prop := fun vs H Q => ∃ (a : Addr) (ob : Obj) (ps : List Addr) (kvs : List (List Key × V)), vs = [.ref a] ∧ H a = some (.frz ob (.tup (ps.map V.ref))) ∧ ob.dict = none ∧
  Paired (fun b (kv : List Key × V) => ∃ q, H b = some (.tup [.ref q, kv.2]) ∧ H q = some (.tup (kv.1.map kV))) ps kvs ∧ (kvs.map (·.1)).Nodup ∧ ∀ p, H p = none → Q (.ref p) (upd H p (.dT kvs))
theorem pairs_ofT {pins : List (Addr × Obj)} {s : Shared} (I : L2.Inv X pins σ H s) : ∀ {ps : List Addr} {kvs : List (List Key × V)}, Paired (fun b (kv : List Key × V) => ∃ q, H b = some (.tup [.ref q, kv.2]) ∧ H q = some (.tup (kv.1.map kV))) ps kvs →
    ∃ prs : List (List Key × Addr × Value), KT H kvs prs ∧ prs.length = ps.length ∧ ∀ (j : Nat) (q : List Key × Addr × Value), prs[j]? = some q → ∃ b : Addr, ps[j]? = some b ∧ s.heap.IsTuple b #[.ref q.2.1, q.2.2]
  | _, _, .nil => ⟨[], .nil, rfl, fun j q e => by simp at e⟩
  | _, _, .cons (a := p) (b := kv) h t => by
    obtain ⟨prs, r, hl, hp⟩ := pairs_ofT I t
    obtain ⟨q, h1, h2⟩ := h
    obtain ⟨its, rv, ht, _⟩ := I.tuple (.inl (.inl h1))
    obtain ⟨u, y, ei, ru, ry⟩ := vals2 rv
    cases ru
    subst ei
    refine ⟨(kv.1, q, y) :: prs, .cons ⟨rfl, h2, ry⟩ r, by rw [List.length_cons, List.length_cons, hl], fun j z e => ?_⟩
    cases j with
    | zero =>
      have e' : (kv.1, q, y) = z := Option.some.inj e
      subst e'
      exact ⟨p, rfl, ht⟩
    | succ j =>
      obtain ⟨b, e1, e2⟩ := hp j z (by simpa using e)
      exact ⟨b, by simpa using e1, e2⟩
theorem KT.keys {kvs : List (List Key × V)} {prs : List (List Key × Addr × Value)} (r : KT H kvs prs) : prs.map (·.1) = kvs.map (·.1) := by
  induction r with
  | nil => rfl
  | cons h _ ih => rw [List.map_cons, List.map_cons, ih, h.1]
theorem KT.keyi {kvs : List (List Key × V)} {prs : List (List Key × Addr × Value)} (r : KT H kvs prs) : ∀ x ∈ prs, H x.2.1 = some (.tup (x.1.map kV)) := by
  induction r with
  | nil => exact fun x hx => nomatch hx
  | @cons p q0 l m h _ ih =>
    intro x hx
    rcases List.mem_cons.mp hx with rfl | hx
    · rw [← h.1]; exact h.2.1
    · exact ih x hx
theorem cr_dictT (hc : X.calm = true) (hu : X.A.units + 64 < cLine) : CallR X (.type "dict") rDictT := by
  intro pins s σ H xs us Q I r h
  obtain ⟨a, ob, ps, kvs, rfl, ha, hdn, hp, hnd, q⟩ := h
  obtain rfl := Vals.ref1 r
  obtain ⟨hob, hz, its, rv, ob', hob', hcls, n, hdat⟩ := (show ObjOk X.prog X.w H s.heap a (.frz ob (.tup (ps.map V.ref))) from I.hok a _ ha)
  rw [hob] at hob'
  cases hob'
  have ei := L2.refs_at rv
  subst ei
  rw [List.length_map] at hz
  obtain ⟨prs, rel, hl, hpr⟩ := pairs_ofT I hp
  have ql : (prs.map fun x => (Value.ref x.2.1, x.2.2)).length = prs.length := List.length_map _
  have lk : kvs.length = prs.length := Paired.length rel
  refine call_dict_pairsH (knd := tupleKind (mixKind X.prog X.w)) (ps := prs) (PySem.PairArg.tuple (prog := X.prog) (w := X.w) a (ps.map Value.ref).toArray (fun j => ps.getD j 0) (prs.map fun x => (Value.ref x.2.1, x.2.2)))
    (I.ok.hd hc) (show X.A.units + 1 + 1 < cLine by omega) ⟨⟨ob, n, hob, hcls, hdn, hdat⟩, by simp [hl], fun j k v e => ?_⟩ ⟨ql.symm, fun i k v e => ?_⟩ (fun h' hk x hx => ?_) (by rw [ql, hl]; exact hz) fun h' tk hd' hk => ?_
  · rw [List.getElem?_map] at e
    cases e1 : prs[j]? with
    | none => rw [e1] at e; exact nomatch e
    | some x =>
      rw [e1] at e
      obtain ⟨b, e2, e3⟩ := hpr j x e1
      have e4 : (Value.ref x.2.1, x.2.2) = (k, v) := Option.some.inj e
      cases e4
      have e5 : ps.getD j 0 = b := by rw [List.getD_eq_getElem?_getD, e2]; rfl
      show _ = some (Value.ref (ps.getD j 0)) ∧ PairAt s.heap (ps.getD j 0) _ _
      rw [e5]
      exact ⟨by simp [e2], .inl e3⟩
  · have e0 : (prs.map fun x => (Value.ref x.2.1, x.2.2))[i]? = some (k, v) := e
    rw [List.getElem?_map] at e0
    cases e1 : prs[i]? with
    | none => rw [e1] at e0; exact nomatch e0
    | some x =>
      rw [e1] at e0
      have e4 : (Value.ref x.2.1, x.2.2) = (k, v) := Option.some.inj e0
      cases e4
      exact ⟨x.1, x.2.1, rfl, rfl⟩
  · have hx2 := KT.keyi rel x hx
    have lt := (I.hok _ _ hx2).lt
    have I1 : L2.HOk X.prog X.w H s.heap := I.hok
    obtain ⟨o, its, n, g1, g2, g3⟩ := key_of I1 hx2
    exact ⟨o, its, n, hk _ _ (Nat.ne_of_lt (Heap.lt_size g1)) List.not_mem_nil g1, g2, g3⟩
  · rw [storedAllH_nd (by rw [List.nil_append, KT.keys rel]; exact hnd), List.nil_append] at hd'
    have kk : ∀ b o, s.heap.get? b = some o → h'.get? b = some o := fun b o e => hk b o List.not_mem_nil e
    have hm : (s.heap.objs.size == sysModules) = false := beq_eq_false_iff_ne.mpr (Nat.ne_of_gt I.big)
    obtain ⟨o, es, ep, c1, c2, c3, c4, c5, c6⟩ := hd'
    have hn := I.hok.fresh (Nat.le_refl _)
    have kt : KT (upd H s.heap.objs.size (.dT kvs)) kvs prs := L2.Paired.mapP rel fun _ _ z => ⟨z.1, by rw [upd_ne (ne_of_none z.2.1 hn)]; exact z.2.1, z.2.2⟩
    exact ⟨.ref s.heap.objs.size, upd H s.heap.objs.size (.dT kvs), I.laid (t' := tk) kk (Nat.le_refl _) (show ObjOk X.prog X.w _ _ _ (.dT kvs) from ⟨by rw [lk, hl]; exact hz, hm, prs, kt, o, es, ep, c1, c2, c3, c4, c6⟩), rfl, q _ hn⟩
/-- the pairs of a tuple -/
def aPairs : List A → Option (List (List Key × A))
  | [] => some []
  | .tup [.tup ks, v] :: r => match keysOf ks, aPairs r with | some k, some kvs => some ((k, v) :: kvs) | _, _ => none
  | _ => none
theorem aPairs_of : ∀ {xs : List A} {vs : List V} {kvs : List (List Key × A)}, aPairs xs = some kvs → RelAs H ρ xs vs → ∃ (ps : List Addr) (kws : List (List Key × V)), vs = ps.map V.ref ∧
    Paired (fun b (kv : List Key × V) => ∃ q, H b = some (.tup [.ref q, kv.2]) ∧ H q = some (.tup (kv.1.map kV))) ps kws ∧ Paired (fun (p : List Key × A) (q : List Key × V) => p.1 = q.1 ∧ RelA H ρ p.2 q.2) kvs kws := by
  intro xs
  induction xs with
  | nil =>
    intro vs kvs h r
    unfold aPairs at h
    cases h
    rw [RelAs.nil_iff.mp r]
    exact ⟨[], [], rfl, .nil, .nil⟩
  | cons x xs ih =>
    intro vs kvs h r
    unfold aPairs at h
    split at h
    · rename_i e
      cases e
    · rename_i ks v r' e
      cases e
      cases e1 : keysOf ks with
      | none => simp only [e1] at h; cases h
      | some k =>
        cases e2 : aPairs xs with
        | none => simp only [e1, e2] at h; cases h
        | some kvs' =>
          simp only [e1, e2] at h
          cases h
          obtain ⟨w, r2, rfl, h1, h2⟩ := RelAs.cons_iff.mp r
          obtain ⟨ps, kws, rfl, h3, h4⟩ := ih e2 h2
          unfold RelA at h1
          obtain ⟨b, ws, rfl, hb, h5⟩ := h1
          obtain ⟨y, z, rfl, h6, h7⟩ := rel2 h5
          unfold RelA at h6
          obtain ⟨q, us, rfl, hq, h8⟩ := h6
          rw [keysOf_of e1 h8] at hq
          exact ⟨b :: ps, (k, z) :: kws, rfl, .cons ⟨q, hb, hq⟩ h3, .cons ⟨rfl, h7⟩ h4⟩
    · cases h
theorem Paired.fsts {kvs : List (List Key × A)} {kws : List (List Key × V)} (h : Paired (fun (p : List Key × A) (q : List Key × V) => p.1 = q.1 ∧ RelA H ρ p.2 q.2) kvs kws) : kws.map (·.1) = kvs.map (·.1) := by
  induction h with
  | nil => rfl
  | cons h _ ih => rw [List.map_cons, List.map_cons, ih, h.1]
def bDictT : AC
  | [.tupk xs], O, Q => match aPairs xs with | some kvs => (kvs.map (·.1)).Nodup ∧ Q (.own O.length) (.dT kvs :: O) | none => False
  | _, _, _ => False
theorem tl_dictT (hc : X.calm = true) (hu : X.A.units + 64 < cLine) : CallL X R (.type "dict") bDictT := by
  intro pins s σ H vs us QV I r ⟨ρ, O, as, Q, F, rs, h, k⟩
  unfold bDictT at h
  split at h
  · rename_i xs
    obtain ⟨v, rfl, ra⟩ := rel1 rs
    cases e : aPairs xs with
    | none => simp only [e] at h
    | some kvs =>
      simp only [e] at h
      unfold RelA at ra
      obtain ⟨p, ws, o, rfl, hp, hd, rr⟩ := ra
      obtain ⟨ps, kws, rfl, h1, h2⟩ := aPairs_of e rr
      exact cr_dictT hc hu pins s σ H _ us QV I r ⟨p, o, ps, kws, rfl, hp, hd, h1, by rw [Paired.fsts h2]; exact h.1, fun p hp => k.new F hp (o := .dT kvs) ⟨kws, rfl, h2⟩ h.2⟩
  · exact h.elim
end
end PyA

set_option Elab.async false
set_option linter.all false
set_option maxRecDepth 100000
set_option maxHeartbeats 2000000
/-! Proving readings: stores that extend, loops by invariants, ends. -/
namespace PyA
open PySem PySem.Spec L2
/-- what was there is there -/
def Ext (O O' : Own) : Prop := ∀ n x, lv O n = some x → lv O' n = some x
theorem Ext.refl {O : Own} : Ext O O := fun _ _ h => h
theorem Ext.trans {O O1 O2 : Own} (a : Ext O O1) (b : Ext O1 O2) : Ext O O2 := fun n x h => b n x (a n x h)
theorem Ext.cons {O O' : Own} {o : AO} (a : Ext O O') : Ext O (o :: O') := fun n x h => lv_cons_of (a n x h)
theorem Ext.new {O : Own} {o : AO} : Ext O (o :: O) := Ext.refl.cons
theorem Ext.len {O O' : Own} (a : Ext O O') : O.length ≤ O'.length := by
  cases e : O.length with
  | zero => exact Nat.zero_le _
  | succ n =>
    obtain ⟨x, hx⟩ := lv_some (l := O) (n := n) (by omega)
    exact lv_lt (a n x hx)
theorem Ext.put {O O' : Own} {n : Nat} {o : AO} (a : Ext O O') (h : O.length ≤ n) : Ext O (lput O' n o) := fun m x e => by
  rw [lv_lput_ne (by have := lv_lt e; omega)]
  exact a m x e
theorem lv_ext {α : Type} : ∀ {l r : List α}, l.length = r.length → (∀ n x, lv l n = some x → lv r n = some x) → l = r
  | [], [], _, _ => rfl
  | [], _ :: _, h, _ => by simp at h
  | _ :: _, [], h, _ => by simp at h
  | x :: l, y :: r, h, g => by
    have hl : l.length = r.length := by simpa using h
    have e := g l.length x lv_self
    rw [hl, lv_self] at e
    have e1 : y = x := Option.some.inj e
    rw [e1]
    refine congrArg (x :: ·) (lv_ext hl fun n z hz => ?_)
    have hn := lv_lt hz
    have e2 := g n z (lv_cons_of hz)
    rw [lv_old (by omega)] at e2
    exact e2
theorem lv_tail {α : Type} {N r : List α} {n : Nat} (h : n < r.length) : lv (N ++ r) n = lv r n := by
  obtain ⟨y, hy⟩ := lv_some h
  rw [hy, lv_app hy]
theorem Ext.app {O O' : Own} (a : Ext O O') : ∃ N, O' = N ++ O := by
  have hl := a.len
  refine ⟨O'.take (O'.length - O.length), ?_⟩
  have e : O'.drop (O'.length - O.length) = O := by
    refine (lv_ext ?_ fun n x h => ?_).symm
    · rw [List.length_drop]; omega
    · have h1 := a n x h
      have h2 := lv_lt h
      rw [← List.take_append_drop (O'.length - O.length) O', lv_tail (by rw [List.length_drop]; omega)] at h1
      exact h1
  have t := List.take_append_drop (O'.length - O.length) O'
  rw [e] at t
  exact t.symm
theorem seqA_ext {O O' : Own} (a : Ext O O') {x : A} {xs : List A} (h : seqA O x = some xs) : seqA O' x = some xs := by
  cases x with
  | own n =>
    unfold seqA at h ⊢
    cases e : lv O n with
    | none => simp only [e] at h; cases h
    | some o =>
      have e2 := a n o e
      simp only [e] at h
      simp only [e2]
      exact h
  | _ => exact h
/-! ends -/
theorem fin_data {O Oe : Own} {Q : AK} {a : A} (x : Ext O Oe) (h : ltA O.length a = true) (q : Q a O) : fin O Q a Oe := by
  obtain ⟨N, rfl⟩ := x.app
  exact ⟨a, O, Conv.data rfl h (.inl rfl), q⟩
theorem fin_new {O Oe : Own} {Q : AK} {m : Nat} {o : AO} (x : Ext O Oe) (hm : O.length ≤ m) (ho : lv Oe m = some o) (hc : ltO O.length o = true) (q : Q (.own O.length) (o :: O)) : fin O Q (.own m) Oe := by
  obtain ⟨N, rfl⟩ := x.app
  exact ⟨_, _, Conv.new hm ho hc, q⟩
theorem fin_here {O : Own} {Q : AK} {a : A} (q : Q a O) : fin O Q a O := ⟨a, O, Conv.refl, q⟩
theorem ex_here {O Oe : Own} {QE : Value → Own → Prop} {cls : Value} (x : Ext O Oe) (q : QE cls O) : ∃ O', Conv O .non Oe .non O' ∧ QE cls O' := by
  obtain ⟨N, rfl⟩ := x.app
  exact ⟨O, Conv.data rfl rfl (.inl rfl), q⟩
theorem ltAs_map {α : Type} {k : Nat} {f : α → A} : ∀ {xs : List α}, (∀ x ∈ xs, ltA k (f x) = true) → ltAs k (xs.map f) = true
  | [], _ => rfl
  | x :: xs, h => by
    rw [List.map_cons]
    unfold ltAs
    rw [h x List.mem_cons_self, ltAs_map fun y hy => h y (List.mem_cons_of_mem _ hy)]
    rfl
theorem ltAs_all {k : Nat} {xs : List A} (h : ∀ x ∈ xs, ltA k x = true) : ltAs k xs = true := by
  have := ltAs_map (k := k) (f := fun x => x) h
  rwa [List.map_id'] at this
theorem ltAs_mem {k : Nat} : ∀ {xs : List A}, ltAs k xs = true → ∀ x ∈ xs, ltA k x = true
  | [], _, _, h => nomatch h
  | y :: xs, h, x, hx => by
    unfold ltAs at h
    rw [Bool.and_eq_true] at h
    rcases List.mem_cons.mp hx with rfl | hx
    · exact h.1
    · exact ltAs_mem h.2 x hx
/-! loops -/
theorem forA_inv {chk : Own → Prop} {g : AG} {body : AS} {D : AEnds} {items : List A} (I : Nat → Slots → Own → Prop)
    (step : ∀ (i : Nat) (x : A) (δ : Slots) (O : Own) (Nx : Slots → Own → Prop), items[i]? = some x → I i δ O → (∀ δ' O', I (i + 1) δ' O' → Nx δ' O') → chk O ∧ g x δ O fun δ1 O1 => body { nx := Nx, rt := D.rt, bk := D.nx, ct := Nx } δ1 O1)
    (stop : ∀ δ O, I items.length δ O → chk O ∧ D.nx δ O) {δ : Slots} {O : Own} (h0 : I 0 δ O) : forA chk g body D items δ O := by
  have key : ∀ (n i : Nat), i + n = items.length → ∀ δ O, I i δ O → forA chk g body D (items.drop i) δ O := by
    intro n
    induction n with
    | zero =>
      intro i hi δ O h
      rw [List.drop_eq_nil_of_le (by omega)]
      unfold forA
      have : i = items.length := by omega
      rw [this] at h
      exact stop δ O h
    | succ n ih =>
      intro i hi δ O h
      have hlt : i < items.length := by omega
      rw [List.drop_eq_getElem_cons hlt]
      unfold forA
      exact step i _ δ O _ (List.getElem?_eq_getElem hlt) h fun δ' O' h' => ih (i + 1) (by omega) δ' O' h'
  exact key items.length 0 (by omega) δ O h0
theorem compA_inv {chk : Own → Prop} {g : AG} {tt : AT} {te : AE} {δ : Slots} {items : List A} {Q : ALK} (I : Nat → List A → Own → Prop)
    (step : ∀ (i : Nat) (x : A) (acc : List A) (O : Own) (Nx : List A → Own → Prop), items[i]? = some x → I i acc O → (∀ acc' O', I (i + 1) acc' O' → Nx acc' O') →
      chk O ∧ g x δ O fun δ1 O1 => tt δ1 O1 fun b O2 => match b with | true => te δ1 O2 fun y O3 => acc.length < sizeLine ∧ Nx (acc ++ [y]) O3 | false => Nx acc O2)
    (stop : ∀ acc O, I items.length acc O → chk O ∧ Q acc O) {O : Own} (h0 : I 0 [] O) : compA chk g tt te δ items [] O Q := by
  have key : ∀ (n i : Nat), i + n = items.length → ∀ acc O, I i acc O → compA chk g tt te δ (items.drop i) acc O Q := by
    intro n
    induction n with
    | zero =>
      intro i hi acc O h
      rw [List.drop_eq_nil_of_le (by omega)]
      unfold compA
      have : i = items.length := by omega
      rw [this] at h
      exact stop acc O h
    | succ n ih =>
      intro i hi acc O h
      have hlt : i < items.length := by omega
      rw [List.drop_eq_getElem_cons hlt]
      unfold compA
      exact step i _ acc O _ (List.getElem?_eq_getElem hlt) h fun acc' O' h' => ih (i + 1) (by omega) acc' O' h'
  exact key items.length 0 (by omega) [] O h0
/-- a comprehension that reads only -/
theorem compA_map {chk : Own → Prop} {g : AG} {te : AE} {δ : Slots} {items : List A} {Q : ALK} {O : Own} (f : A → A) (hc : chk O) (hz : items.length ≤ sizeLine)
    (h : ∀ x ∈ items, ∀ Q' : AK, Q' (f x) O → g x δ O fun δ1 O1 => te δ1 O1 Q') (q : Q (items.map f) O) : compA chk g aYes te δ items [] O Q := by
  refine compA_inv (fun i acc O1 => O1 = O ∧ acc = (items.take i).map f) (fun i x acc O1 Nx hx hI k => ?_) (fun acc O1 hI => ?_) ⟨rfl, rfl⟩
  · obtain ⟨rfl, rfl⟩ := hI
    have hi : i < items.length := (List.getElem?_eq_some_iff.mp hx).1
    refine ⟨hc, h x (List.mem_of_getElem? hx) (fun y O3 => _ < sizeLine ∧ Nx (_ ++ [y]) O3) ⟨?_, k _ _ ⟨rfl, ?_⟩⟩⟩
    · rw [List.length_map, List.length_take]; omega
    · rw [List.take_succ, hx, List.map_append]; rfl
  · obtain ⟨rfl, rfl⟩ := hI
    rw [List.take_of_length_le (Nat.le_refl _)]
    exact ⟨hc, q⟩
theorem rangeA_at {lo : Int} {n i : Nat} {x : A} (h : (rangeA lo n)[i]? = some x) : i < n ∧ x = .int (lo + (i : Nat)) := by
  have hi : i < n := by
    have := (List.getElem?_eq_some_iff.mp h).1
    rwa [rangeA_len] at this
  rw [rangeA_get hi] at h
  exact ⟨hi, (Option.some.inj h).symm⟩
theorem ixN_nat {n i : Nat} (h : i < n) : L2.ixN n (i : Int) = some i := by
  unfold L2.ixN
  rw [if_pos (by omega), if_pos (by omega)]
  rfl
theorem atI_nat {α : Type} {xs : List α} {i : Nat} {x : α} (h : xs[i]? = some x) : L2.atI xs (i : Int) = some x := by
  unfold L2.atI
  rw [ixN_nat (List.getElem?_eq_some_iff.mp h).1]
  exact h
theorem atI_0 {α : Type} {x : α} {xs : List α} : L2.atI (x :: xs) 0 = some x := atI_nat (i := 0) rfl
theorem atI_1 {α : Type} {x y : α} {xs : List α} : L2.atI (x :: y :: xs) 1 = some y := atI_nat (i := 1) rfl
theorem atI_2 {α : Type} {x y z : α} {xs : List α} : L2.atI (x :: y :: z :: xs) 2 = some z := atI_nat (i := 2) rfl
theorem atI_last {α : Type} {xs : List α} {x : α} (h : xs.getLast? = some x) : L2.atI xs (-1) = some x := by
  have hn : xs ≠ [] := by rintro rfl; simp at h
  have hl : 0 < xs.length := List.length_pos_iff.mpr hn
  unfold L2.atI L2.ixN
  rw [if_neg (by omega), if_pos (by omega)]
  show xs[((-1 : Int) + xs.length).toNat]? = some x
  rw [← h, List.getLast?_eq_getElem?]
  congr 1
  omega
/-! ### the readings' parts, applied -/
section
variable {O : Own} {Q : AK} {a b s : A} {xs ys : List A} {i j : Int} {m n : Nat} {x y : A}
theorem x_add : opAdd (.int i) (.int j) O Q = Q (.int (i + j)) O := rfl
theorem x_addS {u v : Str} : opAdd (.str u) (.str v) O Q = (u.length + v.length ≤ sizeLine ∧ Q (.str (u ++ v)) O) := rfl
theorem x_addI : PyA.opI (fun i j => some (.int (i + j))) (.int i) (.int j) O Q = Q (.int (i + j)) O := rfl
theorem x_mulI : opMul (.int i) (.int j) O Q = (mulOk i j = true ∧ Q (.int (i * j)) O) := rfl
theorem x_eqI : opEq (.int i) (.int j) O Q = Q (.bl (decide (i = j))) O := rfl
theorem x_neI : opNe (.int i) (.int j) O Q = Q (.bl (!decide (i = j))) O := rfl
theorem x_lt : opLt (.int i) (.int j) O Q = Q (.bl (decide (i < j))) O := rfl
theorem x_le : opLe (.int i) (.int j) O Q = Q (.bl (decide (i ≤ j))) O := rfl
theorem x_gt : opGt (.int i) (.int j) O Q = Q (.bl (decide (j < i))) O := rfl
theorem x_ge : opGe (.int i) (.int j) O Q = Q (.bl (decide (j ≤ i))) O := rfl
theorem x_sub : opSub (.int i) (.int j) O Q = Q (.int (i - j)) O := rfl
theorem x_neg : unNeg (.int i) O Q = Q (.int (-i)) O := rfl
theorem x_abs : bAbs [.int i] O Q = Q (.int (if i < 0 then -i else i)) O := rfl
theorem x_int : tInt [.int i] O Q = Q (.int i) O := rfl
theorem x_str : tStr [.int i] O Q = (i.natAbs.log2 < 1920 ∧ Q (.str (toString i)) O) := rfl
theorem x_lenS {u : Str} : bLen [.str u] O Q = (u.length ≤ sizeLine ∧ Q (.int u.length) O) := rfl
theorem w_fdiv (m n : Nat) (h0 : 0 < n) (h1 : n < 2 ^ 30) (q : Q (.int ((m / n : Nat) : Int)) O) : opFdiv (.int (m : Int)) (.int (n : Int)) O Q := by
  unfold opFdiv opI
  have e : ((n : Int) ≠ 0 ∧ (n : Int).natAbs < 1073741824) := ⟨by omega, by rw [Int.natAbs_natCast]; omega⟩
  show (match (if (n : Int) ≠ 0 ∧ (n : Int).natAbs < 1073741824 then some (A.int ((m : Int).fdiv n)) else none) with | some a => Q a O | none => False)
  rw [if_pos e]
  have e2 : (m : Int).fdiv (n : Int) = ((m / n : Nat) : Int) := by
    rw [Int.fdiv_eq_ediv_of_nonneg _ (Int.natCast_nonneg n), Int.natCast_ediv]
  show Q (.int ((m : Int).fdiv (n : Int))) O
  rw [e2]
  exact q
theorem w_mod (m n : Nat) (h0 : 0 < n) (q : Q (.int ((m % n : Nat) : Int)) O) : opMod (.int (m : Int)) (.int (n : Int)) O Q := by
  show (match (if (n : Int) ≠ 0 then some (A.int ((m : Int).fmod n)) else none) with | some a => Q a O | none => False)
  rw [if_pos (show (n : Int) ≠ 0 by omega)]
  have e2 : (m : Int).fmod (n : Int) = ((m % n : Nat) : Int) := by
    rw [Int.fmod_eq_emod_of_nonneg _ (Int.natCast_nonneg n), Int.natCast_emod]
  show Q (.int ((m : Int).fmod (n : Int))) O
  rw [e2]
  exact q
theorem mulOk_l (h : -(2 ^ 64) < i) (g : i < 2 ^ 64) : mulOk i j = true := by
  unfold mulOk
  rw [decide_eq_true h, decide_eq_true g]
  rfl
theorem mulOk_r (h : -(2 ^ 64) < j) (g : j < 2 ^ 64) : mulOk i j = true := by
  unfold mulOk
  rw [decide_eq_true h, decide_eq_true g, Bool.and_self, Bool.or_true]
theorem w_mul (m n : Nat) (h : m < 2 ^ 64 ∨ n < 2 ^ 64) (q : Q (.int ((m * n : Nat) : Int)) O) : opMul (.int (m : Int)) (.int (n : Int)) O Q := by
  rw [x_mulI]
  refine ⟨?_, by rw [Int.natCast_mul] at q; exact q⟩
  rcases h with h | h
  · exact mulOk_l (by omega) (by omega)
  · exact mulOk_r (by omega) (by omega)
theorem w_ix (h : seqA O s = some xs) (g : L2.atI xs i = some x) (q : Q x O) : ixA s (.int i) O Q := by
  unfold ixA
  simp only [h, g]
  exact q
theorem w_ixN (h : seqA O s = some xs) (g : xs[n]? = some x) (q : Q x O) : ixA s (.int (n : Int)) O Q := w_ix h (atI_nat g) q
theorem w_len (h : seqA O s = some xs) (q : Q (.int xs.length) O) : bLen [s] O Q := by
  unfold bLen
  split
  · rename_i e; cases e; cases h
  · rename_i e; cases e; rw [h]; exact q
  · rename_i e1 e2; exact absurd rfl (e2 _)
theorem w_list (h : seqA O s = some xs) (q : Q (.own O.length) (.lst xs :: O)) : tList [s] O Q := by
  unfold tList
  simp only [h]
  exact q
theorem w_tuple (h : lv O n = some (.lst xs)) (q : Q (.tup xs) O) : tTuple [.own n] O Q := by
  unfold tTuple
  simp only [h]
  exact q
theorem w_tupleK (h : lv O n = some (.lst xs)) (q : Q (.tupk xs) O) : tTupleK [.own n] O Q := by
  unfold tTupleK
  simp only [h]
  exact q
theorem w_isLst (h : lv O n = some (.lst xs)) : isLst O (.own n) = true := by
  unfold isLst
  simp only [h]
theorem w_append (h : lv O n = some (.lst xs)) (hz : xs.length < sizeLine) (q : Q .non (lput O n (.lst (xs ++ [y])))) : mAppend (.own n) [y] O Q := by
  unfold mAppend
  simp only [h]
  exact ⟨hz, q⟩
theorem w_popAt (h : lv O n = some (.lst xs)) (hm : m < 2 ^ 63) (g : xs[m]? = some y) (q : Q y (lput O n (.lst (xs.eraseIdx m)))) : mPopAt (.own n) [.int (m : Int)] O Q := by
  unfold mPopAt
  simp only [h]
  refine ⟨⟨by omega, by omega⟩, ?_⟩
  show (match xs[m]? with | some y => Q y (lput O n (.lst (xs.eraseIdx m))) | none => False)
  rw [g]
  exact q
theorem w_addL {n m : Nat} (h : lv O m = some (.lst xs)) (g : lv O n = some (.lst ys)) (hz : xs.length + ys.length ≤ sizeLine) (q : Q (.own O.length) (.lst (xs ++ ys) :: O)) : opAdd (.own m) (.own n) O Q := by
  unfold opAdd
  simp only [h, g]
  exact ⟨hz, q⟩
theorem w_addT (hx : xs ≠ []) (hy : ys ≠ []) (hz : xs.length + ys.length ≤ sizeLine) (q : Q (.tup (xs ++ ys)) O) : opAdd (.tup xs) (.tup ys) O Q := ⟨hx, hy, hz, q⟩
theorem w_index {zs : List Str} {z : Str} (h : lv O n = some (.lst (zs.map A.str))) (g : firstIx z zs = some m) (q : Q (.int (m : Int)) O) : mIndex (.own n) [.str z] O Q := by
  unfold mIndex
  simp only [h, strsOf_map, g]
  exact q
theorem firstIx_nd {z : Str} : ∀ {zs : List Str} {m : Nat}, zs.Nodup → zs[m]? = some z → firstIx z zs = some m
  | [], m, _, h => by simp at h
  | x :: zs, 0, hn, h => by
    simp at h
    unfold firstIx
    rw [if_pos h]
  | x :: zs, m + 1, hn, h => by
    obtain ⟨h1, h2⟩ := List.nodup_cons.mp hn
    have h' : zs[m]? = some z := by simpa using h
    unfold firstIx
    have hne : ¬ x = z := fun e => h1 (by rw [e]; exact List.mem_of_getElem? h')
    rw [if_neg hne, firstIx_nd h2 h']
    rfl
theorem seq_own (h : lv O n = some (.lst xs)) : seqA O (.own n) = some xs := by
  unfold seqA
  simp only [h]
theorem w_sum {ns : List Int} (h : lv O n = some (.lst (ns.map A.int))) (q : Q (.int ns.sum) O) : bSum [.own n] O Q := by
  unfold bSum
  simp only [h, intsOf_map]
  exact q
theorem w_sumT {ns : List Int} (q : Q (.int ns.sum) O) : bSumT [.tup (ns.map A.int)] O Q := by
  unfold bSumT tupOf
  simp only [intsOf_map]
  exact q
theorem w_set {k : Nat} {v : A} (h : lv O n = some (.lst xs)) (hk : k < xs.length) : setA O (.own n) (.int (k : Int)) v = some (lput O n (.lst (xs.set k v))) := by
  unfold setA
  simp only [h]
  rw [ixN_nat hk]
  rfl
theorem w_ixL {k : Nat} (h : lv O n = some (.lst xs)) (g : xs[k]? = some x) (q : Q x O) : ixLA (.own n) (.int (k : Int)) O Q := by
  unfold ixLA
  simp only [h, atI_nat g]
  exact q
end
end PyA
namespace PyA
open PySem PySem.Spec L2
theorem valA_none {κ : Type} [DecidableEq κ] {kvs : List (κ × A)} {k : κ} (h : k ∉ kvs.map (·.1)) : valA kvs k = none := by
  unfold valA
  rw [List.find?_eq_none.mpr]
  · rfl
  · intro x hx e
    exact h (List.mem_map.mpr ⟨x, hx, of_decide_eq_true e⟩)
theorem putA_new {κ : Type} [DecidableEq κ] {kvs : List (κ × A)} {k : κ} {v : A} (h : k ∉ kvs.map (·.1)) : putA kvs k v = kvs ++ [(k, v)] := by
  unfold putA
  rw [if_neg]
  intro e
  rw [List.any_eq_true] at e
  obtain ⟨x, hx, e⟩ := e
  exact h (List.mem_map.mpr ⟨x, hx, of_decide_eq_true e⟩)
theorem valA_at {κ : Type} [DecidableEq κ] : ∀ {kvs : List (κ × A)} {i : Nat} {k : κ} {v : A}, (kvs.map (·.1)).Nodup → kvs[i]? = some (k, v) → valA kvs k = some v
  | [], i, k, v, _, h => by simp at h
  | p :: kvs, 0, k, v, hn, h => by
    simp at h
    subst h
    unfold valA
    rw [List.find?_cons_of_pos (by simp)]
    rfl
  | p :: kvs, i + 1, k, v, hn, h => by
    have h' : kvs[i]? = some (k, v) := by simpa using h
    rw [List.map_cons, List.nodup_cons] at hn
    have hne : ¬ p.1 = k := fun e => hn.1 (by rw [e]; exact List.mem_map.mpr ⟨_, List.mem_of_getElem? h', rfl⟩)
    have ih := valA_at hn.2 h'
    unfold valA at ih ⊢
    rw [List.find?_cons_of_neg (by simpa using hne)]
    exact ih
/-- a dict comprehension that reads only, with keys that differ -/
theorem compD_map {chk : Own → Prop} {g : AG} {tk te : AE} {δ : Slots} {items : List A} {Q : List (Key × A) → Own → Prop} {O : Own} (f : A → Key × A) (hc : chk O) (hz : items.length ≤ sizeLine) (hn : (items.map fun x => (f x).1).Nodup)
    (h : ∀ x ∈ items, ∃ z, keyOf z = some (f x).1 ∧ ∀ Q' : A → A → Own → Prop, Q' z (f x).2 O → g x δ O fun δ1 O1 => tk δ1 O1 fun z O3 => te δ1 O3 fun y O4 => Q' z y O4) (q : Q (items.map f) O) : compD chk g aYes tk te δ items [] O Q := by
  have key : ∀ (r pre : List A), pre ++ r = items → compD chk g aYes tk te δ r (pre.map f) O Q := by
    intro r
    induction r with
    | nil =>
      intro pre e
      rw [List.append_nil] at e
      subst e
      unfold compD
      exact ⟨hc, q⟩
    | cons x r ih =>
      intro pre e
      unfold compD
      have hx : x ∈ items := by rw [← e]; exact List.mem_append_right _ List.mem_cons_self
      obtain ⟨z, hz1, hz2⟩ := h x hx
      refine ⟨hc, hz2 (fun z y O4 => (pre.map f).length < sizeLine ∧ (match keyOf z with | some kk => compD chk g aYes tk te δ r (putA (pre.map f) kk y) O4 Q | none => False)) ⟨?_, ?_⟩⟩
      · have := congrArg List.length e
        rw [List.length_append, List.length_cons] at this
        rw [List.length_map]; omega
      · rw [hz1]
        show compD chk g aYes tk te δ r (putA (pre.map f) (f x).1 (f x).2) O Q
        rw [putA_new]
        · have := ih (pre ++ [x]) (by rw [List.append_assoc]; exact e)
          rw [List.map_append] at this
          exact this
        · rw [List.map_map]
          have h2 := hn
          rw [← e, List.map_append, List.map_cons, List.nodup_append] at h2
          intro z
          exact h2.2.2 _ z _ List.mem_cons_self rfl
  exact key items [] rfl
theorem w_dix {O : Own} {Q : AK} {n : Nat} {kvs : List (Key × A)} {z x : A} {k : Key} (h : lv O n = some (.dK kvs)) (hk : keyOf z = some k) (g : valA kvs k = some x) (q : Q x O) : dixA (.own n) z O Q := by
  have e : dgetA O (.own n) z = some (some x) := by
    unfold dgetA
    cases z with
    | _ => first
      | (cases hk; done)
      | (simp only [h, hk, Option.map_some, g])
  unfold dixA
  simp only [e]
  exact q
theorem zipA_map {α β : Type} {f : α → A} {g : β → A} : ∀ {xs : List α} {ys : List β}, zipA (xs.map f) (ys.map g) = (xs.zip ys).map fun p => .tup [f p.1, g p.2]
  | [], _ => by simp [zipA]
  | x :: xs, [] => by simp [zipA]
  | x :: xs, y :: ys => by
    rw [List.map_cons, List.map_cons]
    unfold zipA
    rw [zipA_map]
    rfl
theorem lput_self {α : Type} {x y : α} {r : List α} {n : Nat} (h : n = r.length) : lput (x :: r) n y = y :: r := by
  unfold lput
  rw [if_pos h]
theorem lput_old {α : Type} {x y : α} {r : List α} {n : Nat} (h : n < r.length) : lput (x :: r) n y = x :: lput r n y := by
  show (if n = r.length then y :: r else x :: lput r n y) = _
  rw [if_neg (by omega)]
theorem eraseIdx_perm {α : Type} : ∀ {l : List α} {r : Nat} {y : α}, l[r]? = some y → (y :: l.eraseIdx r).Perm l
  | [], _, _, h => by simp at h
  | x :: l, 0, y, h => by
    simp at h
    subst h
    exact List.Perm.refl _
  | x :: l, r + 1, y, h => by
    have ih := eraseIdx_perm (l := l) (r := r) (y := y) (by simpa using h)
    exact (List.Perm.swap x y _).trans (ih.cons x)
end PyA
namespace PyA
open PySem PySem.Spec L2
theorem isi_law {O : Own} {Q : AK} {a : A} {n c : String} {b : Bool} (h : tyName O a = some n) (g : isiA n c = some b) : bIsi [a, .raw (.ty c)] O Q = Q (.bl b) O := by
  show (match tyName O a with | some n => (match isiA n c with | some b => Q (.bl b) O | none => False) | none => False) = _
  rw [h]
  show (match isiA n c with | some b => Q (.bl b) O | none => False) = _
  rw [g]
section
variable {O : Own} {Q : AK} {b : Bool} {i : Int} {x : Str} {xs : List A}
theorem isN_non : opIsN .non .non O Q = Q (.bl true) O := rfl
theorem isN_b : opIsN (.bl b) .non O Q = Q (.bl false) O := rfl
theorem isN_i : opIsN (.int i) .non O Q = Q (.bl false) O := rfl
theorem isN_s : opIsN (.str x) .non O Q = Q (.bl false) O := rfl
theorem isN_t : opIsN (.tup xs) .non O Q = Q (.bl false) O := rfl
theorem isN_k : opIsN (.tupk xs) .non O Q = Q (.bl false) O := rfl
theorem eqB {c : Bool} : opEq (.bl b) (.bl c) O Q = Q (.bl (decide (b = c))) O := rfl
theorem eqSt {y : Str} : opEq (.str x) (.str y) O Q = Q (.bl (decide (x = y))) O := rfl
theorem isi_bb : bIsi [.bl b, .raw (.ty "bool")] O Q = Q (.bl true) O := isi_law rfl (by decide +kernel)
theorem isi_ib : bIsi [.int i, .raw (.ty "bool")] O Q = Q (.bl false) O := isi_law rfl (by decide +kernel)
theorem isi_sb : bIsi [.str x, .raw (.ty "bool")] O Q = Q (.bl false) O := isi_law rfl (by decide +kernel)
theorem isi_tb : bIsi [.tup xs, .raw (.ty "bool")] O Q = Q (.bl false) O := isi_law rfl (by decide +kernel)
theorem isi_kb : bIsi [.tupk xs, .raw (.ty "bool")] O Q = Q (.bl false) O := isi_law rfl (by decide +kernel)
theorem isi_ii : bIsi [.int i, .raw (.ty "int")] O Q = Q (.bl true) O := isi_law rfl (by decide +kernel)
theorem isi_si : bIsi [.str x, .raw (.ty "int")] O Q = Q (.bl false) O := isi_law rfl (by decide +kernel)
theorem isi_ti : bIsi [.tup xs, .raw (.ty "int")] O Q = Q (.bl false) O := isi_law rfl (by decide +kernel)
theorem isi_ki : bIsi [.tupk xs, .raw (.ty "int")] O Q = Q (.bl false) O := isi_law rfl (by decide +kernel)
theorem isi_ss : bIsi [.str x, .raw (.ty "str")] O Q = Q (.bl true) O := isi_law rfl (by decide +kernel)
theorem isi_ts : bIsi [.tup xs, .raw (.ty "str")] O Q = Q (.bl false) O := isi_law rfl (by decide +kernel)
theorem isi_ks : bIsi [.tupk xs, .raw (.ty "str")] O Q = Q (.bl false) O := isi_law rfl (by decide +kernel)
theorem isi_tt : bIsi [.tup xs, .raw (.ty "tuple")] O Q = Q (.bl true) O := isi_law rfl (by decide +kernel)
theorem isi_kt : bIsi [.tupk xs, .raw (.ty "tuple")] O Q = Q (.bl true) O := isi_law rfl (by decide +kernel)
theorem isi_it : bIsi [.int i, .raw (.ty "tuple")] O Q = Q (.bl false) O := isi_law rfl (by decide +kernel)
theorem isi_st : bIsi [.str x, .raw (.ty "tuple")] O Q = Q (.bl false) O := isi_law rfl (by decide +kernel)
end
end PyA
namespace PyA
/-! statement by statement -/
theorem seq_no {c : AT} {t rest : AS} {D : AEnds} {δ : Slots} {O : Own} (h : ∀ Q : ABK, Q false O → c δ O Q) (k : rest D δ O) : sSeq (sIf c t sNext) rest D δ O := h _ k
theorem seq_yes {c : AT} {t rest : AS} {D : AEnds} {δ : Slots} {O : Own} (h : ∀ Q : ABK, Q true O → c δ O Q) (k : t { D with nx := rest D } δ O) : sSeq (sIf c t sNext) rest D δ O := h _ k
theorem if_no {c : AT} {t u : AS} {D : AEnds} {δ : Slots} {O : Own} (h : ∀ Q : ABK, Q false O → c δ O Q) (k : u D δ O) : sIf c t u D δ O := h _ k
theorem if_yes {c : AT} {t u : AS} {D : AEnds} {δ : Slots} {O : Own} (h : ∀ Q : ABK, Q true O → c δ O Q) (k : t D δ O) : sIf c t u D δ O := h _ k
theorem seq_set {te : AE} {i : Nat} {rest : AS} {D : AEnds} {δ : Slots} {O O1 : Own} {a : A} (h : ∀ Q : AK, Q a O1 → te δ O Q) (k : rest D (δ.set i (some a)) O1) : sSeq (sAsg te (agN i)) rest D δ O := h _ k
end PyA
namespace PyA
theorem seq_expr {te : AE} {rest : AS} {D : AEnds} {δ : Slots} {O O1 : Own} {a : A} (h : ∀ Q : AK, Q a O1 → te δ O Q) (k : rest D δ O1) : sSeq (sExpr te) rest D δ O := h _ k
theorem seq_exprX {te : AE} {rest : AS} {D : AEnds} {δ : Slots} {O : Own} (h : ∀ Q : AK, te δ O Q) : sSeq (sExpr te) rest D δ O := h _
theorem seq_asgX {te : AE} {g : AG} {rest : AS} {D : AEnds} {δ : Slots} {O : Own} (h : ∀ Q : AK, te δ O Q) : sSeq (sAsg te g) rest D δ O := h _
theorem seq_for {ti : AI} {g : AG} {body rest : AS} {D : AEnds} {δ : Slots} {O O1 : Own} {items : List A} {chk : Own → Prop} (h : ∀ Q : IK, Q items chk O1 → ti δ O Q) (k : forA chk g body { D with nx := rest D } items δ O1) : sSeq (sFor ti g body) rest D δ O := h _ k
theorem for_items {ti : AI} {g : AG} {body : AS} {D : AEnds} {δ : Slots} {O O1 : Own} {items : List A} {chk : Own → Prop} (h : ∀ Q : IK, Q items chk O1 → ti δ O Q) (k : forA chk g body D items δ O1) : sFor ti g body D δ O := h _ k
/-- any of some values -/
theorem seq_setP {te : AE} {i : Nat} {rest : AS} {D : AEnds} {δ : Slots} {O : Own} (P : A → Own → Prop) (h : ∀ Q : AK, (∀ a O1, P a O1 → Q a O1) → te δ O Q) (k : ∀ a O1, P a O1 → rest D (δ.set i (some a)) O1) : sSeq (sAsg te (agN i)) rest D δ O := h _ k
end PyA
namespace PyA
theorem seq_P {s rest : AS} {D : AEnds} {δ : Slots} {O : Own} (P : Own → Prop) (h : ∀ Nx : Slots → Own → Prop, (∀ O1, P O1 → Nx δ O1) → s { D with nx := Nx } δ O) (k : ∀ O1, P O1 → rest D δ O1) : sSeq s rest D δ O := h _ k
end PyA

set_option Elab.async false
set_option linter.all false
set_option maxRecDepth 100000
set_option maxHeartbeats 4000000
/-! The text of the law, its names by places, what its top leaves. -/
namespace K82
open PySem PySem.Spec L2 PyA
def topS (i : Nat) : Stmt := PySem.Challenge.pw_sendround_k82_lands_divided.main.body.getD i (.Pass ⟨0, 0, 0, 0⟩)
abbrev s_divisor : Stmt := topS 4
abbrev N_divisor : List Str := ["one", "other"]
theorem sc_divisor : FnScope N_divisor ["one", "other"] (defScope s_divisor) := ⟨rfl, rfl, rfl, by decide +kernel, rfl, by decide +kernel, by decide +kernel⟩
abbrev s_least_multiple : Stmt := topS 5
abbrev N_least_multiple : List Str := ["one", "other"]
theorem sc_least_multiple : FnScope N_least_multiple ["one", "other"] (defScope s_least_multiple) := ⟨rfl, rfl, rfl, by decide +kernel, rfl, by decide +kernel, by decide +kernel⟩
abbrev s_check_made : Stmt := topS 9
abbrev N_check_made : List Str := ["villages", "roads"]
theorem sc_check_made : FnScope N_check_made ["villages", "roads"] (defScope s_check_made) := ⟨rfl, rfl, rfl, by decide +kernel, rfl, by decide +kernel, by decide +kernel⟩
abbrev s_divided : Stmt := topS 11
abbrev N_divided : List Str := ["land", "lengths", "k", "pieces", "length", "villages", "roads", "name", "one", "other", "many", "last", "step", "later"]
theorem sc_divided : FnScope N_divided ["land", "lengths", "k"] (defScope s_divided) := ⟨rfl, rfl, rfl, by decide +kernel, rfl, by decide +kernel, by decide +kernel⟩
abbrev s_lengths_by : Stmt := topS 12
abbrev N_lengths_by : List Str := ["land", "lengths", "road", "length"]
theorem sc_lengths_by : FnScope N_lengths_by ["land", "lengths"] (defScope s_lengths_by) := ⟨rfl, rfl, rfl, by decide +kernel, rfl, by decide +kernel, by decide +kernel⟩
abbrev s_fit : Stmt := topS 13
abbrev N_fit : List Str := ["land", "lengths", "states", "told", "found", "state", "spot", "number"]
theorem sc_fit : FnScope N_fit ["land", "lengths", "states"] (defScope s_fit) := ⟨rfl, rfl, rfl, by decide +kernel, rfl, by decide +kernel, by decide +kernel⟩
abbrev s_starts_of : Stmt := topS 14
abbrev N_starts_of : List Str := ["land", "lengths", "k", "starts", "number", "length"]
theorem sc_starts_of : FnScope N_starts_of ["land", "lengths", "k"] (defScope s_starts_of) := ⟨rfl, rfl, rfl, by decide +kernel, rfl, by decide +kernel, by decide +kernel⟩
abbrev s_laid : Stmt := topS 15
abbrev N_laid : List Str := ["land", "lengths", "k", "state", "pieces", "length", "starts", "names", "road", "found", "spot", "number"]
theorem sc_laid : FnScope N_laid ["land", "lengths", "k", "state"] (defScope s_laid) := ⟨rfl, rfl, rfl, by decide +kernel, rfl, by decide +kernel, by decide +kernel⟩
abbrev s_law_bag : Stmt := topS 17
abbrev N_law_bag : List Str := ["script", "cells", "cell", "great"]
theorem sc_law_bag : FnScope N_law_bag ["script"] (defScope s_law_bag) := ⟨rfl, rfl, rfl, by decide +kernel, rfl, by decide +kernel, by decide +kernel⟩
abbrev s_law_draw : Stmt := topS 18
abbrev N_law_draw : List Str := ["bag", "many", "digit", "cell", "mixed"]
theorem sc_law_draw : FnScope N_law_draw ["bag", "many"] (defScope s_law_draw) := ⟨rfl, rfl, rfl, by decide +kernel, rfl, by decide +kernel, by decide +kernel⟩
abbrev s_law_pick : Stmt := topS 19
abbrev N_law_pick : List Str := ["bag", "some"]
theorem sc_law_pick : FnScope N_law_pick ["bag", "some"] (defScope s_law_pick) := ⟨rfl, rfl, rfl, by decide +kernel, rfl, by decide +kernel, by decide +kernel⟩
abbrev s_law_some : Stmt := topS 20
abbrev N_law_some : List Str := ["bag", "things", "many", "left", "made", "k"]
theorem sc_law_some : FnScope N_law_some ["bag", "things", "many"] (defScope s_law_some) := ⟨rfl, rfl, rfl, by decide +kernel, rfl, by decide +kernel, by decide +kernel⟩
abbrev s_law_same : Stmt := topS 21
abbrev N_law_same : List Str := ["found", "due", "k"]
theorem sc_law_same : FnScope N_law_same ["found", "due"] (defScope s_law_same) := ⟨rfl, rfl, rfl, by decide +kernel, rfl, by decide +kernel, by decide +kernel⟩
abbrev s_law_safe_land : Stmt := topS 22
abbrev N_law_safe_land : List Str := ["bag", "most", "more", "many", "villages", "pairs", "k", "names", "roads", "pair"]
theorem sc_law_safe_land : FnScope N_law_safe_land ["bag", "most", "more"] (defScope s_law_safe_land) := ⟨rfl, rfl, rfl, by decide +kernel, rfl, by decide +kernel, by decide +kernel⟩
abbrev s_law_divisor : Stmt := topS 23
abbrev N_law_divisor : List Str := ["one", "other", "turn"]
theorem sc_law_divisor : FnScope N_law_divisor ["one", "other"] (defScope s_law_divisor) := ⟨rfl, rfl, rfl, by decide +kernel, rfl, by decide +kernel, by decide +kernel⟩
abbrev s_law_spots : Stmt := topS 24
abbrev N_law_spots : List Str := ["land", "lengths", "k", "found", "village", "i", "whole", "j", "divisor_v"]
theorem sc_law_spots : FnScope N_law_spots ["land", "lengths", "k"] (defScope s_law_spots) := ⟨rfl, rfl, rfl, by decide +kernel, rfl, by decide +kernel, by decide +kernel⟩
abbrev s_law_divided : Stmt := topS 25
abbrev N_law_divided : List Str := ["land", "lengths", "k", "villages", "roads", "number", "i", "name", "one", "other", "along", "j"]
theorem sc_law_divided : FnScope N_law_divided ["land", "lengths", "k"] (defScope s_law_divided) := ⟨rfl, rfl, rfl, by decide +kernel, rfl, by decide +kernel, by decide +kernel⟩
abbrev s_law_fit : Stmt := topS 26
abbrev N_law_fit : List Str := ["land", "lengths", "states", "names", "k", "road", "state", "spot", "number", "need"]
theorem sc_law_fit : FnScope N_law_fit ["land", "lengths", "states"] (defScope s_law_fit) := ⟨rfl, rfl, rfl, by decide +kernel, rfl, by decide +kernel, by decide +kernel⟩
abbrev s_law_laid : Stmt := topS 27
abbrev N_law_laid : List Str := ["land", "lengths", "k", "state", "spots", "known", "spot"]
theorem sc_law_laid : FnScope N_law_laid ["land", "lengths", "k", "state"] (defScope s_law_laid) := ⟨rfl, rfl, rfl, by decide +kernel, rfl, by decide +kernel, by decide +kernel⟩
abbrev s_law_lengths : Stmt := topS 28
abbrev N_law_lengths : List Str := ["bag", "land", "most", "road"]
theorem sc_law_lengths : FnScope N_law_lengths ["bag", "land", "most"] (defScope s_law_lengths) := ⟨rfl, rfl, rfl, by decide +kernel, rfl, by decide +kernel, by decide +kernel⟩
abbrev s_law_drawn_state : Stmt := topS 29
abbrev N_law_drawn_state : List Str := ["bag", "land", "lengths", "found", "turn", "spot", "b", "a", "divisor_v"]
theorem sc_law_drawn_state : FnScope N_law_drawn_state ["bag", "land", "lengths"] (defScope s_law_drawn_state) := ⟨rfl, rfl, rfl, by decide +kernel, rfl, by decide +kernel, by decide +kernel⟩
abbrev s_law_told : Stmt := topS 30
abbrev N_law_told : List Str := ["which", "land", "lengths", "k", "state"]
theorem sc_law_told : FnScope N_law_told ["which", "land", "lengths", "k", "state"] (defScope s_law_told) := ⟨rfl, rfl, rfl, by decide +kernel, rfl, by decide +kernel, by decide +kernel⟩
abbrev s_law_is_far : Stmt := topS 31
abbrev N_law_is_far : List Str := ["land", "lengths", "k", "whole"]
theorem sc_law_is_far : FnScope N_law_is_far ["land", "lengths", "k"] (defScope s_law_is_far) := ⟨rfl, rfl, rfl, by decide +kernel, rfl, by decide +kernel, by decide +kernel⟩
abbrev s_law : Stmt := topS 32
abbrev N_law : List Str := ["script", "bag", "turn", "land", "lengths", "states", "k", "due", "answer", "state"]
theorem sc_law : FnScope N_law ["script"] (defScope s_law) := ⟨rfl, rfl, rfl, by decide +kernel, rfl, by decide +kernel, by decide +kernel⟩
theorem bt_abs : bootBuiltins "abs" = some (.builtin "abs") := by decide +kernel
theorem bt_bool : bootBuiltins "bool" = some (.type "bool") := by decide +kernel
theorem bt_dict : bootBuiltins "dict" = some (.type "dict") := by decide +kernel
theorem bt_int : bootBuiltins "int" = some (.type "int") := by decide +kernel
theorem bt_isinstance : bootBuiltins "isinstance" = some (.builtin "isinstance") := by decide +kernel
theorem bt_len : bootBuiltins "len" = some (.builtin "len") := by decide +kernel
theorem bt_list : bootBuiltins "list" = some (.type "list") := by decide +kernel
theorem bt_sorted : bootBuiltins "sorted" = some (.builtin "sorted") := by decide +kernel
theorem bt_str : bootBuiltins "str" = some (.type "str") := by decide +kernel
theorem bt_sum : bootBuiltins "sum" = some (.builtin "sum") := by decide +kernel
theorem bt_tuple : bootBuiltins "tuple" = some (.type "tuple") := by decide +kernel
/-- an exception class of one's own over ValueError -/
structure ExcF (K : PySem.W.Frag) (mg : Str → Option Value) (x : Str) (C : Addr) : Prop where
  xe : PySem.W.excIn K C [.type "ValueError", .type "Exception", .type "BaseException", .type "object"] "ValueError.__new__" = true
  g : mg x = some (.ref C)
  kp : PySem.W.keepIn K (.ref C) = true
  b : PySem.W.subIn K (.ref C) (.type "BaseException") = some true
  t : PySem.W.typeIn K (.ref C) = some (.type "type")
  ex : PySem.W.exmOne K (.ref C) (.ref C) = some true
structure Tops (K : PySem.W.Frag) (mg : Str → Option Value) where
  f_divisor : Addr
  fd_divisor : FuncData
  F_divisor : Fun K "divisor" "divisor" s_divisor f_divisor fd_divisor
  b_divisor : Binds K fd_divisor ["one", "other"] []
  g_divisor : mg "divisor" = some (.ref f_divisor)
  f_least_multiple : Addr
  fd_least_multiple : FuncData
  F_least_multiple : Fun K "least_multiple" "least_multiple" s_least_multiple f_least_multiple fd_least_multiple
  b_least_multiple : Binds K fd_least_multiple ["one", "other"] []
  g_least_multiple : mg "least_multiple" = some (.ref f_least_multiple)
  f_check_made : Addr
  fd_check_made : FuncData
  F_check_made : Fun K "check_made" "check_made" s_check_made f_check_made fd_check_made
  b_check_made : Binds K fd_check_made ["villages", "roads"] []
  g_check_made : mg "check_made" = some (.ref f_check_made)
  f_divided : Addr
  fd_divided : FuncData
  F_divided : Fun K "divided" "divided" s_divided f_divided fd_divided
  b_divided : Binds K fd_divided ["land", "lengths", "k"] []
  g_divided : mg "divided" = some (.ref f_divided)
  f_lengths_by : Addr
  fd_lengths_by : FuncData
  F_lengths_by : Fun K "lengths_by" "lengths_by" s_lengths_by f_lengths_by fd_lengths_by
  b_lengths_by : Binds K fd_lengths_by ["land", "lengths"] []
  g_lengths_by : mg "lengths_by" = some (.ref f_lengths_by)
  f_fit : Addr
  fd_fit : FuncData
  F_fit : Fun K "fit" "fit" s_fit f_fit fd_fit
  b_fit : Binds K fd_fit ["land", "lengths", "states"] []
  g_fit : mg "fit" = some (.ref f_fit)
  f_starts_of : Addr
  fd_starts_of : FuncData
  F_starts_of : Fun K "starts_of" "starts_of" s_starts_of f_starts_of fd_starts_of
  b_starts_of : Binds K fd_starts_of ["land", "lengths", "k"] []
  g_starts_of : mg "starts_of" = some (.ref f_starts_of)
  f_laid : Addr
  fd_laid : FuncData
  F_laid : Fun K "laid" "laid" s_laid f_laid fd_laid
  b_laid : Binds K fd_laid ["land", "lengths", "k", "state"] []
  g_laid : mg "laid" = some (.ref f_laid)
  f_law_bag : Addr
  fd_law_bag : FuncData
  F_law_bag : Fun K "_law_bag" "_law_bag" s_law_bag f_law_bag fd_law_bag
  b_law_bag : Binds K fd_law_bag ["script"] []
  g_law_bag : mg "_law_bag" = some (.ref f_law_bag)
  f_law_draw : Addr
  fd_law_draw : FuncData
  F_law_draw : Fun K "_law_draw" "_law_draw" s_law_draw f_law_draw fd_law_draw
  b_law_draw : Binds K fd_law_draw ["bag", "many"] []
  g_law_draw : mg "_law_draw" = some (.ref f_law_draw)
  f_law_pick : Addr
  fd_law_pick : FuncData
  F_law_pick : Fun K "_law_pick" "_law_pick" s_law_pick f_law_pick fd_law_pick
  b_law_pick : Binds K fd_law_pick ["bag", "some"] []
  g_law_pick : mg "_law_pick" = some (.ref f_law_pick)
  f_law_some : Addr
  fd_law_some : FuncData
  F_law_some : Fun K "_law_some" "_law_some" s_law_some f_law_some fd_law_some
  b_law_some : Binds K fd_law_some ["bag", "things", "many"] []
  g_law_some : mg "_law_some" = some (.ref f_law_some)
  f_law_same : Addr
  fd_law_same : FuncData
  F_law_same : Fun K "_law_same" "_law_same" s_law_same f_law_same fd_law_same
  b_law_same : Binds K fd_law_same ["found", "due"] []
  g_law_same : mg "_law_same" = some (.ref f_law_same)
  f_law_safe_land : Addr
  fd_law_safe_land : FuncData
  F_law_safe_land : Fun K "_law_safe_land" "_law_safe_land" s_law_safe_land f_law_safe_land fd_law_safe_land
  b_law_safe_land : Binds K fd_law_safe_land ["bag", "most", "more"] []
  g_law_safe_land : mg "_law_safe_land" = some (.ref f_law_safe_land)
  f_law_divisor : Addr
  fd_law_divisor : FuncData
  F_law_divisor : Fun K "_law_divisor" "_law_divisor" s_law_divisor f_law_divisor fd_law_divisor
  b_law_divisor : Binds K fd_law_divisor ["one", "other"] []
  g_law_divisor : mg "_law_divisor" = some (.ref f_law_divisor)
  f_law_spots : Addr
  fd_law_spots : FuncData
  F_law_spots : Fun K "_law_spots" "_law_spots" s_law_spots f_law_spots fd_law_spots
  b_law_spots : Binds K fd_law_spots ["land", "lengths", "k"] []
  g_law_spots : mg "_law_spots" = some (.ref f_law_spots)
  f_law_divided : Addr
  fd_law_divided : FuncData
  F_law_divided : Fun K "_law_divided" "_law_divided" s_law_divided f_law_divided fd_law_divided
  b_law_divided : Binds K fd_law_divided ["land", "lengths", "k"] []
  g_law_divided : mg "_law_divided" = some (.ref f_law_divided)
  f_law_fit : Addr
  fd_law_fit : FuncData
  F_law_fit : Fun K "_law_fit" "_law_fit" s_law_fit f_law_fit fd_law_fit
  b_law_fit : Binds K fd_law_fit ["land", "lengths", "states"] []
  g_law_fit : mg "_law_fit" = some (.ref f_law_fit)
  f_law_laid : Addr
  fd_law_laid : FuncData
  F_law_laid : Fun K "_law_laid" "_law_laid" s_law_laid f_law_laid fd_law_laid
  b_law_laid : Binds K fd_law_laid ["land", "lengths", "k", "state"] []
  g_law_laid : mg "_law_laid" = some (.ref f_law_laid)
  f_law_lengths : Addr
  fd_law_lengths : FuncData
  F_law_lengths : Fun K "_law_lengths" "_law_lengths" s_law_lengths f_law_lengths fd_law_lengths
  b_law_lengths : Binds K fd_law_lengths ["bag", "land", "most"] []
  g_law_lengths : mg "_law_lengths" = some (.ref f_law_lengths)
  f_law_drawn_state : Addr
  fd_law_drawn_state : FuncData
  F_law_drawn_state : Fun K "_law_drawn_state" "_law_drawn_state" s_law_drawn_state f_law_drawn_state fd_law_drawn_state
  b_law_drawn_state : Binds K fd_law_drawn_state ["bag", "land", "lengths"] []
  g_law_drawn_state : mg "_law_drawn_state" = some (.ref f_law_drawn_state)
  f_law_told : Addr
  fd_law_told : FuncData
  F_law_told : Fun K "_law_told" "_law_told" s_law_told f_law_told fd_law_told
  b_law_told : Binds K fd_law_told ["which", "land", "lengths", "k", "state"] []
  g_law_told : mg "_law_told" = some (.ref f_law_told)
  f_law_is_far : Addr
  fd_law_is_far : FuncData
  F_law_is_far : Fun K "_law_is_far" "_law_is_far" s_law_is_far f_law_is_far fd_law_is_far
  b_law_is_far : Binds K fd_law_is_far ["land", "lengths", "k"] []
  g_law_is_far : mg "_law_is_far" = some (.ref f_law_is_far)
  f_law : Addr
  fd_law : FuncData
  F_law : Fun K "law" "law" s_law f_law fd_law
  b_law : Binds K fd_law ["script"] []
  g_law : mg "law" = some (.ref f_law)
  m_abs : mg "abs" = none
  m_bool : mg "bool" = none
  m_dict : mg "dict" = none
  m_int : mg "int" = none
  m_isinstance : mg "isinstance" = none
  m_len : mg "len" = none
  m_list : mg "list" = none
  m_range : mg "range" = none
  m_sorted : mg "sorted" = none
  m_str : mg "str" = none
  m_sum : mg "sum" = none
  m_tuple : mg "tuple" = none
  m_zip : mg "zip" = none
  t_MOST_MADE_VILLAGES : Tok
  c_MOST_MADE_VILLAGES : mg "MOST_MADE_VILLAGES" = some (.int 64 t_MOST_MADE_VILLAGES)
  t_MOST_MADE_ROADS : Tok
  c_MOST_MADE_ROADS : mg "MOST_MADE_ROADS" = some (.int 240 t_MOST_MADE_ROADS)
  C_TooFar : Addr
  e_TooFar : ExcF K mg "TooFar" C_TooFar
  kb_divided_land_lengths_k : KBp K fd_divided ["land", "lengths", "k"] ["land", "lengths", "k"] [0, 1, 2]
  kb_laid_land_lengths_k_state : KBp K fd_laid ["land", "lengths", "k", "state"] ["land", "lengths", "k", "state"] [0, 1, 2, 3]
  kb_fit_land_lengths_states : KBp K fd_fit ["land", "lengths", "states"] ["land", "lengths", "states"] [0, 1, 2]
end K82

set_option Elab.async false
set_option linter.all false
set_option maxRecDepth 100000
set_option maxHeartbeats 4000000
/-! What the defs compute: the data, their specifications. -/
namespace K82
open PySem PySem.Spec L2 PyA
abbrev Road := Str × Str × Str
def rdA (r : Road) : A := .tup [.str r.1, .str r.2.1, .str r.2.2]
structure Land where
  vs : List Str
  rs : List Road
def landA (L : Land) : A := .tup [.tupk (L.vs.map A.str), .tup (L.rs.map rdA)]
structure Land.Ok (L : Land) : Prop where
  v1 : 1 ≤ L.vs.length
  v4 : L.vs.length ≤ 4
  vd : L.vs.Nodup
  r1 : 1 ≤ L.rs.length
  r5 : L.rs.length ≤ 5
  rd : (L.rs.map (·.1)).Nodup
/-- whole numbers from 0 on -/
def nI (ns : List Nat) : List A := ns.map fun (n : Nat) => A.int (n : Int)
def lensA (ℓ : List Nat) : A := .tup (nI ℓ)
structure LensOk (L : Land) (ℓ : List Nat) : Prop where
  len : ℓ.length = L.rs.length
  one : ∀ n ∈ ℓ, 1 ≤ n
  nin : ∀ n ∈ ℓ, n ≤ 9
abbrev St := List (List Key × Int)
def stateA (st : St) : A := .tupk (st.map pairA)
/-- the place of the road of that name -/
def ixR (L : Land) (n : Str) : Nat := (firstIx n (L.rs.map (·.1))).getD 0
def lenR (L : Land) (ℓ : List Nat) (n : Str) : Nat := ℓ.getD (ixR L n) 1
structure Village (L : Land) (sp : List Key) (v : Str) : Prop where
  mem : v ∈ L.vs
  eq : sp = [.inr v]
structure Between (L : Land) (sp : List Key) (n : Str) (a b : Nat) : Prop where
  mem : n ∈ L.rs.map (·.1)
  a1 : 1 ≤ a
  ab : a < b
  b99 : b ≤ 99
  cop : Nat.gcd a b = 1
  eq : sp = [.inr n, .inl (a : Int), .inl (b : Int)]
def SpotOk (L : Land) (sp : List Key) : Prop := (∃ v, Village L sp v) ∨ ∃ n a b, Between L sp n a b
structure StOk (L : Land) (st : St) : Prop where
  spot : ∀ e ∈ st, SpotOk L e.1
  nd : (st.map (·.1)).Nodup
  four : st.length ≤ 4
/-- what k must be a multiple of for a spot -/
def need (L : Land) (ℓ : List Nat) : List Key → Nat
  | [.inr n, .inl _, .inl b] => b.toNat / Nat.gcd b.toNat (lenR L ℓ n)
  | _ => 1
def fitSt (L : Land) (ℓ : List Nat) (st : St) (k : Nat) : Nat := st.foldl (fun k e => Nat.lcm k (need L ℓ e.1)) k
def fitN (L : Land) (ℓ : List Nat) (sts : List St) : Nat := sts.foldl (fun k st => fitSt L ℓ st k) 1
def total (ℓ : List Nat) (k : Nat) : Nat := (ℓ.map (· * k)).sum
def far (L : Land) (ℓ : List Nat) (k : Nat) : Prop := 240 < total ℓ k ∨ 64 < L.vs.length + total ℓ k - ℓ.length
instance (L : Land) (ℓ : List Nat) (k : Nat) : Decidable (far L ℓ k) := by unfold far; infer_instance
def startsN (v : Nat) (k : Nat) : List Nat → List Nat
  | [] => [v]
  | l :: ls => v :: startsN (v + (l * k - 1)) k ls
/-- the spots of a road of w pieces -/
def roadSpots (n : Str) (w : Nat) : List (List Key) := (List.range (w - 1)).map fun i => [.inr n, .inl (((i + 1) / Nat.gcd (i + 1) w : Nat) : Int), .inl ((w / Nat.gcd (i + 1) w : Nat) : Int)]
def spotsR (k : Nat) : List Road → List Nat → List (List Key)
  | r :: rs, l :: ls => roadSpots r.1 (l * k) ++ spotsR k rs ls
  | _, _ => []
def spotsN (L : Land) (ℓ : List Nat) (k : Nat) : List (List Key) := L.vs.map (fun v => [.inr v]) ++ spotsR k L.rs ℓ
def spotA (sp : List Key) : A := .tup (sp.map kA)
def laidA (L : Land) (ℓ : List Nat) (k : Nat) (st : St) : A := .tup ((spotsN L ℓ k).map fun sp => (valA (intKvs st) sp).getD (.int 0))
/-- the divided land -/
def vN (i : Nat) : Str := ("v" : Str) ++ (toString (i : Int) : Str)
def rN (i : Nat) : Str := ("r" : Str) ++ (toString (i : Int) : Str)
/-- the stations of a road of w pieces whose inner ones are numbered from num on -/
def along (one other : Str) (num w : Nat) : List Str := one :: ((List.range (w - 1)).map fun j => vN (num + j)) ++ [other]
def pieces (one other : Str) (num cnt w : Nat) : List Road := (List.range w).map fun j => (rN (cnt + j), (along one other num w).getD j one, (along one other num w).getD (j + 1) one)
def divR (k : Nat) : List Road → List Nat → Nat → Nat → List Road
  | r :: rs, l :: ls, num, cnt => pieces r.2.1 r.2.2 num cnt (l * k) ++ divR k rs ls (num + (l * k - 1)) (cnt + l * k)
  | _, _, _, _ => []
def inner (ℓ : List Nat) (k : Nat) : Nat := (ℓ.map fun l => l * k - 1).sum
def dividedA (L : Land) (ℓ : List Nat) (k : Nat) : A :=
  .tup [.tup ((L.vs ++ (List.range (inner ℓ k)).map vN).map A.str), .tup ((divR k L.rs ℓ 0 0).map rdA)]
def toldA (a : A) : A := .tup [.str ("told" : Str), a]
def farA : A := .tup [.str ("far" : Str), .non]
/-- data, so deep -/
inductive Data : Nat → A → Prop
  | non (d : Nat) : Data d .non
  | bl (d : Nat) (b : Bool) : Data d (.bl b)
  | int (d : Nat) (i : Int) : Data d (.int i)
  | str (d : Nat) (x : Str) : Data d (.str x)
  | tup (d : Nat) (xs : List A) : xs.length < 2 ^ 62 → (∀ x ∈ xs, Data d x) → Data (d + 1) (.tup xs)
/-! specifications -/
def sp_divisor : ASp := fun as O Q _ => ∃ a b : Nat, as = [.int a, .int b] ∧ Q (.int (Nat.gcd a b : Nat)) O
def sp_least_multiple : ASp := fun as O Q _ => ∃ a b : Nat, as = [.int a, .int b] ∧ 0 < a ∧ 0 < b ∧ b < 2 ^ 30 ∧ Q (.int (Nat.lcm a b : Nat)) O
def sp_check_made (C : Addr) : ASp := fun as O Q QE => ∃ v r : Nat, as = [.int v, .int r] ∧ ((64 < v ∨ 240 < r) → QE (.ref C) O) ∧ (¬ (64 < v ∨ 240 < r) → Q .non O)
structure Ask (L : Land) (ℓ : List Nat) (k : Nat) : Prop where
  ok : L.Ok
  lok : LensOk L ℓ
  k1 : 1 ≤ k
  k99 : k ≤ 99
def sp_divided (C : Addr) : ASp := fun as O Q QE => ∃ L ℓ k, as = [landA L, lensA ℓ, .int (k : Nat)] ∧ Ask L ℓ k ∧ (far L ℓ k → QE (.ref C) O) ∧ (¬ far L ℓ k → Q (dividedA L ℓ k) O)
def sp_lengths_by : ASp := fun as O Q _ => ∃ L ℓ, as = [landA L, lensA ℓ] ∧ L.Ok ∧ LensOk L ℓ ∧ Q (.own O.length) (.dK ((L.rs.zip ℓ).map fun p => ((.inr p.1.1 : Key), A.int (p.2 : Nat))) :: O)
structure Fits (L : Land) (ℓ : List Nat) (sts : List St) : Prop where
  ok : L.Ok
  lok : LensOk L ℓ
  sts : ∀ st ∈ sts, StOk L st
def sp_fit : ASp := fun as O Q _ => ∃ L ℓ sts, as = [landA L, lensA ℓ, .tup (sts.map stateA)] ∧ Fits L ℓ sts ∧ Q (.int (fitN L ℓ sts : Nat)) O
def sp_starts_of : ASp := fun as O Q _ => ∃ L ℓ k, as = [landA L, lensA ℓ, .int (k : Nat)] ∧ Ask L ℓ k ∧ Q (.own O.length) (.lst (nI (startsN L.vs.length k ℓ)) :: O)
structure AskSt (L : Land) (ℓ : List Nat) (k : Nat) (st : St) : Prop where
  ask : Ask L ℓ k
  sok : StOk L st
  fit : ∀ e ∈ st, need L ℓ e.1 ∣ k
def sp_laid (C : Addr) : ASp := fun as O Q QE => ∃ L ℓ k st, as = [landA L, lensA ℓ, .int (k : Nat), stateA st] ∧ AskSt L ℓ k st ∧ (far L ℓ k → QE (.ref C) O) ∧ (¬ far L ℓ k → Q (laidA L ℓ k st) O)
def sp_law_draw (bg : Addr) : ASp := fun as O Q _ => ∃ m : Nat, as = [.raw (.ref bg), .int m] ∧ 0 < m ∧ m < 2 ^ 30 ∧ ∀ r : Nat, r < m → Q (.int r) O
def sp_law_pick (bg : Addr) : ASp := fun as O Q _ => ∃ (s : A) (xs : List A), as = [.raw (.ref bg), s] ∧ seqA O s = some xs ∧ 0 < xs.length ∧ xs.length < 2 ^ 30 ∧ ∀ x ∈ xs, Q x O
def sp_law_some (bg : Addr) : ASp := fun as O Q _ => ∃ (s : A) (xs : List A) (m : Nat), as = [.raw (.ref bg), s, .int m] ∧ seqA O s = some xs ∧ m ≤ xs.length ∧ xs.length < 2 ^ 20 ∧ ltAs O.length xs = true ∧
  ∀ made, made.length = m → (∃ rest, (made ++ rest).Perm xs) → Q (.own O.length) (.lst made :: O)
def sp_same (d : Nat) : ASp := fun as O Q _ => ∃ a, as = [a, a] ∧ Data d a ∧ Q (.bl true) O
abbrev sp_law_same : ASp := sp_same 9
def sp_law_safe_land (bg : Addr) : ASp := fun as O Q _ => as = [.raw (.ref bg), .int 4, .int 2] ∧ ∀ L : Land, L.Ok → Q (landA L) O
def sp_law_divisor : ASp := fun as O Q _ => ∃ a b : Nat, as = [.int a, .int b] ∧ b < 2000 ∧ Q (.int (Nat.gcd a b : Nat)) O
def sp_law_spots : ASp := fun as O Q _ => ∃ L ℓ k, as = [landA L, lensA ℓ, .int (k : Nat)] ∧ Ask L ℓ k ∧ Q (.own O.length) (.lst ((spotsN L ℓ k).map spotA) :: O)
def sp_law_divided : ASp := fun as O Q _ => ∃ L ℓ k, as = [landA L, lensA ℓ, .int (k : Nat)] ∧ Ask L ℓ k ∧ ¬ far L ℓ k ∧ Q (dividedA L ℓ k) O
def sp_law_fit : ASp := sp_fit
def sp_law_laid : ASp := fun as O Q _ => ∃ L ℓ k st, as = [landA L, lensA ℓ, .int (k : Nat), stateA st] ∧ AskSt L ℓ k st ∧ ¬ far L ℓ k ∧ Q (laidA L ℓ k st) O
def sp_law_lengths (bg : Addr) : ASp := fun as O Q _ => ∃ (L : Land) (m : Nat), as = [.raw (.ref bg), landA L, .int m] ∧ L.Ok ∧ 1 ≤ m ∧ m ≤ 9 ∧ ∀ ℓ, LensOk L ℓ → Q (lensA ℓ) O
def sp_law_drawn_state (bg : Addr) : ASp := fun as O Q _ => ∃ (L : Land) (ℓ : List Nat), as = [.raw (.ref bg), landA L, lensA ℓ] ∧ L.Ok ∧ ∀ st, StOk L st → Q (stateA st) O
def sp_law_told : ASp := fun as O Q _ => ∃ (q : Nat) (L : Land) (ℓ : List Nat) (k : Nat) (s : A), as = [.int q, landA L, lensA ℓ, .int (k : Nat), s] ∧ Ask L ℓ k ∧
  ((q < 2 ∧ (far L ℓ k → Q farA O) ∧ (¬ far L ℓ k → Q (toldA (dividedA L ℓ k)) O)) ∨
    (q = 2 ∨ q = 3) ∧ ∃ st, s = stateA st ∧ AskSt L ℓ k st ∧ (far L ℓ k → Q farA O) ∧ (¬ far L ℓ k → Q (toldA (laidA L ℓ k st)) O))
def sp_law_is_far : ASp := fun as O Q _ => ∃ L ℓ k, as = [landA L, lensA ℓ, .int (k : Nat)] ∧ Ask L ℓ k ∧ Q (.bl (decide (far L ℓ k))) O
end K82

set_option Elab.async false
set_option linter.all false
/-! The readings of the defs. -/
namespace K82
open PySem PySem.Spec L2 PyA
def rd_divisor : AS :=
  (sSeq (sPar 0 1 (aCons (aFn bAbs (aCons (aVar 0) aNil)) (aCons (aFn bAbs (aCons (aVar 1) aNil)) aNil)))
    (sSeq (sWhile (aTru (aVar 1)) (sPar 0 1 (aCons (aVar 1) (aCons (aBin opMod (aVar 0) (aVar 1)) aNil))))
    (sRet (aVar 0))))

def rd_least_multiple : AS :=
  (sRet (aBin opMul (aBin opFdiv (aVar 0) (aCall sp_divisor noEx (aCons (aVar 0) (aCons (aVar 1) aNil)))) (aVar 1)))

def rd_check_made (C : Addr) (ex : Value → Own → Prop) : AS :=
  (sIf (aOr (aBl (aBin opGt (aVar 0) (aC (.int 64)))) (aBl (aBin opGt (aVar 1) (aC (.int 240))))) (sRaise (.ref C) ex) sNext)

def rd_divided (C : Addr) (ex : Value → Own → Prop) : AS :=
  (sSeq (sAsg (aLc (aiT (aVar 1)) (agN 4) aYes (aBin opMul (aVar 4) (aVar 2)) [4]) (agN 3))
    (sSeq (sExpr (aCall (sp_check_made C) ex (aCons (aBin opSub (aBin opAdd (aFn bLen (aCons (aBin ixA (aVar 0) (aC (.int 0))) aNil)) (aFn bSum (aCons (aVar 3) aNil))) (aFn bLen (aCons (aVar 3) aNil))) (aCons (aFn bSum (aCons (aVar 3) aNil)) aNil))))
    (sSeq (sAsg (aFn tList (aCons (aBin ixA (aVar 0) (aC (.int 0))) aNil)) (agN 5))
    (sSeq (sAsg (aLst aNil) (agN 6))
    (sSeq (sFor (aiZip false true (aCons (aBin ixA (aVar 0) (aC (.int 1))) (aCons (aVar 3) aNil))) (agTup 2 (agCons (agTup 3 (agCons (agN 7) (agCons (agN 8) (agCons (agN 9) agNil)))) (agCons (agN 10) agNil))) (sSeq (sAsg (aVar 8) (agN 11))
    (sFor (aiR1 (aVar 10)) (agN 12) (sSeq (sAsg (aVar 9) (agN 13))
    (sSeq (sIf (aBl (aBin opLt (aVar 12) (aBin opSub (aVar 10) (aC (.int 1))))) (sSeq (sAsg (aFstr ("v" : Str) (aBin opSub (aFn bLen (aCons (aVar 5) aNil)) (aFn bLen (aCons (aBin ixA (aVar 0) (aC (.int 0))) aNil)))) (agN 13))
    (sExpr (aML mAppend (aVar 5) (aCons (aVar 13) aNil)))) sNext)
    (sSeq (sExpr (aML mAppend (aVar 6) (aCons (aTup (aCons (aFstr ("r" : Str) (aFn bLen (aCons (aVar 6) aNil))) (aCons (aVar 11) (aCons (aVar 13) aNil)))) aNil)))
    (sAsg (aVar 13) (agN 11))))))))
    (sRet (aTup (aCons (aFn tTuple (aCons (aVar 5) aNil)) (aCons (aFn tTuple (aCons (aVar 6) aNil)) aNil)))))))))

def rd_lengths_by : AS :=
  (sRet (aDc (aiZip false false (aCons (aBin ixA (aVar 0) (aC (.int 1))) (aCons (aVar 1) aNil))) (agTup 2 (agCons (agN 2) (agCons (agN 3) agNil))) aYes (aBin ixA (aVar 2) (aC (.int 0))) (aVar 3) [2, 3]))

def rd_fit : AS :=
  (sSeq (sAsg (aCall sp_lengths_by noEx (aCons (aVar 0) (aCons (aVar 1) aNil))) (agN 3))
    (sSeq (sAsg (aC (.int 1)) (agN 4))
    (sSeq (sFor (aiT (aVar 2)) (agN 5) (sFor (aiT (aVar 5)) (agTup 2 (agCons (agN 6) (agCons (agN 7) agNil))) (sIf (aBl (aBin opEq (aFn bLen (aCons (aVar 6) aNil)) (aC (.int 3)))) (sAsg (aCall sp_least_multiple noEx (aCons (aVar 4) (aCons (aBin opFdiv (aBin ixA (aVar 6) (aC (.int 2))) (aCall sp_divisor noEx (aCons (aBin ixA (aVar 6) (aC (.int 2))) (aCons (aBin dixA (aVar 3) (aBin ixA (aVar 6) (aC (.int 0)))) aNil)))) aNil))) (agN 4)) sNext)))
    (sRet (aVar 4)))))

def rd_starts_of : AS :=
  (sSeq (sAsg (aLst aNil) (agN 3))
    (sSeq (sAsg (aFn bLen (aCons (aBin ixA (aVar 0) (aC (.int 0))) aNil)) (agN 4))
    (sSeq (sFor (aiT (aVar 1)) (agN 5) (sSeq (sExpr (aML mAppend (aVar 3) (aCons (aVar 4) aNil)))
    (sAug 4 (opI fun i j => some (.int (i + j))) (aBin opSub (aBin opMul (aVar 5) (aVar 2)) (aC (.int 1))))))
    (sRet (aBin opAdd (aVar 3) (aLst (aCons (aVar 4) aNil)))))))

def rd_laid (C : Addr) (ex : Value → Own → Prop) : AS :=
  (sSeq (sAsg (aLc (aiT (aVar 1)) (agN 5) aYes (aBin opMul (aVar 5) (aVar 2)) [5]) (agN 4))
    (sSeq (sExpr (aCall (sp_check_made C) ex (aCons (aBin opSub (aBin opAdd (aFn bLen (aCons (aBin ixA (aVar 0) (aC (.int 0))) aNil)) (aFn bSum (aCons (aVar 4) aNil))) (aFn bLen (aCons (aVar 4) aNil))) (aCons (aFn bSum (aCons (aVar 4) aNil)) aNil))))
    (sSeq (sAsg (aCall sp_starts_of noEx (aCons (aVar 0) (aCons (aVar 1) (aCons (aVar 2) aNil)))) (agN 6))
    (sSeq (sAsg (aLc (aiT (aBin ixA (aVar 0) (aC (.int 1)))) (agN 8) aYes (aBin ixA (aVar 8) (aC (.int 0))) [8]) (agN 7))
    (sSeq (sAsg (aBin opMul (aLst (aCons (aC (.int 0)) aNil)) (aBin ixA (aVar 6) (aUn unNeg (aC (.int 1))))) (agN 9))
    (sSeq (sFor (aiT (aVar 3)) (agTup 2 (agCons (agN 10) (agCons (agN 11) agNil))) (sIf (aBl (aBin opEq (aFn bLen (aCons (aVar 10) aNil)) (aC (.int 1)))) (sAugS (opI fun i j => some (.int (i + j))) (aVar 9) (aTIx (aBin ixA (aVar 0) (aC (.int 0))) (aBin ixA (aVar 10) (aC (.int 0)))) (aVar 11)) (sSeq (sAsg (aML mIndex (aVar 7) (aCons (aBin ixA (aVar 10) (aC (.int 0))) aNil)) (agN 8))
    (sAugS (opI fun i j => some (.int (i + j))) (aVar 9) (aBin opSub (aBin opAdd (aBin ixA (aVar 6) (aVar 8)) (aBin opFdiv (aBin opMul (aBin opMul (aBin ixA (aVar 10) (aC (.int 1))) (aBin ixA (aVar 1) (aVar 8))) (aVar 2)) (aBin ixA (aVar 10) (aC (.int 2))))) (aC (.int 1))) (aVar 11)))))
    (sRet (aFn tTuple (aCons (aVar 9) aNil)))))))))

def rd_law_bag (sa : Addr) (ns : List Int) : AS :=
  (sSeq (sAsg (aBin opAdd (aLc (aiScr sa ns (aVar 0)) (agN 2) aYes (aFn bAbs (aCons (aFn tInt (aCons (aVar 2) aNil)) aNil)) [2]) (aLst (aCons (aC (.int 7)) aNil))) (agN 1))
    (sSeq (sAsg (aLst aNil) (agN 3))
    (sSeq (sIf (aBl (aBin opEq (aBin opMod (aFn tInt (aCons (aBin ixA (aVar 1) (aC (.int 0))) aNil)) (aC (.int 2))) (aC (.int 0)))) (sSeq (sAsg (aLc (aiL (aVar 1)) (agN 2) (aBl (aBin opGe (aVar 2) (aBin opPow (aC (.int 10)) (aC (.int 18))))) (aBin opFdiv (aVar 2) (aC (.int 2))) [2]) (agN 3))
    (sExpr (aML0 mReverse (aVar 3)))) sNext)
    (sRet (aLst (aCons (aC (.int 0)) (aCons (aC (.int 0)) (aCons (aVar 3) (aCons (aLc (aiL (aVar 1)) (agN 2) aYes (aBin opMod (aFn tInt (aCons (aVar 2) aNil)) (aC (.int 2147483647))) [2]) aNil)))))))))

def rd_law_draw : AS :=
  (sSeq (sSub (aVar 0) (aC (.int 1)) (aBin opAdd (aBin ixA (aVar 0) (aC (.int 1))) (aC (.int 1))))
    (sSeq (sIf (aAnd (aBl (aBin opEq (aBin ixA (aVar 0) (aC (.int 0))) (aC (.int 0)))) (aBl (aBin opGt (aFn bLen (aCons (aBin ixA (aVar 0) (aC (.int 2))) aNil)) (aC (.int 0))))) (sSub (aVar 0) (aC (.int 0)) (aML0 mPop (aBin ixA (aVar 0) (aC (.int 2))))) sNext)
    (sSeq (sIf (aBl (aBin opGt (aBin ixA (aVar 0) (aC (.int 0))) (aC (.int 0)))) (sSeq (sAsg (aBin opMod (aFn tInt (aCons (aBin ixA (aVar 0) (aC (.int 0))) aNil)) (aVar 1)) (agN 2))
    (sSeq (sSub (aVar 0) (aC (.int 0)) (aBin opFdiv (aBin ixA (aVar 0) (aC (.int 0))) (aVar 1)))
    (sRet (aVar 2)))) sNext)
    (sSeq (sAsg (aBin ixA (aBin ixA (aVar 0) (aC (.int 3))) (aBin opMod (aFn tInt (aCons (aBin ixA (aVar 0) (aC (.int 1))) aNil)) (aFn bLen (aCons (aBin ixA (aVar 0) (aC (.int 3))) aNil)))) (agN 3))
    (sSeq (sAsg (aBin opMod (aFn tInt (aCons (aBin opAdd (aBin opAdd (aBin opMul (aVar 3) (aC (.int 48271))) (aBin opMul (aBin ixA (aVar 0) (aC (.int 1))) (aC (.int 69621)))) (aC (.int 1))) aNil)) (aC (.int 2147483647))) (agN 4))
    (sRet (aBin opMod (aBin opFdiv (aBin opMod (aFn tInt (aCons (aBin opAdd (aBin opAdd (aBin opMul (aVar 4) (aVar 4)) (aBin opMul (aVar 4) (aC (.int 16807)))) (aBin opMul (aBin ixA (aVar 0) (aC (.int 1))) (aC (.int 40014)))) aNil)) (aC (.int 2147483629))) (aC (.int 32))) (aVar 1))))))))

def rd_law_pick (bg : Addr) : AS :=
  (sRet (aBin ixA (aVar 1) (aCall (sp_law_draw bg) noEx (aCons (aVar 0) (aCons (aFn bLen (aCons (aVar 1) aNil)) aNil)))))

def rd_law_some (bg : Addr) : AS :=
  (sSeq (sAsg (aFn tList (aCons (aVar 1) aNil)) (agN 3))
    (sSeq (sAsg (aLst aNil) (agN 4))
    (sSeq (sFor (aiR1 (aVar 2)) (agN 5) (sExpr (aML mAppend (aVar 4) (aCons (aML mPopAt (aVar 3) (aCons (aCall (sp_law_draw bg) noEx (aCons (aVar 0) (aCons (aFn bLen (aCons (aVar 3) aNil)) aNil))) aNil)) aNil))))
    (sRet (aVar 4)))))

def rd_law_same (spr : ASp) : AS :=
  (sSeq (sIf (aBl (aBin opIsN (aVar 1) (aC .non))) (sRet (aBin opIsN (aVar 0) (aC .non))) sNext)
    (sSeq (sIf (aOr (aTru (aFn bIsi (aCons (aVar 1) (aCons (aC (.raw (.ty "bool"))) aNil)))) (aTru (aFn bIsi (aCons (aVar 0) (aCons (aC (.raw (.ty "bool"))) aNil))))) (sRet (aAndV (aFn bIsi (aCons (aVar 1) (aCons (aC (.raw (.ty "bool"))) aNil))) (aAndV (aFn bIsi (aCons (aVar 0) (aCons (aC (.raw (.ty "bool"))) aNil))) (aBin opEq (aVar 0) (aVar 1))))) sNext)
    (sSeq (sIf (aTru (aFn bIsi (aCons (aVar 1) (aCons (aC (.raw (.ty "int"))) aNil)))) (sRet (aAndV (aFn bIsi (aCons (aVar 0) (aCons (aC (.raw (.ty "int"))) aNil))) (aBin opEq (aVar 0) (aVar 1)))) sNext)
    (sSeq (sIf (aTru (aFn bIsi (aCons (aVar 1) (aCons (aC (.raw (.ty "str"))) aNil)))) (sRet (aAndV (aFn bIsi (aCons (aVar 0) (aCons (aC (.raw (.ty "str"))) aNil))) (aBin opEq (aVar 0) (aVar 1)))) sNext)
    (sSeq (sIf (aOr (aNot (aTru (aFn bIsi (aCons (aVar 1) (aCons (aC (.raw (.ty "tuple"))) aNil))))) (aOr (aNot (aTru (aFn bIsi (aCons (aVar 0) (aCons (aC (.raw (.ty "tuple"))) aNil))))) (aBl (aBin opNe (aFn bLen (aCons (aVar 0) aNil)) (aFn bLen (aCons (aVar 1) aNil)))))) (sRet (aC (.bl false))) sNext)
    (sSeq (sFor (aiR1 (aFn bLen (aCons (aVar 1) aNil))) (agN 2) (sIf (aNot (aTru (aCall spr noEx (aCons (aBin ixA (aVar 0) (aVar 2)) (aCons (aBin ixA (aVar 1) (aVar 2)) aNil))))) (sRet (aC (.bl false))) sNext))
    (sRet (aC (.bl true)))))))))

def rd_law_safe_land (bg : Addr) : AS :=
  (sSeq (sAsg (aBin opAdd (aC (.int 2)) (aCall (sp_law_draw bg) noEx (aCons (aVar 0) (aCons (aBin opSub (aVar 1) (aC (.int 1))) aNil)))) (agN 3))
    (sSeq (sAsg (aCall (sp_law_some bg) noEx (aCons (aVar 0) (aCons (aLst (aCons (aC (.str ("a" : Str))) (aCons (aC (.str ("b2" : Str))) (aCons (aC (.str ("cd" : Str))) (aCons (aC (.str ("x1" : Str))) (aCons (aC (.str ("zz9zz9zz" : Str))) (aCons (aC (.str ("q" : Str))) (aCons (aC (.str ("vv" : Str))) (aCons (aC (.str ("m0" : Str))) aNil))))))))) (aCons (aVar 3) aNil)))) (agN 4))
    (sSeq (sAsg (aLst aNil) (agN 5))
    (sSeq (sFor (aiR2 (aC (.int 1)) (aVar 3)) (agN 6) (sExpr (aML mAppend (aVar 5) (aCons (aTup (aCons (aBin ixA (aVar 4) (aCall (sp_law_draw bg) noEx (aCons (aVar 0) (aCons (aVar 6) aNil)))) (aCons (aBin ixA (aVar 4) (aVar 6)) aNil))) aNil))))
    (sSeq (sFor (aiR1 (aCall (sp_law_draw bg) noEx (aCons (aVar 0) (aCons (aBin opAdd (aVar 2) (aC (.int 1))) aNil)))) (agN 6) (sExpr (aML mAppend (aVar 5) (aCons (aIf (aBl (aBin opEq (aCall (sp_law_draw bg) noEx (aCons (aVar 0) (aCons (aC (.int 3)) aNil))) (aC (.int 0)))) (aCall (sp_law_pick bg) noEx (aCons (aVar 0) (aCons (aVar 5) aNil))) (aFn tTuple (aCons (aCall (sp_law_some bg) noEx (aCons (aVar 0) (aCons (aVar 4) (aCons (aC (.int 2)) aNil)))) aNil))) aNil))))
    (sSeq (sAsg (aCall (sp_law_some bg) noEx (aCons (aVar 0) (aCons (aLst (aCons (aC (.str ("e" : Str))) (aCons (aC (.str ("r0" : Str))) (aCons (aC (.str ("f7" : Str))) (aCons (aC (.str ("a" : Str))) (aCons (aC (.str ("k" : Str))) (aCons (aC (.str ("road" : Str))) (aCons (aC (.str ("z" : Str))) (aCons (aC (.str ("b2" : Str))) (aCons (aC (.str ("0" : Str))) (aCons (aC (.str ("t9" : Str))) (aCons (aC (.str ("u" : Str))) (aCons (aC (.str ("w" : Str))) aNil))))))))))))) (aCons (aFn bLen (aCons (aVar 5) aNil)) aNil)))) (agN 7))
    (sSeq (sAsg (aLst aNil) (agN 8))
    (sSeq (sFor (aiL (aCall (sp_law_some bg) noEx (aCons (aVar 0) (aCons (aVar 5) (aCons (aFn bLen (aCons (aVar 5) aNil)) aNil))))) (agN 9) (sExpr (aML mAppend (aVar 8) (aCons (aBin opAdd (aTup (aCons (aBin ixA (aVar 7) (aFn bLen (aCons (aVar 8) aNil))) aNil)) (aIf (aBl (aBin opEq (aCall (sp_law_draw bg) noEx (aCons (aVar 0) (aCons (aC (.int 2)) aNil))) (aC (.int 0)))) (aVar 9) (aTup (aCons (aBin ixA (aVar 9) (aC (.int 1))) (aCons (aBin ixA (aVar 9) (aC (.int 0))) aNil))))) aNil))))
    (sRet (aTup (aCons (aFn tTupleK (aCons (aCall (sp_law_some bg) noEx (aCons (aVar 0) (aCons (aVar 4) (aCons (aVar 3) aNil)))) aNil)) (aCons (aFn tTuple (aCons (aVar 8) aNil)) aNil))))))))))))

def rd_law_divisor : AS :=
  (sSeq (sPar 0 1 (aCons (aFn bAbs (aCons (aVar 0) aNil)) (aCons (aFn bAbs (aCons (aVar 1) aNil)) aNil)))
    (sSeq (sFor (aiR1 (aC (.int 2000))) (agN 2) (sSeq (sIf (aBl (aBin opEq (aVar 1) (aC (.int 0)))) sBreak sNext)
    (sPar 0 1 (aCons (aVar 1) (aCons (aBin opMod (aFn tInt (aCons (aVar 0) aNil)) (aVar 1)) aNil)))))
    (sRet (aVar 0))))

def rd_law_spots : AS :=
  (sSeq (sAsg (aLc (aiT (aBin ixA (aVar 0) (aC (.int 0)))) (agN 4) aYes (aTup (aCons (aVar 4) aNil)) [4]) (agN 3))
    (sSeq (sFor (aiR1 (aFn bLen (aCons (aBin ixA (aVar 0) (aC (.int 1))) aNil))) (agN 5) (sSeq (sAsg (aBin opMul (aBin ixA (aVar 1) (aVar 5)) (aVar 2)) (agN 6))
    (sFor (aiR2 (aC (.int 1)) (aVar 6)) (agN 7) (sSeq (sAsg (aCall sp_law_divisor noEx (aCons (aVar 7) (aCons (aVar 6) aNil))) (agN 8))
    (sExpr (aML mAppend (aVar 3) (aCons (aTup (aCons (aBin ixA (aBin ixA (aBin ixA (aVar 0) (aC (.int 1))) (aVar 5)) (aC (.int 0))) (aCons (aBin opFdiv (aVar 7) (aVar 8)) (aCons (aBin opFdiv (aVar 6) (aVar 8)) aNil)))) aNil)))))))
    (sRet (aVar 3))))

def rd_law_divided : AS :=
  (sSeq (sPar3 3 4 5 (aCons (aFn tList (aCons (aBin ixA (aVar 0) (aC (.int 0))) aNil)) (aCons (aLst aNil) (aCons (aC (.int 0)) aNil))))
    (sSeq (sFor (aiR1 (aFn bLen (aCons (aBin ixA (aVar 0) (aC (.int 1))) aNil))) (agN 6) (sSeq (sAsg (aBin ixA (aBin ixA (aVar 0) (aC (.int 1))) (aVar 6)) (agTup 3 (agCons (agN 7) (agCons (agN 8) (agCons (agN 9) agNil)))))
    (sSeq (sAsg (aLst (aCons (aVar 8) aNil)) (agN 10))
    (sSeq (sFor (aiR1 (aBin opSub (aBin opMul (aBin ixA (aVar 1) (aVar 6)) (aVar 2)) (aC (.int 1)))) (agN 11) (sSeq (sExpr (aML mAppend (aVar 10) (aCons (aBin opAdd (aC (.str ("v" : Str))) (aFn tStr (aCons (aVar 5) aNil))) aNil)))
    (sSeq (sExpr (aML mAppend (aVar 3) (aCons (aBin opAdd (aC (.str ("v" : Str))) (aFn tStr (aCons (aVar 5) aNil))) aNil)))
    (sAsg (aBin opAdd (aVar 5) (aC (.int 1))) (agN 5)))))
    (sSeq (sExpr (aML mAppend (aVar 10) (aCons (aVar 9) aNil)))
    (sFor (aiR1 (aBin opSub (aFn bLen (aCons (aVar 10) aNil)) (aC (.int 1)))) (agN 11) (sExpr (aML mAppend (aVar 4) (aCons (aTup (aCons (aBin opAdd (aC (.str ("r" : Str))) (aFn tStr (aCons (aFn bLen (aCons (aVar 4) aNil)) aNil))) (aCons (aBin ixA (aVar 10) (aVar 11)) (aCons (aBin ixA (aVar 10) (aBin opAdd (aVar 11) (aC (.int 1)))) aNil)))) aNil)))))))))
    (sRet (aTup (aCons (aFn tTuple (aCons (aVar 3) aNil)) (aCons (aFn tTuple (aCons (aVar 4) aNil)) aNil))))))

def rd_law_fit : AS :=
  (sSeq (sPar 3 4 (aCons (aLc (aiT (aBin ixA (aVar 0) (aC (.int 1)))) (agN 5) aYes (aBin ixA (aVar 5) (aC (.int 0))) [5]) (aCons (aC (.int 1)) aNil)))
    (sSeq (sFor (aiT (aVar 2)) (agN 6) (sFor (aiT (aVar 6)) (agTup 2 (agCons (agN 7) (agCons (agN 8) agNil))) (sIf (aBl (aBin opEq (aFn bLen (aCons (aVar 7) aNil)) (aC (.int 3)))) (sSeq (sAsg (aBin opFdiv (aBin ixA (aVar 7) (aC (.int 2))) (aCall sp_law_divisor noEx (aCons (aBin ixA (aVar 7) (aC (.int 2))) (aCons (aBin ixA (aVar 1) (aML mIndex (aVar 3) (aCons (aBin ixA (aVar 7) (aC (.int 0))) aNil))) aNil)))) (agN 9))
    (sAsg (aBin opFdiv (aBin opMul (aVar 4) (aVar 9)) (aCall sp_law_divisor noEx (aCons (aVar 4) (aCons (aVar 9) aNil)))) (agN 4))) sNext)))
    (sRet (aVar 4))))

def rd_law_laid : AS :=
  (sSeq (sAsg (aTup (aCons (aCall sp_law_spots noEx (aCons (aVar 0) (aCons (aVar 1) (aCons (aVar 2) aNil)))) (aCons (aFn bDictT (aCons (aVar 3) aNil)) aNil))) (agTup 2 (agCons (agN 4) (agCons (agN 5) agNil))))
    (sRet (aFn tTuple (aCons (aLc (aiL (aVar 4)) (agN 6) aYes (aDget2 (aVar 5) (aVar 6) (aC (.int 0))) [6]) aNil))))

def rd_law_lengths (bg : Addr) : AS :=
  (sRet (aFn tTuple (aCons (aLc (aiT (aBin ixA (aVar 1) (aC (.int 1)))) (agN 3) aYes (aBin opAdd (aC (.int 1)) (aCall (sp_law_draw bg) noEx (aCons (aVar 0) (aCons (aVar 2) aNil)))) [3]) aNil)))

def rd_law_drawn_state (bg : Addr) : AS :=
  (sSeq (sAsg aNewT (agN 3))
    (sSeq (sFor (aiR1 (aCall (sp_law_draw bg) noEx (aCons (aVar 0) (aCons (aC (.int 5)) aNil)))) (agN 4) (sSeq (sAsg (aTup (aCons (aCall (sp_law_pick bg) noEx (aCons (aVar 0) (aCons (aBin ixA (aVar 1) (aC (.int 0))) aNil))) aNil)) (agN 5))
    (sSeq (sIf (aBl (aBin opGt (aCall (sp_law_draw bg) noEx (aCons (aVar 0) (aCons (aC (.int 3)) aNil))) (aC (.int 0)))) (sSeq (sAsg (aBin opAdd (aC (.int 2)) (aCall (sp_law_draw bg) noEx (aCons (aVar 0) (aCons (aBin ixA (aLst (aCons (aC (.int 11)) (aCons (aC (.int 98)) aNil))) (aBin opFdiv (aCall (sp_law_draw bg) noEx (aCons (aVar 0) (aCons (aC (.int 6)) aNil))) (aC (.int 5)))) aNil)))) (agN 6))
    (sSeq (sAsg (aBin opAdd (aC (.int 1)) (aCall (sp_law_draw bg) noEx (aCons (aVar 0) (aCons (aBin opSub (aVar 6) (aC (.int 1))) aNil)))) (agN 7))
    (sSeq (sAsg (aCall sp_law_divisor noEx (aCons (aVar 7) (aCons (aVar 6) aNil))) (agN 8))
    (sAsg (aTup (aCons (aBin ixA (aCall (sp_law_pick bg) noEx (aCons (aVar 0) (aCons (aBin ixA (aVar 1) (aC (.int 1))) aNil))) (aC (.int 0))) (aCons (aBin opFdiv (aVar 7) (aVar 8)) (aCons (aBin opFdiv (aVar 6) (aVar 8)) aNil)))) (agN 5))))) sNext)
    (sDPutA (aVar 3) (aVar 5) (aCall (sp_law_pick bg) noEx (aCons (aVar 0) (aCons (aLst (aCons (aUn unNeg (aC (.int 3))) (aCons (aUn unNeg (aC (.int 1))) (aCons (aC (.int 1)) (aCons (aC (.int 2)) (aCons (aBin opPow (aC (.int 10)) (aC (.int 20))) aNil)))))) aNil)))))))
    (sRet (aFn tTupleK (aCons (aSortedItems (aVar 3)) aNil)))))

def rd_law_told (C : Addr) : AS :=
  (sTry (.ref C) (fun ex => (sSeq (sIf (aBl (aBin opEq (aVar 0) (aC (.int 0)))) (sRet (aTup (aCons (aC (.str ("told" : Str))) (aCons (aCall (sp_divided C) ex (aCons (aVar 1) (aCons (aVar 2) (aCons (aVar 3) aNil)))) aNil)))) sNext)
    (sSeq (sIf (aBl (aBin opEq (aVar 0) (aC (.int 1)))) (sRet (aTup (aCons (aC (.str ("told" : Str))) (aCons (aCallK (sp_divided C) ex [0, 1, 2] (aCons (aVar 1) (aCons (aVar 2) (aCons (aVar 3) aNil)))) aNil)))) sNext)
    (sSeq (sIf (aBl (aBin opEq (aVar 0) (aC (.int 2)))) (sRet (aTup (aCons (aC (.str ("told" : Str))) (aCons (aCall (sp_laid C) ex (aCons (aVar 1) (aCons (aVar 2) (aCons (aVar 3) (aCons (aVar 4) aNil))))) aNil)))) sNext)
    (sRet (aTup (aCons (aC (.str ("told" : Str))) (aCons (aCallK (sp_laid C) ex [0, 1, 2, 3] (aCons (aVar 1) (aCons (aVar 2) (aCons (aVar 3) (aCons (aVar 4) aNil))))) aNil)))))))) (sRet (aTup (aCons (aC (.str ("far" : Str))) (aCons (aC .non) aNil)))))

def rd_law_is_far : AS :=
  (sSeq (sAsg (aBin opMul (aFn bSumT (aCons (aVar 1) aNil)) (aVar 2)) (agN 3))
    (sRet (aOrV (aBin opGt (aVar 3) (aC (.int 240))) (aBin opGt (aBin opSub (aBin opAdd (aFn bLen (aCons (aBin ixA (aVar 0) (aC (.int 0))) aNil)) (aVar 3)) (aFn bLen (aCons (aVar 1) aNil))) (aC (.int 64))))))

def rd_law (bg : Addr) : AS :=
  (sSeq (sFor (aiR1 (aC (.int 3))) (agN 2) (sSeq (sAsg (aCall (sp_law_safe_land bg) noEx (aCons (aVar 1) (aCons (aC (.int 4)) (aCons (aC (.int 2)) aNil)))) (agN 3))
    (sSeq (sAsg (aCall (sp_law_lengths bg) noEx (aCons (aVar 1) (aCons (aVar 3) (aCons (aCall (sp_law_pick bg) noEx (aCons (aVar 1) (aCons (aLst (aCons (aC (.int 3)) (aCons (aC (.int 3)) (aCons (aC (.int 9)) aNil)))) aNil))) aNil)))) (agN 4))
    (sSeq (sAsg (aFn tTuple (aCons (aLc (aiR1 (aCall (sp_law_draw bg) noEx (aCons (aVar 1) (aCons (aC (.int 4)) aNil)))) (agN 6) aYes (aCall (sp_law_drawn_state bg) noEx (aCons (aVar 1) (aCons (aVar 3) (aCons (aVar 4) aNil)))) [6]) aNil)) (agN 5))
    (sSeq (sAsg (aCall sp_law_fit noEx (aCons (aVar 3) (aCons (aVar 4) (aCons (aVar 5) aNil)))) (agN 7))
    (sSeq (sIf (aOr (aNot (aTru (aCall sp_law_same noEx (aCons (aCall sp_fit noEx (aCons (aVar 3) (aCons (aVar 4) (aCons (aVar 5) aNil)))) (aCons (aVar 7) aNil))))) (aNot (aTru (aCall sp_law_same noEx (aCons (aCallK sp_fit noEx [0, 1, 2] (aCons (aVar 3) (aCons (aVar 4) (aCons (aVar 5) aNil)))) (aCons (aVar 7) aNil)))))) (sRet (aC (.bl false))) sNext)
    (sSeq (sFor (aiL (aLst (aCons (aBin opAdd (aC (.int 1)) (aCall (sp_law_draw bg) noEx (aCons (aVar 1) (aCons (aC (.int 6)) aNil)))) (aCons (aCall (sp_law_pick bg) noEx (aCons (aVar 1) (aCons (aLst (aCons (aC (.int 1)) (aCons (aC (.int 7)) (aCons (aC (.int 20)) (aCons (aC (.int 99)) aNil))))) aNil))) aNil)))) (agN 6) (sSeq (sAsg (aIf (aTru (aCall sp_law_is_far noEx (aCons (aVar 3) (aCons (aVar 4) (aCons (aVar 6) aNil))))) (aTup (aCons (aC (.str ("far" : Str))) (aCons (aC .non) aNil))) (aTup (aCons (aC (.str ("told" : Str))) (aCons (aCall sp_law_divided noEx (aCons (aVar 3) (aCons (aVar 4) (aCons (aVar 6) aNil)))) aNil)))) (agN 8))
    (sIf (aOr (aNot (aTru (aCall sp_law_same noEx (aCons (aCall sp_law_told noEx (aCons (aC (.int 0)) (aCons (aVar 3) (aCons (aVar 4) (aCons (aVar 6) (aCons (aTup aNil) aNil)))))) (aCons (aVar 8) aNil))))) (aNot (aTru (aCall sp_law_same noEx (aCons (aCall sp_law_told noEx (aCons (aC (.int 1)) (aCons (aVar 3) (aCons (aVar 4) (aCons (aVar 6) (aCons (aTup aNil) aNil)))))) (aCons (aVar 8) aNil)))))) (sRet (aC (.bl false))) sNext)))
    (sFor (aiT (aVar 5)) (agN 9) (sSeq (sAsg (aBin opMul (aCall sp_law_fit noEx (aCons (aVar 3) (aCons (aVar 4) (aCons (aTup (aCons (aVar 9) aNil)) aNil)))) (aCall (sp_law_pick bg) noEx (aCons (aVar 1) (aCons (aLst (aCons (aC (.int 1)) (aCons (aC (.int 1)) (aCons (aC (.int 2)) (aCons (aC (.int 3)) aNil))))) aNil)))) (agN 6))
    (sIf (aBl (aBin opLt (aVar 6) (aC (.int 100)))) (sSeq (sAsg (aTup (aCons (aC (.str ("far" : Str))) (aCons (aC .non) aNil))) (agN 8))
    (sSeq (sIf (aNot (aTru (aCall sp_law_is_far noEx (aCons (aVar 3) (aCons (aVar 4) (aCons (aVar 6) aNil)))))) (sAsg (aTup (aCons (aC (.str ("told" : Str))) (aCons (aCall sp_law_laid noEx (aCons (aVar 3) (aCons (aVar 4) (aCons (aVar 6) (aCons (aVar 9) aNil))))) aNil))) (agN 8)) sNext)
    (sIf (aOr (aNot (aTru (aCall sp_law_same noEx (aCons (aCall sp_law_told noEx (aCons (aC (.int 2)) (aCons (aVar 3) (aCons (aVar 4) (aCons (aVar 6) (aCons (aVar 9) aNil)))))) (aCons (aVar 8) aNil))))) (aNot (aTru (aCall sp_law_same noEx (aCons (aCall sp_law_told noEx (aCons (aC (.int 3)) (aCons (aVar 3) (aCons (aVar 4) (aCons (aVar 6) (aCons (aVar 9) aNil)))))) (aCons (aVar 8) aNil)))))) (sRet (aC (.bl false))) sNext))) sNext))))))))))
    (sRet (aCall sp_law_same noEx (aCons (aCall sp_fit noEx (aCons (aVar 3) (aCons (aVar 4) (aCons (aTup aNil) aNil)))) (aCons (aC (.int 1)) aNil)))))
end K82

set_option Elab.async false
set_option linter.all false
set_option maxRecDepth 100000
set_option maxHeartbeats 4000000
/-! The readings meet the specifications. -/
namespace K82
open PySem PySem.Spec L2 PyA
abbrev EN (O : Own) (Q : AK) : AEnds := { nx := fun _ O' => fin O Q .non O', rt := fin O Q }
section
variable {as : List A} {O : Own} {Q : AK} {QE : Value → Own → Prop}
theorem absN (n : Nat) : (if (n : Int) < 0 then -(n : Int) else (n : Int)) = (n : Int) := by rw [if_neg (by omega)]
theorem law_pick_ok {bg : Addr} (h : sp_law_pick bg as O Q QE) : rd_law_pick bg (EN O Q) (startA N_law_pick as) O := by
  obtain ⟨s, xs, rfl, h1, h2, h3, h4⟩ := h
  show rd_law_pick bg _ [some _, some s] O
  simp only [rd_law_pick, sSeq, sNext, sExpr, sRet, sRetN, sIf, sAsg, sPar, sPar3, sSub, sDPutA, sAug, sAugS, sFor, sWhile, sRaise, sBreak, sCont, aVar, sg, aC, aBin, aBl, aUn, aAnd, aOr, aNot, aAndV, aOrV, aNotV, aIf, aTru, truA, aNil, aCons, aTup, aLst, aFn, aML, aML0, aCall, aCallK, aLc, aDc, aiL, aiT, aiR1, aiR2, r1K, r2K, aiZip, agN, agNil, agCons, agTup, tupOf, x_add, x_addI, x_addS, x_eqI, x_neI, x_lt, x_le, x_gt, x_ge, x_sub, x_neg, x_abs, x_int, x_str, x_lenS, List.set, List.length_cons, List.length_nil, true_and, and_true]
  refine w_len h1 ⟨xs.length, rfl, h2, h3, fun r hr => ?_⟩
  exact w_ixN h1 (List.getElem?_eq_getElem hr) (fin_here (h4 _ (List.getElem_mem hr)))
theorem divisor_ok (h : sp_divisor as O Q QE) : rd_divisor (EN O Q) (startA N_divisor as) O := by
  obtain ⟨a, b, rfl, q⟩ := h
  show rd_divisor _ [some (.int a), some (.int b)] O
  simp only [rd_divisor, sSeq, sNext, sExpr, sRet, sRetN, sIf, sAsg, sPar, sPar3, sSub, sDPutA, sAug, sAugS, sFor, sWhile, sRaise, sBreak, sCont, aVar, sg, aC, aBin, aBl, aUn, aAnd, aOr, aNot, aAndV, aOrV, aNotV, aIf, aTru, truA, aNil, aCons, aTup, aLst, aFn, aML, aML0, aCall, aCallK, aLc, aDc, aiL, aiT, aiR1, aiR2, r1K, r2K, aiZip, agN, agNil, agCons, agTup, tupOf, x_add, x_addI, x_addS, x_eqI, x_neI, x_lt, x_le, x_gt, x_ge, x_sub, x_neg, x_abs, x_int, x_str, x_lenS, List.set, List.length_cons, List.length_nil, true_and, and_true, absN]
  refine ⟨b + 1, ?_⟩
  have key : ∀ (n a b : Nat), b < n → (∀ d : Nat, d = Nat.gcd a b → fin O Q (.int (d : Int)) O) → whileA (aTru (aVar 1)) (sPar 0 1 (aCons (aVar 1) (aCons (aBin opMod (aVar 0) (aVar 1)) aNil)))
      { nx := sRet (aVar 0) (EN O Q), rt := fin O Q } n [some (.int (a : Int)), some (.int (b : Int))] O := by
    intro n
    induction n with
    | zero => intro a b h; omega
    | succ n ih =>
      intro a b hb k
      unfold whileA
      simp only [sSeq, sNext, sExpr, sRet, sRetN, sIf, sAsg, sPar, sPar3, sSub, sDPutA, sAug, sAugS, sFor, sWhile, sRaise, sBreak, sCont, aVar, sg, aC, aBin, aBl, aUn, aAnd, aOr, aNot, aAndV, aOrV, aNotV, aIf, aTru, truA, aNil, aCons, aTup, aLst, aFn, aML, aML0, aCall, aCallK, aLc, aDc, aiL, aiT, aiR1, aiR2, r1K, r2K, aiZip, agN, agNil, agCons, agTup, tupOf, x_add, x_addI, x_addS, x_eqI, x_neI, x_lt, x_le, x_gt, x_ge, x_sub, x_neg, x_abs, x_int, x_str, x_lenS, List.set, List.length_cons, List.length_nil, true_and, and_true]
      cases b with
      | zero =>
        show fin O Q (.int (a : Int)) O
        exact k a (Nat.gcd_zero_right a).symm
      | succ b =>
        have e : (((b + 1 : Nat) : Int) != 0) = true := by simp; omega
        rw [e]
        refine w_mod a (b + 1) (Nat.succ_pos _) ?_
        refine ih (b + 1) (a % (b + 1)) (Nat.lt_of_lt_of_le (Nat.mod_lt _ (Nat.succ_pos _)) (by omega)) fun d hd => k d ?_
        rw [hd, Nat.gcd_comm, ← Nat.gcd_rec, Nat.gcd_comm]
  exact key (b + 1) a b (by omega) fun d hd => by rw [hd]; exact fin_here q
theorem least_multiple_ok (h : sp_least_multiple as O Q QE) : rd_least_multiple (EN O Q) (startA N_least_multiple as) O := by
  obtain ⟨a, b, rfl, ha, hb, hb2, q⟩ := h
  show rd_least_multiple _ [some (.int a), some (.int b)] O
  simp only [rd_least_multiple, sSeq, sNext, sExpr, sRet, sRetN, sIf, sAsg, sPar, sPar3, sSub, sDPutA, sAug, sAugS, sFor, sWhile, sRaise, sBreak, sCont, aVar, sg, aC, aBin, aBl, aUn, aAnd, aOr, aNot, aAndV, aOrV, aNotV, aIf, aTru, truA, aNil, aCons, aTup, aLst, aFn, aML, aML0, aCall, aCallK, aLc, aDc, aiL, aiT, aiR1, aiR2, r1K, r2K, aiZip, agN, agNil, agCons, agTup, tupOf, x_add, x_addI, x_addS, x_eqI, x_neI, x_lt, x_le, x_gt, x_ge, x_sub, x_neg, x_abs, x_int, x_str, x_lenS, List.set, List.length_cons, List.length_nil, true_and, and_true]
  have g0 : 0 < Nat.gcd a b := Nat.gcd_pos_of_pos_left b ha
  refine ⟨a, b, rfl, w_fdiv a _ g0 (Nat.lt_of_le_of_lt (Nat.le_of_dvd hb (Nat.gcd_dvd_right a b)) hb2) (w_mul _ _ (.inr (by omega)) (fin_here ?_))⟩
  have e : a / Nat.gcd a b * b = Nat.lcm a b := by
    rw [Nat.lcm, Nat.div_mul_right_comm (Nat.gcd_dvd_left a b)]
  rw [e]
  exact q
theorem law_divisor_ok (h : sp_law_divisor as O Q QE) : rd_law_divisor (EN O Q) (startA N_law_divisor as) O := by
  obtain ⟨a, b, rfl, hb, q⟩ := h
  show rd_law_divisor _ [some (.int a), some (.int b), none] O
  simp only [rd_law_divisor, sSeq, sNext, sExpr, sRet, sRetN, sIf, sAsg, sPar, sPar3, sSub, sDPutA, sAug, sAugS, sFor, sWhile, sRaise, sBreak, sCont, aVar, sg, aC, aBin, aBl, aUn, aAnd, aOr, aNot, aAndV, aOrV, aNotV, aIf, aTru, truA, aNil, aCons, aTup, aLst, aFn, aML, aML0, aCall, aCallK, aLc, aDc, aiL, aiT, aiR1, aiR2, r1K, r2K, aiZip, agN, agNil, agCons, agTup, tupOf, x_add, x_addI, x_addS, x_eqI, x_neI, x_lt, x_le, x_gt, x_ge, x_sub, x_neg, x_abs, x_int, x_str, x_lenS, List.set, List.length_cons, List.length_nil, true_and, and_true, absN]
  refine ⟨by decide, by decide, ?_⟩
  refine forA_inv (fun i δ O1 => O1 = O ∧ ∃ (x y : Nat) (z : Option A), δ = [some (.int x), some (.int y), z] ∧ Nat.gcd x y = Nat.gcd a b ∧ (y = 0 ∨ y + i ≤ b)) (fun i v δ O1 Nx hv hI k => ?_) (fun δ O1 hI => ?_) ⟨rfl, a, b, _, rfl, rfl, .inr (by omega)⟩
  · obtain ⟨rfl, x, y, z, rfl, hg, hy⟩ := hI
    refine ⟨trivial, ?_⟩
    by_cases e : y = 0
    · subst e
      simp only [sSeq, sNext, sExpr, sRet, sRetN, sIf, sAsg, sPar, sPar3, sSub, sDPutA, sAug, sAugS, sFor, sWhile, sRaise, sBreak, sCont, aVar, sg, aC, aBin, aBl, aUn, aAnd, aOr, aNot, aAndV, aOrV, aNotV, aIf, aTru, truA, aNil, aCons, aTup, aLst, aFn, aML, aML0, aCall, aCallK, aLc, aDc, aiL, aiT, aiR1, aiR2, r1K, r2K, aiZip, agN, agNil, agCons, agTup, tupOf, x_add, x_addI, x_addS, x_eqI, x_neI, x_lt, x_le, x_gt, x_ge, x_sub, x_neg, x_abs, x_int, x_str, x_lenS, List.set, List.length_cons, List.length_nil, true_and, and_true, Int.natCast_zero, decide_true]
      show fin O1 Q (.int (x : Int)) O1
      rw [Nat.gcd_zero_right] at hg
      rw [hg]
      exact fin_here q
    · have e1 : decide ((y : Int) = 0) = false := decide_eq_false (by omega)
      simp only [sSeq, sNext, sExpr, sRet, sRetN, sIf, sAsg, sPar, sPar3, sSub, sDPutA, sAug, sAugS, sFor, sWhile, sRaise, sBreak, sCont, aVar, sg, aC, aBin, aBl, aUn, aAnd, aOr, aNot, aAndV, aOrV, aNotV, aIf, aTru, truA, aNil, aCons, aTup, aLst, aFn, aML, aML0, aCall, aCallK, aLc, aDc, aiL, aiT, aiR1, aiR2, r1K, r2K, aiZip, agN, agNil, agCons, agTup, tupOf, x_add, x_addI, x_addS, x_eqI, x_neI, x_lt, x_le, x_gt, x_ge, x_sub, x_neg, x_abs, x_int, x_str, x_lenS, List.set, List.length_cons, List.length_nil, true_and, and_true, e1]
      refine w_mod x y (by omega) (k _ _ ⟨rfl, y, x % y, _, rfl, ?_, .inr ?_⟩)
      · rw [← hg, Nat.gcd_comm, ← Nat.gcd_rec, Nat.gcd_comm]
      · have := Nat.mod_lt x (show y > 0 by omega)
        omega
  · obtain ⟨rfl, x, y, z, rfl, hg, hy⟩ := hI
    refine ⟨trivial, ?_⟩
    rw [rangeA_len] at hy
    have hy0 : y = 0 := by
      rcases hy with h | h
      · exact h
      · have : (2000 : Int).toNat = 2000 := rfl
        omega
    subst hy0
    rw [Nat.gcd_zero_right] at hg
    show fin O1 Q (.int (x : Int)) O1
    rw [hg]
    exact fin_here q
theorem check_made_ok {C : Addr} {ex : Value → Own → Prop} (hx : ∀ cls Oe, ex cls Oe ↔ ∃ O', Conv O .non Oe .non O' ∧ QE cls O') (h : sp_check_made C as O Q QE) : rd_check_made C ex (EN O Q) (startA N_check_made as) O := by
  obtain ⟨v, r, rfl, h1, h2⟩ := h
  show rd_check_made C ex _ [some (.int v), some (.int r)] O
  simp only [rd_check_made, sSeq, sNext, sExpr, sRet, sRetN, sIf, sAsg, sPar, sPar3, sSub, sDPutA, sAug, sAugS, sFor, sWhile, sRaise, sBreak, sCont, aVar, sg, aC, aBin, aBl, aUn, aAnd, aOr, aNot, aAndV, aOrV, aNotV, aIf, aTru, truA, aNil, aCons, aTup, aLst, aFn, aML, aML0, aCall, aCallK, aLc, aDc, aiL, aiT, aiR1, aiR2, r1K, r2K, aiZip, agN, agNil, agCons, agTup, tupOf, x_add, x_addI, x_addS, x_eqI, x_neI, x_lt, x_le, x_gt, x_ge, x_sub, x_neg, x_abs, x_int, x_str, x_lenS, List.set, List.length_cons, List.length_nil, true_and, and_true]
  by_cases e1 : 64 < v
  · have e : decide ((64 : Int) < (v : Int)) = true := decide_eq_true (by omega)
    simp only [e]
    exact (hx _ _).mpr (ex_here Ext.refl (h1 (.inl e1)))
  · have e : decide ((64 : Int) < (v : Int)) = false := decide_eq_false (by omega)
    simp only [e]
    by_cases e2 : 240 < r
    · have e : decide ((240 : Int) < (r : Int)) = true := decide_eq_true (by omega)
      simp only [e]
      exact (hx _ _).mpr (ex_here Ext.refl (h1 (.inr e2)))
    · have e : decide ((240 : Int) < (r : Int)) = false := decide_eq_false (by omega)
      simp only [e]
      exact fin_here (h2 (by omega))
end
end K82

set_option Elab.async false
set_option linter.all false
set_option maxRecDepth 100000
set_option maxHeartbeats 4000000
/-! lengths, fit. -/
namespace K82
open PySem PySem.Spec L2 PyA
section
variable {as : List A} {O : Own} {Q : AK} {QE : Value → Own → Prop} {L : Land} {ℓ : List Nat} {k : Nat}
theorem nI_int (ns : List Nat) : nI ns = (ns.map fun (n : Nat) => (n : Int)).map A.int := by unfold nI; rw [List.map_map]; rfl
theorem nI_len (ns : List Nat) : (nI ns).length = ns.length := by unfold nI; rw [List.length_map]
theorem nI_get {ns : List Nat} {i n : Nat} (h : ns[i]? = some n) : (nI ns)[i]? = some (.int (n : Int)) := by unfold nI; rw [List.getElem?_map, h]; rfl
theorem sumN : ∀ ns : List Nat, (ns.map fun (n : Nat) => (n : Int)).sum = ((ns.sum : Nat) : Int)
  | [] => rfl
  | n :: ns => by rw [List.map_cons, List.sum_cons, List.sum_cons, sumN ns, Int.natCast_add]
theorem w_sumN {n : Nat} {ns : List Nat} (h : lv O n = some (.lst (nI ns))) (q : Q (.int ((ns.sum : Nat) : Int)) O) : bSum [.own n] O Q := by
  rw [nI_int] at h
  refine w_sum h ?_
  rw [sumN]
  exact q
theorem w_sumTN {ns : List Nat} (q : Q (.int ((ns.sum : Nat) : Int)) O) : bSumT [.tup (nI ns)] O Q := by
  rw [nI_int]
  refine w_sumT ?_
  rw [sumN]
  exact q
theorem ltA_str {n : Nat} {x : Str} : ltA n (.str x) = true := rfl
theorem ltAs_nI {m : Nat} {ns : List Nat} : ltAs m (nI ns) = true := ltAs_map fun _ _ => rfl
theorem ix_of_mem {n : Str} (hok : L.Ok) (h : n ∈ L.rs.map (·.1)) : ∃ (i : Nat) (r : Road), ixR L n = i ∧ firstIx n (L.rs.map (·.1)) = some i ∧ L.rs[i]? = some r ∧ r.1 = n := by
  obtain ⟨i, hi⟩ := List.mem_iff_getElem?.mp h
  have e := firstIx_nd hok.rd hi
  rw [List.getElem?_map] at hi
  cases hr : L.rs[i]? with
  | none => rw [hr] at hi; cases hi
  | some r =>
    rw [hr] at hi
    exact ⟨i, r, by unfold ixR; rw [e]; rfl, e, hr, Option.some.inj hi⟩
theorem len_of_mem {n : Str} (hok : L.Ok) (hl : LensOk L ℓ) (h : n ∈ L.rs.map (·.1)) : ∃ (i : Nat) (r : Road), ixR L n = i ∧ firstIx n (L.rs.map (·.1)) = some i ∧ L.rs[i]? = some r ∧ r.1 = n ∧ ℓ[i]? = some (lenR L ℓ n) ∧ 1 ≤ lenR L ℓ n ∧ lenR L ℓ n ≤ 9 := by
  obtain ⟨i, r, h1, h2, h3, h4⟩ := ix_of_mem hok h
  have hi : i < ℓ.length := by rw [hl.len]; exact (List.getElem?_eq_some_iff.mp h3).1
  have e : ℓ[i]? = some (lenR L ℓ n) := by
    unfold lenR
    rw [h1, List.getD_eq_getElem?_getD, List.getElem?_eq_getElem hi]
    rfl
  exact ⟨i, r, h1, h2, h3, h4, e, hl.one _ (List.mem_of_getElem? e), hl.nin _ (List.mem_of_getElem? e)⟩
theorem landA_ix0 : L2.atI [A.tupk (L.vs.map A.str), A.tup (L.rs.map rdA)] 0 = some (.tupk (L.vs.map A.str)) := atI_0
theorem landA_ix1 : L2.atI [A.tupk (L.vs.map A.str), A.tup (L.rs.map rdA)] 1 = some (.tup (L.rs.map rdA)) := atI_1
theorem lens_small (hok : L.Ok) (hl : LensOk L ℓ) : ℓ.length ≤ 5 := by rw [hl.len]; exact hok.r5
theorem size5 {n : Nat} (h : n ≤ 5) : n ≤ sizeLine := by rw [sizeLine_eq]; omega
theorem lengths_by_ok (h : sp_lengths_by as O Q QE) : rd_lengths_by (EN O Q) (startA N_lengths_by as) O := by
  obtain ⟨L, ℓ, rfl, hok, hl, q⟩ := h
  show rd_lengths_by _ [some (landA L), some (lensA ℓ), none, none] O
  simp only [rd_lengths_by, sSeq, sNext, sExpr, sRet, sRetN, sIf, sAsg, sPar, sPar3, sSub, sDPutA, sAug, sAugS, sFor, sWhile, sRaise, sBreak, sCont, aVar, sg, aC, aBin, aBl, aUn, aAnd, aOr, aNot, aAndV, aOrV, aNotV, aIf, aTru, truA, aNil, aCons, aTup, aLst, aFn, aML, aML0, aCall, aCallK, aLc, aDc, aiL, aiT, aiR1, aiR2, r1K, r2K, aiZip, agN, agNil, agCons, agTup, tupOf, x_add, x_addI, x_addS, x_eqI, x_neI, x_lt, x_le, x_gt, x_ge, x_sub, x_neg, x_abs, x_int, x_str, x_lenS, List.set, List.length_cons, List.length_nil, true_and, and_true, landA, lensA]
  refine w_ix rfl landA_ix1 ?_
  refine ⟨⟨rfl, rfl⟩, ?_⟩
  show compD _ _ _ _ _ _ (zipA (L.rs.map rdA) (nI ℓ)) _ _ _
  unfold nI
  rw [zipA_map]
  refine compD_map (f := fun x => match x with | .tup [.tup (.str n :: _), y] => (.inr n, y) | _ => (.inr "", .non)) ⟨rfl, rfl⟩ ?_ ?_ (fun x hx => ?_) ?_
  · rw [List.length_map, List.length_zip]
    exact size5 (Nat.le_trans (Nat.min_le_left _ _) hok.r5)
  · rw [List.map_map]
    show ((L.rs.zip ℓ).map fun p => (Sum.inr p.1.1 : Key)).Nodup
    have e : ((L.rs.zip ℓ).map fun p => (Sum.inr p.1.1 : Key)) = ((L.rs.zip ℓ).map Prod.fst).map fun r => (Sum.inr r.1 : Key) := by rw [List.map_map]; rfl
    rw [e, List.map_fst_zip (by rw [hl.len]; exact Nat.le_refl _)]
    have e2 : (L.rs.map fun r => (Sum.inr r.1 : Key)) = (L.rs.map (·.1)).map Sum.inr := by rw [List.map_map]; rfl
    rw [e2]
    exact List.pairwise_map.mpr (List.Pairwise.imp (fun h e => h (Sum.inr.inj e)) hok.rd)
  · obtain ⟨p, hp, rfl⟩ := List.mem_map.mp hx
    refine ⟨.str p.1.1, rfl, fun Q' q' => ?_⟩
    refine ⟨rfl, ?_⟩
    simp only [sSeq, sNext, sExpr, sRet, sRetN, sIf, sAsg, sPar, sPar3, sSub, sDPutA, sAug, sAugS, sFor, sWhile, sRaise, sBreak, sCont, aVar, sg, aC, aBin, aBl, aUn, aAnd, aOr, aNot, aAndV, aOrV, aNotV, aIf, aTru, truA, aNil, aCons, aTup, aLst, aFn, aML, aML0, aCall, aCallK, aLc, aDc, aiL, aiT, aiR1, aiR2, r1K, r2K, aiZip, agN, agNil, agCons, agTup, tupOf, x_add, x_addI, x_addS, x_eqI, x_neI, x_lt, x_le, x_gt, x_ge, x_sub, x_neg, x_abs, x_int, x_str, x_lenS, List.set, List.length_cons, List.length_nil, true_and, and_true, wipeA]
    exact w_ix (xs := [.str p.1.1, .str p.1.2.1, .str p.1.2.2]) rfl atI_0 q'
  · rw [List.map_map]
    refine fin_new Ext.new (Nat.le_refl _) lv_self ?_ q
    show (List.all _ _) = true
    rw [List.all_eq_true]
    intro x hx
    obtain ⟨p, _, rfl⟩ := List.mem_map.mp hx
    rfl
theorem need_pos {sp : List Key} (hok : L.Ok) (hl : LensOk L ℓ) (h : SpotOk L sp) : 1 ≤ need L ℓ sp ∧ need L ℓ sp ≤ 99 := by
  rcases h with ⟨v, h⟩ | ⟨n, a, b, h⟩
  · rw [h.eq]; exact ⟨Nat.le_refl _, show 1 ≤ 99 by decide⟩
  · rw [h.eq]
    have hb : 0 < b := by have := h.ab; omega
    show 1 ≤ b / Nat.gcd b (lenR L ℓ n) ∧ b / Nat.gcd b (lenR L ℓ n) ≤ 99
    refine ⟨?_, Nat.le_trans (Nat.div_le_self _ _) h.b99⟩
    exact Nat.div_pos (Nat.le_of_dvd hb (Nat.gcd_dvd_left _ _)) (Nat.gcd_pos_of_pos_left _ hb)
theorem fitSt_pos (hok : L.Ok) (hl : LensOk L ℓ) : ∀ (st : St) (k : Nat), (∀ e ∈ st, SpotOk L e.1) → 0 < k → 0 < fitSt L ℓ st k
  | [], k, _, hk => hk
  | e :: st, k, h, hk => fitSt_pos hok hl st _ (fun e he => h e (List.mem_cons_of_mem _ he)) (Nat.lcm_pos hk (need_pos hok hl (h e List.mem_cons_self)).1)
theorem fitSt_snoc {st : St} {e : List Key × Int} : fitSt L ℓ (st ++ [e]) k = Nat.lcm (fitSt L ℓ st k) (need L ℓ e.1) := by
  unfold fitSt
  rw [List.foldl_append]
  rfl
theorem fitN_snoc {sts : List St} {st : St} : fitN L ℓ (sts ++ [st]) = fitSt L ℓ st (fitN L ℓ sts) := by
  unfold fitN
  rw [List.foldl_append]
  rfl
theorem fitN_pos {sts : List St} (hf : Fits L ℓ sts) : ∀ i, 0 < fitN L ℓ (sts.take i)
  | 0 => by rw [List.take_zero]; exact Nat.one_pos
  | i + 1 => by
    rw [List.take_succ]
    cases e : sts[i]? with
    | none => rw [show (none : Option St).toList = [] from rfl, List.append_nil]; exact fitN_pos hf i
    | some st =>
      show 0 < fitN L ℓ (sts.take i ++ [st])
      rw [fitN_snoc]
      exact fitSt_pos hf.ok hf.lok st _ (hf.sts st (List.mem_of_getElem? e)).spot (fitN_pos hf i)
/-- one spot in fit -/
theorem zip_val {n : Str} {i : Nat} {r : Road} (hok : L.Ok) (hl : LensOk L ℓ) (h1 : L.rs[i]? = some r) (h2 : r.1 = n) (h3 : ℓ[i]? = some (lenR L ℓ n)) :
    valA ((L.rs.zip ℓ).map fun p => ((.inr p.1.1 : Key), A.int (p.2 : Nat))) (.inr n) = some (.int (lenR L ℓ n : Nat)) := by
  refine valA_at (i := i) ?_ ?_
  · rw [List.map_map]
    have e : ((L.rs.zip ℓ).map ((fun x => x.1) ∘ fun p => ((Sum.inr p.1.1 : Key), A.int (p.2 : Nat)))) = (((L.rs.zip ℓ).map Prod.fst).map (·.1)).map Sum.inr := by rw [List.map_map, List.map_map]; rfl
    rw [e, List.map_fst_zip (by rw [hl.len]; exact Nat.le_refl _)]
    exact List.pairwise_map.mpr (List.Pairwise.imp (fun h e => h (Sum.inr.inj e)) hok.rd)
  · rw [List.getElem?_map, show (L.rs.zip ℓ)[i]? = some (r, lenR L ℓ n) from List.getElem?_zip_eq_some.mpr ⟨h1, h3⟩]
    show some (Sum.inr r.1, _) = _
    rw [h2]
theorem fit_ok (h : sp_fit as O Q QE) : rd_fit (EN O Q) (startA N_fit as) O := by
  obtain ⟨L, ℓ, sts, rfl, hf, q⟩ := h
  have hok := hf.ok
  have hl := hf.lok
  show rd_fit _ [some (landA L), some (lensA ℓ), some (.tup (sts.map stateA)), none, none, none, none, none] O
  simp only [rd_fit, sSeq, sNext, sExpr, sRet, sRetN, sIf, sAsg, sPar, sPar3, sSub, sDPutA, sAug, sAugS, sFor, sWhile, sRaise, sBreak, sCont, aVar, sg, aC, aBin, aBl, aUn, aAnd, aOr, aNot, aAndV, aOrV, aNotV, aIf, aTru, truA, aNil, aCons, aTup, aLst, aFn, aML, aML0, aCall, aCallK, aLc, aDc, aiL, aiT, aiR1, aiR2, r1K, r2K, aiZip, agN, agNil, agCons, agTup, tupOf, x_add, x_addI, x_addS, x_eqI, x_neI, x_lt, x_le, x_gt, x_ge, x_sub, x_neg, x_abs, x_int, x_str, x_lenS, List.set, List.length_cons, List.length_nil, true_and, and_true]
  refine ⟨L, ℓ, rfl, hok, hl, ?_⟩
  refine forA_inv (fun i δ O1 => ∃ (c : Nat) (z5 z6 z7 : Option A), δ = [some (landA L), some (lensA ℓ), some (.tup (sts.map stateA)), some (.own O.length), some (.int (c : Int)), z5, z6, z7] ∧ c = fitN L ℓ (sts.take i) ∧ O1 = .dK ((L.rs.zip ℓ).map fun p => ((.inr p.1.1 : Key), A.int (p.2 : Nat))) :: O)
    (fun i x δ O1 Nx hx hI kN => ?_) (fun δ O1 hI => ?_) ⟨1, _, _, _, rfl, rfl, rfl⟩
  · obtain ⟨c, z5, z6, z7, rfl, rfl, rfl⟩ := hI
    refine ⟨trivial, ?_⟩
    rw [List.getElem?_map] at hx
    cases hst : sts[i]? with
    | none => rw [hst] at hx; cases hx
    | some st =>
      rw [hst] at hx
      cases hx
      simp only [sSeq, sNext, sExpr, sRet, sRetN, sIf, sAsg, sPar, sPar3, sSub, sDPutA, sAug, sAugS, sFor, sWhile, sRaise, sBreak, sCont, aVar, sg, aC, aBin, aBl, aUn, aAnd, aOr, aNot, aAndV, aOrV, aNotV, aIf, aTru, truA, aNil, aCons, aTup, aLst, aFn, aML, aML0, aCall, aCallK, aLc, aDc, aiL, aiT, aiR1, aiR2, r1K, r2K, aiZip, agN, agNil, agCons, agTup, tupOf, x_add, x_addI, x_addS, x_eqI, x_neI, x_lt, x_le, x_gt, x_ge, x_sub, x_neg, x_abs, x_int, x_str, x_lenS, List.set, List.length_cons, List.length_nil, true_and, and_true, stateA]
      have hs := hf.sts st (List.mem_of_getElem? hst)
      refine forA_inv (fun j δ O1 => ∃ (c : Nat) (z6 z7 : Option A), δ = [some (landA L), some (lensA ℓ), some (.tup (sts.map stateA)), some (.own O.length), some (.int (c : Int)), some (.tupk (st.map pairA)), z6, z7] ∧ c = fitSt L ℓ (st.take j) (fitN L ℓ (sts.take i)) ∧ O1 = .dK ((L.rs.zip ℓ).map fun p => ((.inr p.1.1 : Key), A.int (p.2 : Nat))) :: O)
        (fun j x δ O1 Nx2 hx hI kN2 => ?_) (fun δ O1 hI => ?_) ⟨_, _, _, rfl, rfl, rfl⟩
      · obtain ⟨c, z6, z7, rfl, rfl, rfl⟩ := hI
        refine ⟨trivial, ?_⟩
        rw [List.getElem?_map] at hx
        cases hse : st[j]? with
        | none => rw [hse] at hx; cases hx
        | some e =>
          rw [hse] at hx
          cases hx
          have he := hs.spot e (List.mem_of_getElem? hse)
          have hk0 : 0 < fitSt L ℓ (st.take j) (fitN L ℓ (sts.take i)) := fitSt_pos hok hl _ _ (fun e he => hs.spot e (List.mem_of_mem_take he)) (fitN_pos hf i)
          have step : fitSt L ℓ (st.take (j + 1)) (fitN L ℓ (sts.take i)) = Nat.lcm (fitSt L ℓ (st.take j) (fitN L ℓ (sts.take i))) (need L ℓ e.1) := by
            rw [List.take_succ, hse]
            exact fitSt_snoc
          refine ⟨rfl, ?_⟩
          simp only [sSeq, sNext, sExpr, sRet, sRetN, sIf, sAsg, sPar, sPar3, sSub, sDPutA, sAug, sAugS, sFor, sWhile, sRaise, sBreak, sCont, aVar, sg, aC, aBin, aBl, aUn, aAnd, aOr, aNot, aAndV, aOrV, aNotV, aIf, aTru, truA, aNil, aCons, aTup, aLst, aFn, aML, aML0, aCall, aCallK, aLc, aDc, aiL, aiT, aiR1, aiR2, r1K, r2K, aiZip, agN, agNil, agCons, agTup, tupOf, x_add, x_addI, x_addS, x_eqI, x_neI, x_lt, x_le, x_gt, x_ge, x_sub, x_neg, x_abs, x_int, x_str, x_lenS, List.set, List.length_cons, List.length_nil, true_and, and_true]
          rcases he with ⟨v, hv⟩ | ⟨n, a, b, hb⟩
          · rw [hv.eq]
            refine w_len (xs := [.str v]) rfl ?_
            refine kN2 _ _ ⟨_, _, _, rfl, ?_, rfl⟩
            rw [step, hv.eq]
            show _ = Nat.lcm _ 1
            rw [Nat.lcm_one_right]
          · rw [hb.eq]
            refine w_len (xs := [.str n, .int (a : Int), .int (b : Int)]) rfl ?_
            obtain ⟨ir, r, h1, h2, h3, h4, h5, h6, h7⟩ := len_of_mem hok hl hb.mem
            have b0 : 0 < b := by have := hb.ab; omega
            have e3 : decide ((([A.str n, A.int (a : Int), A.int (b : Int)].length : Nat) : Int) = 3) = true := rfl
            simp only [sSeq, sNext, sExpr, sRet, sRetN, sIf, sAsg, sPar, sPar3, sSub, sDPutA, sAug, sAugS, sFor, sWhile, sRaise, sBreak, sCont, aVar, sg, aC, aBin, aBl, aUn, aAnd, aOr, aNot, aAndV, aOrV, aNotV, aIf, aTru, truA, aNil, aCons, aTup, aLst, aFn, aML, aML0, aCall, aCallK, aLc, aDc, aiL, aiT, aiR1, aiR2, r1K, r2K, aiZip, agN, agNil, agCons, agTup, tupOf, x_add, x_addI, x_addS, x_eqI, x_neI, x_lt, x_le, x_gt, x_ge, x_sub, x_neg, x_abs, x_int, x_str, x_lenS, List.set, List.length_cons, List.length_nil, true_and, and_true, e3]
            refine w_ix (xs := [.str n, .int (a : Int), .int (b : Int)]) rfl atI_2 (w_ix (xs := [.str n, .int (a : Int), .int (b : Int)]) rfl atI_2 (w_ix (xs := [.str n, .int (a : Int), .int (b : Int)]) rfl atI_0 ?_))
            refine w_dix lv_self rfl (zip_val hok hl h3 h4 h5) ?_
            refine ⟨b, lenR L ℓ n, rfl, ?_⟩
            refine w_fdiv b _ (Nat.gcd_pos_of_pos_left _ b0) (Nat.lt_of_le_of_lt (Nat.le_of_dvd b0 (Nat.gcd_dvd_left _ _)) (by have := hb.b99; omega)) ?_
            have np := need_pos hok hl (.inr ⟨n, a, b, hb⟩)
            have nb : need L ℓ e.1 = b / Nat.gcd b (lenR L ℓ n) := by rw [hb.eq]; rfl
            rw [nb] at np
            refine ⟨_, _, rfl, hk0, np.1, by omega, ?_⟩
            refine kN2 _ _ ⟨_, _, _, rfl, ?_, rfl⟩
            rw [step, nb]
      · obtain ⟨c, z6, z7, rfl, rfl, rfl⟩ := hI
        refine ⟨trivial, kN _ _ ⟨_, _, _, _, rfl, ?_, rfl⟩⟩
        rw [List.length_map, List.take_of_length_le (Nat.le_refl _), List.take_succ, hst]
        show _ = fitN L ℓ (sts.take i ++ [st])
        rw [fitN_snoc]
  · obtain ⟨c, z5, z6, z7, rfl, rfl, rfl⟩ := hI
    refine ⟨trivial, ?_⟩
    show fin O Q (.int (fitN L ℓ (sts.take (sts.map stateA).length) : Nat)) _
    rw [List.length_map, List.take_of_length_le (Nat.le_refl _)]
    exact fin_data Ext.new rfl q
end
end K82

set_option Elab.async false
set_option linter.all false
set_option maxRecDepth 100000
set_option maxHeartbeats 4000000
/-! The law's fit, starts_of, draws. -/
namespace K82
open PySem PySem.Spec L2 PyA
section
variable {as : List A} {O : Own} {Q : AK} {QE : Value → Own → Prop} {L : Land} {ℓ : List Nat} {k : Nat}
theorem names_map : (L.rs.map rdA).map (fun x => match x with | .tup (y :: _) => y | _ => .non) = (L.rs.map (·.1)).map A.str := by
  rw [List.map_map, List.map_map]
  rfl
theorem law_fit_ok (h : sp_law_fit as O Q QE) : rd_law_fit (EN O Q) (startA N_law_fit as) O := by
  obtain ⟨L, ℓ, sts, rfl, hf, q⟩ := h
  have hok := hf.ok
  have hl := hf.lok
  show rd_law_fit _ [some (landA L), some (lensA ℓ), some (.tup (sts.map stateA)), none, none, none, none, none, none, none] O
  simp only [rd_law_fit, sSeq, sNext, sExpr, sRet, sRetN, sIf, sAsg, sPar, sPar3, sSub, sDPutA, sAug, sAugS, sFor, sWhile, sRaise, sBreak, sCont, aVar, sg, aC, aBin, aBl, aUn, aAnd, aOr, aNot, aAndV, aOrV, aNotV, aIf, aTru, truA, aNil, aCons, aTup, aLst, aFn, aML, aML0, aCall, aCallK, aLc, aDc, aiL, aiT, aiR1, aiR2, r1K, r2K, aiZip, agN, agNil, agCons, agTup, tupOf, x_add, x_addI, x_addS, x_eqI, x_neI, x_lt, x_le, x_gt, x_ge, x_sub, x_neg, x_abs, x_int, x_str, x_lenS, List.set, List.length_cons, List.length_nil, true_and, and_true, landA]
  refine w_ix rfl landA_ix1 ?_
  refine compA_map (fun x => match x with | .tup (y :: _) => y | _ => .non) trivial (by rw [List.length_map]; exact size5 hok.r5) (fun x hx Q' q' => ?_) ?_
  · obtain ⟨r, hr, rfl⟩ := List.mem_map.mp hx
    simp only [sSeq, sNext, sExpr, sRet, sRetN, sIf, sAsg, sPar, sPar3, sSub, sDPutA, sAug, sAugS, sFor, sWhile, sRaise, sBreak, sCont, aVar, sg, aC, aBin, aBl, aUn, aAnd, aOr, aNot, aAndV, aOrV, aNotV, aIf, aTru, truA, aNil, aCons, aTup, aLst, aFn, aML, aML0, aCall, aCallK, aLc, aDc, aiL, aiT, aiR1, aiR2, r1K, r2K, aiZip, agN, agNil, agCons, agTup, tupOf, x_add, x_addI, x_addS, x_eqI, x_neI, x_lt, x_le, x_gt, x_ge, x_sub, x_neg, x_abs, x_int, x_str, x_lenS, List.set, List.length_cons, List.length_nil, true_and, and_true, wipeA]
    exact w_ix (xs := [.str r.1, .str r.2.1, .str r.2.2]) rfl atI_0 q'
  rw [names_map]
  refine forA_inv (fun i δ O1 => ∃ (c : Nat) (z5 z6 z7 z8 z9 : Option A), δ = [some (landA L), some (lensA ℓ), some (.tup (sts.map stateA)), some (.own O.length), some (.int (c : Int)), z5, z6, z7, z8, z9] ∧ c = fitN L ℓ (sts.take i) ∧ O1 = .lst ((L.rs.map (·.1)).map A.str) :: O)
    (fun i x δ O1 Nx hx hI kN => ?_) (fun δ O1 hI => ?_) ⟨1, _, _, _, _, _, rfl, rfl, rfl⟩
  · obtain ⟨c, z5, z6, z7, z8, z9, rfl, rfl, rfl⟩ := hI
    refine ⟨trivial, ?_⟩
    rw [List.getElem?_map] at hx
    cases hst : sts[i]? with
    | none => rw [hst] at hx; cases hx
    | some st =>
      rw [hst] at hx
      cases hx
      simp only [sSeq, sNext, sExpr, sRet, sRetN, sIf, sAsg, sPar, sPar3, sSub, sDPutA, sAug, sAugS, sFor, sWhile, sRaise, sBreak, sCont, aVar, sg, aC, aBin, aBl, aUn, aAnd, aOr, aNot, aAndV, aOrV, aNotV, aIf, aTru, truA, aNil, aCons, aTup, aLst, aFn, aML, aML0, aCall, aCallK, aLc, aDc, aiL, aiT, aiR1, aiR2, r1K, r2K, aiZip, agN, agNil, agCons, agTup, tupOf, x_add, x_addI, x_addS, x_eqI, x_neI, x_lt, x_le, x_gt, x_ge, x_sub, x_neg, x_abs, x_int, x_str, x_lenS, List.set, List.length_cons, List.length_nil, true_and, and_true, stateA]
      have hs := hf.sts st (List.mem_of_getElem? hst)
      refine forA_inv (fun j δ O1 => ∃ (c : Nat) (z7 z8 z9 : Option A), δ = [some (landA L), some (lensA ℓ), some (.tup (sts.map stateA)), some (.own O.length), some (.int (c : Int)), z5, some (.tupk (st.map pairA)), z7, z8, z9] ∧ c = fitSt L ℓ (st.take j) (fitN L ℓ (sts.take i)) ∧ O1 = .lst ((L.rs.map (·.1)).map A.str) :: O)
        (fun j x δ O1 Nx2 hx hI kN2 => ?_) (fun δ O1 hI => ?_) ⟨_, _, _, _, rfl, rfl, rfl⟩
      · obtain ⟨c, z7, z8, z9, rfl, rfl, rfl⟩ := hI
        refine ⟨trivial, ?_⟩
        rw [List.getElem?_map] at hx
        cases hse : st[j]? with
        | none => rw [hse] at hx; cases hx
        | some e =>
          rw [hse] at hx
          cases hx
          have he := hs.spot e (List.mem_of_getElem? hse)
          have hk0 : 0 < fitSt L ℓ (st.take j) (fitN L ℓ (sts.take i)) := fitSt_pos hok hl _ _ (fun e he => hs.spot e (List.mem_of_mem_take he)) (fitN_pos hf i)
          have step : fitSt L ℓ (st.take (j + 1)) (fitN L ℓ (sts.take i)) = Nat.lcm (fitSt L ℓ (st.take j) (fitN L ℓ (sts.take i))) (need L ℓ e.1) := by
            rw [List.take_succ, hse]
            exact fitSt_snoc
          refine ⟨rfl, ?_⟩
          simp only [sSeq, sNext, sExpr, sRet, sRetN, sIf, sAsg, sPar, sPar3, sSub, sDPutA, sAug, sAugS, sFor, sWhile, sRaise, sBreak, sCont, aVar, sg, aC, aBin, aBl, aUn, aAnd, aOr, aNot, aAndV, aOrV, aNotV, aIf, aTru, truA, aNil, aCons, aTup, aLst, aFn, aML, aML0, aCall, aCallK, aLc, aDc, aiL, aiT, aiR1, aiR2, r1K, r2K, aiZip, agN, agNil, agCons, agTup, tupOf, x_add, x_addI, x_addS, x_eqI, x_neI, x_lt, x_le, x_gt, x_ge, x_sub, x_neg, x_abs, x_int, x_str, x_lenS, List.set, List.length_cons, List.length_nil, true_and, and_true]
          rcases he with ⟨v, hv⟩ | ⟨n, a, b, hb⟩
          · rw [hv.eq]
            refine w_len (xs := [.str v]) rfl ?_
            refine kN2 _ _ ⟨_, _, _, _, rfl, ?_, rfl⟩
            rw [step, hv.eq]
            show _ = Nat.lcm _ 1
            rw [Nat.lcm_one_right]
          · rw [hb.eq]
            refine w_len (xs := [.str n, .int (a : Int), .int (b : Int)]) rfl ?_
            obtain ⟨ir, r, h1, h2, h3, h4, h5, h6, h7⟩ := len_of_mem hok hl hb.mem
            have b0 : 0 < b := by have := hb.ab; omega
            have e3 : decide ((([A.str n, A.int (a : Int), A.int (b : Int)].length : Nat) : Int) = 3) = true := rfl
            simp only [sSeq, sNext, sExpr, sRet, sRetN, sIf, sAsg, sPar, sPar3, sSub, sDPutA, sAug, sAugS, sFor, sWhile, sRaise, sBreak, sCont, aVar, sg, aC, aBin, aBl, aUn, aAnd, aOr, aNot, aAndV, aOrV, aNotV, aIf, aTru, truA, aNil, aCons, aTup, aLst, aFn, aML, aML0, aCall, aCallK, aLc, aDc, aiL, aiT, aiR1, aiR2, r1K, r2K, aiZip, agN, agNil, agCons, agTup, tupOf, x_add, x_addI, x_addS, x_eqI, x_neI, x_lt, x_le, x_gt, x_ge, x_sub, x_neg, x_abs, x_int, x_str, x_lenS, List.set, List.length_cons, List.length_nil, true_and, and_true, e3]
            refine w_ix (xs := [.str n, .int (a : Int), .int (b : Int)]) rfl atI_2 (w_ix (xs := [.str n, .int (a : Int), .int (b : Int)]) rfl atI_2 ?_)
            refine ⟨w_isLst lv_self, ?_⟩
            refine w_ix (xs := [.str n, .int (a : Int), .int (b : Int)]) rfl atI_0 ?_
            refine w_index lv_self h2 ?_
            refine w_ixN (xs := nI ℓ) rfl (nI_get h5) ?_
            refine ⟨b, lenR L ℓ n, rfl, by omega, ?_⟩
            refine w_fdiv b _ (Nat.gcd_pos_of_pos_left _ b0) (Nat.lt_of_le_of_lt (Nat.le_of_dvd b0 (Nat.gcd_dvd_left _ _)) (by have := hb.b99; omega)) ?_
            have np := need_pos hok hl (.inr ⟨n, a, b, hb⟩)
            have nb : need L ℓ e.1 = b / Nat.gcd b (lenR L ℓ n) := by rw [hb.eq]; rfl
            rw [nb] at np
            generalize hne : b / Nat.gcd b (lenR L ℓ n) = ne at np nb
            have g0 : 0 < Nat.gcd (fitSt L ℓ (st.take j) (fitN L ℓ (sts.take i))) ne := Nat.gcd_pos_of_pos_left _ hk0
            refine w_mul _ _ (.inr (by omega)) ⟨_, _, rfl, by omega, ?_⟩
            refine w_fdiv _ _ g0 (Nat.lt_of_le_of_lt (Nat.le_of_dvd (by omega) (Nat.gcd_dvd_right _ _)) (by omega)) ?_
            refine kN2 _ _ ⟨_, _, _, _, rfl, ?_, rfl⟩
            rw [step, nb]
            rfl
      · obtain ⟨c, z7, z8, z9, rfl, rfl, rfl⟩ := hI
        refine ⟨trivial, kN _ _ ⟨_, _, _, _, _, _, rfl, ?_, rfl⟩⟩
        rw [List.length_map, List.take_of_length_le (Nat.le_refl _), List.take_succ, hst]
        show _ = fitN L ℓ (sts.take i ++ [st])
        rw [fitN_snoc]
  · obtain ⟨c, z5, z6, z7, z8, z9, rfl, rfl, rfl⟩ := hI
    refine ⟨trivial, ?_⟩
    show fin O Q (.int (fitN L ℓ (sts.take (sts.map stateA).length) : Nat)) _
    rw [List.length_map, List.take_of_length_le (Nat.le_refl _)]
    exact fin_data Ext.new rfl q
theorem startsN_len {v : Nat} : ∀ ls : List Nat, (startsN v k ls).length = ls.length + 1
  | [] => rfl
  | l :: ls => by
    show (startsN (v + (l * k - 1)) k ls).length + 1 = _
    rw [startsN_len ls]
    rfl
/-- the starts so far, the next one -/
theorem startsN_split : ∀ (ls : List Nat) (v i : Nat), i ≤ ls.length → ∃ n, (startsN v k ls)[i]? = some n ∧ n = v + ((ls.take i).map fun l => l * k - 1).sum
  | ls, v, 0, _ => ⟨v, by cases ls <;> rfl, by simp⟩
  | [], v, i + 1, h => by simp at h
  | l :: ls, v, i + 1, h => by
    obtain ⟨n, h1, h2⟩ := startsN_split ls (v + (l * k - 1)) i (by simpa using h)
    refine ⟨n, by simpa [startsN] using h1, ?_⟩
    rw [h2, List.take_succ_cons, List.map_cons, List.sum_cons]
    omega
theorem starts_take : ∀ (ls : List Nat) (v i : Nat) (n : Nat), (startsN v k ls)[i]? = some n → (startsN v k ls).take (i + 1) = (startsN v k ls).take i ++ [n] := by
  intro ls v i n h
  rw [List.take_succ, h]
  rfl
theorem starts_of_ok (h : sp_starts_of as O Q QE) : rd_starts_of (EN O Q) (startA N_starts_of as) O := by
  obtain ⟨L, ℓ, k, rfl, hA, q⟩ := h
  have hok := hA.ok
  have hl := hA.lok
  have hk1 := hA.k1
  show rd_starts_of _ [some (landA L), some (lensA ℓ), some (.int k), none, none, none] O
  simp only [rd_starts_of, sSeq, sNext, sExpr, sRet, sRetN, sIf, sAsg, sPar, sPar3, sSub, sDPutA, sAug, sAugS, sFor, sWhile, sRaise, sBreak, sCont, aVar, sg, aC, aBin, aBl, aUn, aAnd, aOr, aNot, aAndV, aOrV, aNotV, aIf, aTru, truA, aNil, aCons, aTup, aLst, aFn, aML, aML0, aCall, aCallK, aLc, aDc, aiL, aiT, aiR1, aiR2, r1K, r2K, aiZip, agN, agNil, agCons, agTup, tupOf, x_add, x_addI, x_addS, x_eqI, x_neI, x_lt, x_le, x_gt, x_ge, x_sub, x_neg, x_abs, x_int, x_str, x_lenS, List.set, List.length_cons, List.length_nil, true_and, and_true, landA, lensA]
  refine ⟨Nat.zero_le _, w_ix rfl landA_ix0 (w_len rfl ?_)⟩
  rw [List.length_map]
  refine forA_inv (fun i δ O1 => ∃ (c : Nat) (z5 : Option A) (ss : List Nat), δ = [some (landA L), some (lensA ℓ), some (.int k), some (.own O.length), some (.int (c : Int)), z5] ∧ (startsN L.vs.length k ℓ)[i]? = some c ∧ ss = (startsN L.vs.length k ℓ).take i ∧ O1 = .lst (nI ss) :: O)
    (fun i x δ O1 Nx hx hI kN => ?_) (fun δ O1 hI => ?_) ⟨_, _, _, rfl, by cases ℓ <;> rfl, rfl, rfl⟩
  · obtain ⟨c, z5, ss, rfl, hc, rfl, rfl⟩ := hI
    refine ⟨trivial, ?_⟩
    unfold nI at hx
    rw [List.getElem?_map] at hx
    cases hli : ℓ[i]? with
    | none => rw [hli] at hx; cases hx
    | some l =>
      rw [hli] at hx
      cases hx
      have hil : i < ℓ.length := (List.getElem?_eq_some_iff.mp hli).1
      have l1 := hl.one l (List.mem_of_getElem? hli)
      simp only [sSeq, sNext, sExpr, sRet, sRetN, sIf, sAsg, sPar, sPar3, sSub, sDPutA, sAug, sAugS, sFor, sWhile, sRaise, sBreak, sCont, aVar, sg, aC, aBin, aBl, aUn, aAnd, aOr, aNot, aAndV, aOrV, aNotV, aIf, aTru, truA, aNil, aCons, aTup, aLst, aFn, aML, aML0, aCall, aCallK, aLc, aDc, aiL, aiT, aiR1, aiR2, r1K, r2K, aiZip, agN, agNil, agCons, agTup, tupOf, x_add, x_addI, x_addS, x_eqI, x_neI, x_lt, x_le, x_gt, x_ge, x_sub, x_neg, x_abs, x_int, x_str, x_lenS, List.set, List.length_cons, List.length_nil, true_and, and_true]
      refine ⟨w_isLst lv_self, w_append lv_self ?_ ?_⟩
      · rw [nI_len, List.length_take, sizeLine_eq]
        have := lens_small hok hl
        omega
      refine w_mul l k (.inl (by have := hl.nin l (List.mem_of_getElem? hli); omega)) ?_
      simp only [sSeq, sNext, sExpr, sRet, sRetN, sIf, sAsg, sPar, sPar3, sSub, sDPutA, sAug, sAugS, sFor, sWhile, sRaise, sBreak, sCont, aVar, sg, aC, aBin, aBl, aUn, aAnd, aOr, aNot, aAndV, aOrV, aNotV, aIf, aTru, truA, aNil, aCons, aTup, aLst, aFn, aML, aML0, aCall, aCallK, aLc, aDc, aiL, aiT, aiR1, aiR2, r1K, r2K, aiZip, agN, agNil, agCons, agTup, tupOf, x_add, x_addI, x_addS, x_eqI, x_neI, x_lt, x_le, x_gt, x_ge, x_sub, x_neg, x_abs, x_int, x_str, x_lenS, List.set, List.length_cons, List.length_nil, true_and, and_true]
      obtain ⟨n1, e1, e2⟩ := startsN_split (k := k) ℓ L.vs.length i (by omega)
      obtain ⟨n2, e3, e4⟩ := startsN_split (k := k) ℓ L.vs.length (i + 1) hil
      rw [hc] at e1
      cases e1
      have lk : 1 ≤ l * k := Nat.mul_pos l1 hk1
      have en : (c : Int) + (((l * k : Nat) : Int) - 1) = ((n2 : Nat) : Int) := by
        rw [e4, List.take_succ, hli, List.map_append, List.sum_append]
        show _ = ((L.vs.length + (_ + ([l * k - 1] : List Nat).sum) : Nat) : Int)
        rw [List.sum_singleton, e2]
        omega
      rw [en]
      refine kN _ _ ⟨n2, _, _, rfl, e3, rfl, ?_⟩
      rw [starts_take _ _ _ _ hc]
      show lput (AO.lst (nI _) :: O) O.length _ = _
      unfold lput
      rw [if_pos rfl]
      unfold nI
      rw [List.map_append]
      rfl
  · obtain ⟨c, z5, ss, rfl, hc, rfl, rfl⟩ := hI
    refine ⟨trivial, ?_⟩
    rw [nI_len] at hc ⊢
    simp only [sSeq, sNext, sExpr, sRet, sRetN, sIf, sAsg, sPar, sPar3, sSub, sDPutA, sAug, sAugS, sFor, sWhile, sRaise, sBreak, sCont, aVar, sg, aC, aBin, aBl, aUn, aAnd, aOr, aNot, aAndV, aOrV, aNotV, aIf, aTru, truA, aNil, aCons, aTup, aLst, aFn, aML, aML0, aCall, aCallK, aLc, aDc, aiL, aiT, aiR1, aiR2, r1K, r2K, aiZip, agN, agNil, agCons, agTup, tupOf, x_add, x_addI, x_addS, x_eqI, x_neI, x_lt, x_le, x_gt, x_ge, x_sub, x_neg, x_abs, x_int, x_str, x_lenS, List.set, List.length_cons, List.length_nil, true_and, and_true]
    refine ⟨by rw [sizeLine_eq]; decide, ?_⟩
    refine w_addL (lv_old (by rw [List.length_cons]; omega) |>.trans lv_self) lv_self ?_ ?_
    · rw [nI_len, List.length_take, sizeLine_eq]
      have := lens_small hok hl
      simp only [List.length_cons, List.length_nil]
      omega
    have e : nI ((startsN L.vs.length k ℓ).take ℓ.length) ++ [A.int (c : Int)] = nI (startsN L.vs.length k ℓ) := by
      have := starts_take _ _ _ _ hc
      rw [List.take_of_length_le (by rw [startsN_len]; exact Nat.le_refl _)] at this
      rw [this]
      unfold nI
      rw [List.map_append, List.take_append_of_le_length (by rw [List.length_take, startsN_len]; omega), List.take_take, Nat.min_self]
      rfl
    rw [e]
    exact fin_new Ext.new.cons.cons (by simp only [List.length_cons]; omega) lv_self ltAs_nI q
end
end K82

set_option Elab.async false
set_option linter.all false
set_option maxRecDepth 100000
set_option maxHeartbeats 4000000
/-! Draws of some, lengths, is_far, same. -/
namespace K82
open PySem PySem.Spec L2 PyA
section
variable {as : List A} {O : Own} {Q : AK} {QE : Value → Own → Prop} {L : Land} {ℓ : List Nat} {k : Nat}
theorem perm_pick {α : Type} {made left xs : List α} {r : Nat} {y : α} (h : (made ++ left).Perm xs) (g : left[r]? = some y) : (made ++ [y] ++ left.eraseIdx r).Perm xs := by
  refine List.Perm.trans ?_ h
  rw [List.append_assoc]
  refine List.Perm.append_left made ?_
  exact eraseIdx_perm g
theorem law_some_ok {bg : Addr} (h : sp_law_some bg as O Q QE) : rd_law_some bg (EN O Q) (startA N_law_some as) O := by
  obtain ⟨s, xs, m, rfl, h1, hm, hz, hlt, q⟩ := h
  show rd_law_some bg _ [some _, some s, some (.int m), none, none, none] O
  simp only [rd_law_some, sSeq, sNext, sExpr, sRet, sRetN, sIf, sAsg, sPar, sPar3, sSub, sDPutA, sAug, sAugS, sFor, sWhile, sRaise, sBreak, sCont, aVar, sg, aC, aBin, aBl, aUn, aAnd, aOr, aNot, aAndV, aOrV, aNotV, aIf, aTru, truA, aNil, aCons, aTup, aLst, aFn, aML, aML0, aCall, aCallK, aLc, aDc, aiL, aiT, aiR1, aiR2, r1K, r2K, aiZip, agN, agNil, agCons, agTup, tupOf, x_add, x_addI, x_addS, x_eqI, x_neI, x_lt, x_le, x_gt, x_ge, x_sub, x_neg, x_abs, x_int, x_str, x_lenS, List.set, List.length_cons, List.length_nil, true_and, and_true]
  refine w_list h1 ⟨Nat.zero_le _, ⟨by omega, by omega, ?_⟩⟩
  refine forA_inv (fun i δ O1 => ∃ (z : Option A) (made left : List A), δ = [some (.raw (.ref bg)), some s, some (.int m), some (.own O.length), some (.own (O.length + 1)), z] ∧ (made ++ left).Perm xs ∧ made.length = i ∧ O1 = .lst made :: .lst left :: O)
    (fun i x δ O1 Nx hx hI kN => ?_) (fun δ O1 hI => ?_) ⟨_, [], xs, rfl, List.Perm.refl _, rfl, rfl⟩
  · obtain ⟨z, made, left, rfl, hp, hi, rfl⟩ := hI
    obtain ⟨him, rfl⟩ := rangeA_at hx
    refine ⟨trivial, ?_⟩
    simp only [sSeq, sNext, sExpr, sRet, sRetN, sIf, sAsg, sPar, sPar3, sSub, sDPutA, sAug, sAugS, sFor, sWhile, sRaise, sBreak, sCont, aVar, sg, aC, aBin, aBl, aUn, aAnd, aOr, aNot, aAndV, aOrV, aNotV, aIf, aTru, truA, aNil, aCons, aTup, aLst, aFn, aML, aML0, aCall, aCallK, aLc, aDc, aiL, aiT, aiR1, aiR2, r1K, r2K, aiZip, agN, agNil, agCons, agTup, tupOf, x_add, x_addI, x_addS, x_eqI, x_neI, x_lt, x_le, x_gt, x_ge, x_sub, x_neg, x_abs, x_int, x_str, x_lenS, List.set, List.length_cons, List.length_nil, true_and, and_true]
    have hlen := hp.length_eq
    rw [List.length_append] at hlen
    have him2 : i < m := by omega
    have e0 : lv (AO.lst made :: AO.lst left :: O) O.length = some (.lst left) := lv_cons_of lv_self
    have e1 : lv (AO.lst made :: AO.lst left :: O) (O.length + 1) = some (.lst made) := lv_self
    refine ⟨w_isLst e1, w_isLst e0, ?_⟩
    refine w_len (seq_own e0) ⟨left.length, rfl, by omega, by omega, fun r hr => ?_⟩
    refine w_popAt e0 (by omega) (List.getElem?_eq_getElem hr) ?_
    have e2 : lput (AO.lst made :: AO.lst left :: O) O.length (AO.lst (left.eraseIdx r)) = AO.lst made :: AO.lst (left.eraseIdx r) :: O := by
      rw [lput_old (by rw [List.length_cons]; omega), lput_self rfl]
    rw [e2]
    refine w_append (xs := made) lv_self (by rw [sizeLine_eq]; omega) ?_
    refine kN _ _ ⟨_, made ++ [left[r]], left.eraseIdx r, rfl, perm_pick hp (List.getElem?_eq_getElem hr), by rw [List.length_append, hi]; rfl, ?_⟩
    exact lput_self rfl
  · obtain ⟨z, made, left, rfl, hp, hi, rfl⟩ := hI
    refine ⟨trivial, ?_⟩
    rw [rangeA_len] at hi
    have hi2 : made.length = m := by omega
    show fin O Q (.own (O.length + 1)) (AO.lst made :: AO.lst left :: O)
    refine fin_new Ext.new.cons (by omega) lv_self ?_ (q made hi2 ⟨left, hp⟩)
    exact ltAs_all fun x hx => ltAs_mem hlt x (hp.mem_iff.mp (List.mem_append_left _ hx))
theorem law_lengths_ok {bg : Addr} (h : sp_law_lengths bg as O Q QE) : rd_law_lengths bg (EN O Q) (startA N_law_lengths as) O := by
  obtain ⟨L, m, rfl, hok, m1, m9, q⟩ := h
  show rd_law_lengths bg _ [some _, some (landA L), some (.int m), none] O
  simp only [rd_law_lengths, sSeq, sNext, sExpr, sRet, sRetN, sIf, sAsg, sPar, sPar3, sSub, sDPutA, sAug, sAugS, sFor, sWhile, sRaise, sBreak, sCont, aVar, sg, aC, aBin, aBl, aUn, aAnd, aOr, aNot, aAndV, aOrV, aNotV, aIf, aTru, truA, aNil, aCons, aTup, aLst, aFn, aML, aML0, aCall, aCallK, aLc, aDc, aiL, aiT, aiR1, aiR2, r1K, r2K, aiZip, agN, agNil, agCons, agTup, tupOf, x_add, x_addI, x_addS, x_eqI, x_neI, x_lt, x_le, x_gt, x_ge, x_sub, x_neg, x_abs, x_int, x_str, x_lenS, List.set, List.length_cons, List.length_nil, true_and, and_true, landA]
  refine w_ix rfl landA_ix1 ?_
  refine compA_inv (fun i acc O1 => ∃ ℓ : List Nat, acc = nI ℓ ∧ ℓ.length = i ∧ (∀ n ∈ ℓ, 1 ≤ n ∧ n ≤ 9) ∧ O1 = O) (fun i x acc O1 Nx hx hI kN => ?_) (fun acc O1 hI => ?_) ⟨[], rfl, rfl, fun _ h => absurd h List.not_mem_nil, rfl⟩
  · obtain ⟨ℓ, rfl, hi, hb, rfl⟩ := hI
    refine ⟨trivial, ?_⟩
    have hil : i < L.rs.length := by have := (List.getElem?_eq_some_iff.mp hx).1; rwa [List.length_map] at this
    simp only [sSeq, sNext, sExpr, sRet, sRetN, sIf, sAsg, sPar, sPar3, sSub, sDPutA, sAug, sAugS, sFor, sWhile, sRaise, sBreak, sCont, aVar, sg, aC, aBin, aBl, aUn, aAnd, aOr, aNot, aAndV, aOrV, aNotV, aIf, aTru, truA, aNil, aCons, aTup, aLst, aFn, aML, aML0, aCall, aCallK, aLc, aDc, aiL, aiT, aiR1, aiR2, r1K, r2K, aiZip, agN, agNil, agCons, agTup, tupOf, x_add, x_addI, x_addS, x_eqI, x_neI, x_lt, x_le, x_gt, x_ge, x_sub, x_neg, x_abs, x_int, x_str, x_lenS, List.set, List.length_cons, List.length_nil, true_and, and_true, wipeA, aYes]
    refine ⟨m, rfl, by omega, by omega, fun r hr => ⟨?_, ?_⟩⟩
    · rw [nI_len, hi, sizeLine_eq]
      have := hok.r5
      omega
    · refine kN _ _ ⟨ℓ ++ [r + 1], ?_, by rw [List.length_append, hi]; rfl, fun n hn => ?_, rfl⟩
      · unfold nI
        rw [List.map_append]
        show _ = _ ++ [A.int ((r + 1 : Nat) : Int)]
        rw [Int.natCast_add, Int.add_comm]
        rfl
      · rcases List.mem_append.mp hn with hn | hn
        · exact hb n hn
        · rw [List.mem_singleton.mp hn]; omega
  · obtain ⟨ℓ, rfl, hi, hb, rfl⟩ := hI
    rw [List.length_map] at hi
    refine ⟨trivial, w_tuple lv_self ?_⟩
    exact fin_data Ext.new ltAs_nI (q ℓ ⟨hi, fun n hn => (hb n hn).1, fun n hn => (hb n hn).2⟩)
theorem sum_mul (k : Nat) : ∀ ls : List Nat, (ls.map (· * k)).sum = ls.sum * k
  | [] => by simp
  | l :: ls => by rw [List.map_cons, List.sum_cons, List.sum_cons, sum_mul k ls, Nat.add_mul]
theorem len_le_sum : ∀ {ls : List Nat}, (∀ n ∈ ls, 1 ≤ n) → ls.length ≤ ls.sum
  | [], _ => Nat.zero_le _
  | l :: ls, h => by
    rw [List.length_cons, List.sum_cons]
    have := len_le_sum (fun n hn => h n (List.mem_cons_of_mem _ hn))
    have := h l List.mem_cons_self
    omega
theorem sum_le : ∀ {ls : List Nat} {m : Nat}, (∀ n ∈ ls, n ≤ m) → ls.sum ≤ ls.length * m
  | [], _, _ => by simp
  | l :: ls, m, h => by
    rw [List.length_cons, List.sum_cons, Nat.add_mul]
    have := sum_le (fun n hn => h n (List.mem_cons_of_mem _ hn))
    have := h l List.mem_cons_self
    omega
theorem total_le (hA : Ask L ℓ k) : total ℓ k ≤ 4455 ∧ ℓ.length ≤ total ℓ k ∧ ℓ.sum ≤ 45 := by
  unfold total
  rw [sum_mul]
  have h1 := sum_le hA.lok.nin
  have h2 := lens_small hA.ok hA.lok
  have h3 := len_le_sum hA.lok.one
  have h4 := hA.k99
  have h5 := hA.k1
  have h6 : ℓ.sum ≤ 45 := by omega
  refine ⟨Nat.le_trans (Nat.mul_le_mul h6 h4) (by decide), Nat.le_trans h3 ?_, h6⟩
  exact Nat.le_mul_of_pos_right _ h5
theorem law_is_far_ok (h : sp_law_is_far as O Q QE) : rd_law_is_far (EN O Q) (startA N_law_is_far as) O := by
  obtain ⟨L, ℓ, k, rfl, hA, q⟩ := h
  obtain ⟨t1, t2, t3⟩ := total_le hA
  show rd_law_is_far _ [some (landA L), some (lensA ℓ), some (.int k), none] O
  simp only [rd_law_is_far, sSeq, sNext, sExpr, sRet, sRetN, sIf, sAsg, sPar, sPar3, sSub, sDPutA, sAug, sAugS, sFor, sWhile, sRaise, sBreak, sCont, aVar, sg, aC, aBin, aBl, aUn, aAnd, aOr, aNot, aAndV, aOrV, aNotV, aIf, aTru, truA, aNil, aCons, aTup, aLst, aFn, aML, aML0, aCall, aCallK, aLc, aDc, aiL, aiT, aiR1, aiR2, r1K, r2K, aiZip, agN, agNil, agCons, agTup, tupOf, x_add, x_addI, x_addS, x_eqI, x_neI, x_lt, x_le, x_gt, x_ge, x_sub, x_neg, x_abs, x_int, x_str, x_lenS, List.set, List.length_cons, List.length_nil, true_and, and_true, landA, lensA]
  refine w_sumTN (w_mul _ _ (.inl (by omega)) ?_)
  have et : ℓ.sum * k = total ℓ k := by unfold total; rw [sum_mul]
  rw [et]
  simp only [sSeq, sNext, sExpr, sRet, sRetN, sIf, sAsg, sPar, sPar3, sSub, sDPutA, sAug, sAugS, sFor, sWhile, sRaise, sBreak, sCont, aVar, sg, aC, aBin, aBl, aUn, aAnd, aOr, aNot, aAndV, aOrV, aNotV, aIf, aTru, truA, aNil, aCons, aTup, aLst, aFn, aML, aML0, aCall, aCallK, aLc, aDc, aiL, aiT, aiR1, aiR2, r1K, r2K, aiZip, agN, agNil, agCons, agTup, tupOf, x_add, x_addI, x_addS, x_eqI, x_neI, x_lt, x_le, x_gt, x_ge, x_sub, x_neg, x_abs, x_int, x_str, x_lenS, List.set, List.length_cons, List.length_nil, true_and, and_true]
  by_cases h1 : 240 < total ℓ k
  · have e : decide ((240 : Int) < ((total ℓ k : Nat) : Int)) = true := decide_eq_true (by omega)
    have e2 : decide (far L ℓ k) = true := decide_eq_true (.inl h1)
    simp only [e]
    rw [e2] at q
    exact fin_here q
  · have e : decide ((240 : Int) < ((total ℓ k : Nat) : Int)) = false := decide_eq_false (by omega)
    simp only [e]
    refine w_ix rfl landA_ix0 (w_len rfl ?_)
    simp only [sSeq, sNext, sExpr, sRet, sRetN, sIf, sAsg, sPar, sPar3, sSub, sDPutA, sAug, sAugS, sFor, sWhile, sRaise, sBreak, sCont, aVar, sg, aC, aBin, aBl, aUn, aAnd, aOr, aNot, aAndV, aOrV, aNotV, aIf, aTru, truA, aNil, aCons, aTup, aLst, aFn, aML, aML0, aCall, aCallK, aLc, aDc, aiL, aiT, aiR1, aiR2, r1K, r2K, aiZip, agN, agNil, agCons, agTup, tupOf, x_add, x_addI, x_addS, x_eqI, x_neI, x_lt, x_le, x_gt, x_ge, x_sub, x_neg, x_abs, x_int, x_str, x_lenS, List.set, List.length_cons, List.length_nil, true_and, and_true]
    refine w_len (xs := nI ℓ) rfl ?_
    simp only [sSeq, sNext, sExpr, sRet, sRetN, sIf, sAsg, sPar, sPar3, sSub, sDPutA, sAug, sAugS, sFor, sWhile, sRaise, sBreak, sCont, aVar, sg, aC, aBin, aBl, aUn, aAnd, aOr, aNot, aAndV, aOrV, aNotV, aIf, aTru, truA, aNil, aCons, aTup, aLst, aFn, aML, aML0, aCall, aCallK, aLc, aDc, aiL, aiT, aiR1, aiR2, r1K, r2K, aiZip, agN, agNil, agCons, agTup, tupOf, x_add, x_addI, x_addS, x_eqI, x_neI, x_lt, x_le, x_gt, x_ge, x_sub, x_neg, x_abs, x_int, x_str, x_lenS, List.set, List.length_cons, List.length_nil, true_and, and_true]
    rw [List.length_map, nI_len]
    have e2 : decide ((64 : Int) < (L.vs.length : Int) + ((total ℓ k : Nat) : Int) - (ℓ.length : Int)) = decide (far L ℓ k) := by
      apply decide_eq_decide.mpr
      unfold far
      constructor
      · intro h; right; omega
      · intro h
        rcases h with h | h
        · exact absurd h h1
        · omega
    rw [e2]
    exact fin_here q
end
end K82

set_option Elab.async false
set_option linter.all false
set_option maxRecDepth 100000
set_option maxHeartbeats 4000000
/-! same. -/
namespace K82
open PySem PySem.Spec L2 PyA
section
variable {as : List A} {O : Own} {Q : AK} {QE : Value → Own → Prop} {L : Land} {ℓ : List Nat} {k : Nat}
theorem law_same_rd {spr : ASp} {a : A} {d : Nat} (h : Data d a) (hs : ∀ xs x, a = .tup xs → x ∈ xs → ∀ (Q' : AK), Q' (.bl true) O → spr [x, x] O Q' noEx) (q : Q (.bl true) O) : rd_law_same spr (EN O Q) (startA N_law_same [a, a]) O := by
  show rd_law_same spr _ [some a, some a, none] O
  unfold rd_law_same
  cases h with
  | non =>
    refine seq_yes (fun Q q => by simp only [sSeq, sNext, sExpr, sRet, sRetN, sIf, sAsg, sPar, sPar3, sSub, sDPutA, sAug, sAugS, sFor, sWhile, sRaise, sBreak, sCont, aVar, sg, aC, aBin, aBl, aUn, aAnd, aOr, aNot, aAndV, aOrV, aNotV, aIf, aTru, truA, aNil, aCons, aTup, aLst, aFn, aML, aML0, aCall, aCallK, aLc, aDc, aiL, aiT, aiR1, aiR2, r1K, r2K, aiZip, agN, agNil, agCons, agTup, tupOf, x_add, x_addI, x_addS, x_eqI, x_neI, x_lt, x_le, x_gt, x_ge, x_sub, x_neg, x_abs, x_int, x_str, x_lenS, List.set, List.length_cons, List.length_nil, true_and, and_true, isN_non]; exact q) ?_
    simp only [sSeq, sNext, sExpr, sRet, sRetN, sIf, sAsg, sPar, sPar3, sSub, sDPutA, sAug, sAugS, sFor, sWhile, sRaise, sBreak, sCont, aVar, sg, aC, aBin, aBl, aUn, aAnd, aOr, aNot, aAndV, aOrV, aNotV, aIf, aTru, truA, aNil, aCons, aTup, aLst, aFn, aML, aML0, aCall, aCallK, aLc, aDc, aiL, aiT, aiR1, aiR2, r1K, r2K, aiZip, agN, agNil, agCons, agTup, tupOf, x_add, x_addI, x_addS, x_eqI, x_neI, x_lt, x_le, x_gt, x_ge, x_sub, x_neg, x_abs, x_int, x_str, x_lenS, List.set, List.length_cons, List.length_nil, true_and, and_true, isN_non]
    exact fin_here q
  | bl _ b =>
    refine seq_no (fun Q q => by simp only [sSeq, sNext, sExpr, sRet, sRetN, sIf, sAsg, sPar, sPar3, sSub, sDPutA, sAug, sAugS, sFor, sWhile, sRaise, sBreak, sCont, aVar, sg, aC, aBin, aBl, aUn, aAnd, aOr, aNot, aAndV, aOrV, aNotV, aIf, aTru, truA, aNil, aCons, aTup, aLst, aFn, aML, aML0, aCall, aCallK, aLc, aDc, aiL, aiT, aiR1, aiR2, r1K, r2K, aiZip, agN, agNil, agCons, agTup, tupOf, x_add, x_addI, x_addS, x_eqI, x_neI, x_lt, x_le, x_gt, x_ge, x_sub, x_neg, x_abs, x_int, x_str, x_lenS, List.set, List.length_cons, List.length_nil, true_and, and_true, isN_b]; exact q) (seq_yes (fun Q q => by simp only [sSeq, sNext, sExpr, sRet, sRetN, sIf, sAsg, sPar, sPar3, sSub, sDPutA, sAug, sAugS, sFor, sWhile, sRaise, sBreak, sCont, aVar, sg, aC, aBin, aBl, aUn, aAnd, aOr, aNot, aAndV, aOrV, aNotV, aIf, aTru, truA, aNil, aCons, aTup, aLst, aFn, aML, aML0, aCall, aCallK, aLc, aDc, aiL, aiT, aiR1, aiR2, r1K, r2K, aiZip, agN, agNil, agCons, agTup, tupOf, x_add, x_addI, x_addS, x_eqI, x_neI, x_lt, x_le, x_gt, x_ge, x_sub, x_neg, x_abs, x_int, x_str, x_lenS, List.set, List.length_cons, List.length_nil, true_and, and_true, isi_bb]; exact q) ?_)
    simp only [sSeq, sNext, sExpr, sRet, sRetN, sIf, sAsg, sPar, sPar3, sSub, sDPutA, sAug, sAugS, sFor, sWhile, sRaise, sBreak, sCont, aVar, sg, aC, aBin, aBl, aUn, aAnd, aOr, aNot, aAndV, aOrV, aNotV, aIf, aTru, truA, aNil, aCons, aTup, aLst, aFn, aML, aML0, aCall, aCallK, aLc, aDc, aiL, aiT, aiR1, aiR2, r1K, r2K, aiZip, agN, agNil, agCons, agTup, tupOf, x_add, x_addI, x_addS, x_eqI, x_neI, x_lt, x_le, x_gt, x_ge, x_sub, x_neg, x_abs, x_int, x_str, x_lenS, List.set, List.length_cons, List.length_nil, true_and, and_true, isi_bb, eqB, decide_true]
    exact fin_here q
  | int _ i =>
    refine seq_no (fun Q q => by simp only [sSeq, sNext, sExpr, sRet, sRetN, sIf, sAsg, sPar, sPar3, sSub, sDPutA, sAug, sAugS, sFor, sWhile, sRaise, sBreak, sCont, aVar, sg, aC, aBin, aBl, aUn, aAnd, aOr, aNot, aAndV, aOrV, aNotV, aIf, aTru, truA, aNil, aCons, aTup, aLst, aFn, aML, aML0, aCall, aCallK, aLc, aDc, aiL, aiT, aiR1, aiR2, r1K, r2K, aiZip, agN, agNil, agCons, agTup, tupOf, x_add, x_addI, x_addS, x_eqI, x_neI, x_lt, x_le, x_gt, x_ge, x_sub, x_neg, x_abs, x_int, x_str, x_lenS, List.set, List.length_cons, List.length_nil, true_and, and_true, isN_i]; exact q) (seq_no (fun Q q => by simp only [sSeq, sNext, sExpr, sRet, sRetN, sIf, sAsg, sPar, sPar3, sSub, sDPutA, sAug, sAugS, sFor, sWhile, sRaise, sBreak, sCont, aVar, sg, aC, aBin, aBl, aUn, aAnd, aOr, aNot, aAndV, aOrV, aNotV, aIf, aTru, truA, aNil, aCons, aTup, aLst, aFn, aML, aML0, aCall, aCallK, aLc, aDc, aiL, aiT, aiR1, aiR2, r1K, r2K, aiZip, agN, agNil, agCons, agTup, tupOf, x_add, x_addI, x_addS, x_eqI, x_neI, x_lt, x_le, x_gt, x_ge, x_sub, x_neg, x_abs, x_int, x_str, x_lenS, List.set, List.length_cons, List.length_nil, true_and, and_true, isi_ib]; exact q) (seq_yes (fun Q q => by simp only [sSeq, sNext, sExpr, sRet, sRetN, sIf, sAsg, sPar, sPar3, sSub, sDPutA, sAug, sAugS, sFor, sWhile, sRaise, sBreak, sCont, aVar, sg, aC, aBin, aBl, aUn, aAnd, aOr, aNot, aAndV, aOrV, aNotV, aIf, aTru, truA, aNil, aCons, aTup, aLst, aFn, aML, aML0, aCall, aCallK, aLc, aDc, aiL, aiT, aiR1, aiR2, r1K, r2K, aiZip, agN, agNil, agCons, agTup, tupOf, x_add, x_addI, x_addS, x_eqI, x_neI, x_lt, x_le, x_gt, x_ge, x_sub, x_neg, x_abs, x_int, x_str, x_lenS, List.set, List.length_cons, List.length_nil, true_and, and_true, isi_ii]; exact q) ?_))
    simp only [sSeq, sNext, sExpr, sRet, sRetN, sIf, sAsg, sPar, sPar3, sSub, sDPutA, sAug, sAugS, sFor, sWhile, sRaise, sBreak, sCont, aVar, sg, aC, aBin, aBl, aUn, aAnd, aOr, aNot, aAndV, aOrV, aNotV, aIf, aTru, truA, aNil, aCons, aTup, aLst, aFn, aML, aML0, aCall, aCallK, aLc, aDc, aiL, aiT, aiR1, aiR2, r1K, r2K, aiZip, agN, agNil, agCons, agTup, tupOf, x_add, x_addI, x_addS, x_eqI, x_neI, x_lt, x_le, x_gt, x_ge, x_sub, x_neg, x_abs, x_int, x_str, x_lenS, List.set, List.length_cons, List.length_nil, true_and, and_true, isi_ii, decide_true]
    exact fin_here q
  | str _ x =>
    refine seq_no (fun Q q => by simp only [sSeq, sNext, sExpr, sRet, sRetN, sIf, sAsg, sPar, sPar3, sSub, sDPutA, sAug, sAugS, sFor, sWhile, sRaise, sBreak, sCont, aVar, sg, aC, aBin, aBl, aUn, aAnd, aOr, aNot, aAndV, aOrV, aNotV, aIf, aTru, truA, aNil, aCons, aTup, aLst, aFn, aML, aML0, aCall, aCallK, aLc, aDc, aiL, aiT, aiR1, aiR2, r1K, r2K, aiZip, agN, agNil, agCons, agTup, tupOf, x_add, x_addI, x_addS, x_eqI, x_neI, x_lt, x_le, x_gt, x_ge, x_sub, x_neg, x_abs, x_int, x_str, x_lenS, List.set, List.length_cons, List.length_nil, true_and, and_true, isN_s]; exact q) (seq_no (fun Q q => by simp only [sSeq, sNext, sExpr, sRet, sRetN, sIf, sAsg, sPar, sPar3, sSub, sDPutA, sAug, sAugS, sFor, sWhile, sRaise, sBreak, sCont, aVar, sg, aC, aBin, aBl, aUn, aAnd, aOr, aNot, aAndV, aOrV, aNotV, aIf, aTru, truA, aNil, aCons, aTup, aLst, aFn, aML, aML0, aCall, aCallK, aLc, aDc, aiL, aiT, aiR1, aiR2, r1K, r2K, aiZip, agN, agNil, agCons, agTup, tupOf, x_add, x_addI, x_addS, x_eqI, x_neI, x_lt, x_le, x_gt, x_ge, x_sub, x_neg, x_abs, x_int, x_str, x_lenS, List.set, List.length_cons, List.length_nil, true_and, and_true, isi_sb]; exact q) (seq_no (fun Q q => by simp only [sSeq, sNext, sExpr, sRet, sRetN, sIf, sAsg, sPar, sPar3, sSub, sDPutA, sAug, sAugS, sFor, sWhile, sRaise, sBreak, sCont, aVar, sg, aC, aBin, aBl, aUn, aAnd, aOr, aNot, aAndV, aOrV, aNotV, aIf, aTru, truA, aNil, aCons, aTup, aLst, aFn, aML, aML0, aCall, aCallK, aLc, aDc, aiL, aiT, aiR1, aiR2, r1K, r2K, aiZip, agN, agNil, agCons, agTup, tupOf, x_add, x_addI, x_addS, x_eqI, x_neI, x_lt, x_le, x_gt, x_ge, x_sub, x_neg, x_abs, x_int, x_str, x_lenS, List.set, List.length_cons, List.length_nil, true_and, and_true, isi_si]; exact q) (seq_yes (fun Q q => by simp only [sSeq, sNext, sExpr, sRet, sRetN, sIf, sAsg, sPar, sPar3, sSub, sDPutA, sAug, sAugS, sFor, sWhile, sRaise, sBreak, sCont, aVar, sg, aC, aBin, aBl, aUn, aAnd, aOr, aNot, aAndV, aOrV, aNotV, aIf, aTru, truA, aNil, aCons, aTup, aLst, aFn, aML, aML0, aCall, aCallK, aLc, aDc, aiL, aiT, aiR1, aiR2, r1K, r2K, aiZip, agN, agNil, agCons, agTup, tupOf, x_add, x_addI, x_addS, x_eqI, x_neI, x_lt, x_le, x_gt, x_ge, x_sub, x_neg, x_abs, x_int, x_str, x_lenS, List.set, List.length_cons, List.length_nil, true_and, and_true, isi_ss]; exact q) ?_)))
    simp only [sSeq, sNext, sExpr, sRet, sRetN, sIf, sAsg, sPar, sPar3, sSub, sDPutA, sAug, sAugS, sFor, sWhile, sRaise, sBreak, sCont, aVar, sg, aC, aBin, aBl, aUn, aAnd, aOr, aNot, aAndV, aOrV, aNotV, aIf, aTru, truA, aNil, aCons, aTup, aLst, aFn, aML, aML0, aCall, aCallK, aLc, aDc, aiL, aiT, aiR1, aiR2, r1K, r2K, aiZip, agN, agNil, agCons, agTup, tupOf, x_add, x_addI, x_addS, x_eqI, x_neI, x_lt, x_le, x_gt, x_ge, x_sub, x_neg, x_abs, x_int, x_str, x_lenS, List.set, List.length_cons, List.length_nil, true_and, and_true, isi_ss, eqSt, decide_true]
    exact fin_here q
  | tup d xs hz hd =>
    refine seq_no (fun Q q => by simp only [sSeq, sNext, sExpr, sRet, sRetN, sIf, sAsg, sPar, sPar3, sSub, sDPutA, sAug, sAugS, sFor, sWhile, sRaise, sBreak, sCont, aVar, sg, aC, aBin, aBl, aUn, aAnd, aOr, aNot, aAndV, aOrV, aNotV, aIf, aTru, truA, aNil, aCons, aTup, aLst, aFn, aML, aML0, aCall, aCallK, aLc, aDc, aiL, aiT, aiR1, aiR2, r1K, r2K, aiZip, agN, agNil, agCons, agTup, tupOf, x_add, x_addI, x_addS, x_eqI, x_neI, x_lt, x_le, x_gt, x_ge, x_sub, x_neg, x_abs, x_int, x_str, x_lenS, List.set, List.length_cons, List.length_nil, true_and, and_true, isN_t]; exact q) (seq_no (fun Q q => by simp only [sSeq, sNext, sExpr, sRet, sRetN, sIf, sAsg, sPar, sPar3, sSub, sDPutA, sAug, sAugS, sFor, sWhile, sRaise, sBreak, sCont, aVar, sg, aC, aBin, aBl, aUn, aAnd, aOr, aNot, aAndV, aOrV, aNotV, aIf, aTru, truA, aNil, aCons, aTup, aLst, aFn, aML, aML0, aCall, aCallK, aLc, aDc, aiL, aiT, aiR1, aiR2, r1K, r2K, aiZip, agN, agNil, agCons, agTup, tupOf, x_add, x_addI, x_addS, x_eqI, x_neI, x_lt, x_le, x_gt, x_ge, x_sub, x_neg, x_abs, x_int, x_str, x_lenS, List.set, List.length_cons, List.length_nil, true_and, and_true, isi_tb]; exact q) (seq_no (fun Q q => by simp only [sSeq, sNext, sExpr, sRet, sRetN, sIf, sAsg, sPar, sPar3, sSub, sDPutA, sAug, sAugS, sFor, sWhile, sRaise, sBreak, sCont, aVar, sg, aC, aBin, aBl, aUn, aAnd, aOr, aNot, aAndV, aOrV, aNotV, aIf, aTru, truA, aNil, aCons, aTup, aLst, aFn, aML, aML0, aCall, aCallK, aLc, aDc, aiL, aiT, aiR1, aiR2, r1K, r2K, aiZip, agN, agNil, agCons, agTup, tupOf, x_add, x_addI, x_addS, x_eqI, x_neI, x_lt, x_le, x_gt, x_ge, x_sub, x_neg, x_abs, x_int, x_str, x_lenS, List.set, List.length_cons, List.length_nil, true_and, and_true, isi_ti]; exact q) (seq_no (fun Q q => by simp only [sSeq, sNext, sExpr, sRet, sRetN, sIf, sAsg, sPar, sPar3, sSub, sDPutA, sAug, sAugS, sFor, sWhile, sRaise, sBreak, sCont, aVar, sg, aC, aBin, aBl, aUn, aAnd, aOr, aNot, aAndV, aOrV, aNotV, aIf, aTru, truA, aNil, aCons, aTup, aLst, aFn, aML, aML0, aCall, aCallK, aLc, aDc, aiL, aiT, aiR1, aiR2, r1K, r2K, aiZip, agN, agNil, agCons, agTup, tupOf, x_add, x_addI, x_addS, x_eqI, x_neI, x_lt, x_le, x_gt, x_ge, x_sub, x_neg, x_abs, x_int, x_str, x_lenS, List.set, List.length_cons, List.length_nil, true_and, and_true, isi_ts]; exact q) (seq_no (fun Q q => ?_) ?_))))
    · simp only [sSeq, sNext, sExpr, sRet, sRetN, sIf, sAsg, sPar, sPar3, sSub, sDPutA, sAug, sAugS, sFor, sWhile, sRaise, sBreak, sCont, aVar, sg, aC, aBin, aBl, aUn, aAnd, aOr, aNot, aAndV, aOrV, aNotV, aIf, aTru, truA, aNil, aCons, aTup, aLst, aFn, aML, aML0, aCall, aCallK, aLc, aDc, aiL, aiT, aiR1, aiR2, r1K, r2K, aiZip, agN, agNil, agCons, agTup, tupOf, x_add, x_addI, x_addS, x_eqI, x_neI, x_lt, x_le, x_gt, x_ge, x_sub, x_neg, x_abs, x_int, x_str, x_lenS, List.set, List.length_cons, List.length_nil, true_and, and_true, isi_tt, Bool.not_true]
      refine w_len rfl (w_len rfl ?_)
      simp only [sSeq, sNext, sExpr, sRet, sRetN, sIf, sAsg, sPar, sPar3, sSub, sDPutA, sAug, sAugS, sFor, sWhile, sRaise, sBreak, sCont, aVar, sg, aC, aBin, aBl, aUn, aAnd, aOr, aNot, aAndV, aOrV, aNotV, aIf, aTru, truA, aNil, aCons, aTup, aLst, aFn, aML, aML0, aCall, aCallK, aLc, aDc, aiL, aiT, aiR1, aiR2, r1K, r2K, aiZip, agN, agNil, agCons, agTup, tupOf, x_add, x_addI, x_addS, x_eqI, x_neI, x_lt, x_le, x_gt, x_ge, x_sub, x_neg, x_abs, x_int, x_str, x_lenS, List.set, List.length_cons, List.length_nil, true_and, and_true, decide_true, Bool.not_true]
      exact q
    simp only [sSeq, sNext, sExpr, sRet, sRetN, sIf, sAsg, sPar, sPar3, sSub, sDPutA, sAug, sAugS, sFor, sWhile, sRaise, sBreak, sCont, aVar, sg, aC, aBin, aBl, aUn, aAnd, aOr, aNot, aAndV, aOrV, aNotV, aIf, aTru, truA, aNil, aCons, aTup, aLst, aFn, aML, aML0, aCall, aCallK, aLc, aDc, aiL, aiT, aiR1, aiR2, r1K, r2K, aiZip, agN, agNil, agCons, agTup, tupOf, x_add, x_addI, x_addS, x_eqI, x_neI, x_lt, x_le, x_gt, x_ge, x_sub, x_neg, x_abs, x_int, x_str, x_lenS, List.set, List.length_cons, List.length_nil, true_and, and_true]
    refine w_len rfl ⟨by omega, by omega, ?_⟩
    refine forA_inv (fun i δ O1 => ∃ z, δ = [some (.tup xs), some (.tup xs), z] ∧ O1 = O) (fun i x δ O1 Nx hx hI kN => ?_) (fun δ O1 hI => ?_) ⟨_, rfl, rfl⟩
    · obtain ⟨z, rfl, rfl⟩ := hI
      obtain ⟨hi, rfl⟩ := rangeA_at hx
      refine ⟨trivial, ?_⟩
      have hi2 : i < xs.length := by omega
      simp only [sSeq, sNext, sExpr, sRet, sRetN, sIf, sAsg, sPar, sPar3, sSub, sDPutA, sAug, sAugS, sFor, sWhile, sRaise, sBreak, sCont, aVar, sg, aC, aBin, aBl, aUn, aAnd, aOr, aNot, aAndV, aOrV, aNotV, aIf, aTru, truA, aNil, aCons, aTup, aLst, aFn, aML, aML0, aCall, aCallK, aLc, aDc, aiL, aiT, aiR1, aiR2, r1K, r2K, aiZip, agN, agNil, agCons, agTup, tupOf, x_add, x_addI, x_addS, x_eqI, x_neI, x_lt, x_le, x_gt, x_ge, x_sub, x_neg, x_abs, x_int, x_str, x_lenS, List.set, List.length_cons, List.length_nil, true_and, and_true, Int.zero_add]
      refine w_ixN rfl (List.getElem?_eq_getElem hi2) (w_ixN rfl (List.getElem?_eq_getElem hi2) ?_)
      refine hs xs _ rfl (List.getElem_mem hi2) _ ?_
      simp only [sSeq, sNext, sExpr, sRet, sRetN, sIf, sAsg, sPar, sPar3, sSub, sDPutA, sAug, sAugS, sFor, sWhile, sRaise, sBreak, sCont, aVar, sg, aC, aBin, aBl, aUn, aAnd, aOr, aNot, aAndV, aOrV, aNotV, aIf, aTru, truA, aNil, aCons, aTup, aLst, aFn, aML, aML0, aCall, aCallK, aLc, aDc, aiL, aiT, aiR1, aiR2, r1K, r2K, aiZip, agN, agNil, agCons, agTup, tupOf, x_add, x_addI, x_addS, x_eqI, x_neI, x_lt, x_le, x_gt, x_ge, x_sub, x_neg, x_abs, x_int, x_str, x_lenS, List.set, List.length_cons, List.length_nil, true_and, and_true, Bool.not_true]
      exact kN _ _ ⟨_, rfl, rfl⟩
    · obtain ⟨z, rfl, rfl⟩ := hI
      exact ⟨trivial, fin_here q⟩
theorem law_same_ok0 {spr : ASp} (h : sp_same 0 as O Q QE) : rd_law_same spr (EN O Q) (startA N_law_same as) O := by
  obtain ⟨a, rfl, hd, q⟩ := h
  refine law_same_rd hd (fun xs x e => ?_) q
  subst e
  cases hd
theorem law_same_ok {d : Nat} (h : sp_same (d + 1) as O Q QE) : rd_law_same (sp_same d) (EN O Q) (startA N_law_same as) O := by
  obtain ⟨a, rfl, hd, q⟩ := h
  refine law_same_rd hd (fun xs x e hx Q' q' => ?_) q
  subst e
  cases hd with
  | tup d xs hz hd => exact ⟨x, rfl, hd x hx, q'⟩
end
end K82

set_option Elab.async false
set_option linter.all false
set_option maxRecDepth 100000
set_option maxHeartbeats 400000
/-! divided. -/
namespace K82
open PySem PySem.Spec L2 PyA
section
variable {as : List A} {O : Own} {Q : AK} {QE : Value → Own → Prop} {L : Land} {ℓ : List Nat} {k : Nat}
theorem num_len : ∀ n : Nat, n < 500 → (toString (n : Int) : Str).length ≤ 10 := by decide +kernel
theorem log_small {n : Nat} (h : n < 500) : ((n : Int).natAbs).log2 < 1920 := by
  rw [Int.natAbs_natCast]
  by_cases e : n = 0
  · rw [e]; decide
  · exact (Nat.log2_lt e).mpr (Nat.lt_of_lt_of_le h (by decide +kernel))
theorem vN_len {n : Nat} (h : n < 500) : (vN n).length ≤ sizeLine ∧ (rN n).length ≤ sizeLine := by
  have := num_len n h
  have e1 : ("v" : Str).length = 1 := by decide
  have e2 : ("r" : Str).length = 1 := by decide
  unfold vN rN
  rw [Str.length_append, Str.length_append, e1, e2, sizeLine_eq]
  omega
theorem w_v {n : Nat} {te : AE} {δ : Slots} (h : n < 500) (ht : ∀ Q : AK, Q (.int (n : Int)) O → te δ O Q) (q : Q (.str (vN n)) O) : aFstr ("v" : Str) te δ O Q :=
  ⟨by rw [sizeLine_eq]; decide, ht _ ⟨⟨log_small h, (vN_len h).1⟩, q⟩⟩
theorem w_r {n : Nat} {te : AE} {δ : Slots} (h : n < 500) (ht : ∀ Q : AK, Q (.int (n : Int)) O → te δ O Q) (q : Q (.str (rN n)) O) : aFstr ("r" : Str) te δ O Q :=
  ⟨by rw [sizeLine_eq]; decide, ht _ ⟨⟨log_small h, (vN_len h).2⟩, q⟩⟩
theorem along_len (one other : Str) (num w : Nat) : (along one other num w).length = (w - 1) + 2 := by
  unfold along
  rw [List.length_append, List.length_cons, List.length_map, List.length_range]
  rfl
theorem along_0 (one other : Str) (num w : Nat) : (along one other num w).getD 0 one = one := rfl
theorem along_in {one other : Str} {num w j : Nat} (h : j < w - 1) : (along one other num w).getD (j + 1) one = vN (num + j) := by
  unfold along
  rw [List.getD_eq_getElem?_getD, List.getElem?_append_left (by rw [List.length_cons, List.length_map, List.length_range]; omega), List.getElem?_cons_succ, List.getElem?_map, List.getElem?_range h]
  rfl
theorem along_end {one other : Str} {num w : Nat} : (along one other num w).getD (w - 1 + 1) one = other := by
  unfold along
  rw [List.getD_eq_getElem?_getD, List.getElem?_append_right (by rw [List.length_cons, List.length_map, List.length_range]; omega), List.length_cons, List.length_map, List.length_range, Nat.sub_self]
  rfl
theorem pieces_snoc {one other : Str} {num cnt w j : Nat} (h : j < w) : (pieces one other num cnt w).take (j + 1) = (pieces one other num cnt w).take j ++ [(rN (cnt + j), (along one other num w).getD j one, (along one other num w).getD (j + 1) one)] := by
  unfold pieces
  rw [List.take_succ, List.getElem?_map, List.getElem?_range h]
  rfl
theorem range_snoc {α : Type} {f : Nat → α} {n : Nat} : (List.range (n + 1)).map f = (List.range n).map f ++ [f n] := by
  rw [List.range_succ, List.map_append]
  rfl
def vNs (L : Land) (n : Nat) : List A := (L.vs ++ (List.range n).map vN).map A.str
theorem vNs_snoc {n : Nat} : vNs L (n + 1) = vNs L n ++ [.str (vN n)] := by
  unfold vNs
  rw [range_snoc, ← List.append_assoc, List.map_append]
  rfl
theorem vNs_len {n : Nat} : (vNs L n).length = L.vs.length + n := by
  unfold vNs
  rw [List.length_map, List.length_append, List.length_map, List.length_range]
def items (k : Nat) (rs : List Road) (ls : List Nat) : List A := (rs.zip ls).map fun p => .tup [rdA p.1, .int ((p.2 * k : Nat) : Int)]
theorem zip_items {rs : List Road} {ls : List Nat} : zipA (rs.map rdA) (nI (ls.map (· * k))) = items k rs ls := by
  unfold nI items
  rw [List.map_map, zipA_map]
  rfl
def divSt (O : Own) (pc : List A) (rds : List Road) (vs : List A) : Own := .lst (rds.map rdA) :: .lst vs :: .lst pc :: O
section
variable {pc : List A} {rds : List Road} {vs : List A}
theorem divSt_r : lv (divSt O pc rds vs) (O.length + 2) = some (.lst (rds.map rdA)) := lv_self
theorem divSt_v : lv (divSt O pc rds vs) (O.length + 1) = some (.lst vs) := lv_cons_of lv_self
theorem divSt_p : lv (divSt O pc rds vs) O.length = some (.lst pc) := lv_cons_of (lv_cons_of lv_self)
theorem divSt_putR {y : List Road} : lput (divSt O pc rds vs) (O.length + 2) (.lst (y.map rdA)) = divSt O pc y vs := lput_self rfl
theorem divSt_putV {y : List A} : lput (divSt O pc rds vs) (O.length + 1) (.lst y) = divSt O pc rds y := by
  unfold divSt
  rw [lput_old (by simp only [List.length_cons]; omega)]
  exact congrArg _ (lput_self rfl)
end
/-- the loop over one road's pieces -/
def dBody : AS := (sSeq (sAsg (aVar 9) (agN 13))
    (sSeq (sIf (aBl (aBin opLt (aVar 12) (aBin opSub (aVar 10) (aC (.int 1))))) (sSeq (sAsg (aFstr ("v" : Str) (aBin opSub (aFn bLen (aCons (aVar 5) aNil)) (aFn bLen (aCons (aBin ixA (aVar 0) (aC (.int 0))) aNil)))) (agN 13))
    (sExpr (aML mAppend (aVar 5) (aCons (aVar 13) aNil)))) sNext)
    (sSeq (sExpr (aML mAppend (aVar 6) (aCons (aTup (aCons (aFstr ("r" : Str) (aFn bLen (aCons (aVar 6) aNil))) (aCons (aVar 11) (aCons (aVar 13) aNil)))) aNil)))
    (sAsg (aVar 13) (agN 11)))))
def dSlots (L : Land) (ℓ : List Nat) (k : Nat) (O : Own) (z4 : Option A) (r : Road) (w : Nat) (last : Str) (z12 z13 : Option A) : Slots :=
  [some (landA L), some (lensA ℓ), some (.int (k : Nat)), some (.own O.length), z4, some (.own (O.length + 1)), some (.own (O.length + 2)), some (.str r.1), some (.str r.2.1), some (.str r.2.2), some (.int (w : Nat)), some (.str last), z12, z13]
theorem inner_loop {D : AEnds} {r : Road} {w num cnt : Nat} {rds : List Road} {pc : List A} {z4 z12 z13 : Option A} (hw : 1 ≤ w) (hn : num + w < 400) (hc : cnt + w < 400) (hrd : rds.length = cnt) (hv : L.vs.length ≤ 4)
    (h : ∀ last z12 z13, D.nx (dSlots L ℓ k O z4 r w last z12 z13) (divSt O pc (rds ++ pieces r.2.1 r.2.2 num cnt w) (vNs L (num + (w - 1))))) :
    forA (fun _ => True) (agN 12) dBody D (rangeA 0 w) (dSlots L ℓ k O z4 r w r.2.1 z12 z13) (divSt O pc rds (vNs L num)) := by
  refine forA_inv (fun j δ O1 => ∃ (last : Str) (z12 z13 : Option A), δ = dSlots L ℓ k O z4 r w last z12 z13 ∧ last = (along r.2.1 r.2.2 num w).getD j r.2.1 ∧ O1 = divSt O pc (rds ++ (pieces r.2.1 r.2.2 num cnt w).take j) (vNs L (num + min j (w - 1))))
    (fun j x δ O1 Nx hx hI kN => ?_) (fun δ O1 hI => ?_) ⟨_, _, _, rfl, (along_0 _ _ _ _).symm, by rw [List.take_zero, List.append_nil, Nat.zero_min, Nat.add_zero]⟩
  · obtain ⟨last, z12, z13, rfl, rfl, rfl⟩ := hI
    obtain ⟨hj, rfl⟩ := rangeA_at hx
    refine ⟨trivial, ?_⟩
    rw [Int.zero_add]
    have pl : ((pieces r.2.1 r.2.2 num cnt w).take j).length = j := by
      unfold pieces
      rw [List.length_take, List.length_map, List.length_range]
      omega
    -- behind the choice
    have fin : ∀ later : Str, later = (along r.2.1 r.2.2 num w).getD (j + 1) r.2.1 → (sSeq (sExpr (aML mAppend (aVar 6) (aCons (aTup (aCons (aFstr ("r" : Str) (aFn bLen (aCons (aVar 6) aNil))) (aCons (aVar 11) (aCons (aVar 13) aNil)))) aNil)))
        (sAsg (aVar 13) (agN 11))) { nx := Nx, rt := D.rt, bk := D.nx, ct := Nx } (dSlots L ℓ k O z4 r w ((along r.2.1 r.2.2 num w).getD j r.2.1) (some (.int (j : Int))) (some (.str later))) (divSt O pc (rds ++ (pieces r.2.1 r.2.2 num cnt w).take j) (vNs L (num + min (j + 1) (w - 1)))) := by
      intro later hl
      unfold dSlots
      simp only [sSeq, sNext, sExpr, sRet, sRetN, sIf, sAsg, sPar, sPar3, sSub, sDPutA, sAug, sAugS, sFor, sWhile, sRaise, sBreak, sCont, aVar, sg, aC, aBin, aBl, aUn, aAnd, aOr, aNot, aAndV, aOrV, aNotV, aIf, aTru, truA, aNil, aCons, aTup, aLst, aFn, aML, aML0, aCall, aCallK, aLc, aDc, aiL, aiT, aiR1, aiR2, r1K, r2K, aiZip, agN, agNil, agCons, agTup, tupOf, x_add, x_addI, x_addS, x_eqI, x_neI, x_lt, x_le, x_gt, x_ge, x_sub, x_neg, x_abs, x_int, x_str, x_lenS, List.set, List.length_cons, List.length_nil, true_and, and_true]
      refine ⟨w_isLst divSt_r, ?_⟩
      refine w_r (n := cnt + j) (by omega) (fun Q q => ?_) ?_
      · simp only [sSeq, sNext, sExpr, sRet, sRetN, sIf, sAsg, sPar, sPar3, sSub, sDPutA, sAug, sAugS, sFor, sWhile, sRaise, sBreak, sCont, aVar, sg, aC, aBin, aBl, aUn, aAnd, aOr, aNot, aAndV, aOrV, aNotV, aIf, aTru, truA, aNil, aCons, aTup, aLst, aFn, aML, aML0, aCall, aCallK, aLc, aDc, aiL, aiT, aiR1, aiR2, r1K, r2K, aiZip, agN, agNil, agCons, agTup, tupOf, x_add, x_addI, x_addS, x_eqI, x_neI, x_lt, x_le, x_gt, x_ge, x_sub, x_neg, x_abs, x_int, x_str, x_lenS, List.set, List.length_cons, List.length_nil, true_and, and_true]
        refine w_len (seq_own divSt_r) ?_
        rw [List.length_map, List.length_append, hrd, pl]
        exact q
      · refine ⟨by rw [sizeLine_eq]; decide, w_append divSt_r ?_ ?_⟩
        · rw [List.length_map, List.length_append, hrd, pl, sizeLine_eq]; omega
        · refine kN _ _ ⟨_, _, _, rfl, hl, ?_⟩
          rw [pieces_snoc hj, ← List.append_assoc, hl]
          have e : ((rds ++ (pieces r.2.1 r.2.2 num cnt w).take j) ++ [(rN (cnt + j), (along r.2.1 r.2.2 num w).getD j r.2.1, (along r.2.1 r.2.2 num w).getD (j + 1) r.2.1)]).map rdA = (rds ++ (pieces r.2.1 r.2.2 num cnt w).take j).map rdA ++ [rdA (rN (cnt + j), (along r.2.1 r.2.2 num w).getD j r.2.1, (along r.2.1 r.2.2 num w).getD (j + 1) r.2.1)] := by rw [List.map_append]; rfl
          exact (congrArg (fun y => lput (divSt O pc (rds ++ (pieces r.2.1 r.2.2 num cnt w).take j) (vNs L (num + min (j + 1) (w - 1)))) (O.length + 2) (.lst y)) e.symm).trans divSt_putR
    unfold dBody
    by_cases hjw : j < w - 1
    · refine seq_set (a := .str r.2.2) (O1 := divSt O pc (rds ++ (pieces r.2.1 r.2.2 num cnt w).take j) (vNs L (num + min j (w - 1)))) (fun Q q => q) ?_
      refine seq_yes (fun Q q => ?_) ?_
      · unfold dSlots
        simp only [sSeq, sNext, sExpr, sRet, sRetN, sIf, sAsg, sPar, sPar3, sSub, sDPutA, sAug, sAugS, sFor, sWhile, sRaise, sBreak, sCont, aVar, sg, aC, aBin, aBl, aUn, aAnd, aOr, aNot, aAndV, aOrV, aNotV, aIf, aTru, truA, aNil, aCons, aTup, aLst, aFn, aML, aML0, aCall, aCallK, aLc, aDc, aiL, aiT, aiR1, aiR2, r1K, r2K, aiZip, agN, agNil, agCons, agTup, tupOf, x_add, x_addI, x_addS, x_eqI, x_neI, x_lt, x_le, x_gt, x_ge, x_sub, x_neg, x_abs, x_int, x_str, x_lenS, List.set, List.length_cons, List.length_nil, true_and, and_true]
        rw [decide_eq_true (show (j : Int) < (w : Int) - 1 by omega)]
        exact q
      · have e1 : min j (w - 1) = j := Nat.min_eq_left (by omega)
        have e2 : min (j + 1) (w - 1) = j + 1 := Nat.min_eq_left (by omega)
        rw [e2] at fin
        rw [e1]
        refine seq_set (a := .str (vN (num + j))) (O1 := divSt O pc (rds ++ (pieces r.2.1 r.2.2 num cnt w).take j) (vNs L (num + j))) (fun Q q => ?_) ?_
        · refine w_v (n := num + j) (by omega) (fun Q q => ?_) q
          unfold dSlots
          simp only [sSeq, sNext, sExpr, sRet, sRetN, sIf, sAsg, sPar, sPar3, sSub, sDPutA, sAug, sAugS, sFor, sWhile, sRaise, sBreak, sCont, aVar, sg, aC, aBin, aBl, aUn, aAnd, aOr, aNot, aAndV, aOrV, aNotV, aIf, aTru, truA, aNil, aCons, aTup, aLst, aFn, aML, aML0, aCall, aCallK, aLc, aDc, aiL, aiT, aiR1, aiR2, r1K, r2K, aiZip, agN, agNil, agCons, agTup, tupOf, x_add, x_addI, x_addS, x_eqI, x_neI, x_lt, x_le, x_gt, x_ge, x_sub, x_neg, x_abs, x_int, x_str, x_lenS, List.set, List.length_cons, List.length_nil, true_and, and_true, landA]
          refine w_len (seq_own divSt_v) (w_ix rfl landA_ix0 (w_len rfl ?_))
          rw [vNs_len, List.length_map]
          simp only [sSeq, sNext, sExpr, sRet, sRetN, sIf, sAsg, sPar, sPar3, sSub, sDPutA, sAug, sAugS, sFor, sWhile, sRaise, sBreak, sCont, aVar, sg, aC, aBin, aBl, aUn, aAnd, aOr, aNot, aAndV, aOrV, aNotV, aIf, aTru, truA, aNil, aCons, aTup, aLst, aFn, aML, aML0, aCall, aCallK, aLc, aDc, aiL, aiT, aiR1, aiR2, r1K, r2K, aiZip, agN, agNil, agCons, agTup, tupOf, x_add, x_addI, x_addS, x_eqI, x_neI, x_lt, x_le, x_gt, x_ge, x_sub, x_neg, x_abs, x_int, x_str, x_lenS, List.set, List.length_cons, List.length_nil, true_and, and_true]
          rw [show ((L.vs.length + (num + j) : Nat) : Int) - (L.vs.length : Int) = ((num + j : Nat) : Int) by omega]
          exact q
        · have := fin (vN (num + j)) (along_in hjw).symm
          unfold dSlots at this ⊢
          simp only [sExpr, aML, aVar, sg, aCons, aNil, List.set]
          refine ⟨w_isLst divSt_v, w_append divSt_v ?_ ?_⟩
          · rw [vNs_len, sizeLine_eq]; omega
          · rw [← vNs_snoc, divSt_putV]
            exact this
    · refine seq_set (a := .str r.2.2) (O1 := divSt O pc (rds ++ (pieces r.2.1 r.2.2 num cnt w).take j) (vNs L (num + min j (w - 1)))) (fun Q q => q) ?_
      refine seq_no (fun Q q => ?_) ?_
      · unfold dSlots
        simp only [sSeq, sNext, sExpr, sRet, sRetN, sIf, sAsg, sPar, sPar3, sSub, sDPutA, sAug, sAugS, sFor, sWhile, sRaise, sBreak, sCont, aVar, sg, aC, aBin, aBl, aUn, aAnd, aOr, aNot, aAndV, aOrV, aNotV, aIf, aTru, truA, aNil, aCons, aTup, aLst, aFn, aML, aML0, aCall, aCallK, aLc, aDc, aiL, aiT, aiR1, aiR2, r1K, r2K, aiZip, agN, agNil, agCons, agTup, tupOf, x_add, x_addI, x_addS, x_eqI, x_neI, x_lt, x_le, x_gt, x_ge, x_sub, x_neg, x_abs, x_int, x_str, x_lenS, List.set, List.length_cons, List.length_nil, true_and, and_true]
        rw [decide_eq_false (show ¬ (j : Int) < (w : Int) - 1 by omega)]
        exact q
      · have e1 : min j (w - 1) = min (j + 1) (w - 1) := by omega
        rw [e1]
        refine fin r.2.2 ?_
        have : j = w - 1 := by omega
        rw [this]
        exact along_end.symm
  · obtain ⟨last, z12, z13, rfl, rfl, rfl⟩ := hI
    refine ⟨trivial, ?_⟩
    rw [rangeA_len]
    have e1 : min w (w - 1) = w - 1 := by omega
    rw [e1, List.take_of_length_le (by unfold pieces; rw [List.length_map, List.length_range]; exact Nat.le_refl _)]
    exact h _ _ _
theorem chk_args {δ : Slots} {p n : Nat} (h0 : sg δ 0 = some (landA L)) (hp : sg δ p = some (.own n)) (hn : lv O n = some (.lst (nI (ℓ.map (· * k))))) (hA : Ask L ℓ k) {Q' : ALK} (q : Q' [.int ((L.vs.length + total ℓ k - ℓ.length : Nat) : Int), .int ((total ℓ k : Nat) : Int)] O) :
    aCons (aBin opSub (aBin opAdd (aFn bLen (aCons (aBin ixA (aVar 0) (aC (.int 0))) aNil)) (aFn bSum (aCons (aVar p) aNil))) (aFn bLen (aCons (aVar p) aNil))) (aCons (aFn bSum (aCons (aVar p) aNil)) aNil) δ O Q' := by
  obtain ⟨t1, t2, t3⟩ := total_le hA
  simp only [aCons, aNil, aBin, aFn, aVar, aC, h0, hp, landA]
  refine w_ix rfl landA_ix0 (w_len rfl (w_sumN hn ?_))
  rw [List.length_map]
  simp only [x_add]
  refine w_len (seq_own hn) ?_
  rw [nI_len, List.length_map]
  simp only [x_sub]
  refine w_sumN hn ?_
  have e : ((L.vs.length : Nat) : Int) + (((ℓ.map (· * k)).sum : Nat) : Int) - (ℓ.length : Int) = ((L.vs.length + total ℓ k - ℓ.length : Nat) : Int) := by
    unfold total at t2 ⊢
    omega
  rw [e]
  exact q
/-- the loop over the roads -/
def dRoad : AS := (sSeq (sAsg (aVar 8) (agN 11)) (sFor (aiR1 (aVar 10)) (agN 12) dBody))
abbrev dTg : AG := agTup 2 (agCons (agTup 3 (agCons (agN 7) (agCons (agN 8) (agCons (agN 9) agNil)))) (agCons (agN 10) agNil))
abbrev dSl (L : Land) (ℓ : List Nat) (k : Nat) (O : Own) (z4 z7 z8 z9 z10 z11 z12 z13 : Option A) : Slots :=
  [some (landA L), some (lensA ℓ), some (.int (k : Nat)), some (.own O.length), z4, some (.own (O.length + 1)), some (.own (O.length + 2)), z7, z8, z9, z10, z11, z12, z13]
theorem inner_cons {l : Nat} {ls : List Nat} : inner (l :: ls) k = (l * k - 1) + inner ls k := by unfold inner; rw [List.map_cons, List.sum_cons]
theorem total_cons {l : Nat} {ls : List Nat} : total (l :: ls) k = l * k + total ls k := by unfold total; rw [List.map_cons, List.sum_cons]
theorem road_loop {chk : Own → Prop} {D : AEnds} {pc : List A} (hk : 1 ≤ k) (hv : L.vs.length ≤ 4) (hchk : ∀ rds vs, chk (divSt O pc rds vs)) : ∀ (rs : List Road) (ls : List Nat) (num cnt : Nat) (rds : List Road) (z4 z7 z8 z9 z10 z11 z12 z13 : Option A),
    ls.length = rs.length → (∀ l ∈ ls, 1 ≤ l) → num + total ls k < 400 → cnt + total ls k < 400 → rds.length = cnt →
    (∀ z4 z7 z8 z9 z10 z11 z12 z13, D.nx (dSl L ℓ k O z4 z7 z8 z9 z10 z11 z12 z13) (divSt O pc (rds ++ divR k rs ls num cnt) (vNs L (num + inner ls k)))) →
    forA chk dTg dRoad D (items k rs ls) (dSl L ℓ k O z4 z7 z8 z9 z10 z11 z12 z13) (divSt O pc rds (vNs L num))
  | [], ls, num, cnt, rds, z4, z7, z8, z9, z10, z11, z12, z13, hl, _, _, _, _, h => by
    have e : ls = [] := List.length_eq_zero_iff.mp hl
    subst e
    show forA _ _ _ _ [] _ _
    unfold forA
    refine ⟨hchk _ _, ?_⟩
    have := h z4 z7 z8 z9 z10 z11 z12 z13
    rwa [show divR k [] [] num cnt = [] from rfl, List.append_nil, show inner [] k = 0 from rfl, Nat.add_zero] at this
  | r :: rs, [], _, _, _, _, _, _, _, _, _, _, _, hl, _, _, _, _, _ => by simp at hl
  | r :: rs, l :: ls, num, cnt, rds, z4, z7, z8, z9, z10, z11, z12, z13, hl, h1, hn, hc, hr, h => by
    have l1 : 1 ≤ l := h1 l List.mem_cons_self
    have lk : 1 ≤ l * k := Nat.mul_pos l1 hk
    rw [total_cons] at hn hc
    show forA _ _ _ _ (.tup [rdA r, .int ((l * k : Nat) : Int)] :: items k rs ls) _ _
    unfold forA
    refine ⟨hchk _ _, rfl, ?_⟩
    have ih := fun z4 z7 z8 z9 z10 z11 z12 z13 => road_loop (chk := chk) (D := D) (pc := pc) hk hv hchk rs ls (num + (l * k - 1)) (cnt + l * k) (rds ++ pieces r.2.1 r.2.2 num cnt (l * k)) z4 z7 z8 z9 z10 z11 z12 z13
      (by simpa using hl) (fun x hx => h1 x (List.mem_cons_of_mem _ hx)) (by omega) (by omega) (by rw [List.length_append, hr]; unfold pieces; rw [List.length_map, List.length_range]) (fun z4 z7 z8 z9 z10 z11 z12 z13 => by
        have := h z4 z7 z8 z9 z10 z11 z12 z13
        rw [inner_cons, ← Nat.add_assoc] at this
        rw [List.append_assoc]
        exact this)
    simp only [dSl, agCons, agTup, agN, agNil, rdA, tupOf, List.set]
    refine ⟨rfl, ?_⟩
    unfold dRoad
    refine seq_set (a := .str r.2.1) (fun Q q => q) ?_
    simp only [sSeq, sNext, sExpr, sRet, sRetN, sIf, sAsg, sPar, sPar3, sSub, sDPutA, sAug, sAugS, sFor, sWhile, sRaise, sBreak, sCont, aVar, sg, aC, aBin, aBl, aUn, aAnd, aOr, aNot, aAndV, aOrV, aNotV, aIf, aTru, truA, aNil, aCons, aTup, aLst, aFn, aML, aML0, aCall, aCallK, aLc, aDc, aiL, aiT, aiR1, aiR2, r1K, r2K, aiZip, agN, agNil, agCons, agTup, tupOf, x_add, x_addI, x_addS, x_eqI, x_neI, x_lt, x_le, x_gt, x_ge, x_sub, x_neg, x_abs, x_int, x_str, x_lenS, List.set, List.length_cons, List.length_nil, true_and, and_true, Int.toNat_natCast]
    refine ⟨by omega, by omega, ?_⟩
    exact inner_loop (r := r) (ℓ := ℓ) (k := k) (L := L) (by omega) (by omega) (by omega) hr hv fun last z12 z13 => ih _ _ _ _ _ _ _ _
abbrev dSl0 (L : Land) (ℓ : List Nat) (k : Nat) : Slots := [some (landA L), some (lensA ℓ), some (.int (k : Nat)), none, none, none, none, none, none, none, none, none, none, none]
theorem divided_ok {C : Addr} {ex : Value → Own → Prop} (hx : ∀ cls Oe, ex cls Oe ↔ ∃ O', Conv O .non Oe .non O' ∧ QE cls O') (h : sp_divided C as O Q QE) : rd_divided C ex (EN O Q) (startA N_divided as) O := by
  obtain ⟨L, ℓ, k, rfl, hA, hf, q⟩ := h
  have hok := hA.ok
  have hl := hA.lok
  obtain ⟨t1, t2, t3⟩ := total_le hA
  show rd_divided C ex _ (dSl0 L ℓ k) O
  unfold rd_divided
  refine seq_set (a := .own O.length) (O1 := .lst (nI (ℓ.map (· * k))) :: O) (fun Q q => ?_) ?_
  · simp only [dSl0, sSeq, sNext, sExpr, sRet, sRetN, sIf, sAsg, sPar, sPar3, sSub, sDPutA, sAug, sAugS, sFor, sWhile, sRaise, sBreak, sCont, aVar, sg, aC, aBin, aBl, aUn, aAnd, aOr, aNot, aAndV, aOrV, aNotV, aIf, aTru, truA, aNil, aCons, aTup, aLst, aFn, aML, aML0, aCall, aCallK, aLc, aDc, aiL, aiT, aiR1, aiR2, r1K, r2K, aiZip, agN, agNil, agCons, agTup, tupOf, x_add, x_addI, x_addS, x_eqI, x_neI, x_lt, x_le, x_gt, x_ge, x_sub, x_neg, x_abs, x_int, x_str, x_lenS, List.set, List.length_cons, List.length_nil, true_and, and_true, lensA]
    refine compA_map (fun x => match x with | .int i => .int (i * k) | _ => .non) trivial (by rw [nI_len]; exact size5 (lens_small hok hl)) (fun x hx Q' q' => ?_) ?_
    · obtain ⟨n, hn, rfl⟩ := List.mem_map.mp hx
      simp only [sSeq, sNext, sExpr, sRet, sRetN, sIf, sAsg, sPar, sPar3, sSub, sDPutA, sAug, sAugS, sFor, sWhile, sRaise, sBreak, sCont, aVar, sg, aC, aBin, aBl, aUn, aAnd, aOr, aNot, aAndV, aOrV, aNotV, aIf, aTru, truA, aNil, aCons, aTup, aLst, aFn, aML, aML0, aCall, aCallK, aLc, aDc, aiL, aiT, aiR1, aiR2, r1K, r2K, aiZip, agN, agNil, agCons, agTup, tupOf, x_add, x_addI, x_addS, x_eqI, x_neI, x_lt, x_le, x_gt, x_ge, x_sub, x_neg, x_abs, x_int, x_str, x_lenS, List.set, List.length_cons, List.length_nil, true_and, and_true, wipeA]
      refine w_mul n k (.inl (by have := hl.nin n hn; omega)) ?_
      rw [Int.natCast_mul]
      exact q'
    · have e : (nI ℓ).map (fun x => match x with | .int i => A.int (i * k) | _ => .non) = nI (ℓ.map (· * k)) := by
        unfold nI
        rw [List.map_map, List.map_map]
        refine List.map_congr_left fun n _ => ?_
        show A.int ((n : Int) * k) = A.int ((n * k : Nat) : Int)
        rw [Int.natCast_mul]
      rw [e]
      exact q
  generalize hrest : (sSeq (sAsg (aFn tList (aCons (aBin ixA (aVar 0) (aC (.int 0))) aNil)) (agN 5)) _) = rest
  have hp : lv (AO.lst (nI (ℓ.map (· * k))) :: O) O.length = some (.lst (nI (ℓ.map (· * k)))) := lv_self
  by_cases hfar : far L ℓ k
  · refine seq_exprX fun Q' => ?_
    unfold aCall
    refine chk_args rfl rfl hp hA ⟨_, _, rfl, fun _ => (hx _ _).mpr (ex_here Ext.new (hf hfar)), fun n => absurd ?_ n⟩
    rcases hfar with h | h
    · exact .inr h
    · exact .inl h
  · refine seq_expr (a := .non) (O1 := .lst (nI (ℓ.map (· * k))) :: O) (fun Q' q' => ?_) ?_
    · unfold aCall
      refine chk_args rfl rfl hp hA ⟨_, _, rfl, fun n => absurd ?_ hfar, fun _ => q'⟩
      rcases n with h | h
      · exact .inr h
      · exact .inl h
    · subst hrest
      refine seq_set (a := .own (O.length + 1)) (O1 := .lst (vNs L 0) :: .lst (nI (ℓ.map (· * k))) :: O) (fun Q' q' => ?_) ?_
      · simp only [dSl0, sSeq, sNext, sExpr, sRet, sRetN, sIf, sAsg, sPar, sPar3, sSub, sDPutA, sAug, sAugS, sFor, sWhile, sRaise, sBreak, sCont, aVar, sg, aC, aBin, aBl, aUn, aAnd, aOr, aNot, aAndV, aOrV, aNotV, aIf, aTru, truA, aNil, aCons, aTup, aLst, aFn, aML, aML0, aCall, aCallK, aLc, aDc, aiL, aiT, aiR1, aiR2, r1K, r2K, aiZip, agN, agNil, agCons, agTup, tupOf, x_add, x_addI, x_addS, x_eqI, x_neI, x_lt, x_le, x_gt, x_ge, x_sub, x_neg, x_abs, x_int, x_str, x_lenS, List.set, List.length_cons, List.length_nil, true_and, and_true, landA]
        refine w_ix rfl landA_ix0 (w_list rfl ?_)
        have e : vNs L 0 = L.vs.map A.str := by unfold vNs; rw [List.range_zero, List.map_nil, List.append_nil]
        rw [e] at q'
        exact q'
      refine seq_set (a := .own (O.length + 2)) (O1 := divSt O (nI (ℓ.map (· * k))) [] (vNs L 0)) (fun Q' q' => ⟨Nat.zero_le _, q'⟩) ?_
      refine seq_for (items := items k L.rs ℓ) (chk := fun O' => seqA O' (.tup (L.rs.map rdA)) = some (L.rs.map rdA) ∧ seqA O' (.own O.length) = some (nI (ℓ.map (· * k)))) (O1 := divSt O (nI (ℓ.map (· * k))) [] (vNs L 0)) (fun Q' q' => ?_) ?_
      · simp only [dSl0, sSeq, sNext, sExpr, sRet, sRetN, sIf, sAsg, sPar, sPar3, sSub, sDPutA, sAug, sAugS, sFor, sWhile, sRaise, sBreak, sCont, aVar, sg, aC, aBin, aBl, aUn, aAnd, aOr, aNot, aAndV, aOrV, aNotV, aIf, aTru, truA, aNil, aCons, aTup, aLst, aFn, aML, aML0, aCall, aCallK, aLc, aDc, aiL, aiT, aiR1, aiR2, r1K, r2K, aiZip, agN, agNil, agCons, agTup, tupOf, x_add, x_addI, x_addS, x_eqI, x_neI, x_lt, x_le, x_gt, x_ge, x_sub, x_neg, x_abs, x_int, x_str, x_lenS, List.set, List.length_cons, List.length_nil, true_and, and_true, landA]
        refine w_ix rfl landA_ix1 ⟨⟨rfl, rfl⟩, ?_⟩
        rw [seq_own divSt_p]
        show Q' (zipA (L.rs.map rdA) (nI (ℓ.map (· * k)))) _ _
        rw [zip_items]
        exact q'
      have nf : total ℓ k ≤ 240 := Nat.le_of_not_lt fun h => hfar (.inl h)
      refine road_loop (L := L) (ℓ := ℓ) (pc := nI (ℓ.map (· * k))) hA.k1 hok.v4 (fun rds vs => ⟨rfl, seq_own divSt_p⟩) L.rs ℓ 0 0 [] none none none none none none none none hl.len hl.one (by omega) (by omega) rfl fun z4 z7 z8 z9 z10 z11 z12 z13 => ?_
      simp only [sSeq, sNext, sExpr, sRet, sRetN, sIf, sAsg, sPar, sPar3, sSub, sDPutA, sAug, sAugS, sFor, sWhile, sRaise, sBreak, sCont, aVar, sg, aC, aBin, aBl, aUn, aAnd, aOr, aNot, aAndV, aOrV, aNotV, aIf, aTru, truA, aNil, aCons, aTup, aLst, aFn, aML, aML0, aCall, aCallK, aLc, aDc, aiL, aiT, aiR1, aiR2, r1K, r2K, aiZip, agN, agNil, agCons, agTup, tupOf, x_add, x_addI, x_addS, x_eqI, x_neI, x_lt, x_le, x_gt, x_ge, x_sub, x_neg, x_abs, x_int, x_str, x_lenS, List.set, List.length_cons, List.length_nil, true_and, and_true]
      refine w_tuple divSt_v (w_tuple divSt_r ?_)
      refine ⟨by rw [sizeLine_eq]; decide, ?_⟩
      rw [List.nil_append, Nat.zero_add]
      refine fin_data Ext.new.cons.cons ?_ (q hfar)
      unfold vNs
      simp only [ltA, ltAs, Bool.and_true, Bool.and_eq_true]
      exact ⟨ltAs_map fun _ _ => rfl, ltAs_map fun _ _ => rfl⟩
end
end K82

set_option Elab.async false
set_option linter.all false
set_option maxRecDepth 100000
set_option maxHeartbeats 4000000
/-! The law's divided. -/
namespace K82
open PySem PySem.Spec L2 PyA
section
variable {as : List A} {O : Own} {Q : AK} {QE : Value → Own → Prop} {L : Land} {ℓ : List Nat} {k : Nat}
theorem w_vS {n : Nat} {te : AE} {δ : Slots} (h : n < 500) (ht : ∀ Q : AK, Q (.int (n : Int)) O → te δ O Q) (q : Q (.str (vN n)) O) : aBin opAdd (aC (.str ("v" : Str))) (aFn tStr (aCons te aNil)) δ O Q := by
  simp only [aBin, aC, aFn, aCons, aNil]
  refine ht _ ?_
  simp only [x_str, x_addS]
  have := vN_len h
  unfold vN at this
  rw [Str.length_append] at this
  exact ⟨log_small h, this.1, q⟩
theorem w_rS {n : Nat} {te : AE} {δ : Slots} (h : n < 500) (ht : ∀ Q : AK, Q (.int (n : Int)) O → te δ O Q) (q : Q (.str (rN n)) O) : aBin opAdd (aC (.str ("r" : Str))) (aFn tStr (aCons te aNil)) δ O Q := by
  simp only [aBin, aC, aFn, aCons, aNil]
  refine ht _ ?_
  simp only [x_str, x_addS]
  have := vN_len h
  unfold rN at this
  rw [Str.length_append ("r" : Str)] at this
  exact ⟨log_small h, this.2, q⟩
/-- the lists of villages and of roads -/
structure Vr (O O1 : Own) (vs : List A) (rds : List Road) : Prop where
  ext : Ext O O1
  v : lv O1 O.length = some (.lst vs)
  r : lv O1 (O.length + 1) = some (.lst (rds.map rdA))
/-- the stations too -/
structure Va (O O1 : Own) (m : Nat) (vs : List A) (rds : List Road) (al : List Str) : Prop extends Vr O O1 vs rds where
  m2 : O.length + 2 ≤ m
  a : lv O1 m = some (.lst (al.map A.str))
section
variable {O1 : Own} {vs vs' : List A} {rds rds' : List Road} {m : Nat} {al al' : List Str}
theorem Va.putV (x : Va O O1 m vs rds al) : Va O (lput O1 O.length (.lst vs')) m vs' rds al :=
  ⟨⟨x.ext.put (Nat.le_refl _), lv_lput_same (lv_lt x.v), by rw [lv_lput_ne (by omega)]; exact x.r⟩, x.m2, by rw [lv_lput_ne (by have := x.m2; omega)]; exact x.a⟩
theorem Va.putR (x : Va O O1 m vs rds al) : Va O (lput O1 (O.length + 1) (.lst (rds'.map rdA))) m vs rds' al :=
  ⟨⟨x.ext.put (by omega), by rw [lv_lput_ne (by omega)]; exact x.v, lv_lput_same (lv_lt x.r)⟩, x.m2, by rw [lv_lput_ne (by have := x.m2; omega)]; exact x.a⟩
theorem Va.putA (x : Va O O1 m vs rds al) : Va O (lput O1 m (.lst (al'.map A.str))) m vs rds al' :=
  ⟨⟨x.ext.put (by have := x.m2; omega), by rw [lv_lput_ne (by have := x.m2; omega)]; exact x.v, by rw [lv_lput_ne (by have := x.m2; omega)]; exact x.r⟩, x.m2, lv_lput_same (lv_lt x.a)⟩
theorem Vr.newA (x : Vr O O1 vs rds) : Va O (.lst (al.map A.str) :: O1) O1.length vs rds al :=
  ⟨⟨x.ext.cons, lv_cons_of x.v, lv_cons_of x.r⟩, by have := lv_lt x.r; omega, lv_self⟩
end
abbrev gSl (L : Land) (ℓ : List Nat) (k : Nat) (O : Own) (num : Nat) (z6 z7 z8 z9 z10 z11 : Option A) : Slots :=
  [some (landA L), some (lensA ℓ), some (.int (k : Nat)), some (.own O.length), some (.own (O.length + 1)), some (.int (num : Nat)), z6, z7, z8, z9, z10, z11]
def g1 : AS := (sSeq (sExpr (aML mAppend (aVar 10) (aCons (aBin opAdd (aC (.str ("v" : Str))) (aFn tStr (aCons (aVar 5) aNil))) aNil)))
    (sSeq (sExpr (aML mAppend (aVar 3) (aCons (aBin opAdd (aC (.str ("v" : Str))) (aFn tStr (aCons (aVar 5) aNil))) aNil)))
    (sAsg (aBin opAdd (aVar 5) (aC (.int 1))) (agN 5))))
def g2 : AS := (sExpr (aML mAppend (aVar 4) (aCons (aTup (aCons (aBin opAdd (aC (.str ("r" : Str))) (aFn tStr (aCons (aFn bLen (aCons (aVar 4) aNil)) aNil))) (aCons (aBin ixA (aVar 10) (aVar 11)) (aCons (aBin ixA (aVar 10) (aBin opAdd (aVar 11) (aC (.int 1)))) aNil)))) aNil)))
theorem loop1 {D : AEnds} {O1 : Own} {m w num : Nat} {rds : List Road} {one : Str} {z6 z7 z8 z9 z11 : Option A} (hn : num + w < 400) (hv : L.vs.length ≤ 4) (x : Va O O1 m (vNs L num) rds [one])
    (h : ∀ z11 O2, Va O O2 m (vNs L (num + (w - 1))) rds (one :: (List.range (w - 1)).map fun j => vN (num + j)) → D.nx (gSl L ℓ k O (num + (w - 1)) z6 z7 z8 z9 (some (.own m)) z11) O2) :
    forA (fun _ => True) (agN 11) g1 D (rangeA 0 (w - 1)) (gSl L ℓ k O num z6 z7 z8 z9 (some (.own m)) z11) O1 := by
  refine forA_inv (fun j δ O1 => ∃ (c : Nat) (z11 : Option A), δ = gSl L ℓ k O c z6 z7 z8 z9 (some (.own m)) z11 ∧ c = num + j ∧ Va O O1 m (vNs L (num + j)) rds (one :: (List.range j).map fun j => vN (num + j)))
    (fun j v δ O1 Nx hx hI kN => ?_) (fun δ O1 hI => ?_) ⟨_, _, rfl, rfl, x⟩
  · obtain ⟨c, z11, rfl, rfl, x⟩ := hI
    obtain ⟨hj, rfl⟩ := rangeA_at hx
    refine ⟨trivial, ?_⟩
    unfold g1
    simp only [agN, List.set]
    refine seq_expr (a := .non) (O1 := lput O1 m (.lst ((one :: (List.range (j + 1)).map fun j => vN (num + j)).map A.str))) (fun Q q => ?_) ?_
    · simp only [aML, aVar, sg, aCons, aNil]
      refine ⟨w_isLst x.a, w_vS (n := num + j) (by omega) (fun Q q => q) (w_append x.a ?_ ?_)⟩
      · rw [List.length_map, List.length_cons, List.length_map, List.length_range, sizeLine_eq]; omega
      · have e : (one :: (List.range (j + 1)).map fun j => vN (num + j)).map A.str = (one :: (List.range j).map fun j => vN (num + j)).map A.str ++ [.str (vN (num + j))] := by
          rw [range_snoc, ← List.cons_append, List.map_append]; rfl
        rw [e] at q
        exact q
    have x1 := x.putA (al' := one :: (List.range (j + 1)).map fun j => vN (num + j))
    refine seq_expr (a := .non) (O1 := lput (lput O1 m (.lst ((one :: (List.range (j + 1)).map fun j => vN (num + j)).map A.str))) O.length (.lst (vNs L (num + j + 1)))) (fun Q q => ?_) ?_
    · simp only [aML, aVar, sg, aCons, aNil]
      refine ⟨w_isLst x1.v, w_vS (n := num + j) (by omega) (fun Q q => q) (w_append x1.v ?_ ?_)⟩
      · rw [vNs_len, sizeLine_eq]; omega
      · rw [← vNs_snoc]; exact q
    have x2 := x1.putV (vs' := vNs L (num + j + 1))
    simp only [sSeq, sNext, sExpr, sRet, sRetN, sIf, sAsg, sPar, sPar3, sSub, sDPutA, sAug, sAugS, sFor, sWhile, sRaise, sBreak, sCont, aVar, sg, aC, aBin, aBl, aUn, aAnd, aOr, aNot, aAndV, aOrV, aNotV, aIf, aTru, truA, aNil, aCons, aTup, aLst, aFn, aML, aML0, aCall, aCallK, aLc, aDc, aiL, aiT, aiR1, aiR2, r1K, r2K, aiZip, agN, agNil, agCons, agTup, tupOf, x_add, x_addI, x_addS, x_eqI, x_neI, x_lt, x_le, x_gt, x_ge, x_sub, x_neg, x_abs, x_int, x_str, x_lenS, List.set, List.length_cons, List.length_nil, true_and, and_true]
    exact kN _ _ ⟨num + j + 1, _, rfl, rfl, x2⟩
  · obtain ⟨c, z11, rfl, rfl, x⟩ := hI
    rw [rangeA_len] at x ⊢
    exact ⟨trivial, h _ _ x⟩
theorem along_get {one other : Str} {num w j : Nat} (h : j < w - 1 + 2) : (along one other num w)[j]? = some ((along one other num w).getD j one) := by
  have hj : j < (along one other num w).length := by rw [along_len]; exact h
  rw [List.getD_eq_getElem?_getD, List.getElem?_eq_getElem hj]
  rfl
theorem loop2 {D : AEnds} {O1 : Own} {m w num cnt nn : Nat} {rds : List Road} {one other : Str} {vs : List A} {z6 z7 z8 z9 z11 : Option A} (hw : 1 ≤ w) (hc : cnt + w < 400) (hr : rds.length = cnt) (x : Va O O1 m vs rds (along one other num w))
    (h : ∀ z11 O2, Va O O2 m vs (rds ++ pieces one other num cnt w) (along one other num w) → D.nx (gSl L ℓ k O nn z6 z7 z8 z9 (some (.own m)) z11) O2) :
    forA (fun _ => True) (agN 11) g2 D (rangeA 0 w) (gSl L ℓ k O nn z6 z7 z8 z9 (some (.own m)) z11) O1 := by
  refine forA_inv (fun j δ O1 => ∃ (z11 : Option A), δ = gSl L ℓ k O nn z6 z7 z8 z9 (some (.own m)) z11 ∧ Va O O1 m vs (rds ++ (pieces one other num cnt w).take j) (along one other num w))
    (fun j v δ O1 Nx hx hI kN => ?_) (fun δ O1 hI => ?_) ⟨_, rfl, by rw [List.take_zero, List.append_nil]; exact x⟩
  · obtain ⟨z11, rfl, x⟩ := hI
    obtain ⟨hj, rfl⟩ := rangeA_at hx
    refine ⟨trivial, ?_⟩
    have pl : ((pieces one other num cnt w).take j).length = j := by
      unfold pieces
      rw [List.length_take, List.length_map, List.length_range]
      omega
    unfold g2
    simp only [agN, List.set, sExpr, aML, aVar, sg, aCons, aNil, aTup, Int.zero_add]
    refine ⟨w_isLst x.r, w_rS (n := cnt + j) (by omega) (fun Q q => ?_) ?_⟩
    · simp only [aFn, aCons, aNil]
      refine w_len (seq_own x.r) ?_
      rw [List.length_map, List.length_append, hr, pl]
      exact q
    simp only [aBin, aC, x_add, aVar, sg]
    have g1 : ((along one other num w).map A.str)[j]? = some (.str ((along one other num w).getD j one)) := by rw [List.getElem?_map, along_get (by omega)]; rfl
    have g2 : ((along one other num w).map A.str)[j + 1]? = some (.str ((along one other num w).getD (j + 1) one)) := by rw [List.getElem?_map, along_get (by omega)]; rfl
    refine w_ixN (seq_own x.a) g1 ?_
    refine w_ixN (n := j + 1) (seq_own x.a) g2 ?_
    refine ⟨by rw [sizeLine_eq]; show 3 ≤ 16777216; decide, w_append x.r ?_ ?_⟩
    · rw [List.length_map, List.length_append, hr, pl, sizeLine_eq]; omega
    · have e : (rds ++ (pieces one other num cnt w).take (j + 1)).map rdA = (rds ++ (pieces one other num cnt w).take j).map rdA ++ [rdA (rN (cnt + j), (along one other num w).getD j one, (along one other num w).getD (j + 1) one)] := by
        rw [pieces_snoc hj, ← List.append_assoc, List.map_append]; rfl
      refine kN _ _ ⟨_, rfl, ?_⟩
      have x1 := x.putR (rds' := rds ++ (pieces one other num cnt w).take (j + 1))
      rw [e] at x1
      exact x1
  · obtain ⟨z11, rfl, x⟩ := hI
    rw [rangeA_len, List.take_of_length_le (by unfold pieces; rw [List.length_map, List.length_range]; exact Nat.le_refl _)] at x
    exact ⟨trivial, h _ _ x⟩
def gRoad : AS := (sSeq (sAsg (aBin ixA (aBin ixA (aVar 0) (aC (.int 1))) (aVar 6)) (agTup 3 (agCons (agN 7) (agCons (agN 8) (agCons (agN 9) agNil)))))
    (sSeq (sAsg (aLst (aCons (aVar 8) aNil)) (agN 10))
    (sSeq (sFor (aiR1 (aBin opSub (aBin opMul (aBin ixA (aVar 1) (aVar 6)) (aVar 2)) (aC (.int 1)))) (agN 11) g1)
    (sSeq (sExpr (aML mAppend (aVar 10) (aCons (aVar 9) aNil)))
    (sFor (aiR1 (aBin opSub (aFn bLen (aCons (aVar 10) aNil)) (aC (.int 1)))) (agN 11) g2)))))
theorem drop_at {α : Type} {l : List α} {i : Nat} {x : α} (h : l[i]? = some x) : l.drop i = x :: l.drop (i + 1) := by
  obtain ⟨hi, rfl⟩ := List.getElem?_eq_some_iff.mp h
  exact List.drop_eq_getElem_cons hi
theorem g_loop {D : AEnds} {O1 : Own} {z6 z7 z8 z9 z10 z11 : Option A} (hA : Ask L ℓ k) (nf : total ℓ k ≤ 240) (x : Vr O O1 (vNs L 0) [])
    (h : ∀ z6 z7 z8 z9 z10 z11 O2, Vr O O2 (vNs L (inner ℓ k)) (divR k L.rs ℓ 0 0) → D.nx (gSl L ℓ k O (inner ℓ k) z6 z7 z8 z9 z10 z11) O2) :
    forA (fun _ => True) (agN 6) gRoad D (rangeA 0 L.rs.length) (gSl L ℓ k O 0 z6 z7 z8 z9 z10 z11) O1 := by
  have hok := hA.ok
  have hl := hA.lok
  have hk := hA.k1
  refine forA_inv (fun i δ O1 => ∃ (num cnt : Nat) (rds : List Road) (z6 z7 z8 z9 z10 z11 : Option A), δ = gSl L ℓ k O num z6 z7 z8 z9 z10 z11 ∧ Vr O O1 (vNs L num) rds ∧ rds.length = cnt ∧
      rds ++ divR k (L.rs.drop i) (ℓ.drop i) num cnt = divR k L.rs ℓ 0 0 ∧ num + inner (ℓ.drop i) k = inner ℓ k ∧ cnt + total (ℓ.drop i) k = total ℓ k ∧ num ≤ cnt)
    (fun i v δ O1 Nx hx hI kN => ?_) (fun δ O1 hI => ?_) ⟨0, 0, [], _, _, _, _, _, _, rfl, x, rfl, by rw [List.nil_append]; rfl, by rw [Nat.zero_add]; rfl, by rw [Nat.zero_add]; rfl, Nat.le_refl _⟩
  · obtain ⟨num, cnt, rds, z6, z7, z8, z9, z10, z11, rfl, x, hr, e1, e2, e3, hnc⟩ := hI
    obtain ⟨hi, rfl⟩ := rangeA_at hx
    refine ⟨trivial, ?_⟩
    have hil : i < ℓ.length := by rw [hl.len]; exact hi
    have hri : L.rs[i]? = some L.rs[i] := List.getElem?_eq_getElem hi
    have hli : ℓ[i]? = some ℓ[i] := List.getElem?_eq_getElem hil
    generalize L.rs[i] = r at hri
    generalize ℓ[i] = l at hli
    have l1 : 1 ≤ l := hl.one l (List.mem_of_getElem? hli)
    have l9 : l ≤ 9 := hl.nin l (List.mem_of_getElem? hli)
    have lk : 1 ≤ l * k := Nat.mul_pos l1 hk
    rw [drop_at hli, total_cons] at e3
    rw [drop_at hli, inner_cons] at e2
    rw [drop_at hli, drop_at hri] at e1
    have bound : cnt + l * k ≤ 240 := by omega
    unfold gRoad
    simp only [agN, List.set, Int.zero_add]
    have s1 : ∀ Q : AK, Q (rdA r) O1 → aBin ixA (aBin ixA (aVar 0) (aC (.int 1))) (aVar 6) [some (landA L), some (lensA ℓ), some (.int (k : Nat)), some (.own O.length), some (.own (O.length + 1)), some (.int (num : Nat)), some (.int (i : Int)), z7, z8, z9, z10, z11] O1 Q := fun Q q => by
      simp only [sSeq, sNext, sExpr, sRet, sRetN, sIf, sAsg, sPar, sPar3, sSub, sDPutA, sAug, sAugS, sFor, sWhile, sRaise, sBreak, sCont, aVar, sg, aC, aBin, aBl, aUn, aAnd, aOr, aNot, aAndV, aOrV, aNotV, aIf, aTru, truA, aNil, aCons, aTup, aLst, aFn, aML, aML0, aCall, aCallK, aLc, aDc, aiL, aiT, aiR1, aiR2, r1K, r2K, aiZip, agN, agNil, agCons, agTup, tupOf, x_add, x_addI, x_addS, x_eqI, x_neI, x_lt, x_le, x_gt, x_ge, x_sub, x_neg, x_abs, x_int, x_str, x_lenS, List.set, List.length_cons, List.length_nil, true_and, and_true, landA]
      refine w_ix rfl landA_ix1 (w_ixN (xs := L.rs.map rdA) rfl ?_ q)
      rw [List.getElem?_map, hri]
      rfl
    refine s1 _ ?_
    simp only [agTup, rdA, tupOf, agCons, agN, agNil, List.set]
    refine ⟨rfl, ?_⟩
    refine seq_set (a := .own O1.length) (O1 := .lst ([r.2.1].map A.str) :: O1) (fun Q q => ⟨by rw [sizeLine_eq]; show 1 ≤ 16777216; decide, q⟩) ?_
    have x1 := x.newA (al := [r.2.1])
    refine seq_for (items := rangeA 0 (l * k - 1)) (chk := fun _ => True) (O1 := .lst ([r.2.1].map A.str) :: O1) (fun Q q => ?_) ?_
    · simp only [sSeq, sNext, sExpr, sRet, sRetN, sIf, sAsg, sPar, sPar3, sSub, sDPutA, sAug, sAugS, sFor, sWhile, sRaise, sBreak, sCont, aVar, sg, aC, aBin, aBl, aUn, aAnd, aOr, aNot, aAndV, aOrV, aNotV, aIf, aTru, truA, aNil, aCons, aTup, aLst, aFn, aML, aML0, aCall, aCallK, aLc, aDc, aiL, aiT, aiR1, aiR2, r1K, r2K, aiZip, agN, agNil, agCons, agTup, tupOf, x_add, x_addI, x_addS, x_eqI, x_neI, x_lt, x_le, x_gt, x_ge, x_sub, x_neg, x_abs, x_int, x_str, x_lenS, List.set, List.length_cons, List.length_nil, true_and, and_true, lensA]
      refine w_ixN (xs := nI ℓ) rfl (nI_get hli) (w_mul l k (.inl (by omega)) ?_)
      simp only [sSeq, sNext, sExpr, sRet, sRetN, sIf, sAsg, sPar, sPar3, sSub, sDPutA, sAug, sAugS, sFor, sWhile, sRaise, sBreak, sCont, aVar, sg, aC, aBin, aBl, aUn, aAnd, aOr, aNot, aAndV, aOrV, aNotV, aIf, aTru, truA, aNil, aCons, aTup, aLst, aFn, aML, aML0, aCall, aCallK, aLc, aDc, aiL, aiT, aiR1, aiR2, r1K, r2K, aiZip, agN, agNil, agCons, agTup, tupOf, x_add, x_addI, x_addS, x_eqI, x_neI, x_lt, x_le, x_gt, x_ge, x_sub, x_neg, x_abs, x_int, x_str, x_lenS, List.set, List.length_cons, List.length_nil, true_and, and_true]
      have e : ((l * k : Nat) : Int) - 1 = ((l * k - 1 : Nat) : Int) := by omega
      rw [e, Int.toNat_natCast]
      exact ⟨by omega, by omega, q⟩
    refine loop1 (L := L) (ℓ := ℓ) (k := k) (by omega) hok.v4 x1 fun z11 O2 x2 => ?_
    dsimp only
    refine seq_expr (a := .non) (O1 := lput O2 O1.length (.lst ((along r.2.1 r.2.2 num (l * k)).map A.str))) (fun Q q => ?_) ?_
    · simp only [aML, aVar, sg, aCons, aNil]
      refine ⟨w_isLst x2.a, w_append x2.a ?_ ?_⟩
      · rw [List.length_map, List.length_cons, List.length_map, List.length_range, sizeLine_eq]; omega
      · have e : (along r.2.1 r.2.2 num (l * k)).map A.str = (r.2.1 :: (List.range (l * k - 1)).map fun j => vN (num + j)).map A.str ++ [.str r.2.2] := by
          unfold along
          rw [List.map_append]; rfl
        rw [e] at q
        exact q
    have x3 := x2.putA (al' := along r.2.1 r.2.2 num (l * k))
    refine for_items (items := rangeA 0 (l * k)) (chk := fun _ => True) (O1 := lput O2 O1.length (.lst ((along r.2.1 r.2.2 num (l * k)).map A.str))) (fun Q q => ?_) ?_
    · simp only [sSeq, sNext, sExpr, sRet, sRetN, sIf, sAsg, sPar, sPar3, sSub, sDPutA, sAug, sAugS, sFor, sWhile, sRaise, sBreak, sCont, aVar, sg, aC, aBin, aBl, aUn, aAnd, aOr, aNot, aAndV, aOrV, aNotV, aIf, aTru, truA, aNil, aCons, aTup, aLst, aFn, aML, aML0, aCall, aCallK, aLc, aDc, aiL, aiT, aiR1, aiR2, r1K, r2K, aiZip, agN, agNil, agCons, agTup, tupOf, x_add, x_addI, x_addS, x_eqI, x_neI, x_lt, x_le, x_gt, x_ge, x_sub, x_neg, x_abs, x_int, x_str, x_lenS, List.set, List.length_cons, List.length_nil, true_and, and_true]
      refine w_len (seq_own x3.a) ?_
      rw [List.length_map, along_len]
      simp only [sSeq, sNext, sExpr, sRet, sRetN, sIf, sAsg, sPar, sPar3, sSub, sDPutA, sAug, sAugS, sFor, sWhile, sRaise, sBreak, sCont, aVar, sg, aC, aBin, aBl, aUn, aAnd, aOr, aNot, aAndV, aOrV, aNotV, aIf, aTru, truA, aNil, aCons, aTup, aLst, aFn, aML, aML0, aCall, aCallK, aLc, aDc, aiL, aiT, aiR1, aiR2, r1K, r2K, aiZip, agN, agNil, agCons, agTup, tupOf, x_add, x_addI, x_addS, x_eqI, x_neI, x_lt, x_le, x_gt, x_ge, x_sub, x_neg, x_abs, x_int, x_str, x_lenS, List.set, List.length_cons, List.length_nil, true_and, and_true]
      have e : ((l * k - 1 + 2 : Nat) : Int) - 1 = ((l * k : Nat) : Int) := by omega
      rw [e, Int.toNat_natCast]
      exact ⟨by omega, by omega, q⟩
    refine loop2 (L := L) (ℓ := ℓ) (k := k) (num := num) (by omega) (by omega) hr x3 fun z11 O3 x4 => ?_
    refine kN _ _ ⟨num + (l * k - 1), cnt + l * k, rds ++ pieces r.2.1 r.2.2 num cnt (l * k), _, _, _, _, _, _, rfl, x4.toVr, ?_, ?_, by omega, by omega, by omega⟩
    · rw [List.length_append, hr]; unfold pieces; rw [List.length_map, List.length_range]
    · rw [List.append_assoc]; exact e1
  · obtain ⟨num, cnt, rds, z6, z7, z8, z9, z10, z11, rfl, x, hr, e1, e2, e3, hnc⟩ := hI
    rw [rangeA_len] at e1 e2 e3
    have d1 : L.rs.drop L.rs.length = [] := List.drop_length
    have d2 : ℓ.drop L.rs.length = [] := by rw [← hl.len]; exact List.drop_length
    rw [d1, d2, show divR k [] [] num cnt = [] from rfl, List.append_nil] at e1
    rw [d2, show inner [] k = 0 from rfl, Nat.add_zero] at e2
    subst e1 e2
    exact ⟨trivial, h _ _ _ _ _ _ _ x⟩
theorem law_divided_ok (h : sp_law_divided as O Q QE) : rd_law_divided (EN O Q) (startA N_law_divided as) O := by
  obtain ⟨L, ℓ, k, rfl, hA, hf, q⟩ := h
  have hok := hA.ok
  have hl := hA.lok
  show rd_law_divided _ [some (landA L), some (lensA ℓ), some (.int (k : Nat)), none, none, none, none, none, none, none, none, none] O
  unfold rd_law_divided
  have nf : total ℓ k ≤ 240 := Nat.le_of_not_lt fun h => hf (.inl h)
  have s1 : ∀ (rest : AS) (D : AEnds), rest D (gSl L ℓ k O 0 none none none none none none) (.lst [] :: .lst (vNs L 0) :: O) →
      sSeq (sPar3 3 4 5 (aCons (aFn tList (aCons (aBin ixA (aVar 0) (aC (.int 0))) aNil)) (aCons (aLst aNil) (aCons (aC (.int 0)) aNil)))) rest D [some (landA L), some (lensA ℓ), some (.int (k : Nat)), none, none, none, none, none, none, none, none, none] O := by
    intro rest D hr
    simp only [sSeq, sNext, sExpr, sRet, sRetN, sIf, sAsg, sPar, sPar3, sSub, sDPutA, sAug, sAugS, sFor, sWhile, sRaise, sBreak, sCont, aVar, sg, aC, aBin, aBl, aUn, aAnd, aOr, aNot, aAndV, aOrV, aNotV, aIf, aTru, truA, aNil, aCons, aTup, aLst, aFn, aML, aML0, aCall, aCallK, aLc, aDc, aiL, aiT, aiR1, aiR2, r1K, r2K, aiZip, agN, agNil, agCons, agTup, tupOf, x_add, x_addI, x_addS, x_eqI, x_neI, x_lt, x_le, x_gt, x_ge, x_sub, x_neg, x_abs, x_int, x_str, x_lenS, List.set, List.length_cons, List.length_nil, true_and, and_true, landA]
    refine w_ix rfl landA_ix0 (w_list rfl ⟨Nat.zero_le _, ?_⟩)
    have e : vNs L 0 = L.vs.map A.str := by unfold vNs; rw [List.range_zero, List.map_nil, List.append_nil]
    rw [e] at hr
    exact hr
  refine s1 _ _ ?_
  refine seq_for (items := rangeA 0 L.rs.length) (chk := fun _ => True) (O1 := .lst [] :: .lst (vNs L 0) :: O) (fun Q q => ?_) ?_
  · simp only [sSeq, sNext, sExpr, sRet, sRetN, sIf, sAsg, sPar, sPar3, sSub, sDPutA, sAug, sAugS, sFor, sWhile, sRaise, sBreak, sCont, aVar, sg, aC, aBin, aBl, aUn, aAnd, aOr, aNot, aAndV, aOrV, aNotV, aIf, aTru, truA, aNil, aCons, aTup, aLst, aFn, aML, aML0, aCall, aCallK, aLc, aDc, aiL, aiT, aiR1, aiR2, r1K, r2K, aiZip, agN, agNil, agCons, agTup, tupOf, x_add, x_addI, x_addS, x_eqI, x_neI, x_lt, x_le, x_gt, x_ge, x_sub, x_neg, x_abs, x_int, x_str, x_lenS, List.set, List.length_cons, List.length_nil, true_and, and_true, landA]
    refine w_ix rfl landA_ix1 (w_len rfl ?_)
    rw [List.length_map]
    simp only [sSeq, sNext, sExpr, sRet, sRetN, sIf, sAsg, sPar, sPar3, sSub, sDPutA, sAug, sAugS, sFor, sWhile, sRaise, sBreak, sCont, aVar, sg, aC, aBin, aBl, aUn, aAnd, aOr, aNot, aAndV, aOrV, aNotV, aIf, aTru, truA, aNil, aCons, aTup, aLst, aFn, aML, aML0, aCall, aCallK, aLc, aDc, aiL, aiT, aiR1, aiR2, r1K, r2K, aiZip, agN, agNil, agCons, agTup, tupOf, x_add, x_addI, x_addS, x_eqI, x_neI, x_lt, x_le, x_gt, x_ge, x_sub, x_neg, x_abs, x_int, x_str, x_lenS, List.set, List.length_cons, List.length_nil, true_and, and_true, Int.toNat_natCast]
    exact ⟨by have := hok.r5; omega, by omega, q⟩
  refine g_loop hA nf ⟨Ext.new.cons, lv_cons_of lv_self, lv_self⟩ fun z6 z7 z8 z9 z10 z11 O2 x => ?_
  simp only [sSeq, sNext, sExpr, sRet, sRetN, sIf, sAsg, sPar, sPar3, sSub, sDPutA, sAug, sAugS, sFor, sWhile, sRaise, sBreak, sCont, aVar, sg, aC, aBin, aBl, aUn, aAnd, aOr, aNot, aAndV, aOrV, aNotV, aIf, aTru, truA, aNil, aCons, aTup, aLst, aFn, aML, aML0, aCall, aCallK, aLc, aDc, aiL, aiT, aiR1, aiR2, r1K, r2K, aiZip, agN, agNil, agCons, agTup, tupOf, x_add, x_addI, x_addS, x_eqI, x_neI, x_lt, x_le, x_gt, x_ge, x_sub, x_neg, x_abs, x_int, x_str, x_lenS, List.set, List.length_cons, List.length_nil, true_and, and_true]
  refine w_tuple x.v (w_tuple x.r ⟨by rw [sizeLine_eq]; decide, ?_⟩)
  refine fin_data x.ext ?_ q
  unfold vNs
  simp only [ltA, ltAs, Bool.and_true, Bool.and_eq_true]
  exact ⟨ltAs_map fun _ _ => rfl, ltAs_map fun _ _ => rfl⟩
end
end K82

set_option Elab.async false
set_option linter.all false
set_option maxRecDepth 100000
set_option maxHeartbeats 4000000
/-! The law's spots and laid. -/
namespace K82
open PySem PySem.Spec L2 PyA
section
variable {as : List A} {O : Own} {Q : AK} {QE : Value → Own → Prop} {L : Land} {ℓ : List Nat} {k : Nat}
theorem roadSpots_len {n : Str} {w : Nat} : (roadSpots n w).length = w - 1 := by unfold roadSpots; rw [List.length_map, List.length_range]
theorem roadSpots_get {n : Str} {w t : Nat} (h : t < w - 1) : (roadSpots n w)[t]? = some [.inr n, .inl (((t + 1) / Nat.gcd (t + 1) w : Nat) : Int), .inl ((w / Nat.gcd (t + 1) w : Nat) : Int)] := by
  unfold roadSpots
  rw [List.getElem?_map, List.getElem?_range h]
  rfl
theorem spotsR_len : ∀ {rs : List Road} {ls : List Nat}, ls.length = rs.length → (spotsR k rs ls).length = inner ls k
  | [], [], _ => rfl
  | r :: rs, l :: ls, h => by
    show (roadSpots r.1 (l * k) ++ spotsR k rs ls).length = _
    rw [List.length_append, roadSpots_len, spotsR_len (by simpa using h), inner_cons]
  | [], _ :: _, h => by simp at h
  | _ :: _, [], h => by simp at h
theorem inner_le : ∀ {ls : List Nat}, inner ls k ≤ total ls k
  | [] => Nat.le_refl _
  | l :: ls => by
    rw [inner_cons, total_cons]
    have := inner_le (ls := ls)
    omega
theorem spotsN_len (hl : LensOk L ℓ) : (spotsN L ℓ k).length = L.vs.length + inner ℓ k := by
  unfold spotsN
  rw [List.length_append, List.length_map, spotsR_len hl.len]
abbrev pSl (L : Land) (ℓ : List Nat) (k : Nat) (O : Own) (z4 z5 z6 z7 z8 : Option A) : Slots :=
  [some (landA L), some (lensA ℓ), some (.int (k : Nat)), some (.own O.length), z4, z5, z6, z7, z8]
theorem law_spots_ok (h : sp_law_spots as O Q QE) : rd_law_spots (EN O Q) (startA N_law_spots as) O := by
  obtain ⟨L, ℓ, k, rfl, hA, q⟩ := h
  have hok := hA.ok
  have hl := hA.lok
  have hk := hA.k1
  obtain ⟨t1, t2, t3⟩ := total_le hA
  show rd_law_spots _ [some (landA L), some (lensA ℓ), some (.int (k : Nat)), none, none, none, none, none, none] O
  unfold rd_law_spots
  refine seq_set (a := .own O.length) (O1 := .lst ((L.vs.map fun v => [(.inr v : Key)]).map spotA) :: O) (fun Q q => ?_) ?_
  · simp only [sSeq, sNext, sExpr, sRet, sRetN, sIf, sAsg, sPar, sPar3, sSub, sDPutA, sAug, sAugS, sFor, sWhile, sRaise, sBreak, sCont, aVar, sg, aC, aBin, aBl, aUn, aAnd, aOr, aNot, aAndV, aOrV, aNotV, aIf, aTru, truA, aNil, aCons, aTup, aLst, aFn, aML, aML0, aCall, aCallK, aLc, aDc, aiL, aiT, aiR1, aiR2, r1K, r2K, aiZip, agN, agNil, agCons, agTup, tupOf, x_add, x_addI, x_addS, x_eqI, x_neI, x_lt, x_le, x_gt, x_ge, x_sub, x_neg, x_abs, x_int, x_str, x_lenS, List.set, List.length_cons, List.length_nil, true_and, and_true, landA]
    refine w_ix rfl landA_ix0 ?_
    refine compA_map (fun x => .tup [x]) trivial (by rw [List.length_map]; exact size5 (Nat.le_trans hok.v4 (by decide))) (fun x hx Q' q' => ?_) ?_
    · simp only [sSeq, sNext, sExpr, sRet, sRetN, sIf, sAsg, sPar, sPar3, sSub, sDPutA, sAug, sAugS, sFor, sWhile, sRaise, sBreak, sCont, aVar, sg, aC, aBin, aBl, aUn, aAnd, aOr, aNot, aAndV, aOrV, aNotV, aIf, aTru, truA, aNil, aCons, aTup, aLst, aFn, aML, aML0, aCall, aCallK, aLc, aDc, aiL, aiT, aiR1, aiR2, r1K, r2K, aiZip, agN, agNil, agCons, agTup, tupOf, x_add, x_addI, x_addS, x_eqI, x_neI, x_lt, x_le, x_gt, x_ge, x_sub, x_neg, x_abs, x_int, x_str, x_lenS, List.set, List.length_cons, List.length_nil, true_and, and_true, wipeA]
      exact ⟨by rw [sizeLine_eq]; show 1 ≤ 16777216; decide, q'⟩
    · have e : (L.vs.map A.str).map (fun x => A.tup [x]) = (L.vs.map fun v => [(.inr v : Key)]).map spotA := by
        rw [List.map_map, List.map_map]
        rfl
      rw [e]
      exact q
  refine seq_for (items := rangeA 0 L.rs.length) (chk := fun _ => True) (O1 := .lst ((L.vs.map fun v => [(.inr v : Key)]).map spotA) :: O) (fun Q q => ?_) ?_
  · simp only [sSeq, sNext, sExpr, sRet, sRetN, sIf, sAsg, sPar, sPar3, sSub, sDPutA, sAug, sAugS, sFor, sWhile, sRaise, sBreak, sCont, aVar, sg, aC, aBin, aBl, aUn, aAnd, aOr, aNot, aAndV, aOrV, aNotV, aIf, aTru, truA, aNil, aCons, aTup, aLst, aFn, aML, aML0, aCall, aCallK, aLc, aDc, aiL, aiT, aiR1, aiR2, r1K, r2K, aiZip, agN, agNil, agCons, agTup, tupOf, x_add, x_addI, x_addS, x_eqI, x_neI, x_lt, x_le, x_gt, x_ge, x_sub, x_neg, x_abs, x_int, x_str, x_lenS, List.set, List.length_cons, List.length_nil, true_and, and_true, landA]
    refine w_ix rfl landA_ix1 (w_len rfl ?_)
    rw [List.length_map]
    simp only [sSeq, sNext, sExpr, sRet, sRetN, sIf, sAsg, sPar, sPar3, sSub, sDPutA, sAug, sAugS, sFor, sWhile, sRaise, sBreak, sCont, aVar, sg, aC, aBin, aBl, aUn, aAnd, aOr, aNot, aAndV, aOrV, aNotV, aIf, aTru, truA, aNil, aCons, aTup, aLst, aFn, aML, aML0, aCall, aCallK, aLc, aDc, aiL, aiT, aiR1, aiR2, r1K, r2K, aiZip, agN, agNil, agCons, agTup, tupOf, x_add, x_addI, x_addS, x_eqI, x_neI, x_lt, x_le, x_gt, x_ge, x_sub, x_neg, x_abs, x_int, x_str, x_lenS, List.set, List.length_cons, List.length_nil, true_and, and_true, Int.toNat_natCast]
    exact ⟨by have := hok.r5; omega, by omega, q⟩
  refine forA_inv (fun i δ O1 => ∃ (acc : List (List Key)) (z4 z5 z6 z7 z8 : Option A), δ = pSl L ℓ k O z4 z5 z6 z7 z8 ∧ acc ++ spotsR k (L.rs.drop i) (ℓ.drop i) = spotsN L ℓ k ∧ O1 = .lst (acc.map spotA) :: O)
    (fun i v δ O1 Nx hx hI kN => ?_) (fun δ O1 hI => ?_) ⟨L.vs.map fun v => [(.inr v : Key)], _, _, _, _, _, rfl, rfl, rfl⟩
  · obtain ⟨acc, z4, z5, z6, z7, z8, rfl, e1, rfl⟩ := hI
    obtain ⟨hi, rfl⟩ := rangeA_at hx
    refine ⟨trivial, ?_⟩
    have hil : i < ℓ.length := by rw [hl.len]; exact hi
    have hri : L.rs[i]? = some L.rs[i] := List.getElem?_eq_getElem hi
    have hli : ℓ[i]? = some ℓ[i] := List.getElem?_eq_getElem hil
    generalize L.rs[i] = r at hri
    generalize ℓ[i] = l at hli
    have l1 : 1 ≤ l := hl.one l (List.mem_of_getElem? hli)
    have l9 : l ≤ 9 := hl.nin l (List.mem_of_getElem? hli)
    have lk : 1 ≤ l * k := Nat.mul_pos l1 hk
    have lk9 : l * k ≤ 891 := Nat.le_trans (Nat.mul_le_mul l9 hA.k99) (by decide)
    rw [drop_at hli, drop_at hri] at e1
    have e2 : acc ++ (roadSpots r.1 (l * k) ++ spotsR k (L.rs.drop (i + 1)) (ℓ.drop (i + 1))) = spotsN L ℓ k := e1
    have el := congrArg List.length e2
    rw [spotsN_len hl, List.length_append, List.length_append, roadSpots_len] at el
    have hin := inner_le (ls := ℓ) (k := k)
    simp only [agN, List.set, Int.zero_add]
    refine seq_set (a := .int ((l * k : Nat) : Int)) (O1 := .lst (acc.map spotA) :: O) (fun Q q => ?_) ?_
    · simp only [sSeq, sNext, sExpr, sRet, sRetN, sIf, sAsg, sPar, sPar3, sSub, sDPutA, sAug, sAugS, sFor, sWhile, sRaise, sBreak, sCont, aVar, sg, aC, aBin, aBl, aUn, aAnd, aOr, aNot, aAndV, aOrV, aNotV, aIf, aTru, truA, aNil, aCons, aTup, aLst, aFn, aML, aML0, aCall, aCallK, aLc, aDc, aiL, aiT, aiR1, aiR2, r1K, r2K, aiZip, agN, agNil, agCons, agTup, tupOf, x_add, x_addI, x_addS, x_eqI, x_neI, x_lt, x_le, x_gt, x_ge, x_sub, x_neg, x_abs, x_int, x_str, x_lenS, List.set, List.length_cons, List.length_nil, true_and, and_true, lensA]
      exact w_ixN (xs := nI ℓ) rfl (nI_get hli) (w_mul l k (.inl (by omega)) q)
    refine for_items (items := rangeA 1 (l * k - 1)) (chk := fun _ => True) (O1 := .lst (acc.map spotA) :: O) (fun Q q => ?_) ?_
    · simp only [sSeq, sNext, sExpr, sRet, sRetN, sIf, sAsg, sPar, sPar3, sSub, sDPutA, sAug, sAugS, sFor, sWhile, sRaise, sBreak, sCont, aVar, sg, aC, aBin, aBl, aUn, aAnd, aOr, aNot, aAndV, aOrV, aNotV, aIf, aTru, truA, aNil, aCons, aTup, aLst, aFn, aML, aML0, aCall, aCallK, aLc, aDc, aiL, aiT, aiR1, aiR2, r1K, r2K, aiZip, agN, agNil, agCons, agTup, tupOf, x_add, x_addI, x_addS, x_eqI, x_neI, x_lt, x_le, x_gt, x_ge, x_sub, x_neg, x_abs, x_int, x_str, x_lenS, List.set, List.length_cons, List.length_nil, true_and, and_true]
      have e : (((l * k : Nat) : Int) - 1).toNat = l * k - 1 := by omega
      rw [e]
      exact ⟨⟨by decide, by decide, by omega, by omega⟩, q⟩
    refine forA_inv (fun t δ O1 => ∃ (z7 z8 : Option A), δ = pSl L ℓ k O z4 (some (.int (i : Int))) (some (.int ((l * k : Nat) : Int))) z7 z8 ∧ O1 = .lst ((acc ++ (roadSpots r.1 (l * k)).take t).map spotA) :: O)
      (fun t v δ O1 Nx2 hx hI kN2 => ?_) (fun δ O1 hI => ?_) ⟨_, _, rfl, by rw [List.take_zero, List.append_nil]⟩
    · obtain ⟨z7, z8, rfl, rfl⟩ := hI
      obtain ⟨ht, rfl⟩ := rangeA_at hx
      refine ⟨trivial, ?_⟩
      have e3 : (1 : Int) + (t : Int) = ((t + 1 : Nat) : Int) := by omega
      rw [e3]
      simp only [agN, List.set]
      have g0 : 0 < Nat.gcd (t + 1) (l * k) := Nat.gcd_pos_of_pos_left _ (by omega)
      have g1 : Nat.gcd (t + 1) (l * k) ≤ t + 1 := Nat.le_of_dvd (by omega) (Nat.gcd_dvd_left _ _)
      refine seq_set (a := .int ((Nat.gcd (t + 1) (l * k) : Nat) : Int)) (O1 := .lst ((acc ++ (roadSpots r.1 (l * k)).take t).map spotA) :: O) (fun Q q => ?_) ?_
      · simp only [sSeq, sNext, sExpr, sRet, sRetN, sIf, sAsg, sPar, sPar3, sSub, sDPutA, sAug, sAugS, sFor, sWhile, sRaise, sBreak, sCont, aVar, sg, aC, aBin, aBl, aUn, aAnd, aOr, aNot, aAndV, aOrV, aNotV, aIf, aTru, truA, aNil, aCons, aTup, aLst, aFn, aML, aML0, aCall, aCallK, aLc, aDc, aiL, aiT, aiR1, aiR2, r1K, r2K, aiZip, agN, agNil, agCons, agTup, tupOf, x_add, x_addI, x_addS, x_eqI, x_neI, x_lt, x_le, x_gt, x_ge, x_sub, x_neg, x_abs, x_int, x_str, x_lenS, List.set, List.length_cons, List.length_nil, true_and, and_true]
        exact ⟨t + 1, l * k, rfl, by omega, q⟩
      simp only [sSeq, sNext, sExpr, sRet, sRetN, sIf, sAsg, sPar, sPar3, sSub, sDPutA, sAug, sAugS, sFor, sWhile, sRaise, sBreak, sCont, aVar, sg, aC, aBin, aBl, aUn, aAnd, aOr, aNot, aAndV, aOrV, aNotV, aIf, aTru, truA, aNil, aCons, aTup, aLst, aFn, aML, aML0, aCall, aCallK, aLc, aDc, aiL, aiT, aiR1, aiR2, r1K, r2K, aiZip, agN, agNil, agCons, agTup, tupOf, x_add, x_addI, x_addS, x_eqI, x_neI, x_lt, x_le, x_gt, x_ge, x_sub, x_neg, x_abs, x_int, x_str, x_lenS, List.set, List.length_cons, List.length_nil, true_and, and_true, landA]
      refine ⟨w_isLst lv_self, w_ix rfl landA_ix1 (w_ixN (xs := L.rs.map rdA) (x := rdA r) rfl (by rw [List.getElem?_map, hri]; rfl) (w_ix (xs := [.str r.1, .str r.2.1, .str r.2.2]) rfl atI_0 ?_))⟩
      refine w_fdiv _ _ g0 (by omega) (w_fdiv _ _ g0 (by omega) ⟨by rw [sizeLine_eq]; show 3 ≤ 16777216; decide, w_append lv_self ?_ ?_⟩)
      · rw [List.length_map, List.length_append, List.length_take, roadSpots_len, sizeLine_eq]
        have := hok.v4
        omega
      · refine kN2 _ _ ⟨_, _, rfl, ?_⟩
        rw [List.take_succ, roadSpots_get ht, ← List.append_assoc, List.map_append (l₁ := acc ++ (roadSpots r.1 (l * k)).take t)]
        exact lput_self rfl
    · obtain ⟨z7, z8, rfl, rfl⟩ := hI
      rw [rangeA_len, List.take_of_length_le (by rw [roadSpots_len]; exact Nat.le_refl _)]
      exact ⟨trivial, kN _ _ ⟨_, _, _, _, _, _, rfl, by rw [List.append_assoc]; exact e2, rfl⟩⟩
  · obtain ⟨acc, z4, z5, z6, z7, z8, rfl, e1, rfl⟩ := hI
    refine ⟨trivial, ?_⟩
    have d1 : L.rs.drop (rangeA 0 L.rs.length).length = [] := by rw [rangeA_len]; exact List.drop_length
    rw [d1, show spotsR k [] (ℓ.drop _) = [] from by unfold spotsR; rfl, List.append_nil] at e1
    subst e1
    exact fin_new Ext.new (Nat.le_refl _) lv_self (ltAs_map fun sp _ => ltAs_map fun y _ => by cases y <;> rfl) q
theorem keysOf_map : ∀ ks : List Key, keysOf (ks.map kA) = some ks
  | [] => rfl
  | k :: ks => by
    rw [List.map_cons]
    unfold keysOf
    rw [keysOf_map ks]
    cases k <;> rfl
theorem aPairs_st : ∀ st : St, aPairs (st.map pairA) = some (intKvs st)
  | [] => rfl
  | e :: st => by
    rw [List.map_cons]
    show (match keysOf (e.1.map kA), aPairs (st.map pairA) with | some k, some kvs => some ((k, A.int e.2) :: kvs) | _, _ => none) = _
    rw [keysOf_map, aPairs_st st]
    rfl
theorem w_dictT {xs : List A} {kvs : List (List Key × A)} (h : aPairs xs = some kvs) (hn : (kvs.map (·.1)).Nodup) (q : Q (.own O.length) (.dT kvs :: O)) : bDictT [.tupk xs] O Q := by
  show (match aPairs xs with | some kvs => (kvs.map (·.1)).Nodup ∧ Q (.own O.length) (.dT kvs :: O) | none => False)
  rw [h]
  exact ⟨hn, q⟩
theorem dget_spot {n : Nat} {kvs : List (List Key × A)} {sp : List Key} (h : lv O n = some (.dT kvs)) : dgetA O (.own n) (spotA sp) = some (valA kvs sp) := by
  unfold dgetA spotA
  simp only [h, keysOf_map, Option.map_some]
theorem law_laid_ok (h : sp_law_laid as O Q QE) : rd_law_laid (EN O Q) (startA N_law_laid as) O := by
  obtain ⟨L, ℓ, k, st, rfl, hS, hf, q⟩ := h
  have hA := hS.ask
  have hl := hA.lok
  obtain ⟨t1, t2, t3⟩ := total_le hA
  have hin := inner_le (ls := ℓ) (k := k)
  have hv := hA.ok.v4
  show rd_law_laid _ [some (landA L), some (lensA ℓ), some (.int (k : Nat)), some (stateA st), none, none, none] O
  simp only [rd_law_laid, sSeq, sNext, sExpr, sRet, sRetN, sIf, sAsg, sPar, sPar3, sSub, sDPutA, sAug, sAugS, sFor, sWhile, sRaise, sBreak, sCont, aVar, sg, aC, aBin, aBl, aUn, aAnd, aOr, aNot, aAndV, aOrV, aNotV, aIf, aTru, truA, aNil, aCons, aTup, aLst, aFn, aML, aML0, aCall, aCallK, aLc, aDc, aiL, aiT, aiR1, aiR2, r1K, r2K, aiZip, agN, agNil, agCons, agTup, tupOf, x_add, x_addI, x_addS, x_eqI, x_neI, x_lt, x_le, x_gt, x_ge, x_sub, x_neg, x_abs, x_int, x_str, x_lenS, List.set, List.length_cons, List.length_nil, true_and, and_true]
  refine ⟨L, ℓ, k, rfl, hA, ?_⟩
  dsimp only
  refine w_dictT (aPairs_st st) ?_ ⟨by rw [sizeLine_eq]; show 2 ≤ 16777216; decide, ?_⟩
  · unfold intKvs
    rw [List.map_map]
    exact hS.sok.nd
  simp only [sSeq, sNext, sExpr, sRet, sRetN, sIf, sAsg, sPar, sPar3, sSub, sDPutA, sAug, sAugS, sFor, sWhile, sRaise, sBreak, sCont, aVar, sg, aC, aBin, aBl, aUn, aAnd, aOr, aNot, aAndV, aOrV, aNotV, aIf, aTru, truA, aNil, aCons, aTup, aLst, aFn, aML, aML0, aCall, aCallK, aLc, aDc, aiL, aiT, aiR1, aiR2, r1K, r2K, aiZip, agN, agNil, agCons, agTup, tupOf, x_add, x_addI, x_addS, x_eqI, x_neI, x_lt, x_le, x_gt, x_ge, x_sub, x_neg, x_abs, x_int, x_str, x_lenS, List.set, List.length_cons, List.length_nil, true_and, and_true]
  have e0 : lv (AO.dT (intKvs st) :: AO.lst ((spotsN L ℓ k).map spotA) :: O) O.length = some (.lst ((spotsN L ℓ k).map spotA)) := lv_cons_of lv_self
  have e1 : lv (AO.dT (intKvs st) :: AO.lst ((spotsN L ℓ k).map spotA) :: O) (O.length + 1) = some (.dT (intKvs st)) := lv_self
  simp only [e0]
  refine compA_map (fun x => match x with | .tup ks => (match keysOf ks with | some kk => (valA (intKvs st) kk).getD (.int 0) | none => .non) | _ => .non) e0 (by rw [List.length_map, spotsN_len hl, sizeLine_eq]; omega) (fun x hx Q' q' => ?_) ?_
  · obtain ⟨sp, hsp, rfl⟩ := List.mem_map.mp hx
    simp only [sSeq, sNext, sExpr, sRet, sRetN, sIf, sAsg, sPar, sPar3, sSub, sDPutA, sAug, sAugS, sFor, sWhile, sRaise, sBreak, sCont, aVar, sg, aC, aBin, aBl, aUn, aAnd, aOr, aNot, aAndV, aOrV, aNotV, aIf, aTru, truA, aNil, aCons, aTup, aLst, aFn, aML, aML0, aCall, aCallK, aLc, aDc, aiL, aiT, aiR1, aiR2, r1K, r2K, aiZip, agN, agNil, agCons, agTup, tupOf, x_add, x_addI, x_addS, x_eqI, x_neI, x_lt, x_le, x_gt, x_ge, x_sub, x_neg, x_abs, x_int, x_str, x_lenS, List.set, List.length_cons, List.length_nil, true_and, and_true, wipeA, aDget2]
    refine ⟨by unfold isDictA; simp only [e1], ?_⟩
    have ed : dgetA (AO.dT (intKvs st) :: AO.lst ((spotsN L ℓ k).map spotA) :: O) (.own (O.length + 1)) (spotA sp) = some (valA (intKvs st) sp) := dget_spot e1
    rw [ed]
    have eq : (match spotA sp with | .tup ks => (match keysOf ks with | some kk => (valA (intKvs st) kk).getD (.int 0) | none => A.non) | _ => A.non) = (valA (intKvs st) sp).getD (.int 0) := by
      show (match keysOf (sp.map kA) with | some kk => (valA (intKvs st) kk).getD (.int 0) | none => A.non) = _
      rw [keysOf_map]
    rw [eq] at q'
    exact q'
  have e2 : ((spotsN L ℓ k).map spotA).map (fun x => match x with | .tup ks => (match keysOf ks with | some kk => (valA (intKvs st) kk).getD (.int 0) | none => A.non) | _ => A.non) = (spotsN L ℓ k).map fun sp => (valA (intKvs st) sp).getD (.int 0) := by
    rw [List.map_map]
    refine List.map_congr_left fun sp _ => ?_
    show (match keysOf (sp.map kA) with | some kk => (valA (intKvs st) kk).getD (.int 0) | none => A.non) = _
    rw [keysOf_map]
  rw [e2]
  refine w_tuple lv_self (fin_data Ext.new.cons.cons ?_ q)
  refine ltAs_map fun sp _ => ?_
  have hv : ∀ (kvs : St) (sp : List Key), ltA O.length ((valA (intKvs kvs) sp).getD (.int 0)) = true := by
    intro kvs sp
    unfold valA intKvs
    cases e : (kvs.map fun e => (e.1, A.int e.2)).find? fun kv => decide (kv.1 = sp) with
    | none => rfl
    | some z =>
      obtain ⟨y, _, rfl⟩ := List.mem_map.mp (List.mem_of_find?_eq_some e)
      rfl
  exact hv st sp
end
end K82

set_option Elab.async false
set_option linter.all false
set_option maxRecDepth 100000
set_option maxHeartbeats 4000000
/-! laid. -/
namespace K82
open PySem PySem.Spec L2 PyA
section
variable {as : List A} {O : Own} {Q : AK} {QE : Value → Own → Prop} {L : Land} {ℓ : List Nat} {k : Nat}
/-! where a spot stands -/
theorem spotsR_get : ∀ {rs : List Road} {ls : List Nat} {i t l : Nat} {r : Road}, rs[i]? = some r → ls[i]? = some l → t < l * k - 1 → (spotsR k rs ls)[((ls.take i).map fun l => l * k - 1).sum + t]? = (roadSpots r.1 (l * k))[t]?
  | [], _, _, _, _, _, h, _, _ => by simp at h
  | _ :: _, [], _, _, _, _, _, h, _ => by simp at h
  | r :: rs, l :: ls, 0, t, l', r', h1, h2, ht => by
    simp at h1 h2
    subst h1 h2
    show (roadSpots r.1 (l * k) ++ spotsR k rs ls)[0 + t]? = _
    rw [Nat.zero_add, List.getElem?_append_left (by rw [roadSpots_len]; exact ht)]
  | r :: rs, l :: ls, i + 1, t, l', r', h1, h2, ht => by
    have ih := spotsR_get (rs := rs) (ls := ls) (i := i) (t := t) (by simpa using h1) (by simpa using h2) ht
    show (roadSpots r.1 (l * k) ++ spotsR k rs ls)[(((l :: ls).take (i + 1)).map fun l => l * k - 1).sum + t]? = _
    rw [List.take_succ_cons, List.map_cons, List.sum_cons, List.getElem?_append_right (by rw [roadSpots_len]; omega), roadSpots_len]
    rw [show l * k - 1 + ((ls.take i).map fun l => l * k - 1).sum + t - (l * k - 1) = ((ls.take i).map fun l => l * k - 1).sum + t by omega]
    exact ih
theorem need_mult {a b l : Nat} (hb : 0 < b) (hk : b / Nat.gcd b l ∣ k) : ∃ m, l * k = b * m := by
  obtain ⟨m, hm⟩ := hk
  obtain ⟨l', hl'⟩ := Nat.gcd_dvd_right b l
  have hb' := Nat.div_mul_cancel (Nat.gcd_dvd_left b l)
  refine ⟨l' * m, ?_⟩
  generalize Nat.gcd b l = g at *
  rw [hm, hl']
  conv => rhs; rw [← hb']
  simp only [Nat.mul_assoc, Nat.mul_comm, Nat.mul_left_comm]
/-- a spot on a road: its place -/
theorem between_at {sp : List Key} {n : Str} {a b : Nat} (hA : Ask L ℓ k) (hB : Between L sp n a b) (hk : need L ℓ sp ∣ k) : ∃ (i : Nat) (r : Road) (s : Nat), firstIx n (L.rs.map (·.1)) = some i ∧ L.rs[i]? = some r ∧ ℓ[i]? = some (lenR L ℓ n) ∧
    (startsN L.vs.length k ℓ)[i]? = some s ∧ b ∣ a * lenR L ℓ n * k ∧ 1 ≤ a * lenR L ℓ n * k / b ∧ (spotsN L ℓ k)[s + a * lenR L ℓ n * k / b - 1]? = some sp ∧ lenR L ℓ n ≤ 9 := by
  obtain ⟨i, r, h1, h2, h3, h4, h5, h6, h7⟩ := len_of_mem hA.ok hA.lok hB.mem
  have b0 : 0 < b := by have := hB.ab; omega
  have hi : i < ℓ.length := (List.getElem?_eq_some_iff.mp h5).1
  obtain ⟨s, s1, s2⟩ := startsN_split (k := k) ℓ L.vs.length i (by omega)
  rw [hB.eq] at hk
  obtain ⟨m, hm⟩ := need_mult (a := a) b0 hk
  have hw1 : 1 ≤ lenR L ℓ n * k := Nat.mul_pos h6 hA.k1
  have m0 : 0 < m := by
    rcases Nat.eq_zero_or_pos m with e | e
    · rw [e, Nat.mul_zero] at hm; omega
    · exact e
  have e1 : a * lenR L ℓ n * k = b * (a * m) := by
    rw [Nat.mul_assoc, hm]
    simp only [Nat.mul_assoc, Nat.mul_comm, Nat.mul_left_comm]
  have e2 : a * lenR L ℓ n * k / b = a * m := by rw [e1, Nat.mul_div_cancel_left _ b0]
  have a1 := hB.a1
  have am1 : 1 ≤ a * m := Nat.mul_pos a1 m0
  have amw : a * m < lenR L ℓ n * k := by
    rw [hm]
    exact Nat.mul_lt_mul_of_pos_right hB.ab m0
  refine ⟨i, r, s, h2, h3, h5, s1, ⟨a * m, e1⟩, by rw [e2]; exact am1, ?_, h7⟩
  rw [e2]
  unfold spotsN
  rw [List.getElem?_append_right (by rw [List.length_map]; omega), List.length_map]
  rw [show s + a * m - 1 - L.vs.length = ((ℓ.take i).map fun l => l * k - 1).sum + (a * m - 1) by omega]
  rw [spotsR_get h3 h5 (by omega), roadSpots_get (by omega), h4, hB.eq]
  have eg : Nat.gcd (a * m - 1 + 1) (lenR L ℓ n * k) = m := by
    rw [Nat.sub_add_cancel am1, hm, Nat.gcd_mul_right, hB.cop, Nat.one_mul]
  rw [eg, Nat.sub_add_cancel am1, hm, Nat.mul_div_cancel _ m0, Nat.mul_div_cancel _ m0]
theorem village_at {sp : List Key} {v : Str} (hA : Ask L ℓ k) (hV : Village L sp v) : ∃ i, firstIx v L.vs = some i ∧ (spotsN L ℓ k)[i]? = some sp := by
  obtain ⟨i, hi⟩ := List.mem_iff_getElem?.mp hV.mem
  refine ⟨i, firstIx_nd hA.ok.vd hi, ?_⟩
  unfold spotsN
  rw [List.getElem?_append_left (by rw [List.length_map]; exact (List.getElem?_eq_some_iff.mp hi).1), List.getElem?_map, hi, hV.eq]
  rfl
/-! the spots differ -/
theorem roadSpots_mem {n : Str} {w : Nat} {sp : List Key} (h : sp ∈ roadSpots n w) : ∃ a b : Int, sp = [.inr n, .inl a, .inl b] := by
  unfold roadSpots at h
  obtain ⟨t, _, rfl⟩ := List.mem_map.mp h
  exact ⟨_, _, rfl⟩
theorem spotsR_mem : ∀ {rs : List Road} {ls : List Nat} {sp : List Key}, sp ∈ spotsR k rs ls → ∃ r ∈ rs, ∃ a b : Int, sp = [.inr r.1, .inl a, .inl b]
  | [], [], _, h => by unfold spotsR at h; cases h
  | [], _ :: _, _, h => by unfold spotsR at h; cases h
  | _ :: _, [], _, h => by unfold spotsR at h; cases h
  | r :: rs, l :: ls, sp, h => by
    have h' : sp ∈ roadSpots r.1 (l * k) ++ spotsR k rs ls := h
    rcases List.mem_append.mp h' with h' | h'
    · obtain ⟨a, b, e⟩ := roadSpots_mem h'
      exact ⟨r, List.mem_cons_self, a, b, e⟩
    · obtain ⟨r', hr, e⟩ := spotsR_mem h'
      exact ⟨r', List.mem_cons_of_mem _ hr, e⟩
theorem roadSpots_nd {n : Str} {w : Nat} : (roadSpots n w).Nodup := by
  unfold roadSpots
  refine List.pairwise_map.mpr (List.Pairwise.imp_of_mem (fun {i j} hi hj hne e => ?_) (List.nodup_range (n := w - 1)))
  rw [List.mem_range] at hi hj
  have e1 : (((i + 1) / Nat.gcd (i + 1) w : Nat) : Int) = (((j + 1) / Nat.gcd (j + 1) w : Nat) : Int) := by
    have := congrArg (fun l : List Key => l[1]?) e
    simpa using this
  have e2 : ((w / Nat.gcd (i + 1) w : Nat) : Int) = ((w / Nat.gcd (j + 1) w : Nat) : Int) := by
    have := congrArg (fun l : List Key => l[2]?) e
    simpa using this
  have f1 : (i + 1) / Nat.gcd (i + 1) w = (j + 1) / Nat.gcd (j + 1) w := by omega
  have f2 : w / Nat.gcd (i + 1) w = w / Nat.gcd (j + 1) w := by omega
  have w0 : 0 < w := by omega
  have d1 := Nat.div_mul_cancel (Nat.gcd_dvd_right (i + 1) w)
  have d2 := Nat.div_mul_cancel (Nat.gcd_dvd_right (j + 1) w)
  have c1 := Nat.div_mul_cancel (Nat.gcd_dvd_left (i + 1) w)
  have c2 := Nat.div_mul_cancel (Nat.gcd_dvd_left (j + 1) w)
  have q0 : 0 < w / Nat.gcd (i + 1) w := Nat.div_pos (Nat.le_of_dvd w0 (Nat.gcd_dvd_right _ _)) (Nat.gcd_pos_of_pos_right _ w0)
  have g : Nat.gcd (i + 1) w = Nat.gcd (j + 1) w := by
    rw [← f2] at d2
    have := d1.trans d2.symm
    exact Nat.eq_of_mul_eq_mul_left q0 this
  rw [f1, g] at c1
  omega
theorem spotsR_nd : ∀ {rs : List Road} {ls : List Nat}, (rs.map (·.1)).Nodup → (spotsR k rs ls).Nodup
  | [], [], _ => by unfold spotsR; exact List.nodup_nil
  | [], _ :: _, _ => by unfold spotsR; exact List.nodup_nil
  | _ :: _, [], _ => by unfold spotsR; exact List.nodup_nil
  | r :: rs, l :: ls, h => by
    rw [List.map_cons, List.nodup_cons] at h
    show (roadSpots r.1 (l * k) ++ spotsR k rs ls).Nodup
    refine List.nodup_append.mpr ⟨roadSpots_nd, spotsR_nd h.2, fun x hx y hy e => ?_⟩
    obtain ⟨a, b, e1⟩ := roadSpots_mem hx
    obtain ⟨r', hr, a', b', e2⟩ := spotsR_mem hy
    rw [e1, e2] at e
    have : r.1 = r'.1 := by
      have := congrArg (fun l : List Key => l[0]?) e
      simpa using this
    exact h.1 (by rw [this]; exact List.mem_map.mpr ⟨r', hr, rfl⟩)
theorem spotsN_nd (hok : L.Ok) : (spotsN L ℓ k).Nodup := by
  unfold spotsN
  have hvs : (L.vs.map fun v => [(.inr v : Key)]).Nodup := by
    refine List.pairwise_map.mpr (List.Pairwise.imp (fun h e => h ?_) hok.vd)
    have := congrArg (fun l : List Key => l[0]?) e
    simpa using this
  refine List.nodup_append.mpr ⟨hvs, spotsR_nd hok.rd, fun x hx y hy e => ?_⟩
  obtain ⟨v, _, rfl⟩ := List.mem_map.mp hx
  obtain ⟨r', hr, a', b', e2⟩ := spotsR_mem hy
  rw [e2] at e
  have := congrArg List.length e
  simp at this
/-- what stands at the spots once some are laid -/
def laidL (L : Land) (ℓ : List Nat) (k : Nat) (st : St) : List A := (spotsN L ℓ k).map fun sp => (valA (intKvs st) sp).getD (.int 0)
theorem valA_snoc {κ : Type} [DecidableEq κ] {kvs : List (κ × A)} {k k' : κ} {v : A} : valA (kvs ++ [(k, v)]) k' = (match valA kvs k' with | some x => some x | none => if k = k' then some v else none) := by
  unfold valA
  rw [List.find?_append]
  cases e : kvs.find? fun kv => decide (kv.1 = k') with
  | some z => rfl
  | none =>
    by_cases h : k = k'
    · rw [if_pos h]
      simp [h]
    · rw [if_neg h]
      simp [h]
theorem laidL_snoc {st : St} {e : List Key × Int} {p : Nat} (hok : L.Ok) (hp : (spotsN L ℓ k)[p]? = some e.1) (hn : e.1 ∉ st.map (·.1)) : (laidL L ℓ k st)[p]? = some (.int 0) ∧ (laidL L ℓ k st).set p (.int e.2) = laidL L ℓ k (st ++ [e]) := by
  have hn2 : e.1 ∉ (intKvs st).map (·.1) := by unfold intKvs; rw [List.map_map]; exact hn
  have hv := valA_none hn2
  constructor
  · unfold laidL
    rw [List.getElem?_map, hp]
    show some ((valA (intKvs st) e.1).getD (.int 0)) = _
    rw [hv]
    rfl
  · refine List.ext_getElem? fun j => ?_
    have ek : intKvs (st ++ [e]) = intKvs st ++ [(e.1, A.int e.2)] := by unfold intKvs; rw [List.map_append]; rfl
    unfold laidL
    by_cases hj : p = j
    · subst hj
      rw [List.getElem?_set_self (by rw [List.length_map]; exact (List.getElem?_eq_some_iff.mp hp).1), List.getElem?_map, hp, ek]
      show _ = some ((valA (intKvs st ++ [(e.1, A.int e.2)]) e.1).getD (.int 0))
      rw [valA_snoc, hv, if_pos rfl]
      rfl
    · rw [List.getElem?_set_ne hj, List.getElem?_map, List.getElem?_map]
      cases hs : (spotsN L ℓ k)[j]? with
      | none => rfl
      | some sp =>
        have hne : ¬ e.1 = sp := by
          intro z
          subst z
          exact hj ((List.getElem?_inj (List.getElem?_eq_some_iff.mp hp).1 (spotsN_nd hok)).mp (hp.trans hs.symm))
        show some ((valA (intKvs st) sp).getD (.int 0)) = some ((valA (intKvs (st ++ [e])) sp).getD (.int 0))
        rw [ek, valA_snoc, if_neg hne]
        cases valA (intKvs st) sp <;> rfl
end
end K82

set_option Elab.async false
set_option linter.all false
set_option maxRecDepth 100000
set_option maxHeartbeats 4000000
/-! laid: the reading. -/
namespace K82
open PySem PySem.Spec L2 PyA
section
variable {as : List A} {O : Own} {Q : AK} {QE : Value → Own → Prop} {L : Land} {ℓ : List Nat} {k : Nat}
theorem flat_rep {α : Type} {x : α} : ∀ n : Nat, (List.replicate n [x]).flatten = List.replicate n x
  | 0 => rfl
  | n + 1 => by
    rw [List.replicate_succ, List.flatten_cons, flat_rep n, List.replicate_succ]
    rfl
theorem w_mulL {n m : Nat} {xs : List A} (h : lv O n = some (.lst xs)) (hm : m < 2 ^ 63) (hz : xs.length * m ≤ sizeLine) (q : Q (.own O.length) (.lst (List.replicate m xs).flatten :: O)) : opMul (.own n) (.int (m : Int)) O Q := by
  unfold opMul
  simp only [h, Int.toNat_natCast]
  exact ⟨⟨by omega, by omega, hz⟩, q⟩
theorem w_tix {te : AE} {to : AE} {δ : Slots} {zs : List Str} {z : Str} {m : Nat} (h1 : ∀ Q : AK, Q (.tupk (zs.map A.str)) O → to δ O Q) (h2 : ∀ Q : AK, Q (.str z) O → te δ O Q) (g : firstIx z zs = some m) (q : Q (.int (m : Int)) O) : aTIx to te δ O Q := by
  unfold aTIx
  refine h1 _ (h2 _ ?_)
  simp only [strsOf_map, g]
  exact q
def lBase (L : Land) (ℓ : List Nat) (k : Nat) (O : Own) : Own := .lst [.int 0] :: .lst ((L.rs.map (·.1)).map A.str) :: .lst (nI (startsN L.vs.length k ℓ)) :: .lst (nI (ℓ.map (· * k))) :: O
theorem lBase_len : (lBase L ℓ k O).length = O.length + 4 := rfl
theorem lBase_ext : Ext O (lBase L ℓ k O) := Ext.new.cons.cons.cons
theorem laid_ok {C : Addr} {ex : Value → Own → Prop} (hx : ∀ cls Oe, ex cls Oe ↔ ∃ O', Conv O .non Oe .non O' ∧ QE cls O') (h : sp_laid C as O Q QE) : rd_laid C ex (EN O Q) (startA N_laid as) O := by
  obtain ⟨L, ℓ, k, st, rfl, hS, hf, q⟩ := h
  have hA := hS.ask
  have hok := hA.ok
  have hl := hA.lok
  obtain ⟨t1, t2, t3⟩ := total_le hA
  have hin := inner_le (ls := ℓ) (k := k)
  have hv4 := hok.v4
  show rd_laid C ex _ [some (landA L), some (lensA ℓ), some (.int (k : Nat)), some (stateA st), none, none, none, none, none, none, none, none] O
  unfold rd_laid
  refine seq_set (a := .own O.length) (O1 := .lst (nI (ℓ.map (· * k))) :: O) (fun Q q => ?_) ?_
  · simp only [sSeq, sNext, sExpr, sRet, sRetN, sIf, sAsg, sPar, sPar3, sSub, sDPutA, sAug, sAugS, sFor, sWhile, sRaise, sBreak, sCont, aVar, sg, aC, aBin, aBl, aUn, aAnd, aOr, aNot, aAndV, aOrV, aNotV, aIf, aTru, truA, aNil, aCons, aTup, aLst, aFn, aML, aML0, aCall, aCallK, aLc, aDc, aiL, aiT, aiR1, aiR2, r1K, r2K, aiZip, agN, agNil, agCons, agTup, tupOf, x_add, x_addI, x_addS, x_eqI, x_neI, x_lt, x_le, x_gt, x_ge, x_sub, x_neg, x_abs, x_int, x_str, x_lenS, List.set, List.length_cons, List.length_nil, true_and, and_true, lensA]
    refine compA_map (fun x => match x with | .int i => .int (i * k) | _ => .non) trivial (by rw [nI_len]; exact size5 (lens_small hok hl)) (fun x hx Q' q' => ?_) ?_
    · obtain ⟨n, hn, rfl⟩ := List.mem_map.mp hx
      simp only [sSeq, sNext, sExpr, sRet, sRetN, sIf, sAsg, sPar, sPar3, sSub, sDPutA, sAug, sAugS, sFor, sWhile, sRaise, sBreak, sCont, aVar, sg, aC, aBin, aBl, aUn, aAnd, aOr, aNot, aAndV, aOrV, aNotV, aIf, aTru, truA, aNil, aCons, aTup, aLst, aFn, aML, aML0, aCall, aCallK, aLc, aDc, aiL, aiT, aiR1, aiR2, r1K, r2K, aiZip, agN, agNil, agCons, agTup, tupOf, x_add, x_addI, x_addS, x_eqI, x_neI, x_lt, x_le, x_gt, x_ge, x_sub, x_neg, x_abs, x_int, x_str, x_lenS, List.set, List.length_cons, List.length_nil, true_and, and_true, wipeA]
      refine w_mul n k (.inl (by have := hl.nin n hn; omega)) ?_
      rw [Int.natCast_mul]
      exact q'
    · have e : (nI ℓ).map (fun x => match x with | .int i => A.int (i * k) | _ => .non) = nI (ℓ.map (· * k)) := by
        unfold nI
        rw [List.map_map, List.map_map]
        refine List.map_congr_left fun n _ => ?_
        show A.int ((n : Int) * k) = A.int ((n * k : Nat) : Int)
        rw [Int.natCast_mul]
      rw [e]
      exact q
  generalize hrest : (sSeq (sAsg (aCall sp_starts_of noEx _) (agN 6)) _) = rest
  have hp : lv (AO.lst (nI (ℓ.map (· * k))) :: O) O.length = some (.lst (nI (ℓ.map (· * k)))) := lv_self
  by_cases hfar : far L ℓ k
  · refine seq_exprX fun Q' => ?_
    unfold aCall
    refine chk_args rfl rfl hp hA ⟨_, _, rfl, fun _ => (hx _ _).mpr (ex_here Ext.new (hf hfar)), fun n => absurd ?_ n⟩
    rcases hfar with h | h
    · exact .inr h
    · exact .inl h
  refine seq_expr (a := .non) (O1 := .lst (nI (ℓ.map (· * k))) :: O) (fun Q' q' => ?_) ?_
  · unfold aCall
    refine chk_args rfl rfl hp hA ⟨_, _, rfl, fun n => absurd ?_ hfar, fun _ => q'⟩
    rcases n with h | h
    · exact .inr h
    · exact .inl h
  subst hrest
  refine seq_set (a := .own (O.length + 1)) (O1 := .lst (nI (startsN L.vs.length k ℓ)) :: .lst (nI (ℓ.map (· * k))) :: O) (fun Q q => ?_) ?_
  · simp only [sSeq, sNext, sExpr, sRet, sRetN, sIf, sAsg, sPar, sPar3, sSub, sDPutA, sAug, sAugS, sFor, sWhile, sRaise, sBreak, sCont, aVar, sg, aC, aBin, aBl, aUn, aAnd, aOr, aNot, aAndV, aOrV, aNotV, aIf, aTru, truA, aNil, aCons, aTup, aLst, aFn, aML, aML0, aCall, aCallK, aLc, aDc, aiL, aiT, aiR1, aiR2, r1K, r2K, aiZip, agN, agNil, agCons, agTup, tupOf, x_add, x_addI, x_addS, x_eqI, x_neI, x_lt, x_le, x_gt, x_ge, x_sub, x_neg, x_abs, x_int, x_str, x_lenS, List.set, List.length_cons, List.length_nil, true_and, and_true]
    exact ⟨L, ℓ, k, rfl, hA, q⟩
  refine seq_set (a := .own (O.length + 2)) (O1 := .lst ((L.rs.map (·.1)).map A.str) :: .lst (nI (startsN L.vs.length k ℓ)) :: .lst (nI (ℓ.map (· * k))) :: O) (fun Q q => ?_) ?_
  · simp only [sSeq, sNext, sExpr, sRet, sRetN, sIf, sAsg, sPar, sPar3, sSub, sDPutA, sAug, sAugS, sFor, sWhile, sRaise, sBreak, sCont, aVar, sg, aC, aBin, aBl, aUn, aAnd, aOr, aNot, aAndV, aOrV, aNotV, aIf, aTru, truA, aNil, aCons, aTup, aLst, aFn, aML, aML0, aCall, aCallK, aLc, aDc, aiL, aiT, aiR1, aiR2, r1K, r2K, aiZip, agN, agNil, agCons, agTup, tupOf, x_add, x_addI, x_addS, x_eqI, x_neI, x_lt, x_le, x_gt, x_ge, x_sub, x_neg, x_abs, x_int, x_str, x_lenS, List.set, List.length_cons, List.length_nil, true_and, and_true, landA]
    refine w_ix rfl landA_ix1 ?_
    refine compA_map (fun x => match x with | .tup (y :: _) => y | _ => .non) trivial (by rw [List.length_map]; exact size5 hok.r5) (fun x hx Q' q' => ?_) ?_
    · obtain ⟨r, hr, rfl⟩ := List.mem_map.mp hx
      simp only [sSeq, sNext, sExpr, sRet, sRetN, sIf, sAsg, sPar, sPar3, sSub, sDPutA, sAug, sAugS, sFor, sWhile, sRaise, sBreak, sCont, aVar, sg, aC, aBin, aBl, aUn, aAnd, aOr, aNot, aAndV, aOrV, aNotV, aIf, aTru, truA, aNil, aCons, aTup, aLst, aFn, aML, aML0, aCall, aCallK, aLc, aDc, aiL, aiT, aiR1, aiR2, r1K, r2K, aiZip, agN, agNil, agCons, agTup, tupOf, x_add, x_addI, x_addS, x_eqI, x_neI, x_lt, x_le, x_gt, x_ge, x_sub, x_neg, x_abs, x_int, x_str, x_lenS, List.set, List.length_cons, List.length_nil, true_and, and_true, wipeA]
      exact w_ix (xs := [.str r.1, .str r.2.1, .str r.2.2]) rfl atI_0 q'
    · have en : (L.rs.map rdA).map (fun x => match x with | .tup (y :: _) => y | _ => A.non) = (L.rs.map (·.1)).map A.str := names_map
      rw [en]
      exact q
  obtain ⟨S, hS1, hS2⟩ := startsN_split (k := k) ℓ L.vs.length ℓ.length (Nat.le_refl _)
  rw [List.take_of_length_le (Nat.le_refl _)] at hS2
  have hSl : S = (spotsN L ℓ k).length := by rw [hS2, spotsN_len hl]; rfl
  have hlast : (nI (startsN L.vs.length k ℓ)).getLast? = some (.int (S : Int)) := by
    rw [List.getLast?_eq_getElem?, nI_len, startsN_len]
    exact nI_get hS1
  have hbz : S ≤ 4459 := by rw [hSl, spotsN_len hl]; omega
  refine seq_set (a := .own (O.length + 4)) (O1 := .lst (laidL L ℓ k []) :: lBase L ℓ k O) (fun Q q => ?_) ?_
  · simp only [sSeq, sNext, sExpr, sRet, sRetN, sIf, sAsg, sPar, sPar3, sSub, sDPutA, sAug, sAugS, sFor, sWhile, sRaise, sBreak, sCont, aVar, sg, aC, aBin, aBl, aUn, aAnd, aOr, aNot, aAndV, aOrV, aNotV, aIf, aTru, truA, aNil, aCons, aTup, aLst, aFn, aML, aML0, aCall, aCallK, aLc, aDc, aiL, aiT, aiR1, aiR2, r1K, r2K, aiZip, agN, agNil, agCons, agTup, tupOf, x_add, x_addI, x_addS, x_eqI, x_neI, x_lt, x_le, x_gt, x_ge, x_sub, x_neg, x_abs, x_int, x_str, x_lenS, List.set, List.length_cons, List.length_nil, true_and, and_true]
    refine ⟨by rw [sizeLine_eq]; show 1 ≤ 16777216; decide, ?_⟩
    refine w_ix (seq_own (lv_cons_of (lv_cons_of lv_self))) (atI_last hlast) ?_
    refine w_mulL lv_self (by omega) (by rw [sizeLine_eq]; show 1 * S ≤ 16777216; omega) ?_
    rw [flat_rep]
    have e : List.replicate S (A.int 0) = laidL L ℓ k [] := by
      unfold laidL
      rw [hSl]
      refine List.ext_getElem? fun j => ?_
      rw [List.getElem?_map, List.getElem?_replicate]
      by_cases hj : j < (spotsN L ℓ k).length
      · rw [if_pos hj, List.getElem?_eq_getElem hj]; rfl
      · rw [if_neg hj, List.getElem?_eq_none (by omega)]; rfl
    rw [e]
    exact q
  refine seq_for (items := st.map pairA) (chk := fun _ => True) (O1 := .lst (laidL L ℓ k []) :: lBase L ℓ k O) (fun Q q => q) ?_
  refine forA_inv (fun i δ O1 => ∃ (z8 z10 z11 : Option A), δ = [some (landA L), some (lensA ℓ), some (.int (k : Nat)), some (stateA st), some (.own O.length), none, some (.own (O.length + 1)), some (.own (O.length + 2)), z8, some (.own (O.length + 4)), z10, z11] ∧ O1 = .lst (laidL L ℓ k (st.take i)) :: lBase L ℓ k O)
    (fun i v δ O1 Nx hx hI kN => ?_) (fun δ O1 hI => ?_) ⟨_, _, _, rfl, by rw [List.take_zero]⟩
  · obtain ⟨z8, z10, z11, rfl, rfl⟩ := hI
    refine ⟨trivial, ?_⟩
    rw [List.getElem?_map] at hx
    cases hse : st[i]? with
    | none => rw [hse] at hx; cases hx
    | some e =>
      rw [hse] at hx
      cases hx
      have hmem := List.mem_of_getElem? hse
      have he := hS.sok.spot e hmem
      have hke := hS.fit e hmem
      have hnot : e.1 ∉ (st.take i).map (·.1) := by
        intro z
        have hnd := hS.sok.nd
        have e2 : st.map (·.1) = (st.take i).map (·.1) ++ (e.1 :: (st.drop (i + 1)).map (·.1)) := by
          rw [← List.map_cons, ← drop_at hse, ← List.map_append, List.take_append_drop]
        rw [e2, List.nodup_append] at hnd
        exact hnd.2.2 _ z _ List.mem_cons_self rfl
      have step : ∀ p, (spotsN L ℓ k)[p]? = some e.1 → (laidL L ℓ k (st.take i))[p]? = some (.int 0) ∧ (laidL L ℓ k (st.take i)).set p (.int e.2) = laidL L ℓ k (st.take (i + 1)) := by
        intro p hp
        have := laidL_snoc (st := st.take i) (e := e) hok hp hnot
        rw [List.take_succ, hse]
        exact this
      have e9 : lv (AO.lst (laidL L ℓ k (st.take i)) :: lBase L ℓ k O) (O.length + 4) = some (.lst (laidL L ℓ k (st.take i))) := lv_self
      have e6 : lv (AO.lst (laidL L ℓ k (st.take i)) :: lBase L ℓ k O) (O.length + 1) = some (.lst (nI (startsN L.vs.length k ℓ))) := lv_cons_of (lv_cons_of (lv_cons_of lv_self))
      have e7 : lv (AO.lst (laidL L ℓ k (st.take i)) :: lBase L ℓ k O) (O.length + 2) = some (.lst ((L.rs.map (·.1)).map A.str)) := lv_cons_of (lv_cons_of lv_self)
      -- found[p] += number
      have put : ∀ (p : Nat) (ti : AE) (z8 : Option A), (spotsN L ℓ k)[p]? = some e.1 →
          (∀ Q : AK, Q (.int (p : Int)) (.lst (laidL L ℓ k (st.take i)) :: lBase L ℓ k O) → ti [some (landA L), some (lensA ℓ), some (.int (k : Nat)), some (stateA st), some (.own O.length), none, some (.own (O.length + 1)), some (.own (O.length + 2)), z8, some (.own (O.length + 4)), some (.tup (e.1.map kA)), some (.int e.2)] (.lst (laidL L ℓ k (st.take i)) :: lBase L ℓ k O) Q) →
          sAugS (opI fun i j => some (.int (i + j))) (aVar 9) ti (aVar 11) { nx := Nx, rt := (EN O Q).rt, bk := sRet (aFn tTuple (aCons (aVar 9) aNil)) (EN O Q), ct := Nx }
            [some (landA L), some (lensA ℓ), some (.int (k : Nat)), some (stateA st), some (.own O.length), none, some (.own (O.length + 1)), some (.own (O.length + 2)), z8, some (.own (O.length + 4)), some (.tup (e.1.map kA)), some (.int e.2)] (.lst (laidL L ℓ k (st.take i)) :: lBase L ℓ k O) := by
        intro p ti z8 hp hti
        obtain ⟨g1, g2⟩ := step p hp
        unfold sAugS
        simp only [aVar, sg]
        refine hti _ ?_
        refine w_ixL e9 g1 ?_
        simp only [x_addI, Int.zero_add]
        rw [w_set e9 (List.getElem?_eq_some_iff.mp g1).1, g2]
        exact kN _ _ ⟨_, _, _, rfl, lput_self rfl⟩
      refine ⟨rfl, ?_⟩
      simp only [agCons, agN, agNil, List.set]
      rcases he with ⟨v, hv⟩ | ⟨n, a, b, hb⟩
      · obtain ⟨p, p1, p2⟩ := village_at hA hv
        refine if_yes (fun Q q => ?_) ?_
        · simp only [sSeq, sNext, sExpr, sRet, sRetN, sIf, sAsg, sPar, sPar3, sSub, sDPutA, sAug, sAugS, sFor, sWhile, sRaise, sBreak, sCont, aVar, sg, aC, aBin, aBl, aUn, aAnd, aOr, aNot, aAndV, aOrV, aNotV, aIf, aTru, truA, aNil, aCons, aTup, aLst, aFn, aML, aML0, aCall, aCallK, aLc, aDc, aiL, aiT, aiR1, aiR2, r1K, r2K, aiZip, agN, agNil, agCons, agTup, tupOf, x_add, x_addI, x_addS, x_eqI, x_neI, x_lt, x_le, x_gt, x_ge, x_sub, x_neg, x_abs, x_int, x_str, x_lenS, List.set, List.length_cons, List.length_nil, true_and, and_true]
          rw [hv.eq]
          exact w_len (xs := [.str v]) rfl q
        refine put p _ _ p2 fun Q q => ?_
        refine w_tix (zs := L.vs) (z := v) (fun Q q => ?_) (fun Q q => ?_) p1 q
        · simp only [sSeq, sNext, sExpr, sRet, sRetN, sIf, sAsg, sPar, sPar3, sSub, sDPutA, sAug, sAugS, sFor, sWhile, sRaise, sBreak, sCont, aVar, sg, aC, aBin, aBl, aUn, aAnd, aOr, aNot, aAndV, aOrV, aNotV, aIf, aTru, truA, aNil, aCons, aTup, aLst, aFn, aML, aML0, aCall, aCallK, aLc, aDc, aiL, aiT, aiR1, aiR2, r1K, r2K, aiZip, agN, agNil, agCons, agTup, tupOf, x_add, x_addI, x_addS, x_eqI, x_neI, x_lt, x_le, x_gt, x_ge, x_sub, x_neg, x_abs, x_int, x_str, x_lenS, List.set, List.length_cons, List.length_nil, true_and, and_true, landA]
          exact w_ix rfl landA_ix0 q
        · simp only [sSeq, sNext, sExpr, sRet, sRetN, sIf, sAsg, sPar, sPar3, sSub, sDPutA, sAug, sAugS, sFor, sWhile, sRaise, sBreak, sCont, aVar, sg, aC, aBin, aBl, aUn, aAnd, aOr, aNot, aAndV, aOrV, aNotV, aIf, aTru, truA, aNil, aCons, aTup, aLst, aFn, aML, aML0, aCall, aCallK, aLc, aDc, aiL, aiT, aiR1, aiR2, r1K, r2K, aiZip, agN, agNil, agCons, agTup, tupOf, x_add, x_addI, x_addS, x_eqI, x_neI, x_lt, x_le, x_gt, x_ge, x_sub, x_neg, x_abs, x_int, x_str, x_lenS, List.set, List.length_cons, List.length_nil, true_and, and_true]
          rw [hv.eq]
          exact w_ix (xs := [.str v]) rfl atI_0 q
      · obtain ⟨ir, r, s, p1, p2, p3, p4, p5, p6, p7, p8⟩ := between_at hA hb hke
        have b0 : 0 < b := by have := hb.ab; omega
        refine if_no (fun Q q => ?_) ?_
        · simp only [sSeq, sNext, sExpr, sRet, sRetN, sIf, sAsg, sPar, sPar3, sSub, sDPutA, sAug, sAugS, sFor, sWhile, sRaise, sBreak, sCont, aVar, sg, aC, aBin, aBl, aUn, aAnd, aOr, aNot, aAndV, aOrV, aNotV, aIf, aTru, truA, aNil, aCons, aTup, aLst, aFn, aML, aML0, aCall, aCallK, aLc, aDc, aiL, aiT, aiR1, aiR2, r1K, r2K, aiZip, agN, agNil, agCons, agTup, tupOf, x_add, x_addI, x_addS, x_eqI, x_neI, x_lt, x_le, x_gt, x_ge, x_sub, x_neg, x_abs, x_int, x_str, x_lenS, List.set, List.length_cons, List.length_nil, true_and, and_true]
          rw [hb.eq]
          exact w_len (xs := [.str n, .int (a : Int), .int (b : Int)]) rfl q
        refine seq_set (a := .int (ir : Int)) (O1 := .lst (laidL L ℓ k (st.take i)) :: lBase L ℓ k O) (fun Q q => ?_) ?_
        · simp only [sSeq, sNext, sExpr, sRet, sRetN, sIf, sAsg, sPar, sPar3, sSub, sDPutA, sAug, sAugS, sFor, sWhile, sRaise, sBreak, sCont, aVar, sg, aC, aBin, aBl, aUn, aAnd, aOr, aNot, aAndV, aOrV, aNotV, aIf, aTru, truA, aNil, aCons, aTup, aLst, aFn, aML, aML0, aCall, aCallK, aLc, aDc, aiL, aiT, aiR1, aiR2, r1K, r2K, aiZip, agN, agNil, agCons, agTup, tupOf, x_add, x_addI, x_addS, x_eqI, x_neI, x_lt, x_le, x_gt, x_ge, x_sub, x_neg, x_abs, x_int, x_str, x_lenS, List.set, List.length_cons, List.length_nil, true_and, and_true]
          refine ⟨w_isLst e7, ?_⟩
          rw [hb.eq]
          exact w_ix (xs := [.str n, .int (a : Int), .int (b : Int)]) rfl atI_0 (w_index e7 p1 q)
        refine put (s + a * lenR L ℓ n * k / b - 1) _ _ p7 fun Q q => ?_
        simp only [sSeq, sNext, sExpr, sRet, sRetN, sIf, sAsg, sPar, sPar3, sSub, sDPutA, sAug, sAugS, sFor, sWhile, sRaise, sBreak, sCont, aVar, sg, aC, aBin, aBl, aUn, aAnd, aOr, aNot, aAndV, aOrV, aNotV, aIf, aTru, truA, aNil, aCons, aTup, aLst, aFn, aML, aML0, aCall, aCallK, aLc, aDc, aiL, aiT, aiR1, aiR2, r1K, r2K, aiZip, agN, agNil, agCons, agTup, tupOf, x_add, x_addI, x_addS, x_eqI, x_neI, x_lt, x_le, x_gt, x_ge, x_sub, x_neg, x_abs, x_int, x_str, x_lenS, List.set, List.length_cons, List.length_nil, true_and, and_true]
        rw [hb.eq]
        refine w_ixN (seq_own e6) (nI_get p4) ?_
        refine w_ix (xs := [.str n, .int (a : Int), .int (b : Int)]) rfl atI_1 ?_
        refine w_ixN (xs := nI ℓ) rfl (nI_get p3) ?_
        refine w_mul a _ (.inr (by omega)) (w_mul _ k (.inr (by have := hA.k99; omega)) ?_)
        refine w_ix (xs := [.str n, .int (a : Int), .int (b : Int)]) rfl atI_2 ?_
        refine w_fdiv _ b b0 (by have := hb.b99; omega) ?_
        simp only [sSeq, sNext, sExpr, sRet, sRetN, sIf, sAsg, sPar, sPar3, sSub, sDPutA, sAug, sAugS, sFor, sWhile, sRaise, sBreak, sCont, aVar, sg, aC, aBin, aBl, aUn, aAnd, aOr, aNot, aAndV, aOrV, aNotV, aIf, aTru, truA, aNil, aCons, aTup, aLst, aFn, aML, aML0, aCall, aCallK, aLc, aDc, aiL, aiT, aiR1, aiR2, r1K, r2K, aiZip, agN, agNil, agCons, agTup, tupOf, x_add, x_addI, x_addS, x_eqI, x_neI, x_lt, x_le, x_gt, x_ge, x_sub, x_neg, x_abs, x_int, x_str, x_lenS, List.set, List.length_cons, List.length_nil, true_and, and_true]
        have e3 : (s : Int) + ((a * lenR L ℓ n * k / b : Nat) : Int) - 1 = ((s + a * lenR L ℓ n * k / b - 1 : Nat) : Int) := by omega
        rw [e3]
        exact q
  · obtain ⟨z8, z10, z11, rfl, rfl⟩ := hI
    refine ⟨trivial, ?_⟩
    rw [List.length_map, List.take_of_length_le (Nat.le_refl _)]
    simp only [sSeq, sNext, sExpr, sRet, sRetN, sIf, sAsg, sPar, sPar3, sSub, sDPutA, sAug, sAugS, sFor, sWhile, sRaise, sBreak, sCont, aVar, sg, aC, aBin, aBl, aUn, aAnd, aOr, aNot, aAndV, aOrV, aNotV, aIf, aTru, truA, aNil, aCons, aTup, aLst, aFn, aML, aML0, aCall, aCallK, aLc, aDc, aiL, aiT, aiR1, aiR2, r1K, r2K, aiZip, agN, agNil, agCons, agTup, tupOf, x_add, x_addI, x_addS, x_eqI, x_neI, x_lt, x_le, x_gt, x_ge, x_sub, x_neg, x_abs, x_int, x_str, x_lenS, List.set, List.length_cons, List.length_nil, true_and, and_true]
    refine w_tuple lv_self (fin_data lBase_ext.cons ?_ (q hfar))
    refine ltAs_map fun sp _ => ?_
    unfold valA intKvs
    cases e : (st.map fun e => (e.1, A.int e.2)).find? fun kv => decide (kv.1 = sp) with
    | none => rfl
    | some z =>
      obtain ⟨y, _, rfl⟩ := List.mem_map.mp (List.mem_of_find?_eq_some e)
      rfl
end
end K82

set_option Elab.async false
set_option linter.all false
set_option maxRecDepth 100000
set_option maxHeartbeats 4000000
/-! told, drawn_state. -/
namespace K82
open PySem PySem.Spec L2 PyA
section
variable {as : List A} {O : Own} {Q : AK} {QE : Value → Own → Prop} {L : Land} {ℓ : List Nat} {k : Nat}
theorem law_told_ok {C : Addr} (h : sp_law_told as O Q QE) : rd_law_told C (EN O Q) (startA N_law_told as) O := by
  obtain ⟨qn, L, ℓ, k, s, rfl, hA, h⟩ := h
  show rd_law_told C _ [some (.int (qn : Int)), some (landA L), some (lensA ℓ), some (.int (k : Nat)), some s] O
  unfold rd_law_told sTry
  have hfar : Q farA O → (∀ n : Nat, sRet (aTup (aCons (aC (.str ("far" : Str))) (aCons (aC .non) aNil))) (EN O Q) (List.replicate n none) O) := by
    intro q n
    simp only [sSeq, sNext, sExpr, sRet, sRetN, sIf, sAsg, sPar, sPar3, sSub, sDPutA, sAug, sAugS, sFor, sWhile, sRaise, sBreak, sCont, aVar, sg, aC, aBin, aBl, aUn, aAnd, aOr, aNot, aAndV, aOrV, aNotV, aIf, aTru, truA, aNil, aCons, aTup, aLst, aFn, aML, aML0, aCall, aCallK, aLc, aDc, aiL, aiT, aiR1, aiR2, r1K, r2K, aiZip, agN, agNil, agCons, agTup, tupOf, x_add, x_addI, x_addS, x_eqI, x_neI, x_lt, x_le, x_gt, x_ge, x_sub, x_neg, x_abs, x_int, x_str, x_lenS, List.set, List.length_cons, List.length_nil, true_and, and_true]
    exact ⟨by rw [sizeLine_eq]; decide, fin_here q⟩
  have dec : ∀ m : Nat, decide ((qn : Int) = ((m : Nat) : Int)) = decide (qn = m) := fun m => decide_eq_decide.mpr (by omega)
  rcases h with ⟨hq, h1, h2⟩ | ⟨hq, st, rfl, hS, h1, h2⟩
  · by_cases e : qn = 0
    · subst e
      refine seq_yes (fun Q q => by simp only [sSeq, sNext, sExpr, sRet, sRetN, sIf, sAsg, sPar, sPar3, sSub, sDPutA, sAug, sAugS, sFor, sWhile, sRaise, sBreak, sCont, aVar, sg, aC, aBin, aBl, aUn, aAnd, aOr, aNot, aAndV, aOrV, aNotV, aIf, aTru, truA, aNil, aCons, aTup, aLst, aFn, aML, aML0, aCall, aCallK, aLc, aDc, aiL, aiT, aiR1, aiR2, r1K, r2K, aiZip, agN, agNil, agCons, agTup, tupOf, x_add, x_addI, x_addS, x_eqI, x_neI, x_lt, x_le, x_gt, x_ge, x_sub, x_neg, x_abs, x_int, x_str, x_lenS, List.set, List.length_cons, List.length_nil, true_and, and_true]; exact q) ?_
      simp only [sSeq, sNext, sExpr, sRet, sRetN, sIf, sAsg, sPar, sPar3, sSub, sDPutA, sAug, sAugS, sFor, sWhile, sRaise, sBreak, sCont, aVar, sg, aC, aBin, aBl, aUn, aAnd, aOr, aNot, aAndV, aOrV, aNotV, aIf, aTru, truA, aNil, aCons, aTup, aLst, aFn, aML, aML0, aCall, aCallK, aLc, aDc, aiL, aiT, aiR1, aiR2, r1K, r2K, aiZip, agN, agNil, agCons, agTup, tupOf, x_add, x_addI, x_addS, x_eqI, x_neI, x_lt, x_le, x_gt, x_ge, x_sub, x_neg, x_abs, x_int, x_str, x_lenS, List.set, List.length_cons, List.length_nil, true_and, and_true]
      exact ⟨L, ℓ, k, rfl, hA, fun hf => ⟨rfl, hfar (h1 hf)⟩, fun hf => ⟨by rw [sizeLine_eq]; show 2 ≤ 16777216; decide, fin_here (h2 hf)⟩⟩
    · have e1 : qn = 1 := by omega
      subst e1
      refine seq_no (fun Q q => by simp only [sSeq, sNext, sExpr, sRet, sRetN, sIf, sAsg, sPar, sPar3, sSub, sDPutA, sAug, sAugS, sFor, sWhile, sRaise, sBreak, sCont, aVar, sg, aC, aBin, aBl, aUn, aAnd, aOr, aNot, aAndV, aOrV, aNotV, aIf, aTru, truA, aNil, aCons, aTup, aLst, aFn, aML, aML0, aCall, aCallK, aLc, aDc, aiL, aiT, aiR1, aiR2, r1K, r2K, aiZip, agN, agNil, agCons, agTup, tupOf, x_add, x_addI, x_addS, x_eqI, x_neI, x_lt, x_le, x_gt, x_ge, x_sub, x_neg, x_abs, x_int, x_str, x_lenS, List.set, List.length_cons, List.length_nil, true_and, and_true]; exact q) (seq_yes (fun Q q => by simp only [sSeq, sNext, sExpr, sRet, sRetN, sIf, sAsg, sPar, sPar3, sSub, sDPutA, sAug, sAugS, sFor, sWhile, sRaise, sBreak, sCont, aVar, sg, aC, aBin, aBl, aUn, aAnd, aOr, aNot, aAndV, aOrV, aNotV, aIf, aTru, truA, aNil, aCons, aTup, aLst, aFn, aML, aML0, aCall, aCallK, aLc, aDc, aiL, aiT, aiR1, aiR2, r1K, r2K, aiZip, agN, agNil, agCons, agTup, tupOf, x_add, x_addI, x_addS, x_eqI, x_neI, x_lt, x_le, x_gt, x_ge, x_sub, x_neg, x_abs, x_int, x_str, x_lenS, List.set, List.length_cons, List.length_nil, true_and, and_true]; exact q) ?_)
      simp only [sSeq, sNext, sExpr, sRet, sRetN, sIf, sAsg, sPar, sPar3, sSub, sDPutA, sAug, sAugS, sFor, sWhile, sRaise, sBreak, sCont, aVar, sg, aC, aBin, aBl, aUn, aAnd, aOr, aNot, aAndV, aOrV, aNotV, aIf, aTru, truA, aNil, aCons, aTup, aLst, aFn, aML, aML0, aCall, aCallK, aLc, aDc, aiL, aiT, aiR1, aiR2, r1K, r2K, aiZip, agN, agNil, agCons, agTup, tupOf, x_add, x_addI, x_addS, x_eqI, x_neI, x_lt, x_le, x_gt, x_ge, x_sub, x_neg, x_abs, x_int, x_str, x_lenS, List.set, List.length_cons, List.length_nil, true_and, and_true]
      exact ⟨L, ℓ, k, rfl, hA, fun hf => ⟨rfl, hfar (h1 hf)⟩, fun hf => ⟨by rw [sizeLine_eq]; show 2 ≤ 16777216; decide, fin_here (h2 hf)⟩⟩
  · rcases hq with e | e
    · subst e
      refine seq_no (fun Q q => by simp only [sSeq, sNext, sExpr, sRet, sRetN, sIf, sAsg, sPar, sPar3, sSub, sDPutA, sAug, sAugS, sFor, sWhile, sRaise, sBreak, sCont, aVar, sg, aC, aBin, aBl, aUn, aAnd, aOr, aNot, aAndV, aOrV, aNotV, aIf, aTru, truA, aNil, aCons, aTup, aLst, aFn, aML, aML0, aCall, aCallK, aLc, aDc, aiL, aiT, aiR1, aiR2, r1K, r2K, aiZip, agN, agNil, agCons, agTup, tupOf, x_add, x_addI, x_addS, x_eqI, x_neI, x_lt, x_le, x_gt, x_ge, x_sub, x_neg, x_abs, x_int, x_str, x_lenS, List.set, List.length_cons, List.length_nil, true_and, and_true]; exact q) (seq_no (fun Q q => by simp only [sSeq, sNext, sExpr, sRet, sRetN, sIf, sAsg, sPar, sPar3, sSub, sDPutA, sAug, sAugS, sFor, sWhile, sRaise, sBreak, sCont, aVar, sg, aC, aBin, aBl, aUn, aAnd, aOr, aNot, aAndV, aOrV, aNotV, aIf, aTru, truA, aNil, aCons, aTup, aLst, aFn, aML, aML0, aCall, aCallK, aLc, aDc, aiL, aiT, aiR1, aiR2, r1K, r2K, aiZip, agN, agNil, agCons, agTup, tupOf, x_add, x_addI, x_addS, x_eqI, x_neI, x_lt, x_le, x_gt, x_ge, x_sub, x_neg, x_abs, x_int, x_str, x_lenS, List.set, List.length_cons, List.length_nil, true_and, and_true]; exact q) (seq_yes (fun Q q => by simp only [sSeq, sNext, sExpr, sRet, sRetN, sIf, sAsg, sPar, sPar3, sSub, sDPutA, sAug, sAugS, sFor, sWhile, sRaise, sBreak, sCont, aVar, sg, aC, aBin, aBl, aUn, aAnd, aOr, aNot, aAndV, aOrV, aNotV, aIf, aTru, truA, aNil, aCons, aTup, aLst, aFn, aML, aML0, aCall, aCallK, aLc, aDc, aiL, aiT, aiR1, aiR2, r1K, r2K, aiZip, agN, agNil, agCons, agTup, tupOf, x_add, x_addI, x_addS, x_eqI, x_neI, x_lt, x_le, x_gt, x_ge, x_sub, x_neg, x_abs, x_int, x_str, x_lenS, List.set, List.length_cons, List.length_nil, true_and, and_true]; exact q) ?_))
      simp only [sSeq, sNext, sExpr, sRet, sRetN, sIf, sAsg, sPar, sPar3, sSub, sDPutA, sAug, sAugS, sFor, sWhile, sRaise, sBreak, sCont, aVar, sg, aC, aBin, aBl, aUn, aAnd, aOr, aNot, aAndV, aOrV, aNotV, aIf, aTru, truA, aNil, aCons, aTup, aLst, aFn, aML, aML0, aCall, aCallK, aLc, aDc, aiL, aiT, aiR1, aiR2, r1K, r2K, aiZip, agN, agNil, agCons, agTup, tupOf, x_add, x_addI, x_addS, x_eqI, x_neI, x_lt, x_le, x_gt, x_ge, x_sub, x_neg, x_abs, x_int, x_str, x_lenS, List.set, List.length_cons, List.length_nil, true_and, and_true]
      exact ⟨L, ℓ, k, st, rfl, hS, fun hf => ⟨rfl, hfar (h1 hf)⟩, fun hf => ⟨by rw [sizeLine_eq]; show 2 ≤ 16777216; decide, fin_here (h2 hf)⟩⟩
    · subst e
      refine seq_no (fun Q q => by simp only [sSeq, sNext, sExpr, sRet, sRetN, sIf, sAsg, sPar, sPar3, sSub, sDPutA, sAug, sAugS, sFor, sWhile, sRaise, sBreak, sCont, aVar, sg, aC, aBin, aBl, aUn, aAnd, aOr, aNot, aAndV, aOrV, aNotV, aIf, aTru, truA, aNil, aCons, aTup, aLst, aFn, aML, aML0, aCall, aCallK, aLc, aDc, aiL, aiT, aiR1, aiR2, r1K, r2K, aiZip, agN, agNil, agCons, agTup, tupOf, x_add, x_addI, x_addS, x_eqI, x_neI, x_lt, x_le, x_gt, x_ge, x_sub, x_neg, x_abs, x_int, x_str, x_lenS, List.set, List.length_cons, List.length_nil, true_and, and_true]; exact q) (seq_no (fun Q q => by simp only [sSeq, sNext, sExpr, sRet, sRetN, sIf, sAsg, sPar, sPar3, sSub, sDPutA, sAug, sAugS, sFor, sWhile, sRaise, sBreak, sCont, aVar, sg, aC, aBin, aBl, aUn, aAnd, aOr, aNot, aAndV, aOrV, aNotV, aIf, aTru, truA, aNil, aCons, aTup, aLst, aFn, aML, aML0, aCall, aCallK, aLc, aDc, aiL, aiT, aiR1, aiR2, r1K, r2K, aiZip, agN, agNil, agCons, agTup, tupOf, x_add, x_addI, x_addS, x_eqI, x_neI, x_lt, x_le, x_gt, x_ge, x_sub, x_neg, x_abs, x_int, x_str, x_lenS, List.set, List.length_cons, List.length_nil, true_and, and_true]; exact q) (seq_no (fun Q q => by simp only [sSeq, sNext, sExpr, sRet, sRetN, sIf, sAsg, sPar, sPar3, sSub, sDPutA, sAug, sAugS, sFor, sWhile, sRaise, sBreak, sCont, aVar, sg, aC, aBin, aBl, aUn, aAnd, aOr, aNot, aAndV, aOrV, aNotV, aIf, aTru, truA, aNil, aCons, aTup, aLst, aFn, aML, aML0, aCall, aCallK, aLc, aDc, aiL, aiT, aiR1, aiR2, r1K, r2K, aiZip, agN, agNil, agCons, agTup, tupOf, x_add, x_addI, x_addS, x_eqI, x_neI, x_lt, x_le, x_gt, x_ge, x_sub, x_neg, x_abs, x_int, x_str, x_lenS, List.set, List.length_cons, List.length_nil, true_and, and_true]; exact q) ?_))
      simp only [sSeq, sNext, sExpr, sRet, sRetN, sIf, sAsg, sPar, sPar3, sSub, sDPutA, sAug, sAugS, sFor, sWhile, sRaise, sBreak, sCont, aVar, sg, aC, aBin, aBl, aUn, aAnd, aOr, aNot, aAndV, aOrV, aNotV, aIf, aTru, truA, aNil, aCons, aTup, aLst, aFn, aML, aML0, aCall, aCallK, aLc, aDc, aiL, aiT, aiR1, aiR2, r1K, r2K, aiZip, agN, agNil, agCons, agTup, tupOf, x_add, x_addI, x_addS, x_eqI, x_neI, x_lt, x_le, x_gt, x_ge, x_sub, x_neg, x_abs, x_int, x_str, x_lenS, List.set, List.length_cons, List.length_nil, true_and, and_true]
      exact ⟨L, ℓ, k, st, rfl, hS, fun hf => ⟨rfl, hfar (h1 hf)⟩, fun hf => ⟨by rw [sizeLine_eq]; show 2 ≤ 16777216; decide, fin_here (h2 hf)⟩⟩
/-! drawn states -/
structure StOk' (L : Land) (st : St) : Prop where
  spot : ∀ e ∈ st, SpotOk L e.1
  nd : (st.map (·.1)).Nodup
theorem put_st {st : St} {sp : List Key} {v : Int} (h : StOk' L st) (hs : SpotOk L sp) : ∃ st', putA (intKvs st) sp (.int v) = intKvs st' ∧ StOk' L st' ∧ st'.length ≤ st.length + 1 := by
  by_cases hm : sp ∈ st.map (·.1)
  · refine ⟨st.map fun e => if e.1 = sp then (e.1, v) else e, ?_, ⟨fun e he => ?_, ?_⟩, by rw [List.length_map]; omega⟩
    · unfold putA
      rw [if_pos]
      · unfold intKvs
        rw [List.map_map, List.map_map]
        refine List.map_congr_left fun e _ => ?_
        show (if e.1 = sp then (e.1, A.int v) else (e.1, A.int e.2)) = ((if e.1 = sp then (e.1, v) else e).1, A.int (if e.1 = sp then (e.1, v) else e).2)
        by_cases z : e.1 = sp
        · rw [if_pos z, if_pos z]
        · rw [if_neg z, if_neg z]
      · obtain ⟨e, he, z⟩ := List.mem_map.mp hm
        exact List.any_eq_true.mpr ⟨(e.1, A.int e.2), List.mem_map.mpr ⟨e, he, rfl⟩, decide_eq_true z⟩
    · obtain ⟨e', he', rfl⟩ := List.mem_map.mp he
      by_cases z : e'.1 = sp
      · rw [if_pos z]; exact h.spot e' he'
      · rw [if_neg z]; exact h.spot e' he'
    · have e : (st.map fun e => if e.1 = sp then (e.1, v) else e).map (·.1) = st.map (·.1) := by
        rw [List.map_map]
        refine List.map_congr_left fun e _ => ?_
        show (if e.1 = sp then (e.1, v) else e).1 = e.1
        by_cases z : e.1 = sp
        · rw [if_pos z]
        · rw [if_neg z]
      rw [e]
      exact h.nd
  · refine ⟨st ++ [(sp, v)], ?_, ⟨fun e he => ?_, ?_⟩, by rw [List.length_append]; exact Nat.le_refl _⟩
    · rw [putA_new (by unfold intKvs; rw [List.map_map]; exact hm)]
      unfold intKvs
      rw [List.map_append]
      rfl
    · rcases List.mem_append.mp he with he | he
      · exact h.spot e he
      · rw [List.mem_singleton.mp he]; exact hs
    · rw [List.map_append, List.nodup_append]
      refine ⟨h.nd, by simp, fun x hx y hy e => ?_⟩
      have : y = sp := by simpa using hy
      exact hm (by rw [← this, ← e]; exact hx)
theorem alike_spots {e f : List Key × Int} (he : SpotOk L e.1) (hf : SpotOk L f.1) : PySem.W.alike (encE e) (encE f) = true := by
  unfold encE
  rcases he with ⟨v, hv⟩ | ⟨n, a, b, hb⟩ <;> rcases hf with ⟨v', hv'⟩ | ⟨n', a', b', hb'⟩
  · rw [hv.eq, hv'.eq]; simp [PySem.W.alike, PySem.W.alikeAll, kD]
  · rw [hv.eq, hb'.eq]; simp [PySem.W.alike, PySem.W.alikeAll, kD]
  · rw [hb.eq, hv'.eq]; simp [PySem.W.alike, PySem.W.alikeAll, kD]
  · rw [hb.eq, hb'.eq]; simp [PySem.W.alike, PySem.W.alikeAll, kD]
theorem x_pow20 : opPow (.int 10) (.int 20) O Q = Q (.int (10 ^ 20)) O := rfl
abbrev tSl (bg : Addr) (L : Land) (ℓ : List Nat) (O : Own) (z4 z5 z6 z7 z8 : Option A) : Slots := [some (.raw (.ref bg)), some (landA L), some (lensA ℓ), some (.own O.length), z4, z5, z6, z7, z8]
theorem between_of {r a b : Nat} {n : Str} (hn : n ∈ L.rs.map (·.1)) (a1 : 1 ≤ a) (ab : a < b) (hb : b ≤ 99) : Between L [.inr n, .inl ((a / Nat.gcd a b : Nat) : Int), .inl ((b / Nat.gcd a b : Nat) : Int)] n (a / Nat.gcd a b) (b / Nat.gcd a b) := by
  have g0 : 0 < Nat.gcd a b := Nat.gcd_pos_of_pos_left _ a1
  refine ⟨hn, Nat.div_pos (Nat.le_of_dvd a1 (Nat.gcd_dvd_left _ _)) g0, ?_, Nat.le_trans (Nat.div_le_self _ _) hb, Nat.gcd_div_gcd_div_gcd_of_pos_left a1, rfl⟩
  have e1 := Nat.div_mul_cancel (Nat.gcd_dvd_left a b)
  have e2 := Nat.div_mul_cancel (Nat.gcd_dvd_right a b)
  refine Nat.lt_of_mul_lt_mul_right (a := Nat.gcd a b) ?_
  rw [e1, e2]
  exact ab
structure Ds (L : Land) (O O1 : Own) (st : St) (i : Nat) : Prop where
  ext : Ext O O1
  d : lv O1 O.length = some (.dT (intKvs st))
  ok : StOk' L st
  len : st.length ≤ i
theorem Ds.cons {O1 : Own} {st : St} {i : Nat} {o : AO} (x : Ds L O O1 st i) : Ds L O (o :: O1) st i := ⟨x.ext.cons, lv_cons_of x.d, x.ok, x.len⟩
theorem law_drawn_state_ok {bg : Addr} (h : sp_law_drawn_state bg as O Q QE) : rd_law_drawn_state bg (EN O Q) (startA N_law_drawn_state as) O := by
  obtain ⟨L, ℓ, rfl, hok, q⟩ := h
  show rd_law_drawn_state bg _ [some (.raw (.ref bg)), some (landA L), some (lensA ℓ), none, none, none, none, none, none] O
  unfold rd_law_drawn_state
  refine seq_set (a := .own O.length) (O1 := .dT (intKvs []) :: O) (fun Q q => q) ?_
  have hv1 := hok.v1
  have hv4 := hok.v4
  have hr1 := hok.r1
  have hr5 := hok.r5
  -- the loop's turns are drawn
  have turns : ∀ (D : AEnds) (rest body : AS), (∀ r : Nat, r < 5 → forA (fun _ => True) (agN 4) body { D with nx := rest D } (rangeA 0 r) (tSl bg L ℓ O none none none none none) (.dT (intKvs []) :: O)) →
      sSeq (sFor (aiR1 (aCall (sp_law_draw bg) noEx (aCons (aVar 0) (aCons (aC (.int 5)) aNil)))) (agN 4) body) rest D (tSl bg L ℓ O none none none none none) (.dT (intKvs []) :: O) := by
    intro D rest body hb
    simp only [sSeq, sNext, sExpr, sRet, sRetN, sIf, sAsg, sPar, sPar3, sSub, sDPutA, sAug, sAugS, sFor, sWhile, sRaise, sBreak, sCont, aVar, sg, aC, aBin, aBl, aUn, aAnd, aOr, aNot, aAndV, aOrV, aNotV, aIf, aTru, truA, aNil, aCons, aTup, aLst, aFn, aML, aML0, aCall, aCallK, aLc, aDc, aiL, aiT, aiR1, aiR2, r1K, r2K, aiZip, agN, agNil, agCons, agTup, tupOf, x_add, x_addI, x_addS, x_eqI, x_neI, x_lt, x_le, x_gt, x_ge, x_sub, x_neg, x_abs, x_int, x_str, x_lenS, List.set, List.length_cons, List.length_nil, true_and, and_true]
    refine ⟨5, rfl, by decide, by decide, fun r hr => ⟨by omega, by omega, ?_⟩⟩
    rw [Int.toNat_natCast]
    exact hb r hr
  refine turns _ _ _ fun r hr => ?_
  refine forA_inv (fun i δ O1 => ∃ (st : St) (z4 z5 z6 z7 z8 : Option A), δ = tSl bg L ℓ O z4 z5 z6 z7 z8 ∧ Ds L O O1 st i)
    (fun i v δ O1 Nx hx hI kN => ?_) (fun δ O1 hI => ?_) ⟨[], _, _, _, _, _, rfl, Ext.new, lv_self, ⟨fun e he => absurd he List.not_mem_nil, List.nodup_nil⟩, Nat.le_refl _⟩
  · obtain ⟨st, z4, z5, z6, z7, z8, rfl, x⟩ := hI
    obtain ⟨hi, rfl⟩ := rangeA_at hx
    refine ⟨trivial, ?_⟩
    simp only [agN, List.set]
    -- the store behind the choice
    have put : ∀ (sp : List Key) (z4 z6 z7 z8 : Option A) (O2 : Own), SpotOk L sp → Ds L O O2 st i → sDPutA (aVar 3) (aVar 5) (aCall (sp_law_pick bg) noEx (aCons (aVar 0) (aCons (aLst (aCons (aUn unNeg (aC (.int 3))) (aCons (aUn unNeg (aC (.int 1))) (aCons (aC (.int 1)) (aCons (aC (.int 2)) (aCons (aBin opPow (aC (.int 10)) (aC (.int 20))) aNil)))))) aNil)))
        { nx := Nx, rt := (EN O Q).rt, bk := sRet (aFn tTupleK (aCons (aSortedItems (aVar 3)) aNil)) (EN O Q), ct := Nx } (tSl bg L ℓ O z4 (some (spotA sp)) z6 z7 z8) O2 := by
      intro sp z4 z6 z7 z8 O2 hs x
      simp only [sSeq, sNext, sExpr, sRet, sRetN, sIf, sAsg, sPar, sPar3, sSub, sDPutA, sAug, sAugS, sFor, sWhile, sRaise, sBreak, sCont, aVar, sg, aC, aBin, aBl, aUn, aAnd, aOr, aNot, aAndV, aOrV, aNotV, aIf, aTru, truA, aNil, aCons, aTup, aLst, aFn, aML, aML0, aCall, aCallK, aLc, aDc, aiL, aiT, aiR1, aiR2, r1K, r2K, aiZip, agN, agNil, agCons, agTup, tupOf, x_add, x_addI, x_addS, x_eqI, x_neI, x_lt, x_le, x_gt, x_ge, x_sub, x_neg, x_abs, x_int, x_str, x_lenS, List.set, List.length_cons, List.length_nil, true_and, and_true, x_pow20]
      refine ⟨by rw [sizeLine_eq]; decide, ?_⟩
      have x2 := x.cons (o := .lst [A.int (-3), A.int (-1), A.int 1, A.int 2, A.int (10 ^ 20)])
      refine ⟨_, _, rfl, seq_own lv_self, by decide, by decide, fun y hy => ?_⟩
      obtain ⟨m, rfl⟩ : ∃ m : Int, y = .int m := by
        simp only [List.mem_cons, List.not_mem_nil, or_false] at hy
        rcases hy with h | h | h | h | h <;> exact ⟨_, h⟩
      obtain ⟨st', p1, p2, p3⟩ := put_st (v := m) x2.ok hs
      have ed : dputA (.lst [A.int (-3), A.int (-1), A.int 1, A.int 2, A.int (10 ^ 20)] :: O2) (.own O.length) (spotA sp) (.int m) = some (lput (.lst [A.int (-3), A.int (-1), A.int 1, A.int 2, A.int (10 ^ 20)] :: O2) O.length (.dT (intKvs st'))) := by
        unfold dputA spotA
        have := x2.len
        simp only [x2.d]
        rw [if_pos (by unfold intKvs; rw [List.length_map, sizeLine_eq]; omega), keysOf_map, ← p1]
        rfl
      rw [ed]
      exact kN _ _ ⟨st', _, _, _, _, _, rfl, x2.ext.put (Nat.le_refl _), lv_lput_same (lv_lt x2.d), p2, by have := x2.len; omega⟩
    refine seq_setP (fun a O2 => O2 = O1 ∧ ∃ v, v ∈ L.vs ∧ a = spotA [.inr v]) (fun Q' q' => ?_) fun a O2 ha => ?_
    · simp only [sSeq, sNext, sExpr, sRet, sRetN, sIf, sAsg, sPar, sPar3, sSub, sDPutA, sAug, sAugS, sFor, sWhile, sRaise, sBreak, sCont, aVar, sg, aC, aBin, aBl, aUn, aAnd, aOr, aNot, aAndV, aOrV, aNotV, aIf, aTru, truA, aNil, aCons, aTup, aLst, aFn, aML, aML0, aCall, aCallK, aLc, aDc, aiL, aiT, aiR1, aiR2, r1K, r2K, aiZip, agN, agNil, agCons, agTup, tupOf, x_add, x_addI, x_addS, x_eqI, x_neI, x_lt, x_le, x_gt, x_ge, x_sub, x_neg, x_abs, x_int, x_str, x_lenS, List.set, List.length_cons, List.length_nil, true_and, and_true, landA]
      refine w_ix rfl landA_ix0 ⟨_, _, rfl, rfl, by rw [List.length_map]; omega, by rw [List.length_map]; omega, fun y hy => ?_⟩
      obtain ⟨v, hv, rfl⟩ := List.mem_map.mp hy
      exact ⟨by rw [sizeLine_eq]; show 1 ≤ 16777216; decide, q' _ _ ⟨rfl, v, hv, rfl⟩⟩
    obtain ⟨rfl, v, hv, rfl⟩ := ha
    simp only [List.set]
    -- a village, or a place on a road
    have branch : ∀ (c : AT) (t rest : AS) (D : AEnds) (δ : Slots), (∀ Q : ABK, Q true O2 → Q false O2 → c δ O2 Q) → rest D δ O2 → t { D with nx := rest D } δ O2 → sSeq (sIf c t sNext) rest D δ O2 := fun c t rest D δ h1 h2 h3 => h1 _ h3 h2
    refine branch _ _ _ _ _ (fun Q q1 q2 => ?_) (put _ _ _ _ _ _ (.inl ⟨v, hv, rfl⟩) x) ?_
    · simp only [sSeq, sNext, sExpr, sRet, sRetN, sIf, sAsg, sPar, sPar3, sSub, sDPutA, sAug, sAugS, sFor, sWhile, sRaise, sBreak, sCont, aVar, sg, aC, aBin, aBl, aUn, aAnd, aOr, aNot, aAndV, aOrV, aNotV, aIf, aTru, truA, aNil, aCons, aTup, aLst, aFn, aML, aML0, aCall, aCallK, aLc, aDc, aiL, aiT, aiR1, aiR2, r1K, r2K, aiZip, agN, agNil, agCons, agTup, tupOf, x_add, x_addI, x_addS, x_eqI, x_neI, x_lt, x_le, x_gt, x_ge, x_sub, x_neg, x_abs, x_int, x_str, x_lenS, List.set, List.length_cons, List.length_nil, true_and, and_true]
      refine ⟨3, rfl, by decide, by decide, fun r hr => ?_⟩
      simp only [sSeq, sNext, sExpr, sRet, sRetN, sIf, sAsg, sPar, sPar3, sSub, sDPutA, sAug, sAugS, sFor, sWhile, sRaise, sBreak, sCont, aVar, sg, aC, aBin, aBl, aUn, aAnd, aOr, aNot, aAndV, aOrV, aNotV, aIf, aTru, truA, aNil, aCons, aTup, aLst, aFn, aML, aML0, aCall, aCallK, aLc, aDc, aiL, aiT, aiR1, aiR2, r1K, r2K, aiZip, agN, agNil, agCons, agTup, tupOf, x_add, x_addI, x_addS, x_eqI, x_neI, x_lt, x_le, x_gt, x_ge, x_sub, x_neg, x_abs, x_int, x_str, x_lenS, List.set, List.length_cons, List.length_nil, true_and, and_true]
      by_cases e : 0 < r
      · rw [decide_eq_true (show (0 : Int) < (r : Int) by omega)]; exact q1
      · rw [decide_eq_false (show ¬ (0 : Int) < (r : Int) by omega)]; exact q2
    refine seq_setP (fun a O3 => Ds L O O3 st i ∧ ∃ b : Nat, 2 ≤ b ∧ b ≤ 99 ∧ a = .int (b : Int)) (fun Q' q' => ?_) fun a O3 ha => ?_
    · simp only [sSeq, sNext, sExpr, sRet, sRetN, sIf, sAsg, sPar, sPar3, sSub, sDPutA, sAug, sAugS, sFor, sWhile, sRaise, sBreak, sCont, aVar, sg, aC, aBin, aBl, aUn, aAnd, aOr, aNot, aAndV, aOrV, aNotV, aIf, aTru, truA, aNil, aCons, aTup, aLst, aFn, aML, aML0, aCall, aCallK, aLc, aDc, aiL, aiT, aiR1, aiR2, r1K, r2K, aiZip, agN, agNil, agCons, agTup, tupOf, x_add, x_addI, x_addS, x_eqI, x_neI, x_lt, x_le, x_gt, x_ge, x_sub, x_neg, x_abs, x_int, x_str, x_lenS, List.set, List.length_cons, List.length_nil, true_and, and_true]
      refine ⟨by rw [sizeLine_eq]; decide, 6, rfl, by decide, by decide, fun r hr => ?_⟩
      refine w_fdiv r 5 (by decide) (by decide) ?_
      have x2 := x.cons (o := .lst [A.int 11, A.int 98])
      have two : r / 5 = 0 ∨ r / 5 = 1 := by omega
      rcases two with e | e
      · rw [e]
        refine w_ixN (seq_own lv_self) (x := .int 11) rfl ⟨11, rfl, by decide, by decide, fun r hr => ?_⟩
        exact q' _ _ ⟨x2, 2 + r, by omega, by omega, by rw [Int.natCast_add]; rfl⟩
      · rw [e]
        refine w_ixN (seq_own lv_self) (x := .int 98) rfl ⟨98, rfl, by decide, by decide, fun r hr => ?_⟩
        exact q' _ _ ⟨x2, 2 + r, by omega, by omega, by rw [Int.natCast_add]; rfl⟩
    obtain ⟨x3, b, b2, b99, rfl⟩ := ha
    simp only [List.set]
    refine seq_setP (fun a O4 => O4 = O3 ∧ ∃ m : Nat, 1 ≤ m ∧ m < b ∧ a = .int (m : Int)) (fun Q' q' => ?_) fun a O4 ha => ?_
    · simp only [sSeq, sNext, sExpr, sRet, sRetN, sIf, sAsg, sPar, sPar3, sSub, sDPutA, sAug, sAugS, sFor, sWhile, sRaise, sBreak, sCont, aVar, sg, aC, aBin, aBl, aUn, aAnd, aOr, aNot, aAndV, aOrV, aNotV, aIf, aTru, truA, aNil, aCons, aTup, aLst, aFn, aML, aML0, aCall, aCallK, aLc, aDc, aiL, aiT, aiR1, aiR2, r1K, r2K, aiZip, agN, agNil, agCons, agTup, tupOf, x_add, x_addI, x_addS, x_eqI, x_neI, x_lt, x_le, x_gt, x_ge, x_sub, x_neg, x_abs, x_int, x_str, x_lenS, List.set, List.length_cons, List.length_nil, true_and, and_true]
      have e : (b : Int) - 1 = ((b - 1 : Nat) : Int) := by omega
      rw [e]
      refine ⟨b - 1, rfl, by omega, by omega, fun r hr => q' _ _ ⟨rfl, 1 + r, by omega, by omega, by rw [Int.natCast_add]; rfl⟩⟩
    obtain ⟨rfl, a, a1, ab, rfl⟩ := ha
    simp only [List.set]
    have g0 : 0 < Nat.gcd a b := Nat.gcd_pos_of_pos_left _ a1
    have gb : Nat.gcd a b ≤ a := Nat.le_of_dvd a1 (Nat.gcd_dvd_left _ _)
    refine seq_set (a := .int ((Nat.gcd a b : Nat) : Int)) (O1 := O4) (fun Q q => ?_) ?_
    · simp only [sSeq, sNext, sExpr, sRet, sRetN, sIf, sAsg, sPar, sPar3, sSub, sDPutA, sAug, sAugS, sFor, sWhile, sRaise, sBreak, sCont, aVar, sg, aC, aBin, aBl, aUn, aAnd, aOr, aNot, aAndV, aOrV, aNotV, aIf, aTru, truA, aNil, aCons, aTup, aLst, aFn, aML, aML0, aCall, aCallK, aLc, aDc, aiL, aiT, aiR1, aiR2, r1K, r2K, aiZip, agN, agNil, agCons, agTup, tupOf, x_add, x_addI, x_addS, x_eqI, x_neI, x_lt, x_le, x_gt, x_ge, x_sub, x_neg, x_abs, x_int, x_str, x_lenS, List.set, List.length_cons, List.length_nil, true_and, and_true]
      exact ⟨a, b, rfl, by omega, q⟩
    simp only [sSeq, sNext, sExpr, sRet, sRetN, sIf, sAsg, sPar, sPar3, sSub, sDPutA, sAug, sAugS, sFor, sWhile, sRaise, sBreak, sCont, aVar, sg, aC, aBin, aBl, aUn, aAnd, aOr, aNot, aAndV, aOrV, aNotV, aIf, aTru, truA, aNil, aCons, aTup, aLst, aFn, aML, aML0, aCall, aCallK, aLc, aDc, aiL, aiT, aiR1, aiR2, r1K, r2K, aiZip, agN, agNil, agCons, agTup, tupOf, x_add, x_addI, x_addS, x_eqI, x_neI, x_lt, x_le, x_gt, x_ge, x_sub, x_neg, x_abs, x_int, x_str, x_lenS, List.set, List.length_cons, List.length_nil, true_and, and_true, landA]
    refine w_ix rfl landA_ix1 ⟨_, _, rfl, rfl, by rw [List.length_map]; omega, by rw [List.length_map]; omega, fun y hy => ?_⟩
    obtain ⟨rd, hrd, rfl⟩ := List.mem_map.mp hy
    refine w_ix (xs := [.str rd.1, .str rd.2.1, .str rd.2.2]) rfl atI_0 (w_fdiv _ _ g0 (by omega) (w_fdiv _ _ g0 (by omega) ⟨by rw [sizeLine_eq]; show 3 ≤ 16777216; decide, ?_⟩))
    exact put _ _ _ _ _ _ (.inr ⟨_, _, _, between_of (r := 0) (List.mem_map.mpr ⟨rd, hrd, rfl⟩) a1 ab b99⟩) x3
  · obtain ⟨st, z4, z5, z6, z7, z8, rfl, x⟩ := hI
    refine ⟨trivial, ?_⟩
    have hlen := x.len
    rw [rangeA_len] at hlen
    simp only [sSeq, sNext, sExpr, sRet, sRetN, sIf, sAsg, sPar, sPar3, sSub, sDPutA, sAug, sAugS, sFor, sWhile, sRaise, sBreak, sCont, aVar, sg, aC, aBin, aBl, aUn, aAnd, aOr, aNot, aAndV, aOrV, aNotV, aIf, aTru, truA, aNil, aCons, aTup, aLst, aFn, aML, aML0, aCall, aCallK, aLc, aDc, aiL, aiT, aiR1, aiR2, r1K, r2K, aiZip, agN, agNil, agCons, agTup, tupOf, x_add, x_addI, x_addS, x_eqI, x_neI, x_lt, x_le, x_gt, x_ge, x_sub, x_neg, x_abs, x_int, x_str, x_lenS, List.set, List.length_cons, List.length_nil, true_and, and_true, aSortedItems]
    refine ⟨st, x.d, fun e he f hf => alike_spots (x.ok.spot e he) (x.ok.spot f hf), fun fs hp => ?_⟩
    refine w_tupleK lv_self (fin_data x.ext.cons ?_ (q fs ⟨fun e he => x.ok.spot e (hp.mem_iff.mp he), (hp.map (·.1)).nodup_iff.mpr x.ok.nd, by have := hp.length_eq; omega⟩))
    exact ltAs_map fun e _ => by
      unfold pairA
      simp only [ltA, ltAs, Bool.and_true]
      exact ltAs_map fun y _ => by cases y <;> rfl
end
end K82

set_option Elab.async false
set_option linter.all false
set_option maxRecDepth 100000
set_option maxHeartbeats 4000000
/-! safe_land. -/
namespace K82
open PySem PySem.Spec L2 PyA
section
variable {as : List A} {O : Own} {Q : AK} {QE : Value → Own → Prop} {L : Land} {ℓ : List Nat} {k : Nat}
theorem perm_map_inv {α β : Type} {f : α → β} : ∀ {l m : List β}, l.Perm m → ∀ zs : List α, l = zs.map f → ∃ ws : List α, ws.Perm zs ∧ m = ws.map f := by
  intro l m h
  induction h with
  | nil => 
    intro zs e
    exact ⟨zs, List.Perm.refl _, e⟩
  | cons x h ih =>
    intro zs e
    cases zs with
    | nil => cases e
    | cons z zs =>
      rw [List.map_cons, List.cons.injEq] at e
      obtain ⟨ws, h1, h2⟩ := ih zs e.2
      exact ⟨z :: ws, h1.cons z, by rw [List.map_cons, ← h2, e.1]⟩
  | swap x y l =>
    intro zs e
    cases zs with
    | nil => cases e
    | cons z zs =>
      cases zs with
      | nil => simp at e
      | cons z' zs =>
        simp only [List.map_cons, List.cons.injEq] at e
        exact ⟨z' :: z :: zs, List.Perm.swap z z' zs, by simp only [List.map_cons, e.1, e.2.1, e.2.2]⟩
  | trans h1 h2 ih1 ih2 =>
    intro zs e
    obtain ⟨ws, p1, e1⟩ := ih1 zs e
    obtain ⟨vs, p2, e2⟩ := ih2 ws e1
    exact ⟨vs, p2.trans p1, e2⟩
theorem some_of {α : Type} {f : α → A} {zs : List α} {made rest : List A} (h : (made ++ rest).Perm (zs.map f)) : ∃ ys rs : List α, made = ys.map f ∧ (ys ++ rs).Perm zs := by
  have all : ∀ x ∈ made ++ rest, ∃ z ∈ zs, f z = x := fun x hx => List.mem_map.mp (h.mem_iff.mp hx)
  have lift : ∀ (l : List A), (∀ x ∈ l, ∃ z ∈ zs, f z = x) → True := fun _ _ => trivial
  obtain ⟨ws, hw, hp⟩ : ∃ ws : List α, ws.Perm zs ∧ made ++ rest = ws.map f := by
    have := h.symm
    clear all lift h
    generalize made ++ rest = l at this
    exact perm_map_inv this zs rfl
  refine ⟨ws.take made.length, ws.drop made.length, ?_, by rw [List.take_append_drop]; exact hw⟩
  rw [List.map_take, ← hp, List.take_left]
def prA (p : Str × Str) : A := .tup [.str p.1, .str p.2]
structure Lf (O O1 : Own) (nv np : Nat) (vs : List Str) (ps : List (Str × Str)) : Prop where
  ext : Ext O O1
  ov : O.length ≤ nv
  op : O.length ≤ np
  ne : nv ≠ np
  v : lv O1 nv = some (.lst (vs.map A.str))
  p : lv O1 np = some (.lst (ps.map prA))
section
variable {O1 : Own} {nv np : Nat} {vs : List Str} {ps ps' : List (Str × Str)} {o : AO}
theorem Lf.cons (x : Lf O O1 nv np vs ps) : Lf O (o :: O1) nv np vs ps := ⟨x.ext.cons, x.ov, x.op, x.ne, lv_cons_of x.v, lv_cons_of x.p⟩
theorem Lf.put (x : Lf O O1 nv np vs ps) : Lf O (lput O1 np (.lst (ps'.map prA))) nv np vs ps' := ⟨x.ext.put x.op, x.ov, x.op, x.ne, by rw [lv_lput_ne x.ne]; exact x.v, lv_lput_same (lv_lt x.p)⟩
end
abbrev fSl (bg : Addr) (m nv np : Nat) (z6 z7 z8 z9 : Option A) : Slots := [some (.raw (.ref bg)), some (.int 4), some (.int 2), some (.int (m : Nat)), some (.own nv), some (.own np), z6, z7, z8, z9]
theorem pr_snoc {ps : List (Str × Str)} {x y : Str} : (ps ++ [(x, y)]).map prA = ps.map prA ++ [.tup [.str x, .str y]] := by rw [List.map_append]; rfl
theorem size_small {n : Nat} (h : n ≤ 100) : n ≤ sizeLine := by rw [sizeLine_eq]; omega
def z8 : List Str := ["a", "b2", "cd", "x1", "zz9zz9zz", "q", "vv", "m0"]
def z12 : List Str := ["e", "r0", "f7", "a", "k", "road", "z", "b2", "0", "t9", "u", "w"]
theorem z8_nd : z8.Nodup := by decide +kernel
theorem z12_nd : z12.Nodup := by decide +kernel
theorem app_nd {α : Type} {xs ys zs : List α} (h : (xs ++ ys).Perm zs) (hn : zs.Nodup) : xs.Nodup := (List.nodup_append.mp (h.nodup_iff.mpr hn)).1
/-- a loop over the draw's number of turns -/
theorem law_safe_land_ok {bg : Addr} (h : sp_law_safe_land bg as O Q QE) : rd_law_safe_land bg (EN O Q) (startA N_law_safe_land as) O := by
  obtain ⟨rfl, q⟩ := h
  show rd_law_safe_land bg _ [some (.raw (.ref bg)), some (.int 4), some (.int 2), none, none, none, none, none, none, none] O
  unfold rd_law_safe_land
  refine seq_setP (fun a O1 => O1 = O ∧ ∃ m : Nat, 2 ≤ m ∧ m ≤ 4 ∧ a = .int (m : Int)) (fun Q' q' => ?_) fun a O1 ha => ?_
  · simp only [sSeq, sNext, sExpr, sRet, sRetN, sIf, sAsg, sPar, sPar3, sSub, sDPutA, sAug, sAugS, sFor, sWhile, sRaise, sBreak, sCont, aVar, sg, aC, aBin, aBl, aUn, aAnd, aOr, aNot, aAndV, aOrV, aNotV, aIf, aTru, truA, aNil, aCons, aTup, aLst, aFn, aML, aML0, aCall, aCallK, aLc, aDc, aiL, aiT, aiR1, aiR2, r1K, r2K, aiZip, agN, agNil, agCons, agTup, tupOf, x_add, x_addI, x_addS, x_eqI, x_neI, x_lt, x_le, x_gt, x_ge, x_sub, x_neg, x_abs, x_int, x_str, x_lenS, List.set, List.length_cons, List.length_nil, true_and, and_true]
    exact ⟨3, rfl, by decide, by decide, fun r hr => q' _ _ ⟨rfl, 2 + r, by omega, by omega, by rw [Int.natCast_add]; rfl⟩⟩
  obtain ⟨rfl, m, m2, m4, rfl⟩ := ha
  simp only [List.set]
  refine seq_setP (fun a O2 => ∃ vs : List Str, vs.length = m ∧ vs.Nodup ∧ a = .own (O1.length + 1) ∧ Ext O1 O2 ∧ O2.length = O1.length + 2 ∧ lv O2 (O1.length + 1) = some (.lst (vs.map A.str))) (fun Q' q' => ?_) fun a O2 ha => ?_
  · simp only [sSeq, sNext, sExpr, sRet, sRetN, sIf, sAsg, sPar, sPar3, sSub, sDPutA, sAug, sAugS, sFor, sWhile, sRaise, sBreak, sCont, aVar, sg, aC, aBin, aBl, aUn, aAnd, aOr, aNot, aAndV, aOrV, aNotV, aIf, aTru, truA, aNil, aCons, aTup, aLst, aFn, aML, aML0, aCall, aCallK, aLc, aDc, aiL, aiT, aiR1, aiR2, r1K, r2K, aiZip, agN, agNil, agCons, agTup, tupOf, x_add, x_addI, x_addS, x_eqI, x_neI, x_lt, x_le, x_gt, x_ge, x_sub, x_neg, x_abs, x_int, x_str, x_lenS, List.set, List.length_cons, List.length_nil, true_and, and_true]
    refine ⟨size_small (by decide), ?_⟩
    refine ⟨_, z8.map A.str, m, rfl, seq_own lv_self, ?_, ?_, ltAs_map fun _ _ => rfl, fun made hm ⟨rest, hp⟩ => ?_⟩
    · show m ≤ 8; omega
    · show 8 < _; decide
    · obtain ⟨ys, rs, rfl, hp2⟩ := some_of hp
      exact q' _ _ ⟨ys, by rw [List.length_map] at hm; exact hm, app_nd hp2 z8_nd, rfl, Ext.new.cons, rfl, lv_self⟩
  obtain ⟨vs, vl, vnd, rfl, ext2, len2, v2⟩ := ha
  simp only [List.set]
  refine seq_set (a := .own (O1.length + 2)) (O1 := .lst (([] : List (Str × Str)).map prA) :: O2) (fun Q q => ⟨Nat.zero_le _, by rw [len2]; exact q⟩) ?_
  have x0 : Lf O1 (.lst (([] : List (Str × Str)).map prA) :: O2) (O1.length + 1) (O1.length + 2) vs [] := ⟨ext2.cons, by omega, by omega, by omega, lv_cons_of v2, by rw [← len2]; exact lv_self⟩
  simp only [List.set]
  generalize hnv : O1.length + 1 = nv at x0
  generalize hnp : O1.length + 2 = np at x0
  generalize (AO.lst (([] : List (Str × Str)).map prA) :: O2) = O3 at x0
  have vget : ∀ i, i < m → ∃ x, (vs.map A.str)[i]? = some (.str x) := fun i hi => by
    rw [List.getElem?_map, List.getElem?_eq_getElem (show i < vs.length by omega)]
    exact ⟨_, rfl⟩
  -- the tree
  refine seq_for (items := rangeA 1 (m - 1)) (chk := fun _ => True) (O1 := O3) (fun Q q => ?_) ?_
  · simp only [sSeq, sNext, sExpr, sRet, sRetN, sIf, sAsg, sPar, sPar3, sSub, sDPutA, sAug, sAugS, sFor, sWhile, sRaise, sBreak, sCont, aVar, sg, aC, aBin, aBl, aUn, aAnd, aOr, aNot, aAndV, aOrV, aNotV, aIf, aTru, truA, aNil, aCons, aTup, aLst, aFn, aML, aML0, aCall, aCallK, aLc, aDc, aiL, aiT, aiR1, aiR2, r1K, r2K, aiZip, agN, agNil, agCons, agTup, tupOf, x_add, x_addI, x_addS, x_eqI, x_neI, x_lt, x_le, x_gt, x_ge, x_sub, x_neg, x_abs, x_int, x_str, x_lenS, List.set, List.length_cons, List.length_nil, true_and, and_true]
    have e : ((m : Int) - 1).toNat = m - 1 := by omega
    rw [e]
    exact ⟨⟨by decide, by decide, by omega, by omega⟩, q⟩
  refine forA_inv (fun i δ O3 => ∃ (ps : List (Str × Str)) (z6 : Option A), δ = fSl bg m nv np z6 none none none ∧ ps.length = i ∧ Lf O1 O3 nv np vs ps)
    (fun i v δ O3 Nx hx hI kN => ?_) (fun δ O3 hI => ?_) ⟨[], _, rfl, rfl, x0⟩
  · obtain ⟨ps, z6, rfl, hl, x⟩ := hI
    obtain ⟨hi, rfl⟩ := rangeA_at hx
    refine ⟨trivial, ?_⟩
    have e : (1 : Int) + (i : Int) = ((i + 1 : Nat) : Int) := by omega
    rw [e]
    simp only [sSeq, sNext, sExpr, sRet, sRetN, sIf, sAsg, sPar, sPar3, sSub, sDPutA, sAug, sAugS, sFor, sWhile, sRaise, sBreak, sCont, aVar, sg, aC, aBin, aBl, aUn, aAnd, aOr, aNot, aAndV, aOrV, aNotV, aIf, aTru, truA, aNil, aCons, aTup, aLst, aFn, aML, aML0, aCall, aCallK, aLc, aDc, aiL, aiT, aiR1, aiR2, r1K, r2K, aiZip, agN, agNil, agCons, agTup, tupOf, x_add, x_addI, x_addS, x_eqI, x_neI, x_lt, x_le, x_gt, x_ge, x_sub, x_neg, x_abs, x_int, x_str, x_lenS, List.set, List.length_cons, List.length_nil, true_and, and_true]
    refine ⟨w_isLst x.p, i + 1, rfl, by omega, by omega, fun r hr => ?_⟩
    obtain ⟨y, hy⟩ := vget r (by omega)
    obtain ⟨y2, hy2⟩ := vget (i + 1) (by omega)
    refine w_ixN (seq_own x.v) hy (w_ixN (seq_own x.v) hy2 ⟨size_small (by decide), w_append x.p ?_ ?_⟩)
    · rw [List.length_map, sizeLine_eq]; omega
    · rw [← pr_snoc]
      exact kN _ _ ⟨_, _, rfl, by rw [List.length_append, hl]; rfl, x.put⟩
  obtain ⟨ps1, z6, rfl, hl1, x1⟩ := hI
  rw [rangeA_len] at hl1
  refine ⟨trivial, ?_⟩
  dsimp only
  -- some more
  have turns : ∀ (D : AEnds) (rest body : AS), (∀ r : Nat, r < 3 → forA (fun _ => True) (agN 6) body { D with nx := rest D } (rangeA 0 r) (fSl bg m nv np z6 none none none) O3) →
      sSeq (sFor (aiR1 (aCall (sp_law_draw bg) noEx (aCons (aVar 0) (aCons (aBin opAdd (aVar 2) (aC (.int 1))) aNil)))) (agN 6) body) rest D (fSl bg m nv np z6 none none none) O3 := by
    intro D rest body hb
    simp only [sSeq, sNext, sExpr, sRet, sRetN, sIf, sAsg, sPar, sPar3, sSub, sDPutA, sAug, sAugS, sFor, sWhile, sRaise, sBreak, sCont, aVar, sg, aC, aBin, aBl, aUn, aAnd, aOr, aNot, aAndV, aOrV, aNotV, aIf, aTru, truA, aNil, aCons, aTup, aLst, aFn, aML, aML0, aCall, aCallK, aLc, aDc, aiL, aiT, aiR1, aiR2, r1K, r2K, aiZip, agN, agNil, agCons, agTup, tupOf, x_add, x_addI, x_addS, x_eqI, x_neI, x_lt, x_le, x_gt, x_ge, x_sub, x_neg, x_abs, x_int, x_str, x_lenS, List.set, List.length_cons, List.length_nil, true_and, and_true]
    refine ⟨3, rfl, by decide, by decide, fun r hr => ⟨by omega, by omega, ?_⟩⟩
    rw [Int.toNat_natCast]
    exact hb r hr
  refine turns _ _ _ fun r hr => ?_
  refine forA_inv (fun i δ O3 => ∃ (ps : List (Str × Str)) (z6 : Option A), δ = fSl bg m nv np z6 none none none ∧ ps.length = m - 1 + i ∧ Lf O1 O3 nv np vs ps)
    (fun i v δ O3 Nx hx hI kN => ?_) (fun δ O3 hI => ?_) ⟨ps1, _, rfl, hl1, x1⟩
  · obtain ⟨ps, z6, rfl, hl, x⟩ := hI
    obtain ⟨hi, rfl⟩ := rangeA_at hx
    refine ⟨trivial, ?_⟩
    have app : ∀ (O4 : Own) (y y2 : Str) (z6 : Option A), Lf O1 O4 nv np vs ps → mAppend (.own np) [.tup [.str y, .str y2]] O4 fun _ O5 => Nx (fSl bg m nv np z6 none none none) O5 := by
      intro O4 y y2 z6 x
      refine w_append x.p (by rw [List.length_map, sizeLine_eq]; omega) ?_
      rw [← pr_snoc]
      exact kN _ _ ⟨_, _, rfl, by rw [List.length_append, hl]; exact Nat.add_assoc _ _ _, x.put⟩
    simp only [sSeq, sNext, sExpr, sRet, sRetN, sIf, sAsg, sPar, sPar3, sSub, sDPutA, sAug, sAugS, sFor, sWhile, sRaise, sBreak, sCont, aVar, sg, aC, aBin, aBl, aUn, aAnd, aOr, aNot, aAndV, aOrV, aNotV, aIf, aTru, truA, aNil, aCons, aTup, aLst, aFn, aML, aML0, aCall, aCallK, aLc, aDc, aiL, aiT, aiR1, aiR2, r1K, r2K, aiZip, agN, agNil, agCons, agTup, tupOf, x_add, x_addI, x_addS, x_eqI, x_neI, x_lt, x_le, x_gt, x_ge, x_sub, x_neg, x_abs, x_int, x_str, x_lenS, List.set, List.length_cons, List.length_nil, true_and, and_true]
    refine ⟨w_isLst x.p, 3, rfl, by decide, by decide, fun r' hr' => ?_⟩
    simp only [sSeq, sNext, sExpr, sRet, sRetN, sIf, sAsg, sPar, sPar3, sSub, sDPutA, sAug, sAugS, sFor, sWhile, sRaise, sBreak, sCont, aVar, sg, aC, aBin, aBl, aUn, aAnd, aOr, aNot, aAndV, aOrV, aNotV, aIf, aTru, truA, aNil, aCons, aTup, aLst, aFn, aML, aML0, aCall, aCallK, aLc, aDc, aiL, aiT, aiR1, aiR2, r1K, r2K, aiZip, agN, agNil, agCons, agTup, tupOf, x_add, x_addI, x_addS, x_eqI, x_neI, x_lt, x_le, x_gt, x_ge, x_sub, x_neg, x_abs, x_int, x_str, x_lenS, List.set, List.length_cons, List.length_nil, true_and, and_true]
    by_cases e : r' = 0
    · rw [decide_eq_true (show (r' : Int) = 0 by omega)]
      refine ⟨_, _, rfl, seq_own x.p, by rw [List.length_map]; omega, by rw [List.length_map]; omega, fun y hy => ?_⟩
      obtain ⟨p, _, rfl⟩ := List.mem_map.mp hy
      exact app _ _ _ _ x
    · rw [decide_eq_false (show ¬ (r' : Int) = 0 by omega)]
      refine ⟨_, vs.map A.str, 2, rfl, seq_own x.v, by rw [List.length_map]; omega, by rw [List.length_map]; omega, ltAs_map fun _ _ => rfl, fun made hm ⟨rest, hp⟩ => ?_⟩
      obtain ⟨ys, rs, rfl, hp2⟩ := some_of hp
      rw [List.length_map] at hm
      match ys, hm with
      | [y, y2], _ =>
        refine w_tuple lv_self ?_
        exact app _ _ _ _ x.cons
  obtain ⟨ps2, z6, rfl, hl2, x2⟩ := hI
  rw [rangeA_len] at hl2
  refine ⟨trivial, ?_⟩
  dsimp only
  have hps : 1 ≤ ps2.length ∧ ps2.length ≤ 5 := by omega
  -- the names
  refine seq_setP (fun a O4 => ∃ (ns : List Str) (nn : Nat), ns.length = ps2.length ∧ ns.Nodup ∧ a = .own nn ∧ O1.length ≤ nn ∧ Lf O1 O4 nv np vs ps2 ∧ lv O4 nn = some (.lst (ns.map A.str))) (fun Q' q' => ?_) fun a O4 ha => ?_
  · simp only [sSeq, sNext, sExpr, sRet, sRetN, sIf, sAsg, sPar, sPar3, sSub, sDPutA, sAug, sAugS, sFor, sWhile, sRaise, sBreak, sCont, aVar, sg, aC, aBin, aBl, aUn, aAnd, aOr, aNot, aAndV, aOrV, aNotV, aIf, aTru, truA, aNil, aCons, aTup, aLst, aFn, aML, aML0, aCall, aCallK, aLc, aDc, aiL, aiT, aiR1, aiR2, r1K, r2K, aiZip, agN, agNil, agCons, agTup, tupOf, x_add, x_addI, x_addS, x_eqI, x_neI, x_lt, x_le, x_gt, x_ge, x_sub, x_neg, x_abs, x_int, x_str, x_lenS, List.set, List.length_cons, List.length_nil, true_and, and_true]
    refine ⟨size_small (by decide), w_len (seq_own (lv_cons_of x2.p)) ?_⟩
    rw [List.length_map]
    refine ⟨_, z12.map A.str, ps2.length, rfl, seq_own lv_self, ?_, ?_, ltAs_map fun _ _ => rfl, fun made hm ⟨rest, hp⟩ => ?_⟩
    · show ps2.length ≤ 12; omega
    · show 12 < _; decide
    · obtain ⟨ys, rs, rfl, hp2⟩ := some_of hp
      exact q' _ _ ⟨ys, _, by rw [List.length_map] at hm; exact hm, app_nd hp2 z12_nd, rfl, by have := x2.ext.len; simp only [List.length_cons]; omega, x2.cons.cons, lv_self⟩
  obtain ⟨ns, nn, nl, nnd, rfl, on, x4, n4⟩ := ha
  simp only [List.set]
  refine seq_set (a := .own O4.length) (O1 := .lst (([] : List Road).map rdA) :: O4) (fun Q q => ⟨Nat.zero_le _, q⟩) ?_
  simp only [List.set]
  have or4 : O1.length ≤ O4.length := x4.ext.len
  have nlt := lv_lt n4
  generalize hnr : O4.length = nr at *
  have x5 : Lf O1 (.lst (([] : List Road).map rdA) :: O4) nv np vs ps2 := x4.cons
  have n5 : lv (AO.lst (([] : List Road).map rdA) :: O4) nn = some (.lst (ns.map A.str)) := lv_cons_of n4
  have r5 : lv (AO.lst (([] : List Road).map rdA) :: O4) nr = some (.lst (([] : List Road).map rdA)) := by rw [← hnr]; exact lv_self
  generalize (AO.lst (([] : List Road).map rdA) :: O4) = O5 at x5 n5 r5
  -- the roads
  have walk : ∀ (D : AEnds) (rest body : AS) (δ : Slots), (∀ (qs : List (Str × Str)) (nq : Nat) (O6 : Own), qs.length = ps2.length → O1.length ≤ nq → nq ≠ nr → Lf O1 O6 nv np vs ps2 → lv O6 nn = some (.lst (ns.map A.str)) → lv O6 nr = some (.lst (([] : List Road).map rdA)) → lv O6 nq = some (.lst (qs.map prA)) →
        forA (fun O' => lv O' nq = some (.lst (qs.map prA))) (agN 9) body { D with nx := rest D } (qs.map prA) δ O6) → sg δ 0 = some (.raw (.ref bg)) → sg δ 5 = some (.own np) →
      sSeq (sFor (aiL (aCall (sp_law_some bg) noEx (aCons (aVar 0) (aCons (aVar 5) (aCons (aFn bLen (aCons (aVar 5) aNil)) aNil))))) (agN 9) body) rest D δ O5 := by
    intro D rest body δ hb h0 h5
    simp only [sSeq, sFor, aiL, aCall, aCons, aNil, aVar, aFn, h0, h5]
    refine w_len (seq_own x5.p) ?_
    rw [List.length_map]
    refine ⟨_, ps2.map prA, ps2.length, rfl, seq_own x5.p, by rw [List.length_map]; exact Nat.le_refl _, by rw [List.length_map]; omega, ltAs_map fun _ _ => rfl, fun made hm ⟨rest, hp⟩ => ?_⟩
    obtain ⟨ys, rs, rfl, hp2⟩ := some_of hp
    simp only [lv_self]
    have := lv_lt r5
    exact hb ys _ _ (by rw [List.length_map] at hm; exact hm) x5.ext.len (by omega) x5.cons (lv_cons_of n5) (lv_cons_of r5) lv_self
  refine walk _ _ _ _ (fun qs nq O6 ql oq hqr x6 n6 r6 q6 => ?_) rfl rfl
  refine forA_inv (fun i δ O6 => ∃ (rds : List Road) (z9 : Option A), δ = fSl bg m nv np z6 (some (.own nn)) (some (.own nr)) z9 ∧ rds.map (·.1) = ns.take i ∧ Ext O1 O6 ∧ lv O6 nv = some (.lst (vs.map A.str)) ∧ lv O6 nn = some (.lst (ns.map A.str)) ∧ lv O6 nr = some (.lst (rds.map rdA)) ∧ lv O6 nq = some (.lst (qs.map prA)))
    (fun i v δ O6 Nx hx hI kN => ?_) (fun δ O6 hI => ?_) ⟨[], _, rfl, by rw [List.take_zero]; rfl, x6.ext, x6.v, n6, r6, q6⟩
  · obtain ⟨rds, z9, rfl, e1, ext6, v6, n6, r6, q6⟩ := hI
    refine ⟨q6, ?_⟩
    have hi : i < qs.length := by have := (List.getElem?_eq_some_iff.mp hx).1; rwa [List.length_map] at this
    rw [List.getElem?_map, List.getElem?_eq_getElem hi] at hx
    cases hx
    generalize qs[i] = p
    have hrl : rds.length = i := by
      have := congrArg List.length e1
      rw [List.length_map, List.length_take] at this
      omega
    have hni : ns[i]? = some ns[i] := List.getElem?_eq_getElem (show i < ns.length by omega)
    generalize ns[i] = nm at hni
    have app : ∀ (x y : Str) (z9 : Option A), mAppend (.own nr) [.tup ([.str nm] ++ [.str x, .str y])] O6 fun _ O7 => Nx (fSl bg m nv np z6 (some (.own nn)) (some (.own nr)) z9) O7 := by
      intro x y z9
      refine w_append r6 (by rw [List.length_map, sizeLine_eq]; omega) ?_
      have e2 : rds.map rdA ++ [A.tup ([.str nm] ++ [.str x, .str y])] = (rds ++ [(nm, x, y)]).map rdA := by rw [List.map_append]; rfl
      rw [e2]
      have hne : nn ≠ nr := by omega
      have hvr : nv ≠ nr := by have := lv_lt x4.v; omega
      refine kN _ _ ⟨rds ++ [(nm, x, y)], _, rfl, ?_, ext6.put or4, ?_, ?_, lv_lput_same (lv_lt r6), ?_⟩
      · rw [List.map_append, e1, List.take_succ, hni]; rfl
      · rw [lv_lput_ne hvr]; exact v6
      · rw [lv_lput_ne hne]; exact n6
      · rw [lv_lput_ne hqr]; exact q6
    simp only [sSeq, sNext, sExpr, sRet, sRetN, sIf, sAsg, sPar, sPar3, sSub, sDPutA, sAug, sAugS, sFor, sWhile, sRaise, sBreak, sCont, aVar, sg, aC, aBin, aBl, aUn, aAnd, aOr, aNot, aAndV, aOrV, aNotV, aIf, aTru, truA, aNil, aCons, aTup, aLst, aFn, aML, aML0, aCall, aCallK, aLc, aDc, aiL, aiT, aiR1, aiR2, r1K, r2K, aiZip, agN, agNil, agCons, agTup, tupOf, x_add, x_addI, x_addS, x_eqI, x_neI, x_lt, x_le, x_gt, x_ge, x_sub, x_neg, x_abs, x_int, x_str, x_lenS, List.set, List.length_cons, List.length_nil, true_and, and_true, prA]
    refine ⟨w_isLst r6, w_len (seq_own r6) ?_⟩
    rw [List.length_map, hrl]
    refine w_ixN (seq_own n6) (x := .str nm) (by rw [List.getElem?_map, hni]; rfl) ⟨size_small (by decide), 2, rfl, by decide, by decide, fun r' hr' => ?_⟩
    simp only [sSeq, sNext, sExpr, sRet, sRetN, sIf, sAsg, sPar, sPar3, sSub, sDPutA, sAug, sAugS, sFor, sWhile, sRaise, sBreak, sCont, aVar, sg, aC, aBin, aBl, aUn, aAnd, aOr, aNot, aAndV, aOrV, aNotV, aIf, aTru, truA, aNil, aCons, aTup, aLst, aFn, aML, aML0, aCall, aCallK, aLc, aDc, aiL, aiT, aiR1, aiR2, r1K, r2K, aiZip, agN, agNil, agCons, agTup, tupOf, x_add, x_addI, x_addS, x_eqI, x_neI, x_lt, x_le, x_gt, x_ge, x_sub, x_neg, x_abs, x_int, x_str, x_lenS, List.set, List.length_cons, List.length_nil, true_and, and_true]
    by_cases e : r' = 0
    · rw [decide_eq_true (show (r' : Int) = 0 by omega)]
      exact w_addT (by simp) (by simp) (size_small (show 3 ≤ 100 by decide)) (app _ _ _)
    · rw [decide_eq_false (show ¬ (r' : Int) = 0 by omega)]
      refine w_ix (xs := [.str p.1, .str p.2]) rfl atI_1 (w_ix (xs := [.str p.1, .str p.2]) rfl atI_0 ⟨size_small (by decide), ?_⟩)
      exact w_addT (by simp) (by simp) (size_small (show 3 ≤ 100 by decide)) (app _ _ _)
  obtain ⟨rds, z9, rfl, e1, ext6, v6, n6, r6, q6⟩ := hI
  refine ⟨q6, ?_⟩
  rw [List.length_map, ql, ← nl, List.take_of_length_le (Nat.le_refl _)] at e1
  simp only [sSeq, sNext, sExpr, sRet, sRetN, sIf, sAsg, sPar, sPar3, sSub, sDPutA, sAug, sAugS, sFor, sWhile, sRaise, sBreak, sCont, aVar, sg, aC, aBin, aBl, aUn, aAnd, aOr, aNot, aAndV, aOrV, aNotV, aIf, aTru, truA, aNil, aCons, aTup, aLst, aFn, aML, aML0, aCall, aCallK, aLc, aDc, aiL, aiT, aiR1, aiR2, r1K, r2K, aiZip, agN, agNil, agCons, agTup, tupOf, x_add, x_addI, x_addS, x_eqI, x_neI, x_lt, x_le, x_gt, x_ge, x_sub, x_neg, x_abs, x_int, x_str, x_lenS, List.set, List.length_cons, List.length_nil, true_and, and_true]
  refine ⟨_, vs.map A.str, m, rfl, seq_own v6, by rw [List.length_map]; omega, by rw [List.length_map]; omega, ltAs_map fun _ _ => rfl, fun made hm ⟨rest, hp⟩ => ?_⟩
  obtain ⟨ys, rs, rfl, hp2⟩ := some_of hp
  rw [List.length_map] at hm
  refine w_tupleK lv_self (w_tuple (lv_cons_of r6) ⟨size_small (by decide), ?_⟩)
  have hrl : rds.length = ps2.length := by
    have := congrArg List.length e1
    rw [List.length_map] at this
    omega
  refine fin_data ext6.cons ?_ (q ⟨ys, rds⟩ ⟨by show 1 ≤ ys.length; omega, by show ys.length ≤ 4; omega, app_nd hp2 vnd, by show 1 ≤ rds.length; omega, by show rds.length ≤ 5; omega, by rw [e1]; exact nnd⟩)
  simp only [ltA, ltAs, Bool.and_true, Bool.and_eq_true]
  exact ⟨ltAs_map fun _ _ => rfl, ltAs_map fun _ _ => rfl⟩
end
end K82

set_option Elab.async false
set_option linter.all false
set_option maxRecDepth 100000
set_option maxHeartbeats 4000000
/-! The draw, over the bag as one's own. -/
namespace K82
open PySem PySem.Spec L2 PyA
section
variable {as : List A} {O : Own} {Q : AK} {QE : Value → Own → Prop}
def bagSt (b0 cnt : Nat) (gs cs : List Nat) (O : Own) : Own := .lst [.int b0, .int cnt, .own (O.length + 1), .own O.length] :: .lst (nI gs) :: .lst (nI cs) :: O
section
variable {b0 cnt b0' cnt' : Nat} {gs cs gs' : List Nat}
theorem bag_b : lv (bagSt b0 cnt gs cs O) (O.length + 2) = some (.lst [.int b0, .int cnt, .own (O.length + 1), .own O.length]) := lv_self
theorem bag_g : lv (bagSt b0 cnt gs cs O) (O.length + 1) = some (.lst (nI gs)) := lv_cons_of lv_self
theorem bag_c : lv (bagSt b0 cnt gs cs O) O.length = some (.lst (nI cs)) := lv_cons_of (lv_cons_of lv_self)
theorem bag_putB : lput (bagSt b0 cnt gs cs O) (O.length + 2) (.lst [.int b0', .int cnt', .own (O.length + 1), .own O.length]) = bagSt b0' cnt' gs cs O := lput_self rfl
theorem bag_putG : lput (bagSt b0 cnt gs cs O) (O.length + 1) (.lst (nI gs')) = bagSt b0 cnt gs' cs O := by
  unfold bagSt
  rw [lput_old (by simp only [List.length_cons]; omega)]
  exact congrArg _ (lput_self rfl)
theorem bag_set0 {v : Nat} : setA (bagSt b0 cnt gs cs O) (.own (O.length + 2)) (.int 0) (.int (v : Int)) = some (bagSt v cnt gs cs O) := by
  have := w_set (k := 0) (v := .int (v : Int)) (bag_b (b0 := b0) (cnt := cnt) (gs := gs) (cs := cs) (O := O)) (show 0 < 4 by decide)
  exact this.trans (congrArg some bag_putB)
theorem bag_set1 {v : Nat} : setA (bagSt b0 cnt gs cs O) (.own (O.length + 2)) (.int 1) (.int (v : Int)) = some (bagSt b0 v gs cs O) := by
  have := w_set (k := 1) (v := .int (v : Int)) (bag_b (b0 := b0) (cnt := cnt) (gs := gs) (cs := cs) (O := O)) (show 1 < 4 by decide)
  exact this.trans (congrArg some bag_putB)
theorem bag_ix0 (q : Q (.int (b0 : Int)) (bagSt b0 cnt gs cs O)) : ixA (.own (O.length + 2)) (.int 0) (bagSt b0 cnt gs cs O) Q := w_ix (seq_own bag_b) atI_0 q
theorem bag_ix1 (q : Q (.int (cnt : Int)) (bagSt b0 cnt gs cs O)) : ixA (.own (O.length + 2)) (.int 1) (bagSt b0 cnt gs cs O) Q := w_ix (seq_own bag_b) atI_1 q
theorem bag_ix2 (q : Q (.own (O.length + 1)) (bagSt b0 cnt gs cs O)) : ixA (.own (O.length + 2)) (.int 2) (bagSt b0 cnt gs cs O) Q := w_ix (seq_own bag_b) atI_2 q
theorem bag_ix3 (q : Q (.own O.length) (bagSt b0 cnt gs cs O)) : ixA (.own (O.length + 2)) (.int 3) (bagSt b0 cnt gs cs O) Q := w_ix (seq_own bag_b) (atI_nat (i := 3) rfl) q
end
def sp_draw0 : ASp := fun as O Q _ => ∃ (m b0 cnt : Nat) (gs cs : List Nat) (O0 : Own), as = [.own (O0.length + 2), .int m] ∧ O = bagSt b0 cnt gs cs O0 ∧ 0 < m ∧ m < 2 ^ 30 ∧ 0 < cs.length ∧ ∀ r b0' cnt' gs', r < m → Q (.int (r : Nat)) (bagSt b0' cnt' gs' cs O0)
theorem nI_dropLast {gs : List Nat} : (nI gs).dropLast = nI gs.dropLast := by unfold nI; rw [List.map_dropLast]
theorem law_draw_ok (h : sp_draw0 as O Q QE) : rd_law_draw (EN O Q) (startA N_law_draw as) O := by
  obtain ⟨m, b0, cnt, gs, cs, O0, rfl, rfl, m0, m30, hc, q⟩ := h
  generalize hE : EN (bagSt b0 cnt gs cs O0) Q = E
  have qE : ∀ r b0' cnt' gs', r < m → E.rt (.int (r : Nat)) (bagSt b0' cnt' gs' cs O0) := by
    intro r b0' cnt' gs' hr
    rw [← hE]
    exact ⟨_, _, Conv.refl, q r b0' cnt' gs' hr⟩
  clear hE q
  show rd_law_draw _ [some (.own (O0.length + 2)), some (.int (m : Int)), none, none, none] _
  unfold rd_law_draw
  refine seq_P (fun O1 => O1 = bagSt b0 (cnt + 1) gs cs O0) (fun Nx k => ?_) fun O1 h1 => ?_
  · simp only [sSeq, sNext, sExpr, sRet, sRetN, sIf, sAsg, sPar, sPar3, sSub, sDPutA, sAug, sAugS, sFor, sWhile, sRaise, sBreak, sCont, aVar, sg, aC, aBin, aBl, aUn, aAnd, aOr, aNot, aAndV, aOrV, aNotV, aIf, aTru, truA, aNil, aCons, aTup, aLst, aFn, aML, aML0, aCall, aCallK, aLc, aDc, aiL, aiT, aiR1, aiR2, r1K, r2K, aiZip, agN, agNil, agCons, agTup, tupOf, x_add, x_addI, x_addS, x_eqI, x_neI, x_lt, x_le, x_gt, x_ge, x_sub, x_neg, x_abs, x_int, x_str, x_lenS, List.set, List.length_cons, List.length_nil, true_and, and_true]
    refine bag_ix1 ?_
    have e : (cnt : Int) + 1 = ((cnt + 1 : Nat) : Int) := by omega
    simp only [sSeq, sNext, sExpr, sRet, sRetN, sIf, sAsg, sPar, sPar3, sSub, sDPutA, sAug, sAugS, sFor, sWhile, sRaise, sBreak, sCont, aVar, sg, aC, aBin, aBl, aUn, aAnd, aOr, aNot, aAndV, aOrV, aNotV, aIf, aTru, truA, aNil, aCons, aTup, aLst, aFn, aML, aML0, aCall, aCallK, aLc, aDc, aiL, aiT, aiR1, aiR2, r1K, r2K, aiZip, agN, agNil, agCons, agTup, tupOf, x_add, x_addI, x_addS, x_eqI, x_neI, x_lt, x_le, x_gt, x_ge, x_sub, x_neg, x_abs, x_int, x_str, x_lenS, List.set, List.length_cons, List.length_nil, true_and, and_true]
    rw [e, bag_set1]
    exact k _ rfl
  subst h1
  generalize cnt + 1 = c1
  -- a great cell
  refine seq_P (fun O1 => ∃ b1 g1, O1 = bagSt b1 c1 g1 cs O0) (fun Nx k => ?_) fun O1 h1 => ?_
  · simp only [sSeq, sNext, sExpr, sRet, sRetN, sIf, sAsg, sPar, sPar3, sSub, sDPutA, sAug, sAugS, sFor, sWhile, sRaise, sBreak, sCont, aVar, sg, aC, aBin, aBl, aUn, aAnd, aOr, aNot, aAndV, aOrV, aNotV, aIf, aTru, truA, aNil, aCons, aTup, aLst, aFn, aML, aML0, aCall, aCallK, aLc, aDc, aiL, aiT, aiR1, aiR2, r1K, r2K, aiZip, agN, agNil, agCons, agTup, tupOf, x_add, x_addI, x_addS, x_eqI, x_neI, x_lt, x_le, x_gt, x_ge, x_sub, x_neg, x_abs, x_int, x_str, x_lenS, List.set, List.length_cons, List.length_nil, true_and, and_true]
    refine bag_ix0 ?_
    simp only [sSeq, sNext, sExpr, sRet, sRetN, sIf, sAsg, sPar, sPar3, sSub, sDPutA, sAug, sAugS, sFor, sWhile, sRaise, sBreak, sCont, aVar, sg, aC, aBin, aBl, aUn, aAnd, aOr, aNot, aAndV, aOrV, aNotV, aIf, aTru, truA, aNil, aCons, aTup, aLst, aFn, aML, aML0, aCall, aCallK, aLc, aDc, aiL, aiT, aiR1, aiR2, r1K, r2K, aiZip, agN, agNil, agCons, agTup, tupOf, x_add, x_addI, x_addS, x_eqI, x_neI, x_lt, x_le, x_gt, x_ge, x_sub, x_neg, x_abs, x_int, x_str, x_lenS, List.set, List.length_cons, List.length_nil, true_and, and_true]
    by_cases e : b0 = 0
    · rw [decide_eq_true (show (b0 : Int) = 0 by omega)]
      refine bag_ix2 (w_len (seq_own bag_g) ?_)
      rw [nI_len]
      simp only [sSeq, sNext, sExpr, sRet, sRetN, sIf, sAsg, sPar, sPar3, sSub, sDPutA, sAug, sAugS, sFor, sWhile, sRaise, sBreak, sCont, aVar, sg, aC, aBin, aBl, aUn, aAnd, aOr, aNot, aAndV, aOrV, aNotV, aIf, aTru, truA, aNil, aCons, aTup, aLst, aFn, aML, aML0, aCall, aCallK, aLc, aDc, aiL, aiT, aiR1, aiR2, r1K, r2K, aiZip, agN, agNil, agCons, agTup, tupOf, x_add, x_addI, x_addS, x_eqI, x_neI, x_lt, x_le, x_gt, x_ge, x_sub, x_neg, x_abs, x_int, x_str, x_lenS, List.set, List.length_cons, List.length_nil, true_and, and_true]
      by_cases e2 : 0 < gs.length
      · rw [decide_eq_true (show (0 : Int) < (gs.length : Int) by omega)]
        refine bag_ix2 ⟨w_isLst bag_g, ?_⟩
        have hg : gs[gs.length - 1]? = some gs[gs.length - 1] := List.getElem?_eq_getElem (by omega)
        generalize gs[gs.length - 1] = g at hg
        unfold mPop
        simp only [bag_g]
        rw [nI_len, nI_get hg, nI_dropLast, bag_putG]
        show (match setA (bagSt b0 c1 gs.dropLast cs O0) (.own (O0.length + 2)) (.int 0) (.int (g : Int)) with | some O4 => Nx _ O4 | none => False)
        rw [bag_set0]
        exact k _ ⟨_, _, rfl⟩
      · rw [decide_eq_false (show ¬ (0 : Int) < (gs.length : Int) by omega)]
        exact k _ ⟨_, _, rfl⟩
    · rw [decide_eq_false (show ¬ (b0 : Int) = 0 by omega)]
      exact k _ ⟨_, _, rfl⟩
  obtain ⟨b1, g1, rfl⟩ := h1
  by_cases e : 0 < b1
  · refine seq_yes (fun Q q => ?_) ?_
    · simp only [sSeq, sNext, sExpr, sRet, sRetN, sIf, sAsg, sPar, sPar3, sSub, sDPutA, sAug, sAugS, sFor, sWhile, sRaise, sBreak, sCont, aVar, sg, aC, aBin, aBl, aUn, aAnd, aOr, aNot, aAndV, aOrV, aNotV, aIf, aTru, truA, aNil, aCons, aTup, aLst, aFn, aML, aML0, aCall, aCallK, aLc, aDc, aiL, aiT, aiR1, aiR2, r1K, r2K, aiZip, agN, agNil, agCons, agTup, tupOf, x_add, x_addI, x_addS, x_eqI, x_neI, x_lt, x_le, x_gt, x_ge, x_sub, x_neg, x_abs, x_int, x_str, x_lenS, List.set, List.length_cons, List.length_nil, true_and, and_true]
      refine bag_ix0 ?_
      simp only [sSeq, sNext, sExpr, sRet, sRetN, sIf, sAsg, sPar, sPar3, sSub, sDPutA, sAug, sAugS, sFor, sWhile, sRaise, sBreak, sCont, aVar, sg, aC, aBin, aBl, aUn, aAnd, aOr, aNot, aAndV, aOrV, aNotV, aIf, aTru, truA, aNil, aCons, aTup, aLst, aFn, aML, aML0, aCall, aCallK, aLc, aDc, aiL, aiT, aiR1, aiR2, r1K, r2K, aiZip, agN, agNil, agCons, agTup, tupOf, x_add, x_addI, x_addS, x_eqI, x_neI, x_lt, x_le, x_gt, x_ge, x_sub, x_neg, x_abs, x_int, x_str, x_lenS, List.set, List.length_cons, List.length_nil, true_and, and_true]
      rw [decide_eq_true (show (0 : Int) < (b1 : Int) by omega)]
      exact q
    · refine seq_set (a := .int ((b1 % m : Nat) : Int)) (O1 := bagSt b1 c1 g1 cs O0) (fun Q q => ?_) ?_
      · simp only [sSeq, sNext, sExpr, sRet, sRetN, sIf, sAsg, sPar, sPar3, sSub, sDPutA, sAug, sAugS, sFor, sWhile, sRaise, sBreak, sCont, aVar, sg, aC, aBin, aBl, aUn, aAnd, aOr, aNot, aAndV, aOrV, aNotV, aIf, aTru, truA, aNil, aCons, aTup, aLst, aFn, aML, aML0, aCall, aCallK, aLc, aDc, aiL, aiT, aiR1, aiR2, r1K, r2K, aiZip, agN, agNil, agCons, agTup, tupOf, x_add, x_addI, x_addS, x_eqI, x_neI, x_lt, x_le, x_gt, x_ge, x_sub, x_neg, x_abs, x_int, x_str, x_lenS, List.set, List.length_cons, List.length_nil, true_and, and_true]
        refine bag_ix0 ?_
        simp only [sSeq, sNext, sExpr, sRet, sRetN, sIf, sAsg, sPar, sPar3, sSub, sDPutA, sAug, sAugS, sFor, sWhile, sRaise, sBreak, sCont, aVar, sg, aC, aBin, aBl, aUn, aAnd, aOr, aNot, aAndV, aOrV, aNotV, aIf, aTru, truA, aNil, aCons, aTup, aLst, aFn, aML, aML0, aCall, aCallK, aLc, aDc, aiL, aiT, aiR1, aiR2, r1K, r2K, aiZip, agN, agNil, agCons, agTup, tupOf, x_add, x_addI, x_addS, x_eqI, x_neI, x_lt, x_le, x_gt, x_ge, x_sub, x_neg, x_abs, x_int, x_str, x_lenS, List.set, List.length_cons, List.length_nil, true_and, and_true]
        exact w_mod b1 m m0 q
      refine seq_P (fun O1 => O1 = bagSt (b1 / m) c1 g1 cs O0) (fun Nx k => ?_) fun O1 h1 => ?_
      · simp only [sSeq, sNext, sExpr, sRet, sRetN, sIf, sAsg, sPar, sPar3, sSub, sDPutA, sAug, sAugS, sFor, sWhile, sRaise, sBreak, sCont, aVar, sg, aC, aBin, aBl, aUn, aAnd, aOr, aNot, aAndV, aOrV, aNotV, aIf, aTru, truA, aNil, aCons, aTup, aLst, aFn, aML, aML0, aCall, aCallK, aLc, aDc, aiL, aiT, aiR1, aiR2, r1K, r2K, aiZip, agN, agNil, agCons, agTup, tupOf, x_add, x_addI, x_addS, x_eqI, x_neI, x_lt, x_le, x_gt, x_ge, x_sub, x_neg, x_abs, x_int, x_str, x_lenS, List.set, List.length_cons, List.length_nil, true_and, and_true]
        refine bag_ix0 (w_fdiv b1 m m0 m30 ?_)
        show (match setA (bagSt b1 c1 g1 cs O0) (.own (O0.length + 2)) (.int 0) (.int ((b1 / m : Nat) : Int)) with | some O4 => Nx _ O4 | none => False)
        rw [bag_set0]
        exact k _ rfl
      subst h1
      exact qE _ _ _ _ (Nat.mod_lt _ m0)
  · refine seq_no (fun Q q => ?_) ?_
    · simp only [sSeq, sNext, sExpr, sRet, sRetN, sIf, sAsg, sPar, sPar3, sSub, sDPutA, sAug, sAugS, sFor, sWhile, sRaise, sBreak, sCont, aVar, sg, aC, aBin, aBl, aUn, aAnd, aOr, aNot, aAndV, aOrV, aNotV, aIf, aTru, truA, aNil, aCons, aTup, aLst, aFn, aML, aML0, aCall, aCallK, aLc, aDc, aiL, aiT, aiR1, aiR2, r1K, r2K, aiZip, agN, agNil, agCons, agTup, tupOf, x_add, x_addI, x_addS, x_eqI, x_neI, x_lt, x_le, x_gt, x_ge, x_sub, x_neg, x_abs, x_int, x_str, x_lenS, List.set, List.length_cons, List.length_nil, true_and, and_true]
      refine bag_ix0 ?_
      simp only [sSeq, sNext, sExpr, sRet, sRetN, sIf, sAsg, sPar, sPar3, sSub, sDPutA, sAug, sAugS, sFor, sWhile, sRaise, sBreak, sCont, aVar, sg, aC, aBin, aBl, aUn, aAnd, aOr, aNot, aAndV, aOrV, aNotV, aIf, aTru, truA, aNil, aCons, aTup, aLst, aFn, aML, aML0, aCall, aCallK, aLc, aDc, aiL, aiT, aiR1, aiR2, r1K, r2K, aiZip, agN, agNil, agCons, agTup, tupOf, x_add, x_addI, x_addS, x_eqI, x_neI, x_lt, x_le, x_gt, x_ge, x_sub, x_neg, x_abs, x_int, x_str, x_lenS, List.set, List.length_cons, List.length_nil, true_and, and_true]
      rw [decide_eq_false (show ¬ (0 : Int) < (b1 : Int) by omega)]
      exact q
    have hcell : cs[c1 % cs.length]? = some (cs[c1 % cs.length]'(Nat.mod_lt _ hc)) := List.getElem?_eq_getElem (Nat.mod_lt _ hc)
    generalize (cs[c1 % cs.length]'(Nat.mod_lt _ hc)) = ce at hcell
    refine seq_set (a := .int (ce : Int)) (O1 := bagSt b1 c1 g1 cs O0) (fun Q q => ?_) ?_
    · simp only [sSeq, sNext, sExpr, sRet, sRetN, sIf, sAsg, sPar, sPar3, sSub, sDPutA, sAug, sAugS, sFor, sWhile, sRaise, sBreak, sCont, aVar, sg, aC, aBin, aBl, aUn, aAnd, aOr, aNot, aAndV, aOrV, aNotV, aIf, aTru, truA, aNil, aCons, aTup, aLst, aFn, aML, aML0, aCall, aCallK, aLc, aDc, aiL, aiT, aiR1, aiR2, r1K, r2K, aiZip, agN, agNil, agCons, agTup, tupOf, x_add, x_addI, x_addS, x_eqI, x_neI, x_lt, x_le, x_gt, x_ge, x_sub, x_neg, x_abs, x_int, x_str, x_lenS, List.set, List.length_cons, List.length_nil, true_and, and_true]
      refine bag_ix3 (bag_ix1 ?_)
      simp only [sSeq, sNext, sExpr, sRet, sRetN, sIf, sAsg, sPar, sPar3, sSub, sDPutA, sAug, sAugS, sFor, sWhile, sRaise, sBreak, sCont, aVar, sg, aC, aBin, aBl, aUn, aAnd, aOr, aNot, aAndV, aOrV, aNotV, aIf, aTru, truA, aNil, aCons, aTup, aLst, aFn, aML, aML0, aCall, aCallK, aLc, aDc, aiL, aiT, aiR1, aiR2, r1K, r2K, aiZip, agN, agNil, agCons, agTup, tupOf, x_add, x_addI, x_addS, x_eqI, x_neI, x_lt, x_le, x_gt, x_ge, x_sub, x_neg, x_abs, x_int, x_str, x_lenS, List.set, List.length_cons, List.length_nil, true_and, and_true]
      refine bag_ix3 (w_len (seq_own bag_c) ?_)
      rw [nI_len]
      exact w_mod c1 _ hc (w_ixN (seq_own bag_c) (nI_get hcell) q)
    refine seq_set (a := .int (((ce * 48271 + c1 * 69621 + 1) % 2147483647 : Nat) : Int)) (O1 := bagSt b1 c1 g1 cs O0) (fun Q q => ?_) ?_
    · simp only [sSeq, sNext, sExpr, sRet, sRetN, sIf, sAsg, sPar, sPar3, sSub, sDPutA, sAug, sAugS, sFor, sWhile, sRaise, sBreak, sCont, aVar, sg, aC, aBin, aBl, aUn, aAnd, aOr, aNot, aAndV, aOrV, aNotV, aIf, aTru, truA, aNil, aCons, aTup, aLst, aFn, aML, aML0, aCall, aCallK, aLc, aDc, aiL, aiT, aiR1, aiR2, r1K, r2K, aiZip, agN, agNil, agCons, agTup, tupOf, x_add, x_addI, x_addS, x_eqI, x_neI, x_lt, x_le, x_gt, x_ge, x_sub, x_neg, x_abs, x_int, x_str, x_lenS, List.set, List.length_cons, List.length_nil, true_and, and_true]
      refine w_mul ce 48271 (.inr (by decide)) (bag_ix1 (w_mul c1 69621 (.inr (by decide)) ?_))
      simp only [sSeq, sNext, sExpr, sRet, sRetN, sIf, sAsg, sPar, sPar3, sSub, sDPutA, sAug, sAugS, sFor, sWhile, sRaise, sBreak, sCont, aVar, sg, aC, aBin, aBl, aUn, aAnd, aOr, aNot, aAndV, aOrV, aNotV, aIf, aTru, truA, aNil, aCons, aTup, aLst, aFn, aML, aML0, aCall, aCallK, aLc, aDc, aiL, aiT, aiR1, aiR2, r1K, r2K, aiZip, agN, agNil, agCons, agTup, tupOf, x_add, x_addI, x_addS, x_eqI, x_neI, x_lt, x_le, x_gt, x_ge, x_sub, x_neg, x_abs, x_int, x_str, x_lenS, List.set, List.length_cons, List.length_nil, true_and, and_true]
      have e : ((ce * 48271 : Nat) : Int) + ((c1 * 69621 : Nat) : Int) + 1 = ((ce * 48271 + c1 * 69621 + 1 : Nat) : Int) := by omega
      rw [e]
      exact w_mod _ 2147483647 (by decide) q
    have hmx : (ce * 48271 + c1 * 69621 + 1) % 2147483647 < 2147483647 := Nat.mod_lt _ (by decide)
    generalize (ce * 48271 + c1 * 69621 + 1) % 2147483647 = mx at hmx
    simp only [sSeq, sNext, sExpr, sRet, sRetN, sIf, sAsg, sPar, sPar3, sSub, sDPutA, sAug, sAugS, sFor, sWhile, sRaise, sBreak, sCont, aVar, sg, aC, aBin, aBl, aUn, aAnd, aOr, aNot, aAndV, aOrV, aNotV, aIf, aTru, truA, aNil, aCons, aTup, aLst, aFn, aML, aML0, aCall, aCallK, aLc, aDc, aiL, aiT, aiR1, aiR2, r1K, r2K, aiZip, agN, agNil, agCons, agTup, tupOf, x_add, x_addI, x_addS, x_eqI, x_neI, x_lt, x_le, x_gt, x_ge, x_sub, x_neg, x_abs, x_int, x_str, x_lenS, List.set, List.length_cons, List.length_nil, true_and, and_true]
    refine w_mul mx mx (.inr (by omega)) (w_mul mx 16807 (.inr (by decide)) ?_)
    generalize mx * mx = sq
    simp only [sSeq, sNext, sExpr, sRet, sRetN, sIf, sAsg, sPar, sPar3, sSub, sDPutA, sAug, sAugS, sFor, sWhile, sRaise, sBreak, sCont, aVar, sg, aC, aBin, aBl, aUn, aAnd, aOr, aNot, aAndV, aOrV, aNotV, aIf, aTru, truA, aNil, aCons, aTup, aLst, aFn, aML, aML0, aCall, aCallK, aLc, aDc, aiL, aiT, aiR1, aiR2, r1K, r2K, aiZip, agN, agNil, agCons, agTup, tupOf, x_add, x_addI, x_addS, x_eqI, x_neI, x_lt, x_le, x_gt, x_ge, x_sub, x_neg, x_abs, x_int, x_str, x_lenS, List.set, List.length_cons, List.length_nil, true_and, and_true]
    refine bag_ix1 (w_mul c1 40014 (.inr (by decide)) ?_)
    simp only [sSeq, sNext, sExpr, sRet, sRetN, sIf, sAsg, sPar, sPar3, sSub, sDPutA, sAug, sAugS, sFor, sWhile, sRaise, sBreak, sCont, aVar, sg, aC, aBin, aBl, aUn, aAnd, aOr, aNot, aAndV, aOrV, aNotV, aIf, aTru, truA, aNil, aCons, aTup, aLst, aFn, aML, aML0, aCall, aCallK, aLc, aDc, aiL, aiT, aiR1, aiR2, r1K, r2K, aiZip, agN, agNil, agCons, agTup, tupOf, x_add, x_addI, x_addS, x_eqI, x_neI, x_lt, x_le, x_gt, x_ge, x_sub, x_neg, x_abs, x_int, x_str, x_lenS, List.set, List.length_cons, List.length_nil, true_and, and_true]
    have e : (sq : Int) + ((mx * 16807 : Nat) : Int) + ((c1 * 40014 : Nat) : Int) = ((sq + mx * 16807 + c1 * 40014 : Nat) : Int) := by omega
    rw [e]
    refine w_mod _ 2147483629 (by decide) (w_fdiv _ 32 (by decide) (by decide) (w_mod _ m m0 ?_))
    exact qE _ _ _ _ (Nat.mod_lt _ m0)
end
end K82

set_option Elab.async false
set_option linter.all false
set_option maxRecDepth 100000
set_option maxHeartbeats 4000000
/-! The bag set aside. -/
namespace K82
open PySem PySem.Spec L2 PyA
def Res0 : Res := ⟨[], fun _ => True, fun _ _ p h => absurd h List.not_mem_nil, fun _ _ _ _ => trivial⟩
def vI (ns : List Nat) : List V := ns.map fun (n : Nat) => V.int (n : Int)
structure BagOk (bg gg cc : Addr) (H : Hp) : Prop where
  n1 : bg ≠ gg
  n2 : bg ≠ cc
  n3 : gg ≠ cc
  ex : ∃ (b0 cnt : Nat) (gs cs : List Nat), 0 < cs.length ∧ H bg = some (.lst [.int b0, .int cnt, .ref gg, .ref cc]) ∧ H gg = some (.lst (vI gs)) ∧ H cc = some (.lst (vI cs))
def BagRes (bg gg cc : Addr) : Res where
  dom := [bg, gg, cc]
  ok := BagOk bg gg cc
  mu := fun H h p hp => by
    obtain ⟨b0, cnt, gs, cs, _, h1, h2, h3⟩ := h.ex
    simp only [List.mem_cons, List.not_mem_nil, or_false] at hp
    rcases hp with rfl | rfl | rfl
    · rw [h1]; trivial
    · rw [h2]; trivial
    · rw [h3]; trivial
  loc := fun H H' h e => by
    obtain ⟨b0, cnt, gs, cs, h0, h1, h2, h3⟩ := h.ex
    refine ⟨h.n1, h.n2, h.n3, b0, cnt, gs, cs, h0, ?_, ?_, ?_⟩
    · rw [e bg (by simp)]; exact h1
    · rw [e gg (by simp)]; exact h2
    · rw [e cc (by simp)]; exact h3
section
variable {H : Hp} {ρ : List Addr} {O : Own}
theorem rel_vI : ∀ {ns : List Nat}, RelAs H ρ (nI ns) (vI ns)
  | [] => RelAs.nil
  | n :: ns => RelAs.cons rel_int rel_vI
theorem vI_of {ns : List Nat} {vs : List V} (h : RelAs H ρ (nI ns) vs) : vs = vI ns := by
  rw [nI_int] at h
  rw [h.ints]
  unfold vI
  rw [List.map_map]
  rfl
theorem draw_conv {bg gg cc : Addr} {vs : List V} {QV : VK} {E : XK} (h : liftSp (BagRes bg gg cc) (sp_law_draw bg) vs H QV E) : liftSp Res0 sp_draw0 vs H QV E := by
  obtain ⟨ρ, O, as, Q, QE, F, rs, ⟨m, rfl, m0, m30, q⟩, kE, kx⟩ := h
  have ok : BagOk bg gg cc H := F.res
  obtain ⟨b0, cnt, gs, cs, hc, h1, h2, h3⟩ := ok.ex
  have out : ∀ p, p ∈ ρ → p ≠ bg ∧ p ≠ gg ∧ p ≠ cc := fun p hp => by
    have := F.ap p hp
    simpa [BagRes] using this
  have nb : bg ∉ ρ := fun z => (out bg z).1 rfl
  have ng : gg ∉ ρ := fun z => (out gg z).2.1 rfl
  have nc : cc ∉ ρ := fun z => (out cc z).2.2 rfl
  have hlen := F.len
  have F0 : Fm Res0 ρ O H := ⟨F.len, F.nd, F.ob, fun p _ => List.not_mem_nil, trivial⟩
  have F1 : Fm Res0 (cc :: ρ) (.lst (nI cs) :: O) H := F0.adopt h3 nc List.not_mem_nil ⟨_, rfl, rel_vI⟩
  have F2 : Fm Res0 (gg :: cc :: ρ) (.lst (nI gs) :: .lst (nI cs) :: O) H := F1.adopt h2 (by simp [ok.n3, ng]) List.not_mem_nil ⟨_, rfl, rel_vI⟩
  have ro : ∀ {n : Nat} {p : Addr} {ρ : List Addr}, lv ρ n = some p → RelA H ρ (.own n) (.ref p) := fun {n p ρ} e => by unfold RelA; exact ⟨p, rfl, e⟩
  have eg : lv (gg :: cc :: ρ) (O.length + 1) = some gg := by rw [← hlen]; exact lv_self
  have ec : lv (gg :: cc :: ρ) O.length = some cc := by rw [← hlen]; exact lv_cons_of lv_self
  have F3 : Fm Res0 (bg :: gg :: cc :: ρ) (bagSt b0 cnt gs cs O) H := F2.adopt h1 (by simp [ok.n1, ok.n2, nb]) List.not_mem_nil ⟨_, rfl, RelAs.cons rel_int (RelAs.cons rel_int (RelAs.cons (ro eg) (RelAs.cons (ro ec) RelAs.nil)))⟩
  have eb : lv (bg :: gg :: cc :: ρ) (O.length + 2) = some bg := by rw [← hlen]; exact lv_self
  obtain ⟨v, w, rfl, r1, r2⟩ := rel2 rs
  unfold RelA at r1 r2
  subst r1 r2
  refine ⟨bg :: gg :: cc :: ρ, bagSt b0 cnt gs cs O, [.own (O.length + 2), .int m], fun a Oe => ∃ (r b0' cnt' : Nat) (gs' : List Nat), a = .int (r : Int) ∧ Oe = bagSt b0' cnt' gs' cs O ∧ Q (.int (r : Int)) O, noEx, F3, RelAs.cons (ro eb) (RelAs.cons rel_int RelAs.nil),
    ⟨m, b0, cnt, gs, cs, O, rfl, rfl, m0, m30, hc, fun r b0' cnt' gs' hr => ⟨r, b0', cnt', gs', rfl, rfl, q r hr⟩⟩, fun v H2 ρ2 O2 a G s r ⟨rr, b0', cnt', gs', ea, eo, hq⟩ => ?_, fun _ _ _ _ _ _ z => z.elim⟩
  subst ea eo
  obtain ⟨n, rfl, hn⟩ := s.ext
  have hl2 := G.len
  have n0 : n = [] := by
    have : (n ++ bg :: gg :: cc :: ρ).length = O.length + 3 := hl2
    rw [List.length_append, List.length_cons, List.length_cons, List.length_cons] at this
    exact List.length_eq_zero_iff.mp (by omega)
  subst n0
  have Gd : Fm Res0 ρ O H2 := Fm.drop (k := [bg, gg, cc]) (N := [.lst [.int b0', .int cnt', .own (O.length + 1), .own O.length], .lst (nI gs'), .lst (nI cs)]) (O₀ := O) (H₀ := H) G hlen F.closed
  obtain ⟨pb, hob, g1, g2, vsb, rfl, g3⟩ := G.ob (O.length + 2) _ bag_b
  obtain ⟨pg, hog, g4, g5, vsg, rfl, g6⟩ := G.ob (O.length + 1) _ bag_g
  obtain ⟨pc, hoc, g7, g8, vsc, rfl, g9⟩ := G.ob O.length _ bag_c
  have e1 : pb = bg := Option.some.inj (g1.symm.trans eb)
  have e2 : pg = gg := Option.some.inj (g4.symm.trans (lv_cons_of eg))
  have e3 : pc = cc := Option.some.inj (g7.symm.trans (lv_cons_of ec))
  subst e1 e2 e3
  rw [vI_of g6] at g5
  rw [vI_of g9] at g8
  have evb : vsb = [.int b0', .int cnt', .ref pg, .ref pc] := by
    obtain ⟨v1, t1, rfl, y1, t1'⟩ := RelAs.cons_iff.mp g3
    obtain ⟨v2, t2, rfl, y2, t2'⟩ := RelAs.cons_iff.mp t1'
    obtain ⟨v3, v4, rfl, y3, y4⟩ := rel2 t2'
    unfold RelA at y1 y2 y3 y4
    obtain ⟨q3, rfl, w3⟩ := y3
    obtain ⟨q4, rfl, w4⟩ := y4
    rw [g4] at w3
    rw [g7] at w4
    cases w3
    cases w4
    rw [y1, y2]
  rw [evb] at g2
  have Gb : Fm (BagRes pb pg pc) ρ O H2 := ⟨Gd.len, Gd.nd, Gd.ob, F.ap, ⟨ok.n1, ok.n2, ok.n3, b0', cnt', gs', cs, hc, g2, g5, g8⟩⟩
  have Sb : Sp (BagRes pb pg pc) ρ H ρ H2 := by
    refine ⟨⟨[], rfl, fun _ z => absurd z List.not_mem_nil⟩, fun p o hp hd e => s.keep p o (fun z => ?_) List.not_mem_nil e⟩
    have hd' : p ∉ [pb, pg, pc] := hd
    simp only [List.mem_cons, List.not_mem_nil, or_false, not_or] at hd'
    rcases List.mem_cons.mp z with z | z
    · exact hd'.1 z
    rcases List.mem_cons.mp z with z | z
    · exact hd'.2.1 z
    rcases List.mem_cons.mp z with z | z
    · exact hd'.2.2 z
    exact hp z
  unfold RelA at r
  subst r
  exact kE _ H2 ρ O _ Gb Sb rel_int hq
end
end K82

set_option Elab.async false
set_option linter.all false
set_option maxRecDepth 100000
set_option maxHeartbeats 4000000
/-! The bag; the law. -/
namespace K82
open PySem PySem.Spec L2 PyA
section
variable {as : List A} {O : Own} {Q : AK} {QE : Value → Own → Prop}
theorem x_pow18 : opPow (.int 10) (.int 18) O Q = Q (.int (10 ^ 18)) O := rfl
structure IsBag (m g c : Nat) (O : Own) : Prop where
  ex : ∃ gs cs : List Nat, 0 < cs.length ∧ lv O m = some (.lst [.int 0, .int 0, .own g, .own c]) ∧ lv O g = some (.lst (nI gs)) ∧ lv O c = some (.lst (nI cs))
  n1 : m ≠ g
  n2 : m ≠ c
  n3 : g ≠ c
theorem law_bag_rd {D : AEnds} {sa : Addr} {ns : List Int} (hn : ns.length ≤ 63) (h : ∀ m g c Oe, IsBag m g c Oe → D.rt (.own m) Oe) : rd_law_bag sa ns D (startA N_law_bag [.raw (.ref sa)]) [] := by
  show rd_law_bag sa ns D [some (.raw (.ref sa)), none, none, none] []
  unfold rd_law_bag
  generalize hcs : ns.map Int.natAbs ++ [7] = cs
  have hcl : cs.length = ns.length + 1 := by rw [← hcs, List.length_append, List.length_map]; rfl
  have hsz : ∀ k : Nat, k ≤ 64 → k ≤ sizeLine := fun k hk => by rw [sizeLine_eq]; omega
  refine seq_set (a := .own 2) (O1 := [.lst (nI cs), .lst [.int 7], .lst (nI (ns.map Int.natAbs))]) (fun Q q => ?_) ?_
  · simp only [sSeq, sNext, sExpr, sRet, sRetN, sIf, sAsg, sPar, sPar3, sSub, sDPutA, sAug, sAugS, sFor, sWhile, sRaise, sBreak, sCont, aVar, sg, aC, aBin, aBl, aUn, aAnd, aOr, aNot, aAndV, aOrV, aNotV, aIf, aTru, truA, aNil, aCons, aTup, aLst, aFn, aML, aML0, aCall, aCallK, aLc, aDc, aiL, aiT, aiR1, aiR2, r1K, r2K, aiZip, agN, agNil, agCons, agTup, tupOf, x_add, x_addI, x_addS, x_eqI, x_neI, x_lt, x_le, x_gt, x_ge, x_sub, x_neg, x_abs, x_int, x_str, x_lenS, List.set, List.length_cons, List.length_nil, true_and, and_true, aiScr]
    refine compA_map (fun x => match x with | .int i => .int ((i.natAbs : Nat) : Int) | _ => .non) trivial (by rw [List.length_map]; exact hsz _ (by omega)) (fun x hx Q' q' => ?_) ?_
    · obtain ⟨i, _, rfl⟩ := List.mem_map.mp hx
      simp only [sSeq, sNext, sExpr, sRet, sRetN, sIf, sAsg, sPar, sPar3, sSub, sDPutA, sAug, sAugS, sFor, sWhile, sRaise, sBreak, sCont, aVar, sg, aC, aBin, aBl, aUn, aAnd, aOr, aNot, aAndV, aOrV, aNotV, aIf, aTru, truA, aNil, aCons, aTup, aLst, aFn, aML, aML0, aCall, aCallK, aLc, aDc, aiL, aiT, aiR1, aiR2, r1K, r2K, aiZip, agN, agNil, agCons, agTup, tupOf, x_add, x_addI, x_addS, x_eqI, x_neI, x_lt, x_le, x_gt, x_ge, x_sub, x_neg, x_abs, x_int, x_str, x_lenS, List.set, List.length_cons, List.length_nil, true_and, and_true, wipeA]
      have e : (if i < 0 then -i else i) = ((i.natAbs : Nat) : Int) := by split <;> omega
      rw [e]
      exact q'
    · have e : (ns.map A.int).map (fun x => match x with | .int i => A.int ((i.natAbs : Nat) : Int) | _ => .non) = nI (ns.map Int.natAbs) := by
        unfold nI
        rw [List.map_map, List.map_map]
        rfl
      rw [e]
      refine ⟨hsz _ (by decide), w_addL (O := [.lst [.int 7], .lst (nI (ns.map Int.natAbs))]) (m := 0) (n := 1) rfl rfl ?_ ?_⟩
      · rw [nI_len, List.length_map]; exact hsz _ (by show ns.length + 1 ≤ 64; omega)
      · have e2 : nI (ns.map Int.natAbs) ++ [A.int 7] = nI cs := by rw [← hcs]; unfold nI; rw [List.map_append]; rfl
        rw [e2]
        exact q
  refine seq_set (a := .own 3) (O1 := [.lst (nI []), .lst (nI cs), .lst [.int 7], .lst (nI (ns.map Int.natAbs))]) (fun Q q => ⟨Nat.zero_le _, q⟩) ?_
  simp only [List.set]
  -- the great cells
  have tail : ∀ (g : Nat) (z2 : Option A) (O1 : Own) (gs : List Nat), lv O1 g = some (.lst (nI gs)) → lv O1 2 = some (.lst (nI cs)) →
      sRet (aLst (aCons (aC (.int 0)) (aCons (aC (.int 0)) (aCons (aVar 3) (aCons (aLc (aiL (aVar 1)) (agN 2) aYes (aBin opMod (aFn tInt (aCons (aVar 2) aNil)) (aC (.int 2147483647))) [2]) aNil))))) D [some (.raw (.ref sa)), some (.own 2), z2, some (.own g)] O1 := by
    intro g z2 O1 gs hg h2
    simp only [sSeq, sNext, sExpr, sRet, sRetN, sIf, sAsg, sPar, sPar3, sSub, sDPutA, sAug, sAugS, sFor, sWhile, sRaise, sBreak, sCont, aVar, sg, aC, aBin, aBl, aUn, aAnd, aOr, aNot, aAndV, aOrV, aNotV, aIf, aTru, truA, aNil, aCons, aTup, aLst, aFn, aML, aML0, aCall, aCallK, aLc, aDc, aiL, aiT, aiR1, aiR2, r1K, r2K, aiZip, agN, agNil, agCons, agTup, tupOf, x_add, x_addI, x_addS, x_eqI, x_neI, x_lt, x_le, x_gt, x_ge, x_sub, x_neg, x_abs, x_int, x_str, x_lenS, List.set, List.length_cons, List.length_nil, true_and, and_true]
    rw [h2]
    show compA _ _ _ _ _ _ _ _ _
    refine compA_map (fun x => match x with | .int i => .int (i % 2147483647) | _ => .non) h2 (by rw [nI_len]; exact hsz _ (by omega)) (fun x hx Q' q' => ?_) ?_
    · obtain ⟨i, _, rfl⟩ := List.mem_map.mp hx
      simp only [sSeq, sNext, sExpr, sRet, sRetN, sIf, sAsg, sPar, sPar3, sSub, sDPutA, sAug, sAugS, sFor, sWhile, sRaise, sBreak, sCont, aVar, sg, aC, aBin, aBl, aUn, aAnd, aOr, aNot, aAndV, aOrV, aNotV, aIf, aTru, truA, aNil, aCons, aTup, aLst, aFn, aML, aML0, aCall, aCallK, aLc, aDc, aiL, aiT, aiR1, aiR2, r1K, r2K, aiZip, agN, agNil, agCons, agTup, tupOf, x_add, x_addI, x_addS, x_eqI, x_neI, x_lt, x_le, x_gt, x_ge, x_sub, x_neg, x_abs, x_int, x_str, x_lenS, List.set, List.length_cons, List.length_nil, true_and, and_true, wipeA]
      refine w_mod i 2147483647 (by decide) ?_
      rw [Int.natCast_emod]
      exact q'
    · have e : (nI cs).map (fun x => match x with | .int i => A.int (i % 2147483647) | _ => .non) = nI (cs.map (· % 2147483647)) := by
        unfold nI
        rw [List.map_map, List.map_map]
        refine List.map_congr_left fun n _ => ?_
        show A.int ((n : Int) % 2147483647) = A.int ((n % 2147483647 : Nat) : Int)
        rw [Int.natCast_emod]
        rfl
      rw [e]
      have lg := lv_lt hg
      refine ⟨hsz _ (show 4 ≤ 64 by decide), h _ g O1.length _ ⟨⟨gs, cs.map (· % 2147483647), by rw [List.length_map]; omega, lv_self, lv_cons_of (lv_cons_of hg), lv_cons_of lv_self⟩, ?_, ?_, ?_⟩⟩
      · show O1.length + 1 ≠ g; omega
      · show O1.length + 1 ≠ O1.length; omega
      · omega
  have hc0 : ∃ c0, cs[0]? = some c0 := ⟨cs[0]'(by omega), List.getElem?_eq_getElem (by omega)⟩
  obtain ⟨c0, hc0⟩ := hc0
  have cond : ∀ Q : ABK, (∀ b, Q b [.lst (nI []), .lst (nI cs), .lst [.int 7], .lst (nI (ns.map Int.natAbs))]) → aBl (aBin opEq (aBin opMod (aFn tInt (aCons (aBin ixA (aVar 1) (aC (.int 0))) aNil)) (aC (.int 2))) (aC (.int 0))) [some (.raw (.ref sa)), some (.own 2), none, some (.own 3)] [.lst (nI []), .lst (nI cs), .lst [.int 7], .lst (nI (ns.map Int.natAbs))] Q := by
    intro Q q
    simp only [sSeq, sNext, sExpr, sRet, sRetN, sIf, sAsg, sPar, sPar3, sSub, sDPutA, sAug, sAugS, sFor, sWhile, sRaise, sBreak, sCont, aVar, sg, aC, aBin, aBl, aUn, aAnd, aOr, aNot, aAndV, aOrV, aNotV, aIf, aTru, truA, aNil, aCons, aTup, aLst, aFn, aML, aML0, aCall, aCallK, aLc, aDc, aiL, aiT, aiR1, aiR2, r1K, r2K, aiZip, agN, agNil, agCons, agTup, tupOf, x_add, x_addI, x_addS, x_eqI, x_neI, x_lt, x_le, x_gt, x_ge, x_sub, x_neg, x_abs, x_int, x_str, x_lenS, List.set, List.length_cons, List.length_nil, true_and, and_true]
    refine w_ixN (n := 0) (xs := nI cs) rfl (nI_get hc0) ?_
    simp only [sSeq, sNext, sExpr, sRet, sRetN, sIf, sAsg, sPar, sPar3, sSub, sDPutA, sAug, sAugS, sFor, sWhile, sRaise, sBreak, sCont, aVar, sg, aC, aBin, aBl, aUn, aAnd, aOr, aNot, aAndV, aOrV, aNotV, aIf, aTru, truA, aNil, aCons, aTup, aLst, aFn, aML, aML0, aCall, aCallK, aLc, aDc, aiL, aiT, aiR1, aiR2, r1K, r2K, aiZip, agN, agNil, agCons, agTup, tupOf, x_add, x_addI, x_addS, x_eqI, x_neI, x_lt, x_le, x_gt, x_ge, x_sub, x_neg, x_abs, x_int, x_str, x_lenS, List.set, List.length_cons, List.length_nil, true_and, and_true]
    refine w_mod c0 2 (by decide) ?_
    simp only [sSeq, sNext, sExpr, sRet, sRetN, sIf, sAsg, sPar, sPar3, sSub, sDPutA, sAug, sAugS, sFor, sWhile, sRaise, sBreak, sCont, aVar, sg, aC, aBin, aBl, aUn, aAnd, aOr, aNot, aAndV, aOrV, aNotV, aIf, aTru, truA, aNil, aCons, aTup, aLst, aFn, aML, aML0, aCall, aCallK, aLc, aDc, aiL, aiT, aiR1, aiR2, r1K, r2K, aiZip, agN, agNil, agCons, agTup, tupOf, x_add, x_addI, x_addS, x_eqI, x_neI, x_lt, x_le, x_gt, x_ge, x_sub, x_neg, x_abs, x_int, x_str, x_lenS, List.set, List.length_cons, List.length_nil, true_and, and_true]
    exact q _
  have branch : ∀ (c : AT) (t rest : AS) (D : AEnds) (δ : Slots) (O2 : Own), (∀ Q : ABK, (∀ b, Q b O2) → c δ O2 Q) → rest D δ O2 → t { D with nx := rest D } δ O2 → sSeq (sIf c t sNext) rest D δ O2 := fun c t rest D δ O2 h1 h2 h3 => h1 _ fun b => match b with | true => h3 | false => h2
  refine branch _ _ _ _ _ _ cond (tail 3 _ _ [] rfl rfl) ?_
  refine seq_setP (fun a O1 => ∃ gs : List Nat, a = .own 4 ∧ O1 = [.lst (nI gs), .lst (nI []), .lst (nI cs), .lst [.int 7], .lst (nI (ns.map Int.natAbs))]) (fun Q q => ?_) fun a O1 ha => ?_
  · simp only [sSeq, sNext, sExpr, sRet, sRetN, sIf, sAsg, sPar, sPar3, sSub, sDPutA, sAug, sAugS, sFor, sWhile, sRaise, sBreak, sCont, aVar, sg, aC, aBin, aBl, aUn, aAnd, aOr, aNot, aAndV, aOrV, aNotV, aIf, aTru, truA, aNil, aCons, aTup, aLst, aFn, aML, aML0, aCall, aCallK, aLc, aDc, aiL, aiT, aiR1, aiR2, r1K, r2K, aiZip, agN, agNil, agCons, agTup, tupOf, x_add, x_addI, x_addS, x_eqI, x_neI, x_lt, x_le, x_gt, x_ge, x_sub, x_neg, x_abs, x_int, x_str, x_lenS, List.set, List.length_cons, List.length_nil, true_and, and_true]
    show compA _ _ _ _ _ (nI cs) _ _ _
    refine compA_inv (fun i acc O1 => O1 = [.lst (nI []), .lst (nI cs), .lst [.int 7], .lst (nI (ns.map Int.natAbs))] ∧ ∃ gs : List Nat, acc = nI gs ∧ gs.length ≤ i) (fun i x acc O1 Nx hx hI kN => ?_) (fun acc O1 hI => ?_) ⟨rfl, [], rfl, Nat.le_refl _⟩
    · obtain ⟨rfl, gs, rfl, hl⟩ := hI
      refine ⟨rfl, ?_⟩
      have hi : i < cs.length := by have := (List.getElem?_eq_some_iff.mp hx).1; rwa [nI_len] at this
      unfold nI at hx
      rw [List.getElem?_map, List.getElem?_eq_getElem hi] at hx
      cases hx
      generalize cs[i] = ce
      simp only [sSeq, sNext, sExpr, sRet, sRetN, sIf, sAsg, sPar, sPar3, sSub, sDPutA, sAug, sAugS, sFor, sWhile, sRaise, sBreak, sCont, aVar, sg, aC, aBin, aBl, aUn, aAnd, aOr, aNot, aAndV, aOrV, aNotV, aIf, aTru, truA, aNil, aCons, aTup, aLst, aFn, aML, aML0, aCall, aCallK, aLc, aDc, aiL, aiT, aiR1, aiR2, r1K, r2K, aiZip, agN, agNil, agCons, agTup, tupOf, x_add, x_addI, x_addS, x_eqI, x_neI, x_lt, x_le, x_gt, x_ge, x_sub, x_neg, x_abs, x_int, x_str, x_lenS, List.set, List.length_cons, List.length_nil, true_and, and_true, wipeA, x_pow18]
      by_cases e : (10 ^ 18 : Int) ≤ (ce : Int)
      · rw [decide_eq_true e]
        refine w_fdiv ce 2 (by decide) (by decide) ⟨by rw [nI_len, sizeLine_eq]; omega, kN _ _ ⟨rfl, gs ++ [ce / 2], by unfold nI; rw [List.map_append]; rfl, by rw [List.length_append]; show gs.length + 1 ≤ _; omega⟩⟩
      · rw [decide_eq_false e]
        exact kN _ _ ⟨rfl, gs, rfl, by omega⟩
    · obtain ⟨rfl, gs, rfl, hl⟩ := hI
      exact ⟨rfl, q _ _ ⟨gs, rfl, rfl⟩⟩
  obtain ⟨gs, rfl, rfl⟩ := ha
  simp only [sSeq, sNext, sExpr, sRet, sRetN, sIf, sAsg, sPar, sPar3, sSub, sDPutA, sAug, sAugS, sFor, sWhile, sRaise, sBreak, sCont, aVar, sg, aC, aBin, aBl, aUn, aAnd, aOr, aNot, aAndV, aOrV, aNotV, aIf, aTru, truA, aNil, aCons, aTup, aLst, aFn, aML, aML0, aCall, aCallK, aLc, aDc, aiL, aiT, aiR1, aiR2, r1K, r2K, aiZip, agN, agNil, agCons, agTup, tupOf, x_add, x_addI, x_addS, x_eqI, x_neI, x_lt, x_le, x_gt, x_ge, x_sub, x_neg, x_abs, x_int, x_str, x_lenS, List.set, List.length_cons, List.length_nil, true_and, and_true]
  have er : mReverse (.own 4) [] [.lst (nI gs), .lst (nI []), .lst (nI cs), .lst [.int 7], .lst (nI (ns.map Int.natAbs))] = fun Q => Q .non (lput [.lst (nI gs), .lst (nI []), .lst (nI cs), .lst [.int 7], .lst (nI (ns.map Int.natAbs))] 4 (.lst (nI gs).reverse)) := rfl
  refine ⟨rfl, ?_⟩
  rw [er]
  have e2 : (nI gs).reverse = nI gs.reverse := by unfold nI; rw [List.map_reverse]
  rw [e2]
  exact tail 4 none [.lst (nI gs.reverse), .lst (nI []), .lst (nI cs), .lst [.int 7], .lst (nI (ns.map Int.natAbs))] gs.reverse rfl rfl
end
end K82

set_option Elab.async false
set_option linter.all false
set_option maxRecDepth 100000
set_option maxHeartbeats 4000000
/-! The law. -/
namespace K82
open PySem PySem.Spec L2 PyA
section
variable {O : Own} {L : Land} {ℓ : List Nat} {k : Nat}
theorem divR_len : ∀ {rs : List Road} {ls : List Nat} {num cnt : Nat}, (divR k rs ls num cnt).length ≤ total ls k
  | [], ls, _, _ => by unfold divR; exact Nat.zero_le _
  | _ :: _, [], _, _ => by unfold divR; exact Nat.zero_le _
  | r :: rs, l :: ls, num, cnt => by
    have ih := divR_len (rs := rs) (ls := ls) (num := num + (l * k - 1)) (cnt := cnt + l * k)
    rw [total_cons]
    show (pieces r.2.1 r.2.2 num cnt (l * k) ++ divR k rs ls (num + (l * k - 1)) (cnt + l * k)).length ≤ _
    rw [List.length_append]
    have : (pieces r.2.1 r.2.2 num cnt (l * k)).length = l * k := by unfold pieces; rw [List.length_map, List.length_range]
    omega
theorem data_far : Data 9 farA := .tup 8 _ (by decide) fun x hx => by
  simp only [List.mem_cons, List.not_mem_nil, or_false] at hx
  rcases hx with rfl | rfl
  · exact .str 8 _
  · exact .non 8
theorem data_told {a : A} (h : Data 8 a) : Data 9 (toldA a) := .tup 8 _ (by show 2 < _; decide) fun x hx => by
  simp only [List.mem_cons, List.not_mem_nil, or_false] at hx
  rcases hx with rfl | rfl
  · exact .str 8 _
  · exact h
theorem data_divided (hA : Ask L ℓ k) : Data 8 (dividedA L ℓ k) := by
  obtain ⟨t1, t2, t3⟩ := total_le hA
  have hin := inner_le (ls := ℓ) (k := k)
  have hv := hA.ok.v4
  refine .tup 7 _ (by show 2 < _; decide) fun x hx => ?_
  simp only [List.mem_cons, List.not_mem_nil, or_false] at hx
  rcases hx with rfl | rfl
  · refine .tup 6 _ (by rw [List.length_map, List.length_append, List.length_map, List.length_range]; omega) fun x hx => ?_
    obtain ⟨y, _, rfl⟩ := List.mem_map.mp hx
    exact .str 6 _
  · refine .tup 6 _ (by rw [List.length_map]; have := divR_len (k := k) (rs := L.rs) (ls := ℓ) (num := 0) (cnt := 0); omega) fun x hx => ?_
    obtain ⟨y, _, rfl⟩ := List.mem_map.mp hx
    refine .tup 5 _ (by show 3 < _; decide) fun x hx => ?_
    simp only [List.mem_cons, List.not_mem_nil, or_false] at hx
    rcases hx with rfl | rfl | rfl <;> exact .str 5 _
theorem data_laid (hA : Ask L ℓ k) {st : St} : Data 8 (laidA L ℓ k st) := by
  obtain ⟨t1, t2, t3⟩ := total_le hA
  have hin := inner_le (ls := ℓ) (k := k)
  have hv := hA.ok.v4
  refine .tup 7 _ (by rw [List.length_map, spotsN_len hA.lok]; omega) fun x hx => ?_
  obtain ⟨sp, _, rfl⟩ := List.mem_map.mp hx
  unfold valA intKvs
  cases e : (st.map fun e => (e.1, A.int e.2)).find? fun kv => decide (kv.1 = sp) with
  | none => exact .int 7 _
  | some z =>
    obtain ⟨y, _, rfl⟩ := List.mem_map.mp (List.mem_of_find?_eq_some e)
    exact .int 7 _
theorem dvd_fitSt : ∀ {st : St} {k0 : Nat}, k0 ∣ fitSt L ℓ st k0 ∧ ∀ e ∈ st, need L ℓ e.1 ∣ fitSt L ℓ st k0
  | [], k0 => ⟨Nat.dvd_refl _, fun _ h => absurd h List.not_mem_nil⟩
  | e :: st, k0 => by
    have ih := dvd_fitSt (st := st) (k0 := Nat.lcm k0 (need L ℓ e.1))
    show k0 ∣ fitSt L ℓ st (Nat.lcm k0 (need L ℓ e.1)) ∧ ∀ e' ∈ e :: st, need L ℓ e'.1 ∣ fitSt L ℓ st (Nat.lcm k0 (need L ℓ e.1))
    refine ⟨Nat.dvd_trans (Nat.dvd_lcm_left _ _) ih.1, fun e' he => ?_⟩
    rcases List.mem_cons.mp he with rfl | he
    · exact Nat.dvd_trans (Nat.dvd_lcm_right _ _) ih.1
    · exact ih.2 e' he
abbrev wSl (a0 : Option A) (bg : Addr) (z2 : Option A) (L : Land) (ℓ : List Nat) (z5 z6 z7 z8 z9 : Option A) : Slots := [a0, some (.raw (.ref bg)), z2, some (landA L), some (lensA ℓ), z5, z6, z7, z8, z9]
/-- both ways of asking are the same -/
theorem same_both {x : A} {te tf : AE} {i : Nat} {δ : Slots} {Q : ABK} (hx : Data 9 x) (hi : sg δ i = some x) (h1 : ∀ Q : AK, Q x O → te δ O Q) (h2 : ∀ Q : AK, Q x O → tf δ O Q) (q : Q false O) :
    aOr (aNot (aTru (aCall sp_law_same noEx (aCons te (aCons (aVar i) aNil))))) (aNot (aTru (aCall sp_law_same noEx (aCons tf (aCons (aVar i) aNil))))) δ O Q := by
  simp only [aOr, aNot, aTru, aCall, aCons, aNil, aVar, hi, truA]
  refine h1 _ ⟨x, rfl, hx, ?_⟩
  simp only [Bool.not_true]
  refine h2 _ ⟨x, rfl, hx, ?_⟩
  exact q
def kBody (bg : Addr) : AS := (sSeq (sAsg (aIf (aTru (aCall sp_law_is_far noEx (aCons (aVar 3) (aCons (aVar 4) (aCons (aVar 6) aNil))))) (aTup (aCons (aC (.str ("far" : Str))) (aCons (aC .non) aNil))) (aTup (aCons (aC (.str ("told" : Str))) (aCons (aCall sp_law_divided noEx (aCons (aVar 3) (aCons (aVar 4) (aCons (aVar 6) aNil)))) aNil)))) (agN 8))
    (sIf (aOr (aNot (aTru (aCall sp_law_same noEx (aCons (aCall sp_law_told noEx (aCons (aC (.int 0)) (aCons (aVar 3) (aCons (aVar 4) (aCons (aVar 6) (aCons (aTup aNil) aNil)))))) (aCons (aVar 8) aNil))))) (aNot (aTru (aCall sp_law_same noEx (aCons (aCall sp_law_told noEx (aCons (aC (.int 1)) (aCons (aVar 3) (aCons (aVar 4) (aCons (aVar 6) (aCons (aTup aNil) aNil)))))) (aCons (aVar 8) aNil)))))) (sRet (aC (.bl false))) sNext))
def sBody (bg : Addr) : AS := (sSeq (sAsg (aBin opMul (aCall sp_law_fit noEx (aCons (aVar 3) (aCons (aVar 4) (aCons (aTup (aCons (aVar 9) aNil)) aNil)))) (aCall (sp_law_pick bg) noEx (aCons (aVar 1) (aCons (aLst (aCons (aC (.int 1)) (aCons (aC (.int 1)) (aCons (aC (.int 2)) (aCons (aC (.int 3)) aNil))))) aNil)))) (agN 6))
    (sIf (aBl (aBin opLt (aVar 6) (aC (.int 100)))) (sSeq (sAsg (aTup (aCons (aC (.str ("far" : Str))) (aCons (aC .non) aNil))) (agN 8))
    (sSeq (sIf (aNot (aTru (aCall sp_law_is_far noEx (aCons (aVar 3) (aCons (aVar 4) (aCons (aVar 6) aNil)))))) (sAsg (aTup (aCons (aC (.str ("told" : Str))) (aCons (aCall sp_law_laid noEx (aCons (aVar 3) (aCons (aVar 4) (aCons (aVar 6) (aCons (aVar 9) aNil))))) aNil))) (agN 8)) sNext)
    (sIf (aOr (aNot (aTru (aCall sp_law_same noEx (aCons (aCall sp_law_told noEx (aCons (aC (.int 2)) (aCons (aVar 3) (aCons (aVar 4) (aCons (aVar 6) (aCons (aVar 9) aNil)))))) (aCons (aVar 8) aNil))))) (aNot (aTru (aCall sp_law_same noEx (aCons (aCall sp_law_told noEx (aCons (aC (.int 3)) (aCons (aVar 3) (aCons (aVar 4) (aCons (aVar 6) (aCons (aVar 9) aNil)))))) (aCons (aVar 8) aNil)))))) (sRet (aC (.bl false))) sNext))) sNext))
theorem two_size {n : Nat} (h : n ≤ 5) : n ≤ sizeLine := size5 h
theorem kBody_ok {bg : Addr} {a0 z2 z5 z7 z8 z9 : Option A} {D : AEnds} (hA : Ask L ℓ k) (h : ∀ z8, D.nx (wSl a0 bg z2 L ℓ z5 (some (.int (k : Int))) z7 z8 z9) O) : kBody bg D (wSl a0 bg z2 L ℓ z5 (some (.int (k : Int))) z7 z8 z9) O := by
  unfold kBody
  by_cases hf : far L ℓ k
  · refine seq_set (a := farA) (O1 := O) (fun Q q => ?_) (if_no (fun Q q => ?_) (h _))
    · simp only [sSeq, sNext, sExpr, sRet, sRetN, sIf, sAsg, sPar, sPar3, sSub, sDPutA, sAug, sAugS, sFor, sWhile, sRaise, sBreak, sCont, aVar, sg, aC, aBin, aBl, aUn, aAnd, aOr, aNot, aAndV, aOrV, aNotV, aIf, aTru, truA, aNil, aCons, aTup, aLst, aFn, aML, aML0, aCall, aCallK, aLc, aDc, aiL, aiT, aiR1, aiR2, r1K, r2K, aiZip, agN, agNil, agCons, agTup, tupOf, x_add, x_addI, x_addS, x_eqI, x_neI, x_lt, x_le, x_gt, x_ge, x_sub, x_neg, x_abs, x_int, x_str, x_lenS, List.set, List.length_cons, List.length_nil, true_and, and_true]
      refine ⟨L, ℓ, k, rfl, hA, ?_⟩
      rw [decide_eq_true hf]
      exact ⟨two_size (by decide), q⟩
    · refine same_both data_far rfl (fun Q q => ?_) (fun Q q => ?_) q
      · simp only [sSeq, sNext, sExpr, sRet, sRetN, sIf, sAsg, sPar, sPar3, sSub, sDPutA, sAug, sAugS, sFor, sWhile, sRaise, sBreak, sCont, aVar, sg, aC, aBin, aBl, aUn, aAnd, aOr, aNot, aAndV, aOrV, aNotV, aIf, aTru, truA, aNil, aCons, aTup, aLst, aFn, aML, aML0, aCall, aCallK, aLc, aDc, aiL, aiT, aiR1, aiR2, r1K, r2K, aiZip, agN, agNil, agCons, agTup, tupOf, x_add, x_addI, x_addS, x_eqI, x_neI, x_lt, x_le, x_gt, x_ge, x_sub, x_neg, x_abs, x_int, x_str, x_lenS, List.set, List.length_cons, List.length_nil, true_and, and_true]
        exact ⟨Nat.zero_le _, 0, L, ℓ, k, _, rfl, hA, .inl ⟨by decide, fun _ => q, fun n => absurd hf n⟩⟩
      · simp only [sSeq, sNext, sExpr, sRet, sRetN, sIf, sAsg, sPar, sPar3, sSub, sDPutA, sAug, sAugS, sFor, sWhile, sRaise, sBreak, sCont, aVar, sg, aC, aBin, aBl, aUn, aAnd, aOr, aNot, aAndV, aOrV, aNotV, aIf, aTru, truA, aNil, aCons, aTup, aLst, aFn, aML, aML0, aCall, aCallK, aLc, aDc, aiL, aiT, aiR1, aiR2, r1K, r2K, aiZip, agN, agNil, agCons, agTup, tupOf, x_add, x_addI, x_addS, x_eqI, x_neI, x_lt, x_le, x_gt, x_ge, x_sub, x_neg, x_abs, x_int, x_str, x_lenS, List.set, List.length_cons, List.length_nil, true_and, and_true]
        exact ⟨Nat.zero_le _, 1, L, ℓ, k, _, rfl, hA, .inl ⟨by decide, fun _ => q, fun n => absurd hf n⟩⟩
  · refine seq_set (a := toldA (dividedA L ℓ k)) (O1 := O) (fun Q q => ?_) (if_no (fun Q q => ?_) (h _))
    · simp only [sSeq, sNext, sExpr, sRet, sRetN, sIf, sAsg, sPar, sPar3, sSub, sDPutA, sAug, sAugS, sFor, sWhile, sRaise, sBreak, sCont, aVar, sg, aC, aBin, aBl, aUn, aAnd, aOr, aNot, aAndV, aOrV, aNotV, aIf, aTru, truA, aNil, aCons, aTup, aLst, aFn, aML, aML0, aCall, aCallK, aLc, aDc, aiL, aiT, aiR1, aiR2, r1K, r2K, aiZip, agN, agNil, agCons, agTup, tupOf, x_add, x_addI, x_addS, x_eqI, x_neI, x_lt, x_le, x_gt, x_ge, x_sub, x_neg, x_abs, x_int, x_str, x_lenS, List.set, List.length_cons, List.length_nil, true_and, and_true]
      refine ⟨L, ℓ, k, rfl, hA, ?_⟩
      rw [decide_eq_false hf]
      exact ⟨L, ℓ, k, rfl, hA, hf, two_size (show 2 ≤ 5 by decide), q⟩
    · refine same_both (data_told (data_divided hA)) rfl (fun Q q => ?_) (fun Q q => ?_) q
      · simp only [sSeq, sNext, sExpr, sRet, sRetN, sIf, sAsg, sPar, sPar3, sSub, sDPutA, sAug, sAugS, sFor, sWhile, sRaise, sBreak, sCont, aVar, sg, aC, aBin, aBl, aUn, aAnd, aOr, aNot, aAndV, aOrV, aNotV, aIf, aTru, truA, aNil, aCons, aTup, aLst, aFn, aML, aML0, aCall, aCallK, aLc, aDc, aiL, aiT, aiR1, aiR2, r1K, r2K, aiZip, agN, agNil, agCons, agTup, tupOf, x_add, x_addI, x_addS, x_eqI, x_neI, x_lt, x_le, x_gt, x_ge, x_sub, x_neg, x_abs, x_int, x_str, x_lenS, List.set, List.length_cons, List.length_nil, true_and, and_true]
        exact ⟨Nat.zero_le _, 0, L, ℓ, k, _, rfl, hA, .inl ⟨by decide, fun f => absurd f hf, fun _ => q⟩⟩
      · simp only [sSeq, sNext, sExpr, sRet, sRetN, sIf, sAsg, sPar, sPar3, sSub, sDPutA, sAug, sAugS, sFor, sWhile, sRaise, sBreak, sCont, aVar, sg, aC, aBin, aBl, aUn, aAnd, aOr, aNot, aAndV, aOrV, aNotV, aIf, aTru, truA, aNil, aCons, aTup, aLst, aFn, aML, aML0, aCall, aCallK, aLc, aDc, aiL, aiT, aiR1, aiR2, r1K, r2K, aiZip, agN, agNil, agCons, agTup, tupOf, x_add, x_addI, x_addS, x_eqI, x_neI, x_lt, x_le, x_gt, x_ge, x_sub, x_neg, x_abs, x_int, x_str, x_lenS, List.set, List.length_cons, List.length_nil, true_and, and_true]
        exact ⟨Nat.zero_le _, 1, L, ℓ, k, _, rfl, hA, .inl ⟨by decide, fun f => absurd f hf, fun _ => q⟩⟩
theorem sBody_ok {bg : Addr} {a0 z2 z5 z6 z7 z8 : Option A} {st : St} {D : AEnds} (hok : L.Ok) (hl : LensOk L ℓ) (hs : StOk L st) (h : ∀ z6 z8 O1, D.nx (wSl a0 bg z2 L ℓ z5 z6 z7 z8 (some (stateA st))) O1) : sBody bg D (wSl a0 bg z2 L ℓ z5 z6 z7 z8 (some (stateA st))) O := by
  unfold sBody
  have hfs : Fits L ℓ [st] := ⟨hok, hl, fun s hs' => by rw [List.mem_singleton.mp hs']; exact hs⟩
  refine seq_setP (fun a O1 => ∃ p : Nat, 1 ≤ p ∧ a = .int ((fitN L ℓ [st] * p : Nat) : Int)) (fun Q q => ?_) fun a O1 ha => ?_
  · simp only [sSeq, sNext, sExpr, sRet, sRetN, sIf, sAsg, sPar, sPar3, sSub, sDPutA, sAug, sAugS, sFor, sWhile, sRaise, sBreak, sCont, aVar, sg, aC, aBin, aBl, aUn, aAnd, aOr, aNot, aAndV, aOrV, aNotV, aIf, aTru, truA, aNil, aCons, aTup, aLst, aFn, aML, aML0, aCall, aCallK, aLc, aDc, aiL, aiT, aiR1, aiR2, r1K, r2K, aiZip, agN, agNil, agCons, agTup, tupOf, x_add, x_addI, x_addS, x_eqI, x_neI, x_lt, x_le, x_gt, x_ge, x_sub, x_neg, x_abs, x_int, x_str, x_lenS, List.set, List.length_cons, List.length_nil, true_and, and_true]
    refine ⟨two_size (show 1 ≤ 5 by decide), L, ℓ, [st], rfl, hfs, two_size (by decide), _, _, rfl, seq_own lv_self, by decide, by decide, fun x hx => ?_⟩
    simp only [List.mem_cons, List.not_mem_nil, or_false] at hx
    rcases hx with rfl | rfl | rfl | rfl
    · exact w_mul _ 1 (.inr (by decide)) (q _ _ ⟨1, by decide, rfl⟩)
    · exact w_mul _ 1 (.inr (by decide)) (q _ _ ⟨1, by decide, rfl⟩)
    · exact w_mul _ 2 (.inr (by decide)) (q _ _ ⟨2, by decide, rfl⟩)
    · exact w_mul _ 3 (.inr (by decide)) (q _ _ ⟨3, by decide, rfl⟩)
  obtain ⟨p, p1, rfl⟩ := ha
  have hfit : ∀ e ∈ st, need L ℓ e.1 ∣ fitN L ℓ [st] * p := fun e he => by
    obtain ⟨c, hc⟩ := (dvd_fitSt (L := L) (ℓ := ℓ) (st := st) (k0 := 1)).2 e he
    refine ⟨c * p, ?_⟩
    rw [← Nat.mul_assoc, ← hc]
    rfl
  have hpos : 1 ≤ fitN L ℓ [st] * p := Nat.mul_pos (fitSt_pos hok hl st 1 hs.spot Nat.one_pos) p1
  generalize fitN L ℓ [st] * p = k at hfit hpos
  simp only [List.set]
  by_cases h100 : k < 100
  · have hA : Ask L ℓ k := ⟨hok, hl, hpos, by omega⟩
    have hS : AskSt L ℓ k st := ⟨hA, hs, hfit⟩
    refine if_yes (fun Q q => ?_) ?_
    · simp only [sSeq, sNext, sExpr, sRet, sRetN, sIf, sAsg, sPar, sPar3, sSub, sDPutA, sAug, sAugS, sFor, sWhile, sRaise, sBreak, sCont, aVar, sg, aC, aBin, aBl, aUn, aAnd, aOr, aNot, aAndV, aOrV, aNotV, aIf, aTru, truA, aNil, aCons, aTup, aLst, aFn, aML, aML0, aCall, aCallK, aLc, aDc, aiL, aiT, aiR1, aiR2, r1K, r2K, aiZip, agN, agNil, agCons, agTup, tupOf, x_add, x_addI, x_addS, x_eqI, x_neI, x_lt, x_le, x_gt, x_ge, x_sub, x_neg, x_abs, x_int, x_str, x_lenS, List.set, List.length_cons, List.length_nil, true_and, and_true]
      rw [decide_eq_true (show (k : Int) < 100 by omega)]
      exact q
    refine seq_set (a := farA) (O1 := O1) (fun Q q => ⟨two_size (by decide), q⟩) ?_
    simp only [List.set]
    by_cases hf : far L ℓ k
    · refine seq_no (fun Q q => ?_) (if_no (fun Q q => ?_) (h _ _ _))
      · simp only [sSeq, sNext, sExpr, sRet, sRetN, sIf, sAsg, sPar, sPar3, sSub, sDPutA, sAug, sAugS, sFor, sWhile, sRaise, sBreak, sCont, aVar, sg, aC, aBin, aBl, aUn, aAnd, aOr, aNot, aAndV, aOrV, aNotV, aIf, aTru, truA, aNil, aCons, aTup, aLst, aFn, aML, aML0, aCall, aCallK, aLc, aDc, aiL, aiT, aiR1, aiR2, r1K, r2K, aiZip, agN, agNil, agCons, agTup, tupOf, x_add, x_addI, x_addS, x_eqI, x_neI, x_lt, x_le, x_gt, x_ge, x_sub, x_neg, x_abs, x_int, x_str, x_lenS, List.set, List.length_cons, List.length_nil, true_and, and_true]
        refine ⟨L, ℓ, k, rfl, hA, ?_⟩
        rw [decide_eq_true hf]
        exact q
      · refine same_both data_far rfl (fun Q q => ?_) (fun Q q => ?_) q
        · simp only [sSeq, sNext, sExpr, sRet, sRetN, sIf, sAsg, sPar, sPar3, sSub, sDPutA, sAug, sAugS, sFor, sWhile, sRaise, sBreak, sCont, aVar, sg, aC, aBin, aBl, aUn, aAnd, aOr, aNot, aAndV, aOrV, aNotV, aIf, aTru, truA, aNil, aCons, aTup, aLst, aFn, aML, aML0, aCall, aCallK, aLc, aDc, aiL, aiT, aiR1, aiR2, r1K, r2K, aiZip, agN, agNil, agCons, agTup, tupOf, x_add, x_addI, x_addS, x_eqI, x_neI, x_lt, x_le, x_gt, x_ge, x_sub, x_neg, x_abs, x_int, x_str, x_lenS, List.set, List.length_cons, List.length_nil, true_and, and_true]
          exact ⟨2, L, ℓ, k, _, rfl, hA, .inr ⟨.inl rfl, st, rfl, hS, fun _ => q, fun n => absurd hf n⟩⟩
        · simp only [sSeq, sNext, sExpr, sRet, sRetN, sIf, sAsg, sPar, sPar3, sSub, sDPutA, sAug, sAugS, sFor, sWhile, sRaise, sBreak, sCont, aVar, sg, aC, aBin, aBl, aUn, aAnd, aOr, aNot, aAndV, aOrV, aNotV, aIf, aTru, truA, aNil, aCons, aTup, aLst, aFn, aML, aML0, aCall, aCallK, aLc, aDc, aiL, aiT, aiR1, aiR2, r1K, r2K, aiZip, agN, agNil, agCons, agTup, tupOf, x_add, x_addI, x_addS, x_eqI, x_neI, x_lt, x_le, x_gt, x_ge, x_sub, x_neg, x_abs, x_int, x_str, x_lenS, List.set, List.length_cons, List.length_nil, true_and, and_true]
          exact ⟨3, L, ℓ, k, _, rfl, hA, .inr ⟨.inr rfl, st, rfl, hS, fun _ => q, fun n => absurd hf n⟩⟩
    · refine seq_yes (fun Q q => ?_) ?_
      · simp only [sSeq, sNext, sExpr, sRet, sRetN, sIf, sAsg, sPar, sPar3, sSub, sDPutA, sAug, sAugS, sFor, sWhile, sRaise, sBreak, sCont, aVar, sg, aC, aBin, aBl, aUn, aAnd, aOr, aNot, aAndV, aOrV, aNotV, aIf, aTru, truA, aNil, aCons, aTup, aLst, aFn, aML, aML0, aCall, aCallK, aLc, aDc, aiL, aiT, aiR1, aiR2, r1K, r2K, aiZip, agN, agNil, agCons, agTup, tupOf, x_add, x_addI, x_addS, x_eqI, x_neI, x_lt, x_le, x_gt, x_ge, x_sub, x_neg, x_abs, x_int, x_str, x_lenS, List.set, List.length_cons, List.length_nil, true_and, and_true]
        refine ⟨L, ℓ, k, rfl, hA, ?_⟩
        rw [decide_eq_false hf]
        exact q
      · have s1 : ∀ (D : AEnds), D.nx (wSl a0 bg z2 L ℓ z5 (some (.int (k : Int))) z7 (some (toldA (laidA L ℓ k st))) (some (stateA st))) O1 → sAsg (aTup (aCons (aC (.str ("told" : Str))) (aCons (aCall sp_law_laid noEx (aCons (aVar 3) (aCons (aVar 4) (aCons (aVar 6) (aCons (aVar 9) aNil))))) aNil))) (agN 8) D [a0, some (.raw (.ref bg)), z2, some (landA L), some (lensA ℓ), z5, some (.int (k : Int)), z7, some farA, some (stateA st)] O1 := by
          intro D hD
          simp only [sSeq, sNext, sExpr, sRet, sRetN, sIf, sAsg, sPar, sPar3, sSub, sDPutA, sAug, sAugS, sFor, sWhile, sRaise, sBreak, sCont, aVar, sg, aC, aBin, aBl, aUn, aAnd, aOr, aNot, aAndV, aOrV, aNotV, aIf, aTru, truA, aNil, aCons, aTup, aLst, aFn, aML, aML0, aCall, aCallK, aLc, aDc, aiL, aiT, aiR1, aiR2, r1K, r2K, aiZip, agN, agNil, agCons, agTup, tupOf, x_add, x_addI, x_addS, x_eqI, x_neI, x_lt, x_le, x_gt, x_ge, x_sub, x_neg, x_abs, x_int, x_str, x_lenS, List.set, List.length_cons, List.length_nil, true_and, and_true]
          exact ⟨L, ℓ, k, st, rfl, hS, hf, two_size (show 2 ≤ 5 by decide), hD⟩
        refine s1 _ ?_
        dsimp only
        refine if_no (fun Q q => ?_) (h _ _ _)
        refine same_both (data_told (data_laid hA (st := st))) rfl (fun Q q => ?_) (fun Q q => ?_) q
        · simp only [sSeq, sNext, sExpr, sRet, sRetN, sIf, sAsg, sPar, sPar3, sSub, sDPutA, sAug, sAugS, sFor, sWhile, sRaise, sBreak, sCont, aVar, sg, aC, aBin, aBl, aUn, aAnd, aOr, aNot, aAndV, aOrV, aNotV, aIf, aTru, truA, aNil, aCons, aTup, aLst, aFn, aML, aML0, aCall, aCallK, aLc, aDc, aiL, aiT, aiR1, aiR2, r1K, r2K, aiZip, agN, agNil, agCons, agTup, tupOf, x_add, x_addI, x_addS, x_eqI, x_neI, x_lt, x_le, x_gt, x_ge, x_sub, x_neg, x_abs, x_int, x_str, x_lenS, List.set, List.length_cons, List.length_nil, true_and, and_true]
          exact ⟨2, L, ℓ, k, _, rfl, hA, .inr ⟨.inl rfl, st, rfl, hS, fun f => absurd f hf, fun _ => q⟩⟩
        · simp only [sSeq, sNext, sExpr, sRet, sRetN, sIf, sAsg, sPar, sPar3, sSub, sDPutA, sAug, sAugS, sFor, sWhile, sRaise, sBreak, sCont, aVar, sg, aC, aBin, aBl, aUn, aAnd, aOr, aNot, aAndV, aOrV, aNotV, aIf, aTru, truA, aNil, aCons, aTup, aLst, aFn, aML, aML0, aCall, aCallK, aLc, aDc, aiL, aiT, aiR1, aiR2, r1K, r2K, aiZip, agN, agNil, agCons, agTup, tupOf, x_add, x_addI, x_addS, x_eqI, x_neI, x_lt, x_le, x_gt, x_ge, x_sub, x_neg, x_abs, x_int, x_str, x_lenS, List.set, List.length_cons, List.length_nil, true_and, and_true]
          exact ⟨3, L, ℓ, k, _, rfl, hA, .inr ⟨.inr rfl, st, rfl, hS, fun f => absurd f hf, fun _ => q⟩⟩
  · refine if_no (fun Q q => ?_) (h _ _ _)
    simp only [sSeq, sNext, sExpr, sRet, sRetN, sIf, sAsg, sPar, sPar3, sSub, sDPutA, sAug, sAugS, sFor, sWhile, sRaise, sBreak, sCont, aVar, sg, aC, aBin, aBl, aUn, aAnd, aOr, aNot, aAndV, aOrV, aNotV, aIf, aTru, truA, aNil, aCons, aTup, aLst, aFn, aML, aML0, aCall, aCallK, aLc, aDc, aiL, aiT, aiR1, aiR2, r1K, r2K, aiZip, agN, agNil, agCons, agTup, tupOf, x_add, x_addI, x_addS, x_eqI, x_neI, x_lt, x_le, x_gt, x_ge, x_sub, x_neg, x_abs, x_int, x_str, x_lenS, List.set, List.length_cons, List.length_nil, true_and, and_true]
    rw [decide_eq_false (show ¬ (k : Int) < 100 by omega)]
    exact q
theorem law_rd {bg : Addr} {a0 : Option A} {D : AEnds} (h : ∀ Oe, D.rt (.bl true) Oe) : rd_law bg D [a0, some (.raw (.ref bg)), none, none, none, none, none, none, none, none] O := by
  unfold rd_law
  refine seq_for (items := rangeA 0 3) (chk := fun _ => True) (O1 := O) (fun Q q => by simp only [sSeq, sNext, sExpr, sRet, sRetN, sIf, sAsg, sPar, sPar3, sSub, sDPutA, sAug, sAugS, sFor, sWhile, sRaise, sBreak, sCont, aVar, sg, aC, aBin, aBl, aUn, aAnd, aOr, aNot, aAndV, aOrV, aNotV, aIf, aTru, truA, aNil, aCons, aTup, aLst, aFn, aML, aML0, aCall, aCallK, aLc, aDc, aiL, aiT, aiR1, aiR2, r1K, r2K, aiZip, agN, agNil, agCons, agTup, tupOf, x_add, x_addI, x_addS, x_eqI, x_neI, x_lt, x_le, x_gt, x_ge, x_sub, x_neg, x_abs, x_int, x_str, x_lenS, List.set, List.length_cons, List.length_nil, true_and, and_true]; exact ⟨by decide, by decide, q⟩) ?_
  refine forA_inv (fun i δ O1 => ∃ (z2 z3 z4 z5 z6 z7 z8 z9 : Option A), δ = [a0, some (.raw (.ref bg)), z2, z3, z4, z5, z6, z7, z8, z9] ∧ (0 < i → ∃ L ℓ, L.Ok ∧ LensOk L ℓ ∧ z3 = some (landA L) ∧ z4 = some (lensA ℓ)))
    (fun i v δ O1 Nx hx hI kN => ?_) (fun δ O1 hI => ?_) ⟨_, _, _, _, _, _, _, _, rfl, fun h => absurd h (Nat.lt_irrefl _)⟩
  · obtain ⟨z2, z3, z4, z5, z6, z7, z8, z9, rfl, -⟩ := hI
    obtain ⟨hi, rfl⟩ := rangeA_at hx
    refine ⟨trivial, ?_⟩
    simp only [agN, List.set]
    refine seq_setP (fun a O2 => ∃ L : Land, L.Ok ∧ a = landA L) (fun Q q => ?_) fun a O2 ha => ?_
    · simp only [sSeq, sNext, sExpr, sRet, sRetN, sIf, sAsg, sPar, sPar3, sSub, sDPutA, sAug, sAugS, sFor, sWhile, sRaise, sBreak, sCont, aVar, sg, aC, aBin, aBl, aUn, aAnd, aOr, aNot, aAndV, aOrV, aNotV, aIf, aTru, truA, aNil, aCons, aTup, aLst, aFn, aML, aML0, aCall, aCallK, aLc, aDc, aiL, aiT, aiR1, aiR2, r1K, r2K, aiZip, agN, agNil, agCons, agTup, tupOf, x_add, x_addI, x_addS, x_eqI, x_neI, x_lt, x_le, x_gt, x_ge, x_sub, x_neg, x_abs, x_int, x_str, x_lenS, List.set, List.length_cons, List.length_nil, true_and, and_true]
      exact ⟨rfl, fun L hL => q _ _ ⟨L, hL, rfl⟩⟩
    obtain ⟨L, hok, rfl⟩ := ha
    simp only [List.set]
    refine seq_setP (fun a O2 => ∃ ℓ : List Nat, LensOk L ℓ ∧ a = lensA ℓ) (fun Q q => ?_) fun a O3 ha => ?_
    · simp only [sSeq, sNext, sExpr, sRet, sRetN, sIf, sAsg, sPar, sPar3, sSub, sDPutA, sAug, sAugS, sFor, sWhile, sRaise, sBreak, sCont, aVar, sg, aC, aBin, aBl, aUn, aAnd, aOr, aNot, aAndV, aOrV, aNotV, aIf, aTru, truA, aNil, aCons, aTup, aLst, aFn, aML, aML0, aCall, aCallK, aLc, aDc, aiL, aiT, aiR1, aiR2, r1K, r2K, aiZip, agN, agNil, agCons, agTup, tupOf, x_add, x_addI, x_addS, x_eqI, x_neI, x_lt, x_le, x_gt, x_ge, x_sub, x_neg, x_abs, x_int, x_str, x_lenS, List.set, List.length_cons, List.length_nil, true_and, and_true]
      refine ⟨two_size (by decide), _, _, rfl, seq_own lv_self, by decide, by decide, fun x hx => ?_⟩
      simp only [List.mem_cons, List.not_mem_nil, or_false] at hx
      rcases hx with rfl | rfl | rfl
      · exact ⟨L, 3, rfl, hok, by decide, by decide, fun ℓ hl => q _ _ ⟨ℓ, hl, rfl⟩⟩
      · exact ⟨L, 3, rfl, hok, by decide, by decide, fun ℓ hl => q _ _ ⟨ℓ, hl, rfl⟩⟩
      · exact ⟨L, 9, rfl, hok, by decide, by decide, fun ℓ hl => q _ _ ⟨ℓ, hl, rfl⟩⟩
    obtain ⟨ℓ, hl, rfl⟩ := ha
    simp only [List.set]
    refine seq_setP (fun a O2 => ∃ sts : List St, (∀ st ∈ sts, StOk L st) ∧ a = .tup (sts.map stateA)) (fun Q q => ?_) fun a O4 ha => ?_
    · simp only [sSeq, sNext, sExpr, sRet, sRetN, sIf, sAsg, sPar, sPar3, sSub, sDPutA, sAug, sAugS, sFor, sWhile, sRaise, sBreak, sCont, aVar, sg, aC, aBin, aBl, aUn, aAnd, aOr, aNot, aAndV, aOrV, aNotV, aIf, aTru, truA, aNil, aCons, aTup, aLst, aFn, aML, aML0, aCall, aCallK, aLc, aDc, aiL, aiT, aiR1, aiR2, r1K, r2K, aiZip, agN, agNil, agCons, agTup, tupOf, x_add, x_addI, x_addS, x_eqI, x_neI, x_lt, x_le, x_gt, x_ge, x_sub, x_neg, x_abs, x_int, x_str, x_lenS, List.set, List.length_cons, List.length_nil, true_and, and_true]
      refine ⟨4, rfl, by decide, by decide, fun r hr => ⟨by omega, by omega, ?_⟩⟩
      rw [Int.toNat_natCast]
      refine compA_inv (fun i acc O1 => ∃ sts : List St, acc = sts.map stateA ∧ sts.length = i ∧ ∀ st ∈ sts, StOk L st) (fun i x acc O1 Nx hx hI kN => ?_) (fun acc O1 hI => ?_) ⟨[], rfl, rfl, fun _ h => absurd h List.not_mem_nil⟩
      · obtain ⟨sts, rfl, hlen, hall⟩ := hI
        have hi := (List.getElem?_eq_some_iff.mp hx).1
        rw [rangeA_len] at hi
        refine ⟨trivial, ?_⟩
        simp only [sSeq, sNext, sExpr, sRet, sRetN, sIf, sAsg, sPar, sPar3, sSub, sDPutA, sAug, sAugS, sFor, sWhile, sRaise, sBreak, sCont, aVar, sg, aC, aBin, aBl, aUn, aAnd, aOr, aNot, aAndV, aOrV, aNotV, aIf, aTru, truA, aNil, aCons, aTup, aLst, aFn, aML, aML0, aCall, aCallK, aLc, aDc, aiL, aiT, aiR1, aiR2, r1K, r2K, aiZip, agN, agNil, agCons, agTup, tupOf, x_add, x_addI, x_addS, x_eqI, x_neI, x_lt, x_le, x_gt, x_ge, x_sub, x_neg, x_abs, x_int, x_str, x_lenS, List.set, List.length_cons, List.length_nil, true_and, and_true, wipeA, aYes]
        refine ⟨L, ℓ, rfl, hok, fun st hst => ⟨by rw [List.length_map, sizeLine_eq]; omega, kN _ _ ⟨sts ++ [st], by rw [List.map_append]; rfl, by rw [List.length_append, hlen]; rfl, fun s hs => ?_⟩⟩⟩
        rcases List.mem_append.mp hs with hs | hs
        · exact hall s hs
        · rw [List.mem_singleton.mp hs]; exact hst
      · obtain ⟨sts, rfl, hlen, hall⟩ := hI
        exact ⟨trivial, w_tuple lv_self (q _ _ ⟨sts, hall, rfl⟩)⟩
    obtain ⟨sts, hst, rfl⟩ := ha
    have hfs : Fits L ℓ sts := ⟨hok, hl, hst⟩
    simp only [List.set]
    refine seq_set (a := .int ((fitN L ℓ sts : Nat) : Int)) (O1 := O4) (fun Q q => ?_) ?_
    · simp only [sSeq, sNext, sExpr, sRet, sRetN, sIf, sAsg, sPar, sPar3, sSub, sDPutA, sAug, sAugS, sFor, sWhile, sRaise, sBreak, sCont, aVar, sg, aC, aBin, aBl, aUn, aAnd, aOr, aNot, aAndV, aOrV, aNotV, aIf, aTru, truA, aNil, aCons, aTup, aLst, aFn, aML, aML0, aCall, aCallK, aLc, aDc, aiL, aiT, aiR1, aiR2, r1K, r2K, aiZip, agN, agNil, agCons, agTup, tupOf, x_add, x_addI, x_addS, x_eqI, x_neI, x_lt, x_le, x_gt, x_ge, x_sub, x_neg, x_abs, x_int, x_str, x_lenS, List.set, List.length_cons, List.length_nil, true_and, and_true]
      exact ⟨L, ℓ, sts, rfl, hfs, q⟩
    simp only [List.set]
    refine seq_no (fun Q q => ?_) ?_
    · refine same_both (.int 9 _) rfl (fun Q q => ?_) (fun Q q => ?_) q
      · simp only [sSeq, sNext, sExpr, sRet, sRetN, sIf, sAsg, sPar, sPar3, sSub, sDPutA, sAug, sAugS, sFor, sWhile, sRaise, sBreak, sCont, aVar, sg, aC, aBin, aBl, aUn, aAnd, aOr, aNot, aAndV, aOrV, aNotV, aIf, aTru, truA, aNil, aCons, aTup, aLst, aFn, aML, aML0, aCall, aCallK, aLc, aDc, aiL, aiT, aiR1, aiR2, r1K, r2K, aiZip, agN, agNil, agCons, agTup, tupOf, x_add, x_addI, x_addS, x_eqI, x_neI, x_lt, x_le, x_gt, x_ge, x_sub, x_neg, x_abs, x_int, x_str, x_lenS, List.set, List.length_cons, List.length_nil, true_and, and_true]
        exact ⟨L, ℓ, sts, rfl, hfs, q⟩
      · simp only [sSeq, sNext, sExpr, sRet, sRetN, sIf, sAsg, sPar, sPar3, sSub, sDPutA, sAug, sAugS, sFor, sWhile, sRaise, sBreak, sCont, aVar, sg, aC, aBin, aBl, aUn, aAnd, aOr, aNot, aAndV, aOrV, aNotV, aIf, aTru, truA, aNil, aCons, aTup, aLst, aFn, aML, aML0, aCall, aCallK, aLc, aDc, aiL, aiT, aiR1, aiR2, r1K, r2K, aiZip, agN, agNil, agCons, agTup, tupOf, x_add, x_addI, x_addS, x_eqI, x_neI, x_lt, x_le, x_gt, x_ge, x_sub, x_neg, x_abs, x_int, x_str, x_lenS, List.set, List.length_cons, List.length_nil, true_and, and_true]
        exact ⟨L, ℓ, sts, rfl, hfs, q⟩
    -- the loop over k
    have walk : ∀ (D : AEnds) (rest body : AS) (δ : Slots), sg δ 1 = some (.raw (.ref bg)) → (∀ (k1 k2 : Nat) (n : Nat) (O5 : Own), 1 ≤ k1 → k1 ≤ 99 → 1 ≤ k2 → k2 ≤ 99 → lv O5 n = some (.lst [.int (k1 : Int), .int (k2 : Int)]) →
        forA (fun O' => lv O' n = some (.lst [.int (k1 : Int), .int (k2 : Int)])) (agN 6) body { D with nx := rest D } [.int (k1 : Int), .int (k2 : Int)] δ O5) →
        sSeq (sFor (aiL (aLst (aCons (aBin opAdd (aC (.int 1)) (aCall (sp_law_draw bg) noEx (aCons (aVar 1) (aCons (aC (.int 6)) aNil)))) (aCons (aCall (sp_law_pick bg) noEx (aCons (aVar 1) (aCons (aLst (aCons (aC (.int 1)) (aCons (aC (.int 7)) (aCons (aC (.int 20)) (aCons (aC (.int 99)) aNil))))) aNil))) aNil)))) (agN 6) body) rest D δ O4 := by
      intro D rest body δ h1 hb
      simp only [sSeq, sFor, aiL, aLst, aCons, aNil, aBin, aC, aCall, aVar, h1, x_add]
      refine ⟨6, rfl, by decide, by decide, fun r hr => ⟨two_size (show 4 ≤ 5 by decide), _, _, rfl, seq_own lv_self, by decide, by decide, fun x hx => ⟨two_size (show 2 ≤ 5 by decide), ?_⟩⟩⟩
      have e1 : (1 : Int) + (r : Int) = ((1 + r : Nat) : Int) := by omega
      obtain ⟨k2, a1, a2, rfl⟩ : ∃ k2 : Nat, 1 ≤ k2 ∧ k2 ≤ 99 ∧ x = .int (k2 : Int) := by
        simp only [List.mem_cons, List.not_mem_nil, or_false] at hx
        rcases hx with rfl | rfl | rfl | rfl
        · exact ⟨1, by decide, by decide, rfl⟩
        · exact ⟨7, by decide, by decide, rfl⟩
        · exact ⟨20, by decide, by decide, rfl⟩
        · exact ⟨99, by decide, by decide, rfl⟩
      rw [e1]
      simp only [lv_self]
      exact hb (1 + r) k2 _ _ (by omega) (by omega) a1 a2 lv_self
    refine walk _ _ (kBody bg) _ rfl fun k1 k2 n O5 b1 b2 b3 b4 hn => ?_
    -- the loop over the states
    have states : ∀ (z6 z8 : Option A) (O6 : Own), sFor (aiT (aVar 5)) (agN 9) (sBody bg) { nx := Nx, rt := D.rt, bk := sRet (aCall sp_law_same noEx (aCons (aCall sp_fit noEx (aCons (aVar 3) (aCons (aVar 4) (aCons (aTup aNil) aNil)))) (aCons (aC (.int 1)) aNil))) D, ct := Nx } (wSl a0 bg (some (.int ((i : Nat) : Int))) L ℓ (some (.tup (sts.map stateA))) z6 (some (.int ((fitN L ℓ sts : Nat) : Int))) z8 z9) O6 := by
      intro z6 z8 O6
      refine for_items (items := sts.map stateA) (chk := fun _ => True) (O1 := O6) (fun Q q => q) ?_
      refine forA_inv (fun j δ O1 => ∃ (z6 z8 z9 : Option A), δ = wSl a0 bg (some (.int ((i : Nat) : Int))) L ℓ (some (.tup (sts.map stateA))) z6 (some (.int ((fitN L ℓ sts : Nat) : Int))) z8 z9) (fun j v δ O1 Nx2 hx hI kN2 => ?_) (fun δ O1 hI => ?_) ⟨_, _, _, rfl⟩
      · obtain ⟨z6, z8, z9, rfl⟩ := hI
        refine ⟨trivial, ?_⟩
        rw [List.getElem?_map] at hx
        cases hst2 : sts[j]? with
        | none => rw [hst2] at hx; cases hx
        | some st =>
          rw [hst2] at hx
          cases hx
          simp only [agN, List.set]
          exact sBody_ok hok hl (hst st (List.mem_of_getElem? hst2)) fun z6 z8 O1 => kN2 _ _ ⟨_, _, _, rfl⟩
      · obtain ⟨z6, z8, z9, rfl⟩ := hI
        exact ⟨trivial, kN _ _ ⟨_, _, _, _, _, _, _, _, rfl, fun _ => ⟨L, ℓ, hok, hl, rfl, rfl⟩⟩⟩
    rw [Int.zero_add]
    refine forA_inv (fun j δ O1 => ∃ (z6 z8 : Option A), δ = wSl a0 bg (some (.int ((i : Nat) : Int))) L ℓ (some (.tup (sts.map stateA))) z6 (some (.int ((fitN L ℓ sts : Nat) : Int))) z8 z9 ∧ O1 = O5) (fun j v δ O1 Nx2 hx hI kN2 => ?_) (fun δ O1 hI => ?_) ⟨_, _, rfl, rfl⟩
    · obtain ⟨z6, z8, rfl, rfl⟩ := hI
      refine ⟨hn, ?_⟩
      obtain ⟨k, hk1, hk2, rfl⟩ : ∃ k : Nat, 1 ≤ k ∧ k ≤ 99 ∧ v = .int (k : Int) := by
        have := List.mem_of_getElem? hx
        simp only [List.mem_cons, List.not_mem_nil, or_false] at this
        rcases this with rfl | rfl
        · exact ⟨k1, b1, b2, rfl⟩
        · exact ⟨k2, b3, b4, rfl⟩
      simp only [agN, List.set]
      exact kBody_ok ⟨hok, hl, hk1, hk2⟩ fun z8 => kN2 _ _ ⟨_, _, rfl, rfl⟩
    · obtain ⟨z6, z8, rfl, rfl⟩ := hI
      exact ⟨hn, states _ _ _⟩
  · obtain ⟨z2, z3, z4, z5, z6, z7, z8, z9, rfl, hh⟩ := hI
    rw [rangeA_len] at hh
    obtain ⟨L, ℓ, hok, hl, rfl, rfl⟩ := hh (by decide)
    refine ⟨trivial, ?_⟩
    simp only [sSeq, sNext, sExpr, sRet, sRetN, sIf, sAsg, sPar, sPar3, sSub, sDPutA, sAug, sAugS, sFor, sWhile, sRaise, sBreak, sCont, aVar, sg, aC, aBin, aBl, aUn, aAnd, aOr, aNot, aAndV, aOrV, aNotV, aIf, aTru, truA, aNil, aCons, aTup, aLst, aFn, aML, aML0, aCall, aCallK, aLc, aDc, aiL, aiT, aiR1, aiR2, r1K, r2K, aiZip, agN, agNil, agCons, agTup, tupOf, x_add, x_addI, x_addS, x_eqI, x_neI, x_lt, x_le, x_gt, x_ge, x_sub, x_neg, x_abs, x_int, x_str, x_lenS, List.set, List.length_cons, List.length_nil, true_and, and_true]
    refine ⟨Nat.zero_le _, L, ℓ, [], rfl, ⟨hok, hl, fun _ h => absurd h List.not_mem_nil⟩, .int 1, rfl, .int 9 _, h _⟩
end
end K82

set_option Elab.async false
set_option linter.all false
set_option maxRecDepth 100000
set_option maxHeartbeats 4000000
/-! The derivations, the promises. -/
namespace K82
open PySem PySem.Spec L2 PyA
section
variable {P : Program} {w : World} {K : PySem.W.Frag} {mg : Str → Option Value} {base : Heap} {R : Res} {bg gg cc : Addr} (T : Tops K mg)

theorem tm_divisor (cdv : Value) (A : Around) (outer : List Env) (s : Shared) (H : Hp) (E : XK) (ρ : List Addr) (O : Own) (ex : Value → Own → Prop) (hr : Room 0 (A.deeper (PyProof.Rows.envOfC "divisor" (defScope s_divisor) s.heap.objs.size T.f_divisor cdv))) :
    LSs (cxOf CX0 P w K mg base N_divisor "divisor" (defScope s_divisor) T.f_divisor cdv A outer s H E).nox ⟨R, ρ, O, H, ex⟩ (defBody s_divisor) rd_divisor :=
  (lss_cons (ls_par 0 1 rfl sc_divisor.nd (ll_cons (le_bi bl_abs (by rfl) T.m_abs bt_abs (ll_cons (le_var 0) ll_nil)) (ll_cons (le_bi bl_abs (by rfl) T.m_abs bt_abs (ll_cons (le_var 1) ll_nil)) ll_nil)))
    (lss_cons (ls_while PassesOwn.never (lt_tru (le_var 1)) (lss_one (ls_par 0 1 rfl sc_divisor.nd (ll_cons (le_var 1) (ll_cons (le_bin ol_mod (le_var 0) (le_var 1)) ll_nil)))))
    (lss_one (ls_ret (le_var 0)))))


theorem ok_divisor : FnOk P w K mg base CX0 1 T.f_divisor T.fd_divisor ["one", "other"] (liftSp R sp_divisor) :=
  def_ok T.F_divisor sc_divisor (fun as O Q QE h => by obtain ⟨_, _, rfl, _⟩ := h; rfl) fun cdv A outer s H E ρ O ex hr => ⟨_, tm_divisor T cdv A outer s H E ρ O ex hr, fun as Q QE h => divisor_ok h⟩

theorem tm_least_multiple (cdv : Value) (A : Around) (outer : List Env) (s : Shared) (H : Hp) (E : XK) (ρ : List Addr) (O : Own) (ex : Value → Own → Prop) (hr : Room 1 (A.deeper (PyProof.Rows.envOfC "least_multiple" (defScope s_least_multiple) s.heap.objs.size T.f_least_multiple cdv))) :
    LSs (cxOf CX0 P w K mg base N_least_multiple "least_multiple" (defScope s_least_multiple) T.f_least_multiple cdv A outer s H E).nox ⟨R, ρ, O, H, ex⟩ (defBody s_least_multiple) rd_least_multiple :=
  (lss_one (ls_ret (le_bin ol_mul (le_bin ol_fdiv (le_var 0) (le_call (ok_divisor T) hr (by rfl) T.g_divisor T.F_divisor.kp T.b_divisor (ll_cons (le_var 0) (ll_cons (le_var 1) ll_nil)))) (le_var 1))))


theorem ok_least_multiple : FnOk P w K mg base CX0 2 T.f_least_multiple T.fd_least_multiple ["one", "other"] (liftSp R sp_least_multiple) :=
  def_ok T.F_least_multiple sc_least_multiple (fun as O Q QE h => by obtain ⟨_, _, rfl, _⟩ := h; rfl) fun cdv A outer s H E ρ O ex hr => ⟨_, tm_least_multiple T cdv A outer s H E ρ O ex hr, fun as Q QE h => least_multiple_ok h⟩

theorem tm_check_made (cdv : Value) (A : Around) (outer : List Env) (s : Shared) (H : Hp) (E : XK) (ρ : List Addr) (O : Own) (ex : Value → Own → Prop) (hr : Room 0 (A.deeper (PyProof.Rows.envOfC "check_made" (defScope s_check_made) s.heap.objs.size T.f_check_made cdv))) (th : Thr (cxOf (L2.CX P w) P w K mg base N_check_made "check_made" (defScope s_check_made) T.f_check_made cdv A outer s H E) ⟨R, ρ, O, H, ex⟩) :
    LSs (cxOf (L2.CX P w) P w K mg base N_check_made "check_made" (defScope s_check_made) T.f_check_made cdv A outer s H E) ⟨R, ρ, O, H, ex⟩ (defBody s_check_made) (rd_check_made T.C_TooFar ex) :=
  (lss_one (ls_if (lt_w (lw_or (lt_cmp ol_gt (le_var 0) (le_glob (v := V.int 64) rfl T.c_MOST_MADE_VILLAGES ⟨_, rfl⟩ fun _ _ => rel_int) (nomark _)) (lw_or1 (lt_cmp ol_gt (le_var 1) (le_glob (v := V.int 240) rfl T.c_MOST_MADE_ROADS ⟨_, rfl⟩ fun _ _ => rel_int) (nomark _))))) (lss_one (ls_raise th rfl PySem.F.excBase_ValueError T.e_TooFar.xe T.e_TooFar.g T.e_TooFar.kp (raises_own T.e_TooFar.b T.e_TooFar.t) (by rfl))) lss_nil))


theorem ok_check_made : FnOk P w K mg base (L2.CX P w) 1 T.f_check_made T.fd_check_made ["villages", "roads"] (liftSp R (sp_check_made T.C_TooFar)) :=
  def_okX T.F_check_made sc_check_made (fun as O Q QE h => by obtain ⟨_, _, rfl, _⟩ := h; rfl) fun cdv A outer s H E ρ O ex hr th => ⟨_, tm_check_made T cdv A outer s H E ρ O ex hr th, fun as Q QE hx h => check_made_ok hx h⟩

theorem tm_divided (cdv : Value) (A : Around) (outer : List Env) (s : Shared) (H : Hp) (E : XK) (ρ : List Addr) (O : Own) (ex : Value → Own → Prop) (hr : Room 1 (A.deeper (PyProof.Rows.envOfC "divided" (defScope s_divided) s.heap.objs.size T.f_divided cdv))) (th : Thr (cxOf (L2.CX P w) P w K mg base N_divided "divided" (defScope s_divided) T.f_divided cdv A outer s H E) ⟨R, ρ, O, H, ex⟩) :
    LSs (cxOf (L2.CX P w) P w K mg base N_divided "divided" (defScope s_divided) T.f_divided cdv A outer s H E) ⟨R, ρ, O, H, ex⟩ (defBody s_divided) (rd_divided T.C_TooFar ex) :=
  (lss_cons (ls_setLc (own := [("length", 4)]) 3 rfl sc_divided.nd (sw_true rfl rfl rfl (by decide +kernel)) (li_tup (le_var 1)) (blkOk_by (own := [("length", 4)]) (N := N_divided) (sc := defScope s_divided) (by decide +kernel)) (fun _ _ _ _ _ => (lg_name 4 sc_divided.nd)) (fun _ _ _ _ _ => lts_nil) (fun _ _ _ _ _ => (le_bin ol_mul (le_var 4) (le_var 2))))
    (lss_cons (ls_expr (le_callX th (ok_check_made T) hr (by rfl) T.g_check_made T.F_check_made.kp T.b_check_made (ll_cons (le_bin ol_sub (le_bin ol_add (le_bi bl_len (by rfl) T.m_len bt_len (ll_cons (le_ix (le_var 0) le_int) ll_nil)) (le_bi (bl_sum rfl) (by rfl) T.m_sum bt_sum (ll_cons (le_var 3) ll_nil))) (le_bi bl_len (by rfl) T.m_len bt_len (ll_cons (le_var 3) ll_nil))) (ll_cons (le_bi (bl_sum rfl) (by rfl) T.m_sum bt_sum (ll_cons (le_var 3) ll_nil)) ll_nil))))
    (lss_cons (ls_set 5 sc_divided.nd (le_ty tl_list (by rfl) T.m_list bt_list (ll_cons (le_ix (le_var 0) le_int) ll_nil)))
    (lss_cons (ls_set 6 sc_divided.nd (le_lst ll_nil))
    (lss_cons (ls_for (passes_of rfl) rfl (li_zip false true (by rfl) T.m_zip (ll_cons (le_ix (le_var 0) le_int) (ll_cons (le_var 3) ll_nil))) (lg_tup rfl (lgs_cons (lg_tup rfl (lgs_cons (lg_name 7 sc_divided.nd) (lgs_cons (lg_name 8 sc_divided.nd) (lgs_cons (lg_name 9 sc_divided.nd) lgs_nil)))) (lgs_cons (lg_name 10 sc_divided.nd) lgs_nil))) (lss_cons (ls_set 11 sc_divided.nd (le_var 8))
    (lss_one (ls_for (passes_of rfl) rfl (li_range1 (by rfl) T.m_range (le_var 10)) (lg_name 12 sc_divided.nd) (lss_cons (ls_set 13 sc_divided.nd (le_var 9))
    (lss_cons (ls_if (lt_cmp ol_lt (le_var 12) (le_bin ol_sub (le_var 10) le_int) (nomark _)) (lss_cons (ls_set 13 sc_divided.nd (le_fstr (le_bin ol_sub (le_bi bl_len (by rfl) T.m_len bt_len (ll_cons (le_var 5) ll_nil)) (le_bi bl_len (by rfl) T.m_len bt_len (ll_cons (le_ix (le_var 0) le_int) ll_nil)))))
    (lss_one (ls_expr (le_ml PySem.F.slot_list_append PySem.F.type_list_append ml_append (le_var 5) (ll_cons (le_var 13) ll_nil))))) lss_nil)
    (lss_cons (ls_expr (le_ml PySem.F.slot_list_append PySem.F.type_list_append ml_append (le_var 6) (ll_cons (le_tup (ll_cons (le_fstr (le_bi bl_len (by rfl) T.m_len bt_len (ll_cons (le_var 6) ll_nil))) (ll_cons (le_var 11) (ll_cons (le_var 13) ll_nil)))) ll_nil)))
    (lss_one (ls_set 11 sc_divided.nd (le_var 13))))))))))
    (lss_one (ls_ret (le_tup (ll_cons (le_ty tl_tuple (by rfl) T.m_tuple bt_tuple (ll_cons (le_var 5) ll_nil)) (ll_cons (le_ty tl_tuple (by rfl) T.m_tuple bt_tuple (ll_cons (le_var 6) ll_nil)) ll_nil))))))))))


theorem ok_divided : FnOk P w K mg base (L2.CX P w) 2 T.f_divided T.fd_divided ["land", "lengths", "k"] (liftSp R (sp_divided T.C_TooFar)) :=
  def_okX T.F_divided sc_divided (fun as O Q QE h => by obtain ⟨_, _, _, rfl, _⟩ := h; rfl) fun cdv A outer s H E ρ O ex hr th => ⟨_, tm_divided T cdv A outer s H E ρ O ex hr th, fun as Q QE hx h => divided_ok hx h⟩

theorem tm_lengths_by (cdv : Value) (A : Around) (outer : List Env) (s : Shared) (H : Hp) (E : XK) (ρ : List Addr) (O : Own) (ex : Value → Own → Prop) (hr : Room 0 (A.deeper (PyProof.Rows.envOfC "lengths_by" (defScope s_lengths_by) s.heap.objs.size T.f_lengths_by cdv))) :
    LSs (cxOf CX0 P w K mg base N_lengths_by "lengths_by" (defScope s_lengths_by) T.f_lengths_by cdv A outer s H E).nox ⟨R, ρ, O, H, ex⟩ (defBody s_lengths_by) rd_lengths_by :=
  (lss_one (ls_ret (le_dc (own := [("road", 2), ("length", 3)]) rfl sc_lengths_by.nd (li_zip false false (by rfl) T.m_zip (ll_cons (le_ix (le_var 0) le_int) (ll_cons (le_var 1) ll_nil))) (blkOk_by (own := [("road", 2), ("length", 3)]) (N := N_lengths_by) (sc := defScope s_lengths_by) (by decide +kernel)) (fun _ _ _ _ _ => (lg_tup rfl (lgs_cons (lg_name 2 sc_lengths_by.nd) (lgs_cons (lg_name 3 sc_lengths_by.nd) lgs_nil)))) (fun _ _ _ _ _ => lts_nil) (fun _ _ _ _ _ => (le_ix (le_var 2) le_int)) (fun _ _ _ _ _ => (le_var 3)))))


theorem ok_lengths_by : FnOk P w K mg base CX0 1 T.f_lengths_by T.fd_lengths_by ["land", "lengths"] (liftSp R sp_lengths_by) :=
  def_ok T.F_lengths_by sc_lengths_by (fun as O Q QE h => by obtain ⟨_, _, rfl, _⟩ := h; rfl) fun cdv A outer s H E ρ O ex hr => ⟨_, tm_lengths_by T cdv A outer s H E ρ O ex hr, fun as Q QE h => lengths_by_ok h⟩

theorem tm_fit (cdv : Value) (A : Around) (outer : List Env) (s : Shared) (H : Hp) (E : XK) (ρ : List Addr) (O : Own) (ex : Value → Own → Prop) (hr : Room 2 (A.deeper (PyProof.Rows.envOfC "fit" (defScope s_fit) s.heap.objs.size T.f_fit cdv))) :
    LSs (cxOf CX0 P w K mg base N_fit "fit" (defScope s_fit) T.f_fit cdv A outer s H E).nox ⟨R, ρ, O, H, ex⟩ (defBody s_fit) rd_fit :=
  (lss_cons (ls_set 3 sc_fit.nd (le_call (ok_lengths_by T) (hr.mono (by decide)) (by rfl) T.g_lengths_by T.F_lengths_by.kp T.b_lengths_by (ll_cons (le_var 0) (ll_cons (le_var 1) ll_nil))))
    (lss_cons (ls_set 4 sc_fit.nd le_int)
    (lss_cons (ls_for PassesOwn.never rfl (li_tup (le_var 2)) (lg_name 5 sc_fit.nd) (lss_one (ls_for PassesOwn.never rfl (li_tup (le_var 5)) (lg_tup rfl (lgs_cons (lg_name 6 sc_fit.nd) (lgs_cons (lg_name 7 sc_fit.nd) lgs_nil))) (lss_one (ls_if (lt_cmp ol_eq (le_bi bl_len (by rfl) T.m_len bt_len (ll_cons (le_var 6) ll_nil)) le_int (nomark _)) (lss_one (ls_set 4 sc_fit.nd (le_call (ok_least_multiple T) hr (by rfl) T.g_least_multiple T.F_least_multiple.kp T.b_least_multiple (ll_cons (le_var 4) (ll_cons (le_bin ol_fdiv (le_ix (le_var 6) le_int) (le_call (ok_divisor T) (hr.mono (by decide)) (by rfl) T.g_divisor T.F_divisor.kp T.b_divisor (ll_cons (le_ix (le_var 6) le_int) (ll_cons (le_dix hr (le_var 3) (le_ix (le_var 6) le_int)) ll_nil)))) ll_nil))))) lss_nil)))))
    (lss_one (ls_ret (le_var 4))))))


theorem ok_fit : FnOk P w K mg base CX0 3 T.f_fit T.fd_fit ["land", "lengths", "states"] (liftSp R sp_fit) :=
  def_ok T.F_fit sc_fit (fun as O Q QE h => by obtain ⟨_, _, _, rfl, _⟩ := h; rfl) fun cdv A outer s H E ρ O ex hr => ⟨_, tm_fit T cdv A outer s H E ρ O ex hr, fun as Q QE h => fit_ok h⟩

theorem tm_starts_of (cdv : Value) (A : Around) (outer : List Env) (s : Shared) (H : Hp) (E : XK) (ρ : List Addr) (O : Own) (ex : Value → Own → Prop) (hr : Room 0 (A.deeper (PyProof.Rows.envOfC "starts_of" (defScope s_starts_of) s.heap.objs.size T.f_starts_of cdv))) :
    LSs (cxOf CX0 P w K mg base N_starts_of "starts_of" (defScope s_starts_of) T.f_starts_of cdv A outer s H E).nox ⟨R, ρ, O, H, ex⟩ (defBody s_starts_of) rd_starts_of :=
  (lss_cons (ls_set 3 sc_starts_of.nd (le_lst ll_nil))
    (lss_cons (ls_set 4 sc_starts_of.nd (le_bi bl_len (by rfl) T.m_len bt_len (ll_cons (le_ix (le_var 0) le_int) ll_nil)))
    (lss_cons (ls_for PassesOwn.never rfl (li_tup (le_var 1)) (lg_name 5 sc_starts_of.nd) (lss_cons (ls_expr (le_ml PySem.F.slot_list_append PySem.F.type_list_append ml_append (le_var 3) (ll_cons (le_var 4) ll_nil)))
    (lss_one (ls_aug 4 sc_starts_of.nd oi_add (le_bin ol_sub (le_bin ol_mul (le_var 5) (le_var 2)) le_int)))))
    (lss_one (ls_ret (le_bin ol_add (le_var 3) (le_lst (ll_cons (le_var 4) ll_nil))))))))


theorem ok_starts_of : FnOk P w K mg base CX0 1 T.f_starts_of T.fd_starts_of ["land", "lengths", "k"] (liftSp R sp_starts_of) :=
  def_ok T.F_starts_of sc_starts_of (fun as O Q QE h => by obtain ⟨_, _, _, rfl, _⟩ := h; rfl) fun cdv A outer s H E ρ O ex hr => ⟨_, tm_starts_of T cdv A outer s H E ρ O ex hr, fun as Q QE h => starts_of_ok h⟩

theorem tm_laid (cdv : Value) (A : Around) (outer : List Env) (s : Shared) (H : Hp) (E : XK) (ρ : List Addr) (O : Own) (ex : Value → Own → Prop) (hr : Room 1 (A.deeper (PyProof.Rows.envOfC "laid" (defScope s_laid) s.heap.objs.size T.f_laid cdv))) (th : Thr (cxOf (L2.CX P w) P w K mg base N_laid "laid" (defScope s_laid) T.f_laid cdv A outer s H E) ⟨R, ρ, O, H, ex⟩) :
    LSs (cxOf (L2.CX P w) P w K mg base N_laid "laid" (defScope s_laid) T.f_laid cdv A outer s H E) ⟨R, ρ, O, H, ex⟩ (defBody s_laid) (rd_laid T.C_TooFar ex) :=
  (lss_cons (ls_setLc (own := [("length", 5)]) 4 rfl sc_laid.nd (sw_true rfl rfl rfl (by decide +kernel)) (li_tup (le_var 1)) (blkOk_by (own := [("length", 5)]) (N := N_laid) (sc := defScope s_laid) (by decide +kernel)) (fun _ _ _ _ _ => (lg_name 5 sc_laid.nd)) (fun _ _ _ _ _ => lts_nil) (fun _ _ _ _ _ => (le_bin ol_mul (le_var 5) (le_var 2))))
    (lss_cons (ls_expr (le_callX th (ok_check_made T) hr (by rfl) T.g_check_made T.F_check_made.kp T.b_check_made (ll_cons (le_bin ol_sub (le_bin ol_add (le_bi bl_len (by rfl) T.m_len bt_len (ll_cons (le_ix (le_var 0) le_int) ll_nil)) (le_bi (bl_sum rfl) (by rfl) T.m_sum bt_sum (ll_cons (le_var 4) ll_nil))) (le_bi bl_len (by rfl) T.m_len bt_len (ll_cons (le_var 4) ll_nil))) (ll_cons (le_bi (bl_sum rfl) (by rfl) T.m_sum bt_sum (ll_cons (le_var 4) ll_nil)) ll_nil))))
    (lss_cons (ls_set 6 sc_laid.nd (le_call (ok_starts_of T) hr (by rfl) T.g_starts_of T.F_starts_of.kp T.b_starts_of (ll_cons (le_var 0) (ll_cons (le_var 1) (ll_cons (le_var 2) ll_nil)))))
    (lss_cons (ls_setLc (own := [("road", 8)]) 7 rfl sc_laid.nd (sw_true rfl rfl rfl (by decide +kernel)) (li_tup (le_ix (le_var 0) le_int)) (blkOk_by (own := [("road", 8)]) (N := N_laid) (sc := defScope s_laid) (by decide +kernel)) (fun _ _ _ _ _ => (lg_name 8 sc_laid.nd)) (fun _ _ _ _ _ => lts_nil) (fun _ _ _ _ _ => (le_ix (le_var 8) le_int)))
    (lss_cons (ls_set 9 sc_laid.nd (le_bin ol_mul (le_lst (ll_cons le_int ll_nil)) (le_ix (le_var 6) (le_neg le_int))))
    (lss_cons (ls_for (passes_of rfl) rfl (li_tup (le_var 3)) (lg_tup rfl (lgs_cons (lg_name 10 sc_laid.nd) (lgs_cons (lg_name 11 sc_laid.nd) lgs_nil))) (lss_one (ls_if (lt_cmp ol_eq (le_bi bl_len (by rfl) T.m_len bt_len (ll_cons (le_var 10) ll_nil)) le_int (nomark _)) (lss_one (ls_augS oi_add (le_var 9) (le_tix (le_ix (le_var 0) le_int) (le_ix (le_var 10) le_int)) (le_var 11))) (lss_cons (ls_set 8 sc_laid.nd (le_ml PySem.F.slot_list_index PySem.F.type_list_index ml_index (le_var 7) (ll_cons (le_ix (le_var 10) le_int) ll_nil)))
    (lss_one (ls_augS oi_add (le_var 9) (le_bin ol_sub (le_bin ol_add (le_ix (le_var 6) (le_var 8)) (le_bin ol_fdiv (le_bin ol_mul (le_bin ol_mul (le_ix (le_var 10) le_int) (le_ix (le_var 1) (le_var 8))) (le_var 2)) (le_ix (le_var 10) le_int))) le_int) (le_var 11)))))))
    (lss_one (ls_ret (le_ty tl_tuple (by rfl) T.m_tuple bt_tuple (ll_cons (le_var 9) ll_nil))))))))))


theorem ok_laid : FnOk P w K mg base (L2.CX P w) 2 T.f_laid T.fd_laid ["land", "lengths", "k", "state"] (liftSp R (sp_laid T.C_TooFar)) :=
  def_okX T.F_laid sc_laid (fun as O Q QE h => by obtain ⟨_, _, _, _, rfl, _⟩ := h; rfl) fun cdv A outer s H E ρ O ex hr th => ⟨_, tm_laid T cdv A outer s H E ρ O ex hr th, fun as Q QE hx h => laid_ok hx h⟩

theorem tm_law_draw (cdv : Value) (A : Around) (outer : List Env) (s : Shared) (H : Hp) (E : XK) (ρ : List Addr) (O : Own) (ex : Value → Own → Prop) (hr : Room 0 (A.deeper (PyProof.Rows.envOfC "_law_draw" (defScope s_law_draw) s.heap.objs.size T.f_law_draw cdv))) :
    LSs (cxOf CX0 P w K mg base N_law_draw "_law_draw" (defScope s_law_draw) T.f_law_draw cdv A outer s H E).nox ⟨R, ρ, O, H, ex⟩ (defBody s_law_draw) rd_law_draw :=
  (lss_cons (ls_sub (le_var 0) le_int (le_bin ol_add (le_ix (le_var 0) le_int) le_int))
    (lss_cons (ls_if (lt_w (lw_and (lt_cmp ol_eq (le_ix (le_var 0) le_int) le_int (nomark _)) (lw_and1 (lt_cmp ol_gt (le_bi bl_len (by rfl) T.m_len bt_len (ll_cons (le_ix (le_var 0) le_int) ll_nil)) le_int (nomark _))))) (lss_one (ls_sub (le_var 0) le_int (le_ml0 PySem.F.slot_list_pop PySem.F.type_list_pop ml_pop (le_ix (le_var 0) le_int)))) lss_nil)
    (lss_cons (ls_if (lt_cmp ol_gt (le_ix (le_var 0) le_int) le_int (nomark _)) (lss_cons (ls_set 2 sc_law_draw.nd (le_bin ol_mod (le_ty tl_int (by rfl) T.m_int bt_int (ll_cons (le_ix (le_var 0) le_int) ll_nil)) (le_var 1)))
    (lss_cons (ls_sub (le_var 0) le_int (le_bin ol_fdiv (le_ix (le_var 0) le_int) (le_var 1)))
    (lss_one (ls_ret (le_var 2))))) lss_nil)
    (lss_cons (ls_set 3 sc_law_draw.nd (le_ix (le_ix (le_var 0) le_int) (le_bin ol_mod (le_ty tl_int (by rfl) T.m_int bt_int (ll_cons (le_ix (le_var 0) le_int) ll_nil)) (le_bi bl_len (by rfl) T.m_len bt_len (ll_cons (le_ix (le_var 0) le_int) ll_nil)))))
    (lss_cons (ls_set 4 sc_law_draw.nd (le_bin ol_mod (le_ty tl_int (by rfl) T.m_int bt_int (ll_cons (le_bin ol_add (le_bin ol_add (le_bin ol_mul (le_var 3) le_int) (le_bin ol_mul (le_ix (le_var 0) le_int) le_int)) le_int) ll_nil)) le_int))
    (lss_one (ls_ret (le_bin ol_mod (le_bin ol_fdiv (le_bin ol_mod (le_ty tl_int (by rfl) T.m_int bt_int (ll_cons (le_bin ol_add (le_bin ol_add (le_bin ol_mul (le_var 4) (le_var 4)) (le_bin ol_mul (le_var 4) le_int)) (le_bin ol_mul (le_ix (le_var 0) le_int) le_int)) ll_nil)) le_int) le_int) (le_var 1)))))))))


theorem ok_draw0 : FnOk P w K mg base CX0 1 T.f_law_draw T.fd_law_draw ["bag", "many"] (liftSp Res0 sp_draw0) :=
  def_ok T.F_law_draw sc_law_draw (fun as O Q QE h => by obtain ⟨_, _, _, _, _, _, rfl, _⟩ := h; rfl) fun cdv A outer s H E ρ O ex hr => ⟨_, tm_law_draw T cdv A outer s H E ρ O ex hr, fun as Q QE h => law_draw_ok h⟩
theorem ok_law_draw : FnOk P w K mg base CX0 1 T.f_law_draw T.fd_law_draw ["bag", "many"] (liftSp (BagRes bg gg cc) (sp_law_draw bg)) :=
  (ok_draw0 T).imp fun vs H Q E h => draw_conv h

theorem tm_law_same (cdv : Value) (A : Around) (outer : List Env) (s : Shared) (H : Hp) (E : XK) (ρ : List Addr) (O : Own) (ex : Value → Own → Prop) {d : Nat} {spr : ASp} (hrec : FnOk P w K mg base CX0 d T.f_law_same T.fd_law_same ["found", "due"] (liftSp R spr)) (hr : Room d (A.deeper (PyProof.Rows.envOfC "_law_same" (defScope s_law_same) s.heap.objs.size T.f_law_same cdv))) :
    LSs (cxOf CX0 P w K mg base N_law_same "_law_same" (defScope s_law_same) T.f_law_same cdv A outer s H E).nox ⟨R, ρ, O, H, ex⟩ (defBody s_law_same) (rd_law_same spr) :=
  (lss_cons (ls_if (lt_cmp ol_isN (le_var 1) le_non (nomark _)) (lss_one (ls_ret (le_cmp ol_isN (le_var 0) le_non (nomark _)))) lss_nil)
    (lss_cons (ls_if (lt_w (lw_or (lt_tru (le_bi bl_isi (by rfl) T.m_isinstance bt_isinstance (ll_cons (le_var 1) (ll_cons (le_cls (by rfl) T.m_bool bt_bool) ll_nil)))) (lw_or1 (lt_tru (le_bi bl_isi (by rfl) T.m_isinstance bt_isinstance (ll_cons (le_var 0) (ll_cons (le_cls (by rfl) T.m_bool bt_bool) ll_nil))))))) (lss_one (ls_ret (le_and (le_bi bl_isi (by rfl) T.m_isinstance bt_isinstance (ll_cons (le_var 1) (ll_cons (le_cls (by rfl) T.m_bool bt_bool) ll_nil))) (le_and (le_bi bl_isi (by rfl) T.m_isinstance bt_isinstance (ll_cons (le_var 0) (ll_cons (le_cls (by rfl) T.m_bool bt_bool) ll_nil))) (le_one (le_cmp ol_eq (le_var 0) (le_var 1) (nomark _))))))) lss_nil)
    (lss_cons (ls_if (lt_tru (le_bi bl_isi (by rfl) T.m_isinstance bt_isinstance (ll_cons (le_var 1) (ll_cons (le_cls (by rfl) T.m_int bt_int) ll_nil)))) (lss_one (ls_ret (le_and (le_bi bl_isi (by rfl) T.m_isinstance bt_isinstance (ll_cons (le_var 0) (ll_cons (le_cls (by rfl) T.m_int bt_int) ll_nil))) (le_one (le_cmp ol_eq (le_var 0) (le_var 1) (nomark _)))))) lss_nil)
    (lss_cons (ls_if (lt_tru (le_bi bl_isi (by rfl) T.m_isinstance bt_isinstance (ll_cons (le_var 1) (ll_cons (le_cls (by rfl) T.m_str bt_str) ll_nil)))) (lss_one (ls_ret (le_and (le_bi bl_isi (by rfl) T.m_isinstance bt_isinstance (ll_cons (le_var 0) (ll_cons (le_cls (by rfl) T.m_str bt_str) ll_nil))) (le_one (le_cmp ol_eq (le_var 0) (le_var 1) (nomark _)))))) lss_nil)
    (lss_cons (ls_if (lt_w (lw_or (lt_not (lt_tru (le_bi bl_isi (by rfl) T.m_isinstance bt_isinstance (ll_cons (le_var 1) (ll_cons (le_cls (by rfl) T.m_tuple bt_tuple) ll_nil))))) (lw_or (lt_not (lt_tru (le_bi bl_isi (by rfl) T.m_isinstance bt_isinstance (ll_cons (le_var 0) (ll_cons (le_cls (by rfl) T.m_tuple bt_tuple) ll_nil))))) (lw_or1 (lt_cmp ol_ne (le_bi bl_len (by rfl) T.m_len bt_len (ll_cons (le_var 0) ll_nil)) (le_bi bl_len (by rfl) T.m_len bt_len (ll_cons (le_var 1) ll_nil)) (nomark _)))))) (lss_one (ls_ret le_bl)) lss_nil)
    (lss_cons (ls_for PassesOwn.never rfl (li_range1 (by rfl) T.m_range (le_bi bl_len (by rfl) T.m_len bt_len (ll_cons (le_var 1) ll_nil))) (lg_name 2 sc_law_same.nd) (lss_one (ls_if (lt_not (lt_tru (le_call (hrec) hr (by rfl) T.g_law_same T.F_law_same.kp T.b_law_same (ll_cons (le_ix (le_var 0) (le_var 2)) (ll_cons (le_ix (le_var 1) (le_var 2)) ll_nil))))) (lss_one (ls_ret le_bl)) lss_nil)))
    (lss_one (ls_ret le_bl))))))))


theorem ok_same : ∀ d, FnOk P w K mg base CX0 (d + 1) T.f_law_same T.fd_law_same ["found", "due"] (liftSp R (sp_same d))
  | 0 => def_ok T.F_law_same sc_law_same (fun as O Q QE h => by obtain ⟨_, rfl, _⟩ := h; rfl) fun cdv A outer s H E ρ O ex hr =>
      ⟨_, tm_law_same T cdv A outer s H E ρ O ex (d := 0) (spr := fun _ _ _ _ => False) ⟨fun vs H Q E h => by obtain ⟨_, _, _, _, _, _, _, z, _⟩ := h; exact z.elim, fun A outer s H args us vs Q E _ _ _ _ h => by obtain ⟨_, _, _, _, _, _, _, z, _⟩ := h; exact z.elim⟩ hr, fun as Q QE h => law_same_ok0 h⟩
  | d + 1 => def_ok T.F_law_same sc_law_same (fun as O Q QE h => by obtain ⟨_, rfl, _⟩ := h; rfl) fun cdv A outer s H E ρ O ex hr =>
      ⟨_, tm_law_same T cdv A outer s H E ρ O ex (ok_same d) hr, fun as Q QE h => law_same_ok h⟩
theorem ok_law_same : FnOk P w K mg base CX0 10 T.f_law_same T.fd_law_same ["found", "due"] (liftSp R sp_law_same) := ok_same T 9

theorem tm_law_pick (cdv : Value) (A : Around) (outer : List Env) (s : Shared) (H : Hp) (E : XK) (ρ : List Addr) (O : Own) (ex : Value → Own → Prop) (hr : Room 1 (A.deeper (PyProof.Rows.envOfC "_law_pick" (defScope s_law_pick) s.heap.objs.size T.f_law_pick cdv))) :
    LSs (cxOf CX0 P w K mg base N_law_pick "_law_pick" (defScope s_law_pick) T.f_law_pick cdv A outer s H E).nox ⟨(BagRes bg gg cc), ρ, O, H, ex⟩ (defBody s_law_pick) (rd_law_pick bg) :=
  (lss_one (ls_ret (le_ix (le_var 1) (le_call (ok_law_draw T) hr (by rfl) T.g_law_draw T.F_law_draw.kp T.b_law_draw (ll_cons (le_var 0) (ll_cons (le_bi bl_len (by rfl) T.m_len bt_len (ll_cons (le_var 1) ll_nil)) ll_nil))))))


theorem ok_law_pick : FnOk P w K mg base CX0 2 T.f_law_pick T.fd_law_pick ["bag", "some"] (liftSp (BagRes bg gg cc) (sp_law_pick bg)) :=
  def_ok T.F_law_pick sc_law_pick (fun as O Q QE h => by obtain ⟨_, _, rfl, _⟩ := h; rfl) fun cdv A outer s H E ρ O ex hr => ⟨_, tm_law_pick T cdv A outer s H E ρ O ex hr, fun as Q QE h => law_pick_ok h⟩

theorem tm_law_some (cdv : Value) (A : Around) (outer : List Env) (s : Shared) (H : Hp) (E : XK) (ρ : List Addr) (O : Own) (ex : Value → Own → Prop) (hr : Room 1 (A.deeper (PyProof.Rows.envOfC "_law_some" (defScope s_law_some) s.heap.objs.size T.f_law_some cdv))) :
    LSs (cxOf CX0 P w K mg base N_law_some "_law_some" (defScope s_law_some) T.f_law_some cdv A outer s H E).nox ⟨(BagRes bg gg cc), ρ, O, H, ex⟩ (defBody s_law_some) (rd_law_some bg) :=
  (lss_cons (ls_set 3 sc_law_some.nd (le_ty tl_list (by rfl) T.m_list bt_list (ll_cons (le_var 1) ll_nil)))
    (lss_cons (ls_set 4 sc_law_some.nd (le_lst ll_nil))
    (lss_cons (ls_for PassesOwn.never rfl (li_range1 (by rfl) T.m_range (le_var 2)) (lg_name 5 sc_law_some.nd) (lss_one (ls_expr (le_ml PySem.F.slot_list_append PySem.F.type_list_append ml_append (le_var 4) (ll_cons (le_ml PySem.F.slot_list_pop PySem.F.type_list_pop ml_popAt (le_var 3) (ll_cons (le_call (ok_law_draw T) hr (by rfl) T.g_law_draw T.F_law_draw.kp T.b_law_draw (ll_cons (le_var 0) (ll_cons (le_bi bl_len (by rfl) T.m_len bt_len (ll_cons (le_var 3) ll_nil)) ll_nil))) ll_nil)) ll_nil)))))
    (lss_one (ls_ret (le_var 4))))))


theorem ok_law_some : FnOk P w K mg base CX0 2 T.f_law_some T.fd_law_some ["bag", "things", "many"] (liftSp (BagRes bg gg cc) (sp_law_some bg)) :=
  def_ok T.F_law_some sc_law_some (fun as O Q QE h => by obtain ⟨_, _, _, rfl, _⟩ := h; rfl) fun cdv A outer s H E ρ O ex hr => ⟨_, tm_law_some T cdv A outer s H E ρ O ex hr, fun as Q QE h => law_some_ok h⟩

theorem tm_law_divisor (cdv : Value) (A : Around) (outer : List Env) (s : Shared) (H : Hp) (E : XK) (ρ : List Addr) (O : Own) (ex : Value → Own → Prop) (hr : Room 0 (A.deeper (PyProof.Rows.envOfC "_law_divisor" (defScope s_law_divisor) s.heap.objs.size T.f_law_divisor cdv))) :
    LSs (cxOf CX0 P w K mg base N_law_divisor "_law_divisor" (defScope s_law_divisor) T.f_law_divisor cdv A outer s H E).nox ⟨R, ρ, O, H, ex⟩ (defBody s_law_divisor) rd_law_divisor :=
  (lss_cons (ls_par 0 1 rfl sc_law_divisor.nd (ll_cons (le_bi bl_abs (by rfl) T.m_abs bt_abs (ll_cons (le_var 0) ll_nil)) (ll_cons (le_bi bl_abs (by rfl) T.m_abs bt_abs (ll_cons (le_var 1) ll_nil)) ll_nil)))
    (lss_cons (ls_for PassesOwn.never rfl (li_range1 (by rfl) T.m_range le_int) (lg_name 2 sc_law_divisor.nd) (lss_cons (ls_if (lt_cmp ol_eq (le_var 1) le_int (nomark _)) (lss_one ls_break) lss_nil)
    (lss_one (ls_par 0 1 rfl sc_law_divisor.nd (ll_cons (le_var 1) (ll_cons (le_bin ol_mod (le_ty tl_int (by rfl) T.m_int bt_int (ll_cons (le_var 0) ll_nil)) (le_var 1)) ll_nil))))))
    (lss_one (ls_ret (le_var 0)))))


theorem ok_law_divisor : FnOk P w K mg base CX0 1 T.f_law_divisor T.fd_law_divisor ["one", "other"] (liftSp R sp_law_divisor) :=
  def_ok T.F_law_divisor sc_law_divisor (fun as O Q QE h => by obtain ⟨_, _, rfl, _⟩ := h; rfl) fun cdv A outer s H E ρ O ex hr => ⟨_, tm_law_divisor T cdv A outer s H E ρ O ex hr, fun as Q QE h => law_divisor_ok h⟩

theorem tm_law_safe_land (cdv : Value) (A : Around) (outer : List Env) (s : Shared) (H : Hp) (E : XK) (ρ : List Addr) (O : Own) (ex : Value → Own → Prop) (hr : Room 2 (A.deeper (PyProof.Rows.envOfC "_law_safe_land" (defScope s_law_safe_land) s.heap.objs.size T.f_law_safe_land cdv))) :
    LSs (cxOf CX0 P w K mg base N_law_safe_land "_law_safe_land" (defScope s_law_safe_land) T.f_law_safe_land cdv A outer s H E).nox ⟨(BagRes bg gg cc), ρ, O, H, ex⟩ (defBody s_law_safe_land) (rd_law_safe_land bg) :=
  (lss_cons (ls_set 3 sc_law_safe_land.nd (le_bin ol_add le_int (le_call (ok_law_draw T) (hr.mono (by decide)) (by rfl) T.g_law_draw T.F_law_draw.kp T.b_law_draw (ll_cons (le_var 0) (ll_cons (le_bin ol_sub (le_var 1) le_int) ll_nil)))))
    (lss_cons (ls_set 4 sc_law_safe_land.nd (le_call (ok_law_some T) hr (by rfl) T.g_law_some T.F_law_some.kp T.b_law_some (ll_cons (le_var 0) (ll_cons (le_lst (ll_cons le_str (ll_cons le_str (ll_cons le_str (ll_cons le_str (ll_cons le_str (ll_cons le_str (ll_cons le_str (ll_cons le_str ll_nil))))))))) (ll_cons (le_var 3) ll_nil)))))
    (lss_cons (ls_set 5 sc_law_safe_land.nd (le_lst ll_nil))
    (lss_cons (ls_for PassesOwn.never rfl (li_range2 (by rfl) T.m_range le_int (le_var 3)) (lg_name 6 sc_law_safe_land.nd) (lss_one (ls_expr (le_ml PySem.F.slot_list_append PySem.F.type_list_append ml_append (le_var 5) (ll_cons (le_tup (ll_cons (le_ix (le_var 4) (le_call (ok_law_draw T) (hr.mono (by decide)) (by rfl) T.g_law_draw T.F_law_draw.kp T.b_law_draw (ll_cons (le_var 0) (ll_cons (le_var 6) ll_nil)))) (ll_cons (le_ix (le_var 4) (le_var 6)) ll_nil))) ll_nil)))))
    (lss_cons (ls_for PassesOwn.never rfl (li_range1 (by rfl) T.m_range (le_call (ok_law_draw T) (hr.mono (by decide)) (by rfl) T.g_law_draw T.F_law_draw.kp T.b_law_draw (ll_cons (le_var 0) (ll_cons (le_bin ol_add (le_var 2) le_int) ll_nil)))) (lg_name 6 sc_law_safe_land.nd) (lss_one (ls_expr (le_ml PySem.F.slot_list_append PySem.F.type_list_append ml_append (le_var 5) (ll_cons (le_if (lt_cmp ol_eq (le_call (ok_law_draw T) (hr.mono (by decide)) (by rfl) T.g_law_draw T.F_law_draw.kp T.b_law_draw (ll_cons (le_var 0) (ll_cons le_int ll_nil))) le_int (nomark _)) (le_call (ok_law_pick T) hr (by rfl) T.g_law_pick T.F_law_pick.kp T.b_law_pick (ll_cons (le_var 0) (ll_cons (le_var 5) ll_nil))) (le_ty tl_tuple (by rfl) T.m_tuple bt_tuple (ll_cons (le_call (ok_law_some T) hr (by rfl) T.g_law_some T.F_law_some.kp T.b_law_some (ll_cons (le_var 0) (ll_cons (le_var 4) (ll_cons le_int ll_nil)))) ll_nil))) ll_nil)))))
    (lss_cons (ls_set 7 sc_law_safe_land.nd (le_call (ok_law_some T) hr (by rfl) T.g_law_some T.F_law_some.kp T.b_law_some (ll_cons (le_var 0) (ll_cons (le_lst (ll_cons le_str (ll_cons le_str (ll_cons le_str (ll_cons le_str (ll_cons le_str (ll_cons le_str (ll_cons le_str (ll_cons le_str (ll_cons le_str (ll_cons le_str (ll_cons le_str (ll_cons le_str ll_nil))))))))))))) (ll_cons (le_bi bl_len (by rfl) T.m_len bt_len (ll_cons (le_var 5) ll_nil)) ll_nil)))))
    (lss_cons (ls_set 8 sc_law_safe_land.nd (le_lst ll_nil))
    (lss_cons (ls_for PassesOwn.never rfl (li_list (le_call (ok_law_some T) hr (by rfl) T.g_law_some T.F_law_some.kp T.b_law_some (ll_cons (le_var 0) (ll_cons (le_var 5) (ll_cons (le_bi bl_len (by rfl) T.m_len bt_len (ll_cons (le_var 5) ll_nil)) ll_nil))))) (lg_name 9 sc_law_safe_land.nd) (lss_one (ls_expr (le_ml PySem.F.slot_list_append PySem.F.type_list_append ml_append (le_var 8) (ll_cons (le_bin ol_add (le_tup (ll_cons (le_ix (le_var 7) (le_bi bl_len (by rfl) T.m_len bt_len (ll_cons (le_var 8) ll_nil))) ll_nil)) (le_if (lt_cmp ol_eq (le_call (ok_law_draw T) (hr.mono (by decide)) (by rfl) T.g_law_draw T.F_law_draw.kp T.b_law_draw (ll_cons (le_var 0) (ll_cons le_int ll_nil))) le_int (nomark _)) (le_var 9) (le_tup (ll_cons (le_ix (le_var 9) le_int) (ll_cons (le_ix (le_var 9) le_int) ll_nil))))) ll_nil)))))
    (lss_one (ls_ret (le_tup (ll_cons (le_ty tl_tuplek (by rfl) T.m_tuple bt_tuple (ll_cons (le_call (ok_law_some T) hr (by rfl) T.g_law_some T.F_law_some.kp T.b_law_some (ll_cons (le_var 0) (ll_cons (le_var 4) (ll_cons (le_var 3) ll_nil)))) ll_nil)) (ll_cons (le_ty tl_tuple (by rfl) T.m_tuple bt_tuple (ll_cons (le_var 8) ll_nil)) ll_nil)))))))))))))


theorem ok_law_safe_land : FnOk P w K mg base CX0 3 T.f_law_safe_land T.fd_law_safe_land ["bag", "most", "more"] (liftSp (BagRes bg gg cc) (sp_law_safe_land bg)) :=
  def_ok T.F_law_safe_land sc_law_safe_land (fun as O Q QE h => by obtain ⟨rfl, _⟩ := h; rfl) fun cdv A outer s H E ρ O ex hr => ⟨_, tm_law_safe_land T cdv A outer s H E ρ O ex hr, fun as Q QE h => law_safe_land_ok h⟩

theorem tm_law_spots (cdv : Value) (A : Around) (outer : List Env) (s : Shared) (H : Hp) (E : XK) (ρ : List Addr) (O : Own) (ex : Value → Own → Prop) (hr : Room 1 (A.deeper (PyProof.Rows.envOfC "_law_spots" (defScope s_law_spots) s.heap.objs.size T.f_law_spots cdv))) :
    LSs (cxOf CX0 P w K mg base N_law_spots "_law_spots" (defScope s_law_spots) T.f_law_spots cdv A outer s H E).nox ⟨R, ρ, O, H, ex⟩ (defBody s_law_spots) rd_law_spots :=
  (lss_cons (ls_setLc (own := [("village", 4)]) 3 rfl sc_law_spots.nd (sw_true rfl rfl rfl (by decide +kernel)) (li_tup (le_ix (le_var 0) le_int)) (blkOk_by (own := [("village", 4)]) (N := N_law_spots) (sc := defScope s_law_spots) (by decide +kernel)) (fun _ _ _ _ _ => (lg_name 4 sc_law_spots.nd)) (fun _ _ _ _ _ => lts_nil) (fun _ _ _ _ _ => (le_tup (ll_cons (le_var 4) ll_nil))))
    (lss_cons (ls_for PassesOwn.never rfl (li_range1 (by rfl) T.m_range (le_bi bl_len (by rfl) T.m_len bt_len (ll_cons (le_ix (le_var 0) le_int) ll_nil))) (lg_name 5 sc_law_spots.nd) (lss_cons (ls_set 6 sc_law_spots.nd (le_bin ol_mul (le_ix (le_var 1) (le_var 5)) (le_var 2)))
    (lss_one (ls_for PassesOwn.never rfl (li_range2 (by rfl) T.m_range le_int (le_var 6)) (lg_name 7 sc_law_spots.nd) (lss_cons (ls_set 8 sc_law_spots.nd (le_call (ok_law_divisor T) hr (by rfl) T.g_law_divisor T.F_law_divisor.kp T.b_law_divisor (ll_cons (le_var 7) (ll_cons (le_var 6) ll_nil))))
    (lss_one (ls_expr (le_ml PySem.F.slot_list_append PySem.F.type_list_append ml_append (le_var 3) (ll_cons (le_tup (ll_cons (le_ix (le_ix (le_ix (le_var 0) le_int) (le_var 5)) le_int) (ll_cons (le_bin ol_fdiv (le_var 7) (le_var 8)) (ll_cons (le_bin ol_fdiv (le_var 6) (le_var 8)) ll_nil)))) ll_nil)))))))))
    (lss_one (ls_ret (le_var 3)))))


theorem ok_law_spots : FnOk P w K mg base CX0 2 T.f_law_spots T.fd_law_spots ["land", "lengths", "k"] (liftSp R sp_law_spots) :=
  def_ok T.F_law_spots sc_law_spots (fun as O Q QE h => by obtain ⟨_, _, _, rfl, _⟩ := h; rfl) fun cdv A outer s H E ρ O ex hr => ⟨_, tm_law_spots T cdv A outer s H E ρ O ex hr, fun as Q QE h => law_spots_ok h⟩

theorem tm_law_divided (cdv : Value) (A : Around) (outer : List Env) (s : Shared) (H : Hp) (E : XK) (ρ : List Addr) (O : Own) (ex : Value → Own → Prop) (hr : Room 0 (A.deeper (PyProof.Rows.envOfC "_law_divided" (defScope s_law_divided) s.heap.objs.size T.f_law_divided cdv))) :
    LSs (cxOf CX0 P w K mg base N_law_divided "_law_divided" (defScope s_law_divided) T.f_law_divided cdv A outer s H E).nox ⟨R, ρ, O, H, ex⟩ (defBody s_law_divided) rd_law_divided :=
  (lss_cons (ls_par3 3 4 5 rfl sc_law_divided.nd (ll_cons (le_ty tl_list (by rfl) T.m_list bt_list (ll_cons (le_ix (le_var 0) le_int) ll_nil)) (ll_cons (le_lst ll_nil) (ll_cons le_int ll_nil))))
    (lss_cons (ls_for PassesOwn.never rfl (li_range1 (by rfl) T.m_range (le_bi bl_len (by rfl) T.m_len bt_len (ll_cons (le_ix (le_var 0) le_int) ll_nil))) (lg_name 6 sc_law_divided.nd) (lss_cons (ls_asg (le_ix (le_ix (le_var 0) le_int) (le_var 6)) (lg_tup rfl (lgs_cons (lg_name 7 sc_law_divided.nd) (lgs_cons (lg_name 8 sc_law_divided.nd) (lgs_cons (lg_name 9 sc_law_divided.nd) lgs_nil)))))
    (lss_cons (ls_set 10 sc_law_divided.nd (le_lst (ll_cons (le_var 8) ll_nil)))
    (lss_cons (ls_for PassesOwn.never rfl (li_range1 (by rfl) T.m_range (le_bin ol_sub (le_bin ol_mul (le_ix (le_var 1) (le_var 6)) (le_var 2)) le_int)) (lg_name 11 sc_law_divided.nd) (lss_cons (ls_expr (le_ml PySem.F.slot_list_append PySem.F.type_list_append ml_append (le_var 10) (ll_cons (le_bin ol_add le_str (le_ty tl_str (by rfl) T.m_str bt_str (ll_cons (le_var 5) ll_nil))) ll_nil)))
    (lss_cons (ls_expr (le_ml PySem.F.slot_list_append PySem.F.type_list_append ml_append (le_var 3) (ll_cons (le_bin ol_add le_str (le_ty tl_str (by rfl) T.m_str bt_str (ll_cons (le_var 5) ll_nil))) ll_nil)))
    (lss_one (ls_set 5 sc_law_divided.nd (le_bin ol_add (le_var 5) le_int))))))
    (lss_cons (ls_expr (le_ml PySem.F.slot_list_append PySem.F.type_list_append ml_append (le_var 10) (ll_cons (le_var 9) ll_nil)))
    (lss_one (ls_for PassesOwn.never rfl (li_range1 (by rfl) T.m_range (le_bin ol_sub (le_bi bl_len (by rfl) T.m_len bt_len (ll_cons (le_var 10) ll_nil)) le_int)) (lg_name 11 sc_law_divided.nd) (lss_one (ls_expr (le_ml PySem.F.slot_list_append PySem.F.type_list_append ml_append (le_var 4) (ll_cons (le_tup (ll_cons (le_bin ol_add le_str (le_ty tl_str (by rfl) T.m_str bt_str (ll_cons (le_bi bl_len (by rfl) T.m_len bt_len (ll_cons (le_var 4) ll_nil)) ll_nil))) (ll_cons (le_ix (le_var 10) (le_var 11)) (ll_cons (le_ix (le_var 10) (le_bin ol_add (le_var 11) le_int)) ll_nil)))) ll_nil)))))))))))
    (lss_one (ls_ret (le_tup (ll_cons (le_ty tl_tuple (by rfl) T.m_tuple bt_tuple (ll_cons (le_var 3) ll_nil)) (ll_cons (le_ty tl_tuple (by rfl) T.m_tuple bt_tuple (ll_cons (le_var 4) ll_nil)) ll_nil)))))))


theorem ok_law_divided : FnOk P w K mg base CX0 1 T.f_law_divided T.fd_law_divided ["land", "lengths", "k"] (liftSp R sp_law_divided) :=
  def_ok T.F_law_divided sc_law_divided (fun as O Q QE h => by obtain ⟨_, _, _, rfl, _⟩ := h; rfl) fun cdv A outer s H E ρ O ex hr => ⟨_, tm_law_divided T cdv A outer s H E ρ O ex hr, fun as Q QE h => law_divided_ok h⟩

theorem tm_law_fit (cdv : Value) (A : Around) (outer : List Env) (s : Shared) (H : Hp) (E : XK) (ρ : List Addr) (O : Own) (ex : Value → Own → Prop) (hr : Room 1 (A.deeper (PyProof.Rows.envOfC "_law_fit" (defScope s_law_fit) s.heap.objs.size T.f_law_fit cdv))) :
    LSs (cxOf CX0 P w K mg base N_law_fit "_law_fit" (defScope s_law_fit) T.f_law_fit cdv A outer s H E).nox ⟨R, ρ, O, H, ex⟩ (defBody s_law_fit) rd_law_fit :=
  (lss_cons (ls_par 3 4 rfl sc_law_fit.nd (ll_cons (le_lc (own := [("road", 5)]) rfl sc_law_fit.nd (li_tup (le_ix (le_var 0) le_int)) (blkOk_by (own := [("road", 5)]) (N := N_law_fit) (sc := defScope s_law_fit) (by decide +kernel)) (fun _ _ _ _ _ => (lg_name 5 sc_law_fit.nd)) (fun _ _ _ _ _ => lts_nil) (fun _ _ _ _ _ => (le_ix (le_var 5) le_int))) (ll_cons le_int ll_nil)))
    (lss_cons (ls_for PassesOwn.never rfl (li_tup (le_var 2)) (lg_name 6 sc_law_fit.nd) (lss_one (ls_for PassesOwn.never rfl (li_tup (le_var 6)) (lg_tup rfl (lgs_cons (lg_name 7 sc_law_fit.nd) (lgs_cons (lg_name 8 sc_law_fit.nd) lgs_nil))) (lss_one (ls_if (lt_cmp ol_eq (le_bi bl_len (by rfl) T.m_len bt_len (ll_cons (le_var 7) ll_nil)) le_int (nomark _)) (lss_cons (ls_set 9 sc_law_fit.nd (le_bin ol_fdiv (le_ix (le_var 7) le_int) (le_call (ok_law_divisor T) hr (by rfl) T.g_law_divisor T.F_law_divisor.kp T.b_law_divisor (ll_cons (le_ix (le_var 7) le_int) (ll_cons (le_ix (le_var 1) (le_ml PySem.F.slot_list_index PySem.F.type_list_index ml_index (le_var 3) (ll_cons (le_ix (le_var 7) le_int) ll_nil))) ll_nil)))))
    (lss_one (ls_set 4 sc_law_fit.nd (le_bin ol_fdiv (le_bin ol_mul (le_var 4) (le_var 9)) (le_call (ok_law_divisor T) hr (by rfl) T.g_law_divisor T.F_law_divisor.kp T.b_law_divisor (ll_cons (le_var 4) (ll_cons (le_var 9) ll_nil))))))) lss_nil)))))
    (lss_one (ls_ret (le_var 4)))))


theorem ok_law_fit : FnOk P w K mg base CX0 2 T.f_law_fit T.fd_law_fit ["land", "lengths", "states"] (liftSp R sp_law_fit) :=
  def_ok T.F_law_fit sc_law_fit (fun as O Q QE h => by obtain ⟨_, _, _, rfl, _⟩ := h; rfl) fun cdv A outer s H E ρ O ex hr => ⟨_, tm_law_fit T cdv A outer s H E ρ O ex hr, fun as Q QE h => law_fit_ok h⟩

theorem tm_law_laid (cdv : Value) (A : Around) (outer : List Env) (s : Shared) (H : Hp) (E : XK) (ρ : List Addr) (O : Own) (ex : Value → Own → Prop) (hr : Room 2 (A.deeper (PyProof.Rows.envOfC "_law_laid" (defScope s_law_laid) s.heap.objs.size T.f_law_laid cdv))) :
    LSs (cxOf CX0 P w K mg base N_law_laid "_law_laid" (defScope s_law_laid) T.f_law_laid cdv A outer s H E).nox ⟨R, ρ, O, H, ex⟩ (defBody s_law_laid) rd_law_laid :=
  (lss_cons (ls_asg (le_tup (ll_cons (le_call (ok_law_spots T) hr (by rfl) T.g_law_spots T.F_law_spots.kp T.b_law_spots (ll_cons (le_var 0) (ll_cons (le_var 1) (ll_cons (le_var 2) ll_nil)))) (ll_cons (le_ty (tl_dictT rfl hr.units) (by rfl) T.m_dict bt_dict (ll_cons (le_var 3) ll_nil)) ll_nil))) (lg_tup rfl (lgs_cons (lg_name 4 sc_law_laid.nd) (lgs_cons (lg_name 5 sc_law_laid.nd) lgs_nil))))
    (lss_one (ls_ret (le_ty tl_tuple (by rfl) T.m_tuple bt_tuple (ll_cons (le_lc (own := [("spot", 6)]) rfl sc_law_laid.nd (li_list (le_var 4)) (blkOk_by (own := [("spot", 6)]) (N := N_law_laid) (sc := defScope s_law_laid) (by decide +kernel)) (fun _ _ _ _ _ => (lg_name 6 sc_law_laid.nd)) (fun _ _ _ _ _ => lts_nil) (fun _ _ _ _ _ => (le_dget2 hr (le_var 5) (le_var 6) le_int ⟨rfl, rfl, rfl, rfl⟩))) ll_nil)))))


theorem ok_law_laid : FnOk P w K mg base CX0 3 T.f_law_laid T.fd_law_laid ["land", "lengths", "k", "state"] (liftSp R sp_law_laid) :=
  def_ok T.F_law_laid sc_law_laid (fun as O Q QE h => by obtain ⟨_, _, _, _, rfl, _⟩ := h; rfl) fun cdv A outer s H E ρ O ex hr => ⟨_, tm_law_laid T cdv A outer s H E ρ O ex hr, fun as Q QE h => law_laid_ok h⟩

theorem tm_law_lengths (cdv : Value) (A : Around) (outer : List Env) (s : Shared) (H : Hp) (E : XK) (ρ : List Addr) (O : Own) (ex : Value → Own → Prop) (hr : Room 1 (A.deeper (PyProof.Rows.envOfC "_law_lengths" (defScope s_law_lengths) s.heap.objs.size T.f_law_lengths cdv))) :
    LSs (cxOf CX0 P w K mg base N_law_lengths "_law_lengths" (defScope s_law_lengths) T.f_law_lengths cdv A outer s H E).nox ⟨(BagRes bg gg cc), ρ, O, H, ex⟩ (defBody s_law_lengths) (rd_law_lengths bg) :=
  (lss_one (ls_ret (le_ty tl_tuple (by rfl) T.m_tuple bt_tuple (ll_cons (le_lc (own := [("road", 3)]) rfl sc_law_lengths.nd (li_tup (le_ix (le_var 1) le_int)) (blkOk_by (own := [("road", 3)]) (N := N_law_lengths) (sc := defScope s_law_lengths) (by decide +kernel)) (fun _ _ _ _ _ => (lg_name 3 sc_law_lengths.nd)) (fun _ _ _ _ _ => lts_nil) (fun _ _ _ _ _ => (le_bin ol_add le_int (le_call (ok_law_draw T) hr (by rfl) T.g_law_draw T.F_law_draw.kp T.b_law_draw (ll_cons (le_var 0) (ll_cons (le_var 2) ll_nil)))))) ll_nil))))


theorem ok_law_lengths : FnOk P w K mg base CX0 2 T.f_law_lengths T.fd_law_lengths ["bag", "land", "most"] (liftSp (BagRes bg gg cc) (sp_law_lengths bg)) :=
  def_ok T.F_law_lengths sc_law_lengths (fun as O Q QE h => by obtain ⟨_, _, rfl, _⟩ := h; rfl) fun cdv A outer s H E ρ O ex hr => ⟨_, tm_law_lengths T cdv A outer s H E ρ O ex hr, fun as Q QE h => law_lengths_ok h⟩

theorem tm_law_drawn_state (cdv : Value) (A : Around) (outer : List Env) (s : Shared) (H : Hp) (E : XK) (ρ : List Addr) (O : Own) (ex : Value → Own → Prop) (hr : Room 2 (A.deeper (PyProof.Rows.envOfC "_law_drawn_state" (defScope s_law_drawn_state) s.heap.objs.size T.f_law_drawn_state cdv))) :
    LSs (cxOf CX0 P w K mg base N_law_drawn_state "_law_drawn_state" (defScope s_law_drawn_state) T.f_law_drawn_state cdv A outer s H E).nox ⟨(BagRes bg gg cc), ρ, O, H, ex⟩ (defBody s_law_drawn_state) (rd_law_drawn_state bg) :=
  (lss_cons (ls_set 3 sc_law_drawn_state.nd le_newT)
    (lss_cons (ls_for PassesOwn.never rfl (li_range1 (by rfl) T.m_range (le_call (ok_law_draw T) (hr.mono (by decide)) (by rfl) T.g_law_draw T.F_law_draw.kp T.b_law_draw (ll_cons (le_var 0) (ll_cons le_int ll_nil)))) (lg_name 4 sc_law_drawn_state.nd) (lss_cons (ls_set 5 sc_law_drawn_state.nd (le_tup (ll_cons (le_call (ok_law_pick T) hr (by rfl) T.g_law_pick T.F_law_pick.kp T.b_law_pick (ll_cons (le_var 0) (ll_cons (le_ix (le_var 1) le_int) ll_nil))) ll_nil)))
    (lss_cons (ls_if (lt_cmp ol_gt (le_call (ok_law_draw T) (hr.mono (by decide)) (by rfl) T.g_law_draw T.F_law_draw.kp T.b_law_draw (ll_cons (le_var 0) (ll_cons le_int ll_nil))) le_int (nomark _)) (lss_cons (ls_set 6 sc_law_drawn_state.nd (le_bin ol_add le_int (le_call (ok_law_draw T) (hr.mono (by decide)) (by rfl) T.g_law_draw T.F_law_draw.kp T.b_law_draw (ll_cons (le_var 0) (ll_cons (le_ix (le_lst (ll_cons le_int (ll_cons le_int ll_nil))) (le_bin ol_fdiv (le_call (ok_law_draw T) (hr.mono (by decide)) (by rfl) T.g_law_draw T.F_law_draw.kp T.b_law_draw (ll_cons (le_var 0) (ll_cons le_int ll_nil))) le_int)) ll_nil)))))
    (lss_cons (ls_set 7 sc_law_drawn_state.nd (le_bin ol_add le_int (le_call (ok_law_draw T) (hr.mono (by decide)) (by rfl) T.g_law_draw T.F_law_draw.kp T.b_law_draw (ll_cons (le_var 0) (ll_cons (le_bin ol_sub (le_var 6) le_int) ll_nil)))))
    (lss_cons (ls_set 8 sc_law_drawn_state.nd (le_call (ok_law_divisor T) (hr.mono (by decide)) (by rfl) T.g_law_divisor T.F_law_divisor.kp T.b_law_divisor (ll_cons (le_var 7) (ll_cons (le_var 6) ll_nil))))
    (lss_one (ls_set 5 sc_law_drawn_state.nd (le_tup (ll_cons (le_ix (le_call (ok_law_pick T) hr (by rfl) T.g_law_pick T.F_law_pick.kp T.b_law_pick (ll_cons (le_var 0) (ll_cons (le_ix (le_var 1) le_int) ll_nil))) le_int) (ll_cons (le_bin ol_fdiv (le_var 7) (le_var 8)) (ll_cons (le_bin ol_fdiv (le_var 6) (le_var 8)) ll_nil))))))))) lss_nil)
    (lss_one (ls_dput hr (le_var 3) (le_var 5) (le_call (ok_law_pick T) hr (by rfl) T.g_law_pick T.F_law_pick.kp T.b_law_pick (ll_cons (le_var 0) (ll_cons (le_lst (ll_cons (le_neg le_int) (ll_cons (le_neg le_int) (ll_cons le_int (ll_cons le_int (ll_cons (le_bin ol_pow le_int le_int) ll_nil)))))) ll_nil))))))))
    (lss_one (ls_ret (le_ty tl_tuplek (by rfl) T.m_tuple bt_tuple (ll_cons (le_sortedItems hr (by rfl) T.m_sorted (le_var 3)) ll_nil))))))


theorem ok_law_drawn_state : FnOk P w K mg base CX0 3 T.f_law_drawn_state T.fd_law_drawn_state ["bag", "land", "lengths"] (liftSp (BagRes bg gg cc) (sp_law_drawn_state bg)) :=
  def_ok T.F_law_drawn_state sc_law_drawn_state (fun as O Q QE h => by obtain ⟨_, _, rfl, _⟩ := h; rfl) fun cdv A outer s H E ρ O ex hr => ⟨_, tm_law_drawn_state T cdv A outer s H E ρ O ex hr, fun as Q QE h => law_drawn_state_ok h⟩

theorem tm_law_told (cdv : Value) (A : Around) (outer : List Env) (s : Shared) (H : Hp) (E : XK) (ρ : List Addr) (O : Own) (ex : Value → Own → Prop) (hr : Room 2 (A.deeper (PyProof.Rows.envOfC "_law_told" (defScope s_law_told) s.heap.objs.size T.f_law_told cdv))) :
    LSs (cxOf CX0 P w K mg base N_law_told "_law_told" (defScope s_law_told) T.f_law_told cdv A outer s H E).nox ⟨R, ρ, O, H, ex⟩ (defBody s_law_told) (rd_law_told T.C_TooFar) :=
  (lss_one (ls_try rfl rfl ⟨by rfl, by decide, .inl T.e_TooFar.g⟩ T.e_TooFar.ex (fun ρ O H ex pn xe th po => (lss_cons (ls_if (lt_cmp ol_eq (le_var 0) le_int (nomark _)) (lss_one (ls_ret (le_tup (ll_cons le_str (ll_cons (le_callX th (ok_divided T) hr (by rfl) T.g_divided T.F_divided.kp T.b_divided (ll_cons (le_var 1) (ll_cons (le_var 2) (ll_cons (le_var 3) ll_nil)))) ll_nil))))) lss_nil)
    (lss_cons (ls_if (lt_cmp ol_eq (le_var 0) le_int (nomark _)) (lss_one (ls_ret (le_tup (ll_cons le_str (ll_cons (le_callKX th (ok_divided T) hr (by rfl) T.g_divided T.F_divided.kp T.kb_divided_land_lengths_k (lk_cons (le_var 1) (lk_cons (le_var 2) (lk_cons (le_var 3) lk_nil)))) ll_nil))))) lss_nil)
    (lss_cons (ls_if (lt_cmp ol_eq (le_var 0) le_int (nomark _)) (lss_one (ls_ret (le_tup (ll_cons le_str (ll_cons (le_callX th (ok_laid T) hr (by rfl) T.g_laid T.F_laid.kp T.b_laid (ll_cons (le_var 1) (ll_cons (le_var 2) (ll_cons (le_var 3) (ll_cons (le_var 4) ll_nil))))) ll_nil))))) lss_nil)
    (lss_one (ls_ret (le_tup (ll_cons le_str (ll_cons (le_callKX th (ok_laid T) hr (by rfl) T.g_laid T.F_laid.kp T.kb_laid_land_lengths_k_state (lk_cons (le_var 1) (lk_cons (le_var 2) (lk_cons (le_var 3) (lk_cons (le_var 4) lk_nil))))) ll_nil))))))))) (fun a oe pn => (lss_one (ls_ret (le_tup (ll_cons le_str (ll_cons le_non ll_nil))))))))


theorem ok_law_told : FnOk P w K mg base CX0 3 T.f_law_told T.fd_law_told ["which", "land", "lengths", "k", "state"] (liftSp R sp_law_told) :=
  def_ok T.F_law_told sc_law_told (fun as O Q QE h => by obtain ⟨_, _, _, _, _, rfl, _⟩ := h; rfl) fun cdv A outer s H E ρ O ex hr => ⟨_, tm_law_told T cdv A outer s H E ρ O ex hr, fun as Q QE h => law_told_ok h⟩

theorem tm_law_is_far (cdv : Value) (A : Around) (outer : List Env) (s : Shared) (H : Hp) (E : XK) (ρ : List Addr) (O : Own) (ex : Value → Own → Prop) (hr : Room 0 (A.deeper (PyProof.Rows.envOfC "_law_is_far" (defScope s_law_is_far) s.heap.objs.size T.f_law_is_far cdv))) :
    LSs (cxOf CX0 P w K mg base N_law_is_far "_law_is_far" (defScope s_law_is_far) T.f_law_is_far cdv A outer s H E).nox ⟨R, ρ, O, H, ex⟩ (defBody s_law_is_far) rd_law_is_far :=
  (lss_cons (ls_set 3 sc_law_is_far.nd (le_bin ol_mul (le_bi (bl_sumT rfl) (by rfl) T.m_sum bt_sum (ll_cons (le_var 1) ll_nil)) (le_var 2)))
    (lss_one (ls_ret (le_or (le_cmp ol_gt (le_var 3) le_int (nomark _)) (le_one (le_cmp ol_gt (le_bin ol_sub (le_bin ol_add (le_bi bl_len (by rfl) T.m_len bt_len (ll_cons (le_ix (le_var 0) le_int) ll_nil)) (le_var 3)) (le_bi bl_len (by rfl) T.m_len bt_len (ll_cons (le_var 1) ll_nil))) le_int (nomark _)))))))


theorem ok_law_is_far : FnOk P w K mg base CX0 1 T.f_law_is_far T.fd_law_is_far ["land", "lengths", "k"] (liftSp R sp_law_is_far) :=
  def_ok T.F_law_is_far sc_law_is_far (fun as O Q QE h => by obtain ⟨_, _, _, rfl, _⟩ := h; rfl) fun cdv A outer s H E ρ O ex hr => ⟨_, tm_law_is_far T cdv A outer s H E ρ O ex hr, fun as Q QE h => law_is_far_ok h⟩

theorem tm_law_bag (cdv : Value) (A : Around) (outer : List Env) (s : Shared) (H : Hp) (E : XK) (ρ : List Addr) (O : Own) (ex : Value → Own → Prop) {sa : Addr} {ns : List Int} (hS : Scr K H sa ns) (hr : Room 0 (A.deeper (PyProof.Rows.envOfC "_law_bag" (defScope s_law_bag) s.heap.objs.size T.f_law_bag cdv))) :
    LSs (cxOf CX0 P w K mg base N_law_bag "_law_bag" (defScope s_law_bag) T.f_law_bag cdv A outer s H E).nox ⟨R, ρ, O, H, ex⟩ (defBody s_law_bag) (rd_law_bag sa ns) :=
  (lss_cons (ls_set 1 sc_law_bag.nd (le_bin ol_add (le_lc (own := [("cell", 2)]) rfl sc_law_bag.nd (li_scr hS (le_var 0)) (blkOk_by (own := [("cell", 2)]) (N := N_law_bag) (sc := defScope s_law_bag) (by decide +kernel)) (fun _ _ _ _ _ => (lg_name 2 sc_law_bag.nd)) (fun _ _ _ _ _ => lts_nil) (fun _ _ _ _ _ => (le_bi bl_abs (by rfl) T.m_abs bt_abs (ll_cons (le_ty tl_int (by rfl) T.m_int bt_int (ll_cons (le_var 2) ll_nil)) ll_nil)))) (le_lst (ll_cons le_int ll_nil))))
    (lss_cons (ls_set 3 sc_law_bag.nd (le_lst ll_nil))
    (lss_cons (ls_if (lt_cmp ol_eq (le_bin ol_mod (le_ty tl_int (by rfl) T.m_int bt_int (ll_cons (le_ix (le_var 1) le_int) ll_nil)) le_int) le_int (nomark _)) (lss_cons (ls_setLc (own := [("cell", 2)]) 3 rfl sc_law_bag.nd (sw_true rfl rfl rfl (by decide +kernel)) (li_list (le_var 1)) (blkOk_by (own := [("cell", 2)]) (N := N_law_bag) (sc := defScope s_law_bag) (by decide +kernel)) (fun _ _ _ _ _ => (lg_name 2 sc_law_bag.nd)) (fun _ _ _ _ _ => (lts_one (lt_cmp ol_ge (le_var 2) (le_bin ol_pow le_int le_int) (nomark _)))) (fun _ _ _ _ _ => (le_bin ol_fdiv (le_var 2) le_int)))
    (lss_one (ls_expr (le_ml0 PySem.F.slot_list_reverse PySem.F.type_list_reverse ml_reverse (le_var 3))))) lss_nil)
    (lss_one (ls_ret (le_lst (ll_cons le_int (ll_cons le_int (ll_cons (le_var 3) (ll_cons (le_lc (own := [("cell", 2)]) rfl sc_law_bag.nd (li_list (le_var 1)) (blkOk_by (own := [("cell", 2)]) (N := N_law_bag) (sc := defScope s_law_bag) (by decide +kernel)) (fun _ _ _ _ _ => (lg_name 2 sc_law_bag.nd)) (fun _ _ _ _ _ => lts_nil) (fun _ _ _ _ _ => (le_bin ol_mod (le_ty tl_int (by rfl) T.m_int bt_int (ll_cons (le_var 2) ll_nil)) le_int))) ll_nil))))))))))


def sp_bag (K : PySem.W.Frag) : L2.Sp := fun vs H QV _ => ∃ (sa : Addr) (ns : List Int), vs = [.ref sa] ∧ Scr K H sa ns ∧ ns.length ≤ 63 ∧ ∀ H' bg gg cc, BagOk bg gg cc H' → QV (.ref bg) H'
theorem ok_law_bag : FnOk P w K mg base CX0 1 T.f_law_bag T.fd_law_bag ["script"] (sp_bag K) := by
  refine T.F_law_bag.ok sc_law_bag (fun vs H Q E h => by obtain ⟨_, _, rfl, _⟩ := h; rfl) fun cdv A outer s H vs QV E hr h => ?_
  obtain ⟨sa, ns, rfl, hS, hn, q⟩ := h
  have F0 : Fm Res0 [] [] H := ⟨rfl, List.nodup_nil, fun n o e => (by cases e), fun p hp => absurd hp List.not_mem_nil, trivial⟩
  have rs : RelAs H [] [PyA.A.raw (.ref sa)] [.ref sa] := RelAs.cons rel_raw RelAs.nil
  refine ⟨_, tm_law_bag T cdv A outer s H E [] [] noEx (R := Res0) hS hr, [], [], startA N_law_bag [.raw (.ref sa)], { nx := fun _ _ => False, rt := fun a Oe => ∃ m g c, a = .own m ∧ IsBag m g c Oe }, ⟨F0, start_sl rs, F0, Sp.refl⟩, law_bag_rd hn (fun m g c Oe hb => ⟨m, g, c, rfl, hb⟩),
    ⟨fun _ _ _ _ _ _ _ z => z.elim, fun v H' ρ' O' a F' s' r z => ?_, fun _ _ _ _ _ _ _ z => z.elim, fun _ _ _ _ _ _ _ z => z.elim⟩⟩
  obtain ⟨m, g, c, rfl, hb⟩ := z
  obtain ⟨gs, cs, h0, h1, h2, h3⟩ := hb.ex
  obtain ⟨pm, hom, g1, g2, vsb, rfl, g3⟩ := F'.ob m _ h1
  obtain ⟨pg, hog, g4, g5, vsg, rfl, g6⟩ := F'.ob g _ h2
  obtain ⟨pc, hoc, g7, g8, vsc, rfl, g9⟩ := F'.ob c _ h3
  rw [vI_of g6] at g5
  rw [vI_of g9] at g8
  have evb : vsb = [.int 0, .int 0, .ref pg, .ref pc] := by
    obtain ⟨v1, t1, rfl, y1, t1'⟩ := RelAs.cons_iff.mp g3
    obtain ⟨v2, t2, rfl, y2, t2'⟩ := RelAs.cons_iff.mp t1'
    obtain ⟨v3, v4, rfl, y3, y4⟩ := rel2 t2'
    unfold RelA at y1 y2 y3 y4
    obtain ⟨q3, rfl, w3⟩ := y3
    obtain ⟨q4, rfl, w4⟩ := y4
    rw [g4] at w3
    rw [g7] at w4
    cases w3
    cases w4
    rw [y1, y2]
  rw [evb] at g2
  unfold RelA at r
  obtain ⟨p, rfl, hp⟩ := r
  rw [g1] at hp
  cases hp
  exact q H' pm pg pc ⟨fun e => hb.n1 (lv_inj F'.nd g1 (e ▸ g4)), fun e => hb.n2 (lv_inj F'.nd g1 (e ▸ g7)), fun e => hb.n3 (lv_inj F'.nd g4 (e ▸ g7)), 0, 0, gs, cs, h0, g2, g5, g8⟩

theorem tm_law (cdv : Value) (A : Around) (outer : List Env) (s : Shared) (H : Hp) (E : XK) (ρ : List Addr) (O : Own) (ex : Value → Own → Prop) (H1 : Hp) (hr : Room 10 (A.deeper (PyProof.Rows.envOfC "law" (defScope s_law) s.heap.objs.size T.f_law cdv))) :
    LSs (cxOf CX0 P w K mg base N_law "law" (defScope s_law) T.f_law cdv A outer s H E).nox ⟨(BagRes bg gg cc), ρ, O, H1, ex⟩ ((defBody s_law).drop 1) (rd_law bg) :=
  (lss_cons (ls_for PassesOwn.never rfl (li_range1 (by rfl) T.m_range le_int) (lg_name 2 sc_law.nd) (lss_cons (ls_set 3 sc_law.nd (le_call (ok_law_safe_land T) (hr.mono (by decide)) (by rfl) T.g_law_safe_land T.F_law_safe_land.kp T.b_law_safe_land (ll_cons (le_var 1) (ll_cons le_int (ll_cons le_int ll_nil)))))
    (lss_cons (ls_set 4 sc_law.nd (le_call (ok_law_lengths T) (hr.mono (by decide)) (by rfl) T.g_law_lengths T.F_law_lengths.kp T.b_law_lengths (ll_cons (le_var 1) (ll_cons (le_var 3) (ll_cons (le_call (ok_law_pick T) (hr.mono (by decide)) (by rfl) T.g_law_pick T.F_law_pick.kp T.b_law_pick (ll_cons (le_var 1) (ll_cons (le_lst (ll_cons le_int (ll_cons le_int (ll_cons le_int ll_nil)))) ll_nil))) ll_nil)))))
    (lss_cons (ls_set 5 sc_law.nd (le_ty tl_tuple (by rfl) T.m_tuple bt_tuple (ll_cons (le_lc (own := [("k", 6)]) rfl sc_law.nd (li_range1 (by rfl) T.m_range (le_call (ok_law_draw T) (hr.mono (by decide)) (by rfl) T.g_law_draw T.F_law_draw.kp T.b_law_draw (ll_cons (le_var 1) (ll_cons le_int ll_nil)))) (blkOk_by (own := [("k", 6)]) (N := N_law) (sc := defScope s_law) (by decide +kernel)) (fun _ _ _ _ _ => (lg_name 6 sc_law.nd)) (fun _ _ _ _ _ => lts_nil) (fun _ _ _ _ _ => (le_call (ok_law_drawn_state T) (hr.mono (by decide)) (by rfl) T.g_law_drawn_state T.F_law_drawn_state.kp T.b_law_drawn_state (ll_cons (le_var 1) (ll_cons (le_var 3) (ll_cons (le_var 4) ll_nil)))))) ll_nil)))
    (lss_cons (ls_set 7 sc_law.nd (le_call (ok_law_fit T) (hr.mono (by decide)) (by rfl) T.g_law_fit T.F_law_fit.kp T.b_law_fit (ll_cons (le_var 3) (ll_cons (le_var 4) (ll_cons (le_var 5) ll_nil)))))
    (lss_cons (ls_if (lt_w (lw_or (lt_not (lt_tru (le_call (ok_law_same T) hr (by rfl) T.g_law_same T.F_law_same.kp T.b_law_same (ll_cons (le_call (ok_fit T) (hr.mono (by decide)) (by rfl) T.g_fit T.F_fit.kp T.b_fit (ll_cons (le_var 3) (ll_cons (le_var 4) (ll_cons (le_var 5) ll_nil)))) (ll_cons (le_var 7) ll_nil))))) (lw_or1 (lt_not (lt_tru (le_call (ok_law_same T) hr (by rfl) T.g_law_same T.F_law_same.kp T.b_law_same (ll_cons (le_callK (ok_fit T) (hr.mono (by decide)) (by rfl) T.g_fit T.F_fit.kp T.kb_fit_land_lengths_states (lk_cons (le_var 3) (lk_cons (le_var 4) (lk_cons (le_var 5) lk_nil)))) (ll_cons (le_var 7) ll_nil)))))))) (lss_one (ls_ret le_bl)) lss_nil)
    (lss_cons (ls_for PassesOwn.never rfl (li_list (le_lst (ll_cons (le_bin ol_add le_int (le_call (ok_law_draw T) (hr.mono (by decide)) (by rfl) T.g_law_draw T.F_law_draw.kp T.b_law_draw (ll_cons (le_var 1) (ll_cons le_int ll_nil)))) (ll_cons (le_call (ok_law_pick T) (hr.mono (by decide)) (by rfl) T.g_law_pick T.F_law_pick.kp T.b_law_pick (ll_cons (le_var 1) (ll_cons (le_lst (ll_cons le_int (ll_cons le_int (ll_cons le_int (ll_cons le_int ll_nil))))) ll_nil))) ll_nil)))) (lg_name 6 sc_law.nd) (lss_cons (ls_set 8 sc_law.nd (le_if (lt_tru (le_call (ok_law_is_far T) (hr.mono (by decide)) (by rfl) T.g_law_is_far T.F_law_is_far.kp T.b_law_is_far (ll_cons (le_var 3) (ll_cons (le_var 4) (ll_cons (le_var 6) ll_nil))))) (le_tup (ll_cons le_str (ll_cons le_non ll_nil))) (le_tup (ll_cons le_str (ll_cons (le_call (ok_law_divided T) (hr.mono (by decide)) (by rfl) T.g_law_divided T.F_law_divided.kp T.b_law_divided (ll_cons (le_var 3) (ll_cons (le_var 4) (ll_cons (le_var 6) ll_nil)))) ll_nil)))))
    (lss_one (ls_if (lt_w (lw_or (lt_not (lt_tru (le_call (ok_law_same T) hr (by rfl) T.g_law_same T.F_law_same.kp T.b_law_same (ll_cons (le_call (ok_law_told T) (hr.mono (by decide)) (by rfl) T.g_law_told T.F_law_told.kp T.b_law_told (ll_cons le_int (ll_cons (le_var 3) (ll_cons (le_var 4) (ll_cons (le_var 6) (ll_cons (le_tup ll_nil) ll_nil)))))) (ll_cons (le_var 8) ll_nil))))) (lw_or1 (lt_not (lt_tru (le_call (ok_law_same T) hr (by rfl) T.g_law_same T.F_law_same.kp T.b_law_same (ll_cons (le_call (ok_law_told T) (hr.mono (by decide)) (by rfl) T.g_law_told T.F_law_told.kp T.b_law_told (ll_cons le_int (ll_cons (le_var 3) (ll_cons (le_var 4) (ll_cons (le_var 6) (ll_cons (le_tup ll_nil) ll_nil)))))) (ll_cons (le_var 8) ll_nil)))))))) (lss_one (ls_ret le_bl)) lss_nil))))
    (lss_one (ls_for PassesOwn.never rfl (li_tup (le_var 5)) (lg_name 9 sc_law.nd) (lss_cons (ls_set 6 sc_law.nd (le_bin ol_mul (le_call (ok_law_fit T) (hr.mono (by decide)) (by rfl) T.g_law_fit T.F_law_fit.kp T.b_law_fit (ll_cons (le_var 3) (ll_cons (le_var 4) (ll_cons (le_tup (ll_cons (le_var 9) ll_nil)) ll_nil)))) (le_call (ok_law_pick T) (hr.mono (by decide)) (by rfl) T.g_law_pick T.F_law_pick.kp T.b_law_pick (ll_cons (le_var 1) (ll_cons (le_lst (ll_cons le_int (ll_cons le_int (ll_cons le_int (ll_cons le_int ll_nil))))) ll_nil)))))
    (lss_one (ls_if (lt_cmp ol_lt (le_var 6) le_int (nomark _)) (lss_cons (ls_set 8 sc_law.nd (le_tup (ll_cons le_str (ll_cons le_non ll_nil))))
    (lss_cons (ls_if (lt_not (lt_tru (le_call (ok_law_is_far T) (hr.mono (by decide)) (by rfl) T.g_law_is_far T.F_law_is_far.kp T.b_law_is_far (ll_cons (le_var 3) (ll_cons (le_var 4) (ll_cons (le_var 6) ll_nil)))))) (lss_one (ls_set 8 sc_law.nd (le_tup (ll_cons le_str (ll_cons (le_call (ok_law_laid T) (hr.mono (by decide)) (by rfl) T.g_law_laid T.F_law_laid.kp T.b_law_laid (ll_cons (le_var 3) (ll_cons (le_var 4) (ll_cons (le_var 6) (ll_cons (le_var 9) ll_nil))))) ll_nil))))) lss_nil)
    (lss_one (ls_if (lt_w (lw_or (lt_not (lt_tru (le_call (ok_law_same T) hr (by rfl) T.g_law_same T.F_law_same.kp T.b_law_same (ll_cons (le_call (ok_law_told T) (hr.mono (by decide)) (by rfl) T.g_law_told T.F_law_told.kp T.b_law_told (ll_cons le_int (ll_cons (le_var 3) (ll_cons (le_var 4) (ll_cons (le_var 6) (ll_cons (le_var 9) ll_nil)))))) (ll_cons (le_var 8) ll_nil))))) (lw_or1 (lt_not (lt_tru (le_call (ok_law_same T) hr (by rfl) T.g_law_same T.F_law_same.kp T.b_law_same (ll_cons (le_call (ok_law_told T) (hr.mono (by decide)) (by rfl) T.g_law_told T.F_law_told.kp T.b_law_told (ll_cons le_int (ll_cons (le_var 3) (ll_cons (le_var 4) (ll_cons (le_var 6) (ll_cons (le_var 9) ll_nil)))))) (ll_cons (le_var 8) ll_nil)))))))) (lss_one (ls_ret le_bl)) lss_nil)))) lss_nil))))))))))))
    (lss_one (ls_ret (le_call (ok_law_same T) hr (by rfl) T.g_law_same T.F_law_same.kp T.b_law_same (ll_cons (le_call (ok_fit T) (hr.mono (by decide)) (by rfl) T.g_fit T.F_fit.kp T.b_fit (ll_cons (le_var 3) (ll_cons (le_var 4) (ll_cons (le_tup ll_nil) ll_nil)))) (ll_cons le_int ll_nil))))))


def spLaw (K : PySem.W.Frag) : L2.Sp := fun vs H QV _ => ∃ (a : Addr) (ns : List Int), vs = [.ref a] ∧ Only H ∧ SqL K H a (ns.map V.int) ∧ ns.length ≤ 63 ∧ ∀ H', QV (.bl true) H'
theorem ok_law : FnOk P w K mg base CX0 11 T.f_law T.fd_law ["script"] (spLaw K) := by
  refine T.F_law.ok sc_law (fun vs H Q E h => by obtain ⟨_, _, rfl, _⟩ := h; rfl) fun cdv A outer s H vs QV E hr h => ?_
  obtain ⟨a, ns, rfl, hO, hS, hn, q⟩ := h
  have rest : PSs (cxOf CX0 P w K mg base N_law "law" (defScope s_law) T.f_law cdv A outer s H E).nox ((defBody s_law).drop 1) (fun D σ H' => ∃ (bg gg cc : Addr) (H1 : Hp), lS ⟨BagRes bg gg cc, [], [], H1, noEx⟩ (rd_law bg) D σ H') :=
    ⟨fun pins s2 σ H' Q I ⟨bg, gg, cc, H1, w⟩ => (tm_law T cdv A outer s H E [] [] noEx H1 hr).run pins s2 σ H' Q I w⟩
  refine ⟨_, (show PSs (cxOf CX0 P w K mg base N_law "law" (defScope s_law) T.f_law cdv A outer s H E).nox (defBody s_law) _ from pss_cons (ps_set (i := 1) sc_law.nd rfl (Or.inr rfl) (pe_call (ok_law_bag T) (hr.mono (by decide)) (by rfl) T.g_law_bag T.F_law_bag.kp T.b_law_bag .nil pass0 (pa_cons (pe_var (i := 0) rfl (Or.inl rfl)) pa_nil))) rest), ?_⟩
  refine ⟨.ref a, rfl, a, ns, rfl, PyA.Only.scr hO hS, hn, fun H1 bg gg cc hb => ?_⟩
  have F0 : Fm (BagRes bg gg cc) [] [] H1 := ⟨rfl, List.nodup_nil, fun n o e => (by cases e), fun p hp => absurd hp List.not_mem_nil, hb⟩
  refine ⟨bg, gg, cc, H1, [], [], [some (.raw (.ref a)), some (.raw (.ref bg)), none, none, none, none, none, none, none, none], { nx := fun _ _ => False, rt := fun x _ => x = .bl true }, ⟨F0, ?_, F0, Sp.refl⟩, law_rd fun _ => rfl, ⟨fun _ _ _ _ _ _ _ z => z.elim, fun v H' ρ' O' x F' s' r z => ?_, fun _ _ _ _ _ _ _ z => z.elim, fun _ _ _ _ _ _ _ z => z.elim⟩⟩
  · refine ⟨rfl, fun i x e => ?_⟩
    match i, e with
    | 0, e => cases e; exact ⟨_, rfl, rel_raw⟩
    | 1, e => cases e; exact ⟨_, rfl, rel_raw⟩
    | 2, e => cases e
    | 3, e => cases e
    | 4, e => cases e
    | 5, e => cases e
    | 6, e => cases e
    | 7, e => cases e
    | 8, e => cases e
    | 9, e => cases e
    | n + 10, e => cases e
  · subst z
    unfold RelA at r
    subst r
    exact q H'
end
end K82

set_option Elab.async false
set_option linter.all false
set_option maxRecDepth 100000
set_option maxHeartbeats 4000000
/-! The end. -/
namespace K82
open PySem PySem.Spec L2 PyA
theorem exm_self {K : PySem.W.Frag} {S : Addr} (h1 : PySem.W.subIn K (.ref S) (.type "BaseException") = some true) (h2 : PySem.W.isClsIn K S = true) (h3 : PySem.W.typeIn K (.ref S) = some (.type "type")) (h4 : PySem.W.subIn K (.ref S) (.ref S) = some true) :
    PySem.W.exmOne K (.ref S) (.ref S) = some true := by
  have e1 : (PySem.W.subIn K (.ref S) (.type "BaseException") == some true) = true := by rw [h1] <;> rfl
  have e2 : ((PySem.W.clsIn K S).isSome && PySem.W.typeIn K (.ref S) == some (.type "type")) = true := by
    have h2' : (PySem.W.clsIn K S).isSome = true := h2
    rw [h2', h3] <;> rfl
  show (if (PySem.W.subIn K (.ref S) (.type "BaseException") == some true) = true then (if ((PySem.W.clsIn K S).isSome && PySem.W.typeIn K (.ref S) == some (.type "type")) = true then PySem.W.subIn K (.ref S) (.ref S) else none) else none) = some true
  rw [if_pos e1, if_pos e2]
  exact h4
theorem all_mk {l : PySem.W.OpenLaw} {w : World} {K : PySem.W.Frag} {h : Heap} {mg : Str → Option Value} {fa CC : Addr} (X : K.In h) (G : h.Ns mainGlobals mg) (hfa : mg "law" = some (.ref fa))
    {gt0 gt1 : Tok}
    {f0 : Addr} {od0 an0 : Option Addr} {sl0 : Array (Option Value)} {oc0 kV0 dc0 pm0 cd0 ct0 : Value}
    {f1 : Addr} {od1 an1 : Option Addr} {sl1 : Array (Option Value)} {oc1 kV1 dc1 pm1 cd1 ct1 : Value}
    {f2 : Addr} {od2 an2 : Option Addr} {sl2 : Array (Option Value)} {oc2 kV2 dc2 pm2 cd2 ct2 : Value}
    {f3 : Addr} {od3 an3 : Option Addr} {sl3 : Array (Option Value)} {oc3 kV3 dc3 pm3 cd3 ct3 : Value}
    {f4 : Addr} {od4 an4 : Option Addr} {sl4 : Array (Option Value)} {oc4 kV4 dc4 pm4 cd4 ct4 : Value}
    {f5 : Addr} {od5 an5 : Option Addr} {sl5 : Array (Option Value)} {oc5 kV5 dc5 pm5 cd5 ct5 : Value}
    {f6 : Addr} {od6 an6 : Option Addr} {sl6 : Array (Option Value)} {oc6 kV6 dc6 pm6 cd6 ct6 : Value}
    {f7 : Addr} {od7 an7 : Option Addr} {sl7 : Array (Option Value)} {oc7 kV7 dc7 pm7 cd7 ct7 : Value}
    {f8 : Addr} {od8 an8 : Option Addr} {sl8 : Array (Option Value)} {oc8 kV8 dc8 pm8 cd8 ct8 : Value}
    {f9 : Addr} {od9 an9 : Option Addr} {sl9 : Array (Option Value)} {oc9 kV9 dc9 pm9 cd9 ct9 : Value}
    {f10 : Addr} {od10 an10 : Option Addr} {sl10 : Array (Option Value)} {oc10 kV10 dc10 pm10 cd10 ct10 : Value}
    {f11 : Addr} {od11 an11 : Option Addr} {sl11 : Array (Option Value)} {oc11 kV11 dc11 pm11 cd11 ct11 : Value}
    {f12 : Addr} {od12 an12 : Option Addr} {sl12 : Array (Option Value)} {oc12 kV12 dc12 pm12 cd12 ct12 : Value}
    {f13 : Addr} {od13 an13 : Option Addr} {sl13 : Array (Option Value)} {oc13 kV13 dc13 pm13 cd13 ct13 : Value}
    {f14 : Addr} {od14 an14 : Option Addr} {sl14 : Array (Option Value)} {oc14 kV14 dc14 pm14 cd14 ct14 : Value}
    {f15 : Addr} {od15 an15 : Option Addr} {sl15 : Array (Option Value)} {oc15 kV15 dc15 pm15 cd15 ct15 : Value}
    {f16 : Addr} {od16 an16 : Option Addr} {sl16 : Array (Option Value)} {oc16 kV16 dc16 pm16 cd16 ct16 : Value}
    {f17 : Addr} {od17 an17 : Option Addr} {sl17 : Array (Option Value)} {oc17 kV17 dc17 pm17 cd17 ct17 : Value}
    {f18 : Addr} {od18 an18 : Option Addr} {sl18 : Array (Option Value)} {oc18 kV18 dc18 pm18 cd18 ct18 : Value}
    {f19 : Addr} {od19 an19 : Option Addr} {sl19 : Array (Option Value)} {oc19 kV19 dc19 pm19 cd19 ct19 : Value}
    {f20 : Addr} {od20 an20 : Option Addr} {sl20 : Array (Option Value)} {oc20 kV20 dc20 pm20 cd20 ct20 : Value}
    {f21 : Addr} {od21 an21 : Option Addr} {sl21 : Array (Option Value)} {oc21 kV21 dc21 pm21 cd21 ct21 : Value}
    {f22 : Addr} {od22 an22 : Option Addr} {sl22 : Array (Option Value)} {oc22 kV22 dc22 pm22 cd22 ct22 : Value}
    {f23 : Addr} {od23 an23 : Option Addr} {sl23 : Array (Option Value)} {oc23 kV23 dc23 pm23 cd23 ct23 : Value}
    (a0 : PySem.W.nsIn K mainGlobals "divisor" = some (some (.ref f0))) (l0 : K.lookup f0 = some ⟨oc0, od0, .func (PySem.W.fnOf "divisor" "divisor" (defArgs s_divisor) (defBody s_divisor) (defScope s_divisor) .none kV0 dc0 pm0 an0 cd0 ct0), sl0⟩) (c0 : PySem.W.codeIn K cd0 "divisor" = true) (k0 : PySem.W.keepIn K (.ref f0) = true)
    (a1 : PySem.W.nsIn K mainGlobals "least_multiple" = some (some (.ref f1))) (l1 : K.lookup f1 = some ⟨oc1, od1, .func (PySem.W.fnOf "least_multiple" "least_multiple" (defArgs s_least_multiple) (defBody s_least_multiple) (defScope s_least_multiple) .none kV1 dc1 pm1 an1 cd1 ct1), sl1⟩) (c1 : PySem.W.codeIn K cd1 "least_multiple" = true) (k1 : PySem.W.keepIn K (.ref f1) = true)
    (a2 : PySem.W.nsIn K mainGlobals "check_made" = some (some (.ref f2))) (l2 : K.lookup f2 = some ⟨oc2, od2, .func (PySem.W.fnOf "check_made" "check_made" (defArgs s_check_made) (defBody s_check_made) (defScope s_check_made) .none kV2 dc2 pm2 an2 cd2 ct2), sl2⟩) (c2 : PySem.W.codeIn K cd2 "check_made" = true) (k2 : PySem.W.keepIn K (.ref f2) = true)
    (a3 : PySem.W.nsIn K mainGlobals "divided" = some (some (.ref f3))) (l3 : K.lookup f3 = some ⟨oc3, od3, .func (PySem.W.fnOf "divided" "divided" (defArgs s_divided) (defBody s_divided) (defScope s_divided) .none kV3 dc3 pm3 an3 cd3 ct3), sl3⟩) (c3 : PySem.W.codeIn K cd3 "divided" = true) (k3 : PySem.W.keepIn K (.ref f3) = true)
    (a4 : PySem.W.nsIn K mainGlobals "lengths_by" = some (some (.ref f4))) (l4 : K.lookup f4 = some ⟨oc4, od4, .func (PySem.W.fnOf "lengths_by" "lengths_by" (defArgs s_lengths_by) (defBody s_lengths_by) (defScope s_lengths_by) .none kV4 dc4 pm4 an4 cd4 ct4), sl4⟩) (c4 : PySem.W.codeIn K cd4 "lengths_by" = true) (k4 : PySem.W.keepIn K (.ref f4) = true)
    (a5 : PySem.W.nsIn K mainGlobals "fit" = some (some (.ref f5))) (l5 : K.lookup f5 = some ⟨oc5, od5, .func (PySem.W.fnOf "fit" "fit" (defArgs s_fit) (defBody s_fit) (defScope s_fit) .none kV5 dc5 pm5 an5 cd5 ct5), sl5⟩) (c5 : PySem.W.codeIn K cd5 "fit" = true) (k5 : PySem.W.keepIn K (.ref f5) = true)
    (a6 : PySem.W.nsIn K mainGlobals "starts_of" = some (some (.ref f6))) (l6 : K.lookup f6 = some ⟨oc6, od6, .func (PySem.W.fnOf "starts_of" "starts_of" (defArgs s_starts_of) (defBody s_starts_of) (defScope s_starts_of) .none kV6 dc6 pm6 an6 cd6 ct6), sl6⟩) (c6 : PySem.W.codeIn K cd6 "starts_of" = true) (k6 : PySem.W.keepIn K (.ref f6) = true)
    (a7 : PySem.W.nsIn K mainGlobals "laid" = some (some (.ref f7))) (l7 : K.lookup f7 = some ⟨oc7, od7, .func (PySem.W.fnOf "laid" "laid" (defArgs s_laid) (defBody s_laid) (defScope s_laid) .none kV7 dc7 pm7 an7 cd7 ct7), sl7⟩) (c7 : PySem.W.codeIn K cd7 "laid" = true) (k7 : PySem.W.keepIn K (.ref f7) = true)
    (a8 : PySem.W.nsIn K mainGlobals "_law_bag" = some (some (.ref f8))) (l8 : K.lookup f8 = some ⟨oc8, od8, .func (PySem.W.fnOf "_law_bag" "_law_bag" (defArgs s_law_bag) (defBody s_law_bag) (defScope s_law_bag) .none kV8 dc8 pm8 an8 cd8 ct8), sl8⟩) (c8 : PySem.W.codeIn K cd8 "_law_bag" = true) (k8 : PySem.W.keepIn K (.ref f8) = true)
    (a9 : PySem.W.nsIn K mainGlobals "_law_draw" = some (some (.ref f9))) (l9 : K.lookup f9 = some ⟨oc9, od9, .func (PySem.W.fnOf "_law_draw" "_law_draw" (defArgs s_law_draw) (defBody s_law_draw) (defScope s_law_draw) .none kV9 dc9 pm9 an9 cd9 ct9), sl9⟩) (c9 : PySem.W.codeIn K cd9 "_law_draw" = true) (k9 : PySem.W.keepIn K (.ref f9) = true)
    (a10 : PySem.W.nsIn K mainGlobals "_law_pick" = some (some (.ref f10))) (l10 : K.lookup f10 = some ⟨oc10, od10, .func (PySem.W.fnOf "_law_pick" "_law_pick" (defArgs s_law_pick) (defBody s_law_pick) (defScope s_law_pick) .none kV10 dc10 pm10 an10 cd10 ct10), sl10⟩) (c10 : PySem.W.codeIn K cd10 "_law_pick" = true) (k10 : PySem.W.keepIn K (.ref f10) = true)
    (a11 : PySem.W.nsIn K mainGlobals "_law_some" = some (some (.ref f11))) (l11 : K.lookup f11 = some ⟨oc11, od11, .func (PySem.W.fnOf "_law_some" "_law_some" (defArgs s_law_some) (defBody s_law_some) (defScope s_law_some) .none kV11 dc11 pm11 an11 cd11 ct11), sl11⟩) (c11 : PySem.W.codeIn K cd11 "_law_some" = true) (k11 : PySem.W.keepIn K (.ref f11) = true)
    (a12 : PySem.W.nsIn K mainGlobals "_law_same" = some (some (.ref f12))) (l12 : K.lookup f12 = some ⟨oc12, od12, .func (PySem.W.fnOf "_law_same" "_law_same" (defArgs s_law_same) (defBody s_law_same) (defScope s_law_same) .none kV12 dc12 pm12 an12 cd12 ct12), sl12⟩) (c12 : PySem.W.codeIn K cd12 "_law_same" = true) (k12 : PySem.W.keepIn K (.ref f12) = true)
    (a13 : PySem.W.nsIn K mainGlobals "_law_safe_land" = some (some (.ref f13))) (l13 : K.lookup f13 = some ⟨oc13, od13, .func (PySem.W.fnOf "_law_safe_land" "_law_safe_land" (defArgs s_law_safe_land) (defBody s_law_safe_land) (defScope s_law_safe_land) .none kV13 dc13 pm13 an13 cd13 ct13), sl13⟩) (c13 : PySem.W.codeIn K cd13 "_law_safe_land" = true) (k13 : PySem.W.keepIn K (.ref f13) = true)
    (a14 : PySem.W.nsIn K mainGlobals "_law_divisor" = some (some (.ref f14))) (l14 : K.lookup f14 = some ⟨oc14, od14, .func (PySem.W.fnOf "_law_divisor" "_law_divisor" (defArgs s_law_divisor) (defBody s_law_divisor) (defScope s_law_divisor) .none kV14 dc14 pm14 an14 cd14 ct14), sl14⟩) (c14 : PySem.W.codeIn K cd14 "_law_divisor" = true) (k14 : PySem.W.keepIn K (.ref f14) = true)
    (a15 : PySem.W.nsIn K mainGlobals "_law_spots" = some (some (.ref f15))) (l15 : K.lookup f15 = some ⟨oc15, od15, .func (PySem.W.fnOf "_law_spots" "_law_spots" (defArgs s_law_spots) (defBody s_law_spots) (defScope s_law_spots) .none kV15 dc15 pm15 an15 cd15 ct15), sl15⟩) (c15 : PySem.W.codeIn K cd15 "_law_spots" = true) (k15 : PySem.W.keepIn K (.ref f15) = true)
    (a16 : PySem.W.nsIn K mainGlobals "_law_divided" = some (some (.ref f16))) (l16 : K.lookup f16 = some ⟨oc16, od16, .func (PySem.W.fnOf "_law_divided" "_law_divided" (defArgs s_law_divided) (defBody s_law_divided) (defScope s_law_divided) .none kV16 dc16 pm16 an16 cd16 ct16), sl16⟩) (c16 : PySem.W.codeIn K cd16 "_law_divided" = true) (k16 : PySem.W.keepIn K (.ref f16) = true)
    (a17 : PySem.W.nsIn K mainGlobals "_law_fit" = some (some (.ref f17))) (l17 : K.lookup f17 = some ⟨oc17, od17, .func (PySem.W.fnOf "_law_fit" "_law_fit" (defArgs s_law_fit) (defBody s_law_fit) (defScope s_law_fit) .none kV17 dc17 pm17 an17 cd17 ct17), sl17⟩) (c17 : PySem.W.codeIn K cd17 "_law_fit" = true) (k17 : PySem.W.keepIn K (.ref f17) = true)
    (a18 : PySem.W.nsIn K mainGlobals "_law_laid" = some (some (.ref f18))) (l18 : K.lookup f18 = some ⟨oc18, od18, .func (PySem.W.fnOf "_law_laid" "_law_laid" (defArgs s_law_laid) (defBody s_law_laid) (defScope s_law_laid) .none kV18 dc18 pm18 an18 cd18 ct18), sl18⟩) (c18 : PySem.W.codeIn K cd18 "_law_laid" = true) (k18 : PySem.W.keepIn K (.ref f18) = true)
    (a19 : PySem.W.nsIn K mainGlobals "_law_lengths" = some (some (.ref f19))) (l19 : K.lookup f19 = some ⟨oc19, od19, .func (PySem.W.fnOf "_law_lengths" "_law_lengths" (defArgs s_law_lengths) (defBody s_law_lengths) (defScope s_law_lengths) .none kV19 dc19 pm19 an19 cd19 ct19), sl19⟩) (c19 : PySem.W.codeIn K cd19 "_law_lengths" = true) (k19 : PySem.W.keepIn K (.ref f19) = true)
    (a20 : PySem.W.nsIn K mainGlobals "_law_drawn_state" = some (some (.ref f20))) (l20 : K.lookup f20 = some ⟨oc20, od20, .func (PySem.W.fnOf "_law_drawn_state" "_law_drawn_state" (defArgs s_law_drawn_state) (defBody s_law_drawn_state) (defScope s_law_drawn_state) .none kV20 dc20 pm20 an20 cd20 ct20), sl20⟩) (c20 : PySem.W.codeIn K cd20 "_law_drawn_state" = true) (k20 : PySem.W.keepIn K (.ref f20) = true)
    (a21 : PySem.W.nsIn K mainGlobals "_law_told" = some (some (.ref f21))) (l21 : K.lookup f21 = some ⟨oc21, od21, .func (PySem.W.fnOf "_law_told" "_law_told" (defArgs s_law_told) (defBody s_law_told) (defScope s_law_told) .none kV21 dc21 pm21 an21 cd21 ct21), sl21⟩) (c21 : PySem.W.codeIn K cd21 "_law_told" = true) (k21 : PySem.W.keepIn K (.ref f21) = true)
    (a22 : PySem.W.nsIn K mainGlobals "_law_is_far" = some (some (.ref f22))) (l22 : K.lookup f22 = some ⟨oc22, od22, .func (PySem.W.fnOf "_law_is_far" "_law_is_far" (defArgs s_law_is_far) (defBody s_law_is_far) (defScope s_law_is_far) .none kV22 dc22 pm22 an22 cd22 ct22), sl22⟩) (c22 : PySem.W.codeIn K cd22 "_law_is_far" = true) (k22 : PySem.W.keepIn K (.ref f22) = true)
    (a23 : PySem.W.nsIn K mainGlobals "law" = some (some (.ref f23))) (l23 : K.lookup f23 = some ⟨oc23, od23, .func (PySem.W.fnOf "law" "law" (defArgs s_law) (defBody s_law) (defScope s_law) .none kV23 dc23 pm23 an23 cd23 ct23), sl23⟩) (c23 : PySem.W.codeIn K cd23 "law" = true) (k23 : PySem.W.keepIn K (.ref f23) = true)
    (z0 : PySem.W.nsIn K mainGlobals "abs" = some none)
    (z1 : PySem.W.nsIn K mainGlobals "bool" = some none)
    (z2 : PySem.W.nsIn K mainGlobals "dict" = some none)
    (z3 : PySem.W.nsIn K mainGlobals "int" = some none)
    (z4 : PySem.W.nsIn K mainGlobals "isinstance" = some none)
    (z5 : PySem.W.nsIn K mainGlobals "len" = some none)
    (z6 : PySem.W.nsIn K mainGlobals "list" = some none)
    (z7 : PySem.W.nsIn K mainGlobals "range" = some none)
    (z8 : PySem.W.nsIn K mainGlobals "sorted" = some none)
    (z9 : PySem.W.nsIn K mainGlobals "str" = some none)
    (z10 : PySem.W.nsIn K mainGlobals "sum" = some none)
    (z11 : PySem.W.nsIn K mainGlobals "tuple" = some none)
    (z12 : PySem.W.nsIn K mainGlobals "zip" = some none)
    (y0 : PySem.W.nsIn K mainGlobals "MOST_MADE_VILLAGES" = some (some (.int 64 gt0)))
    (y1 : PySem.W.nsIn K mainGlobals "MOST_MADE_ROADS" = some (some (.int 240 gt1)))
    (aC : PySem.W.nsIn K mainGlobals "TooFar" = some (some (.ref CC))) (xF : PySem.W.excIn K CC [.type "ValueError", .type "Exception", .type "BaseException", .type "object"] "ValueError.__new__" = true) (kF : PySem.W.keepIn K (.ref CC) = true) (bF : PySem.W.subIn K (.ref CC) (.type "BaseException") = some true) (tF : PySem.W.typeIn K (.ref CC) = some (.type "type")) (iF : PySem.W.isClsIn K CC = true) (sF : PySem.W.subIn K (.ref CC) (.ref CC) = some true) :
    ∃ fd : FuncData, (∀ (s : Shared) (v : Value), BindsTo s fd ⟨[v], []⟩ [("script", v)]) ∧ ∀ base : Heap, K.In base → base.Ns mainGlobals mg → FnOk l.prog w K mg base CX0 11 fa fd ["script"] (spLaw K) := by
  have e := hfa.symm.trans (PySem.W.mg_of X G a23)
  cases e
  have F0 := fun_mk (st := s_divisor) l0 c0 k0
  have b0 := F0.binds (ps := ["one", "other"]) fun _ _ _ _ _ _ us hl => match us, hl with | [_, _], _ => rfl
  have F1 := fun_mk (st := s_least_multiple) l1 c1 k1
  have b1 := F1.binds (ps := ["one", "other"]) fun _ _ _ _ _ _ us hl => match us, hl with | [_, _], _ => rfl
  have F2 := fun_mk (st := s_check_made) l2 c2 k2
  have b2 := F2.binds (ps := ["villages", "roads"]) fun _ _ _ _ _ _ us hl => match us, hl with | [_, _], _ => rfl
  have F3 := fun_mk (st := s_divided) l3 c3 k3
  have b3 := F3.binds (ps := ["land", "lengths", "k"]) fun _ _ _ _ _ _ us hl => match us, hl with | [_, _, _], _ => rfl
  have F4 := fun_mk (st := s_lengths_by) l4 c4 k4
  have b4 := F4.binds (ps := ["land", "lengths"]) fun _ _ _ _ _ _ us hl => match us, hl with | [_, _], _ => rfl
  have F5 := fun_mk (st := s_fit) l5 c5 k5
  have b5 := F5.binds (ps := ["land", "lengths", "states"]) fun _ _ _ _ _ _ us hl => match us, hl with | [_, _, _], _ => rfl
  have F6 := fun_mk (st := s_starts_of) l6 c6 k6
  have b6 := F6.binds (ps := ["land", "lengths", "k"]) fun _ _ _ _ _ _ us hl => match us, hl with | [_, _, _], _ => rfl
  have F7 := fun_mk (st := s_laid) l7 c7 k7
  have b7 := F7.binds (ps := ["land", "lengths", "k", "state"]) fun _ _ _ _ _ _ us hl => match us, hl with | [_, _, _, _], _ => rfl
  have F8 := fun_mk (st := s_law_bag) l8 c8 k8
  have b8 := F8.binds (ps := ["script"]) fun _ _ _ _ _ _ us hl => match us, hl with | [_], _ => rfl
  have F9 := fun_mk (st := s_law_draw) l9 c9 k9
  have b9 := F9.binds (ps := ["bag", "many"]) fun _ _ _ _ _ _ us hl => match us, hl with | [_, _], _ => rfl
  have F10 := fun_mk (st := s_law_pick) l10 c10 k10
  have b10 := F10.binds (ps := ["bag", "some"]) fun _ _ _ _ _ _ us hl => match us, hl with | [_, _], _ => rfl
  have F11 := fun_mk (st := s_law_some) l11 c11 k11
  have b11 := F11.binds (ps := ["bag", "things", "many"]) fun _ _ _ _ _ _ us hl => match us, hl with | [_, _, _], _ => rfl
  have F12 := fun_mk (st := s_law_same) l12 c12 k12
  have b12 := F12.binds (ps := ["found", "due"]) fun _ _ _ _ _ _ us hl => match us, hl with | [_, _], _ => rfl
  have F13 := fun_mk (st := s_law_safe_land) l13 c13 k13
  have b13 := F13.binds (ps := ["bag", "most", "more"]) fun _ _ _ _ _ _ us hl => match us, hl with | [_, _, _], _ => rfl
  have F14 := fun_mk (st := s_law_divisor) l14 c14 k14
  have b14 := F14.binds (ps := ["one", "other"]) fun _ _ _ _ _ _ us hl => match us, hl with | [_, _], _ => rfl
  have F15 := fun_mk (st := s_law_spots) l15 c15 k15
  have b15 := F15.binds (ps := ["land", "lengths", "k"]) fun _ _ _ _ _ _ us hl => match us, hl with | [_, _, _], _ => rfl
  have F16 := fun_mk (st := s_law_divided) l16 c16 k16
  have b16 := F16.binds (ps := ["land", "lengths", "k"]) fun _ _ _ _ _ _ us hl => match us, hl with | [_, _, _], _ => rfl
  have F17 := fun_mk (st := s_law_fit) l17 c17 k17
  have b17 := F17.binds (ps := ["land", "lengths", "states"]) fun _ _ _ _ _ _ us hl => match us, hl with | [_, _, _], _ => rfl
  have F18 := fun_mk (st := s_law_laid) l18 c18 k18
  have b18 := F18.binds (ps := ["land", "lengths", "k", "state"]) fun _ _ _ _ _ _ us hl => match us, hl with | [_, _, _, _], _ => rfl
  have F19 := fun_mk (st := s_law_lengths) l19 c19 k19
  have b19 := F19.binds (ps := ["bag", "land", "most"]) fun _ _ _ _ _ _ us hl => match us, hl with | [_, _, _], _ => rfl
  have F20 := fun_mk (st := s_law_drawn_state) l20 c20 k20
  have b20 := F20.binds (ps := ["bag", "land", "lengths"]) fun _ _ _ _ _ _ us hl => match us, hl with | [_, _, _], _ => rfl
  have F21 := fun_mk (st := s_law_told) l21 c21 k21
  have b21 := F21.binds (ps := ["which", "land", "lengths", "k", "state"]) fun _ _ _ _ _ _ us hl => match us, hl with | [_, _, _, _, _], _ => rfl
  have F22 := fun_mk (st := s_law_is_far) l22 c22 k22
  have b22 := F22.binds (ps := ["land", "lengths", "k"]) fun _ _ _ _ _ _ us hl => match us, hl with | [_, _, _], _ => rfl
  have F23 := fun_mk (st := s_law) l23 c23 k23
  have b23 := F23.binds (ps := ["script"]) fun _ _ _ _ _ _ us hl => match us, hl with | [_], _ => rfl
  have kb0 : KBp K _ ["land", "lengths", "k"] ["land", "lengths", "k"] [0, 1, 2] := kbp_mk F3 fun _ _ _ _ _ _ ws hl => match ws, hl with | [_, _, _], _ => rfl
  have kb1 : KBp K _ ["land", "lengths", "k", "state"] ["land", "lengths", "k", "state"] [0, 1, 2, 3] := kbp_mk F7 fun _ _ _ _ _ _ ws hl => match ws, hl with | [_, _, _, _], _ => rfl
  have kb2 : KBp K _ ["land", "lengths", "states"] ["land", "lengths", "states"] [0, 1, 2] := kbp_mk F5 fun _ _ _ _ _ _ ws hl => match ws, hl with | [_, _, _], _ => rfl
  let T : Tops K mg := {
    f_divisor := _,
    fd_divisor := _,
    F_divisor := F0,
    b_divisor := b0,
    g_divisor := PySem.W.mg_of X G a0,
    f_least_multiple := _,
    fd_least_multiple := _,
    F_least_multiple := F1,
    b_least_multiple := b1,
    g_least_multiple := PySem.W.mg_of X G a1,
    f_check_made := _,
    fd_check_made := _,
    F_check_made := F2,
    b_check_made := b2,
    g_check_made := PySem.W.mg_of X G a2,
    f_divided := _,
    fd_divided := _,
    F_divided := F3,
    b_divided := b3,
    g_divided := PySem.W.mg_of X G a3,
    f_lengths_by := _,
    fd_lengths_by := _,
    F_lengths_by := F4,
    b_lengths_by := b4,
    g_lengths_by := PySem.W.mg_of X G a4,
    f_fit := _,
    fd_fit := _,
    F_fit := F5,
    b_fit := b5,
    g_fit := PySem.W.mg_of X G a5,
    f_starts_of := _,
    fd_starts_of := _,
    F_starts_of := F6,
    b_starts_of := b6,
    g_starts_of := PySem.W.mg_of X G a6,
    f_laid := _,
    fd_laid := _,
    F_laid := F7,
    b_laid := b7,
    g_laid := PySem.W.mg_of X G a7,
    f_law_bag := _,
    fd_law_bag := _,
    F_law_bag := F8,
    b_law_bag := b8,
    g_law_bag := PySem.W.mg_of X G a8,
    f_law_draw := _,
    fd_law_draw := _,
    F_law_draw := F9,
    b_law_draw := b9,
    g_law_draw := PySem.W.mg_of X G a9,
    f_law_pick := _,
    fd_law_pick := _,
    F_law_pick := F10,
    b_law_pick := b10,
    g_law_pick := PySem.W.mg_of X G a10,
    f_law_some := _,
    fd_law_some := _,
    F_law_some := F11,
    b_law_some := b11,
    g_law_some := PySem.W.mg_of X G a11,
    f_law_same := _,
    fd_law_same := _,
    F_law_same := F12,
    b_law_same := b12,
    g_law_same := PySem.W.mg_of X G a12,
    f_law_safe_land := _,
    fd_law_safe_land := _,
    F_law_safe_land := F13,
    b_law_safe_land := b13,
    g_law_safe_land := PySem.W.mg_of X G a13,
    f_law_divisor := _,
    fd_law_divisor := _,
    F_law_divisor := F14,
    b_law_divisor := b14,
    g_law_divisor := PySem.W.mg_of X G a14,
    f_law_spots := _,
    fd_law_spots := _,
    F_law_spots := F15,
    b_law_spots := b15,
    g_law_spots := PySem.W.mg_of X G a15,
    f_law_divided := _,
    fd_law_divided := _,
    F_law_divided := F16,
    b_law_divided := b16,
    g_law_divided := PySem.W.mg_of X G a16,
    f_law_fit := _,
    fd_law_fit := _,
    F_law_fit := F17,
    b_law_fit := b17,
    g_law_fit := PySem.W.mg_of X G a17,
    f_law_laid := _,
    fd_law_laid := _,
    F_law_laid := F18,
    b_law_laid := b18,
    g_law_laid := PySem.W.mg_of X G a18,
    f_law_lengths := _,
    fd_law_lengths := _,
    F_law_lengths := F19,
    b_law_lengths := b19,
    g_law_lengths := PySem.W.mg_of X G a19,
    f_law_drawn_state := _,
    fd_law_drawn_state := _,
    F_law_drawn_state := F20,
    b_law_drawn_state := b20,
    g_law_drawn_state := PySem.W.mg_of X G a20,
    f_law_told := _,
    fd_law_told := _,
    F_law_told := F21,
    b_law_told := b21,
    g_law_told := PySem.W.mg_of X G a21,
    f_law_is_far := _,
    fd_law_is_far := _,
    F_law_is_far := F22,
    b_law_is_far := b22,
    g_law_is_far := PySem.W.mg_of X G a22,
    f_law := _,
    fd_law := _,
    F_law := F23,
    b_law := b23,
    g_law := PySem.W.mg_of X G a23,
    kb_divided_land_lengths_k := kb0,
    kb_laid_land_lengths_k_state := kb1,
    kb_fit_land_lengths_states := kb2,
    m_abs := PySem.W.mg_none_of X G z0,
    m_bool := PySem.W.mg_none_of X G z1,
    m_dict := PySem.W.mg_none_of X G z2,
    m_int := PySem.W.mg_none_of X G z3,
    m_isinstance := PySem.W.mg_none_of X G z4,
    m_len := PySem.W.mg_none_of X G z5,
    m_list := PySem.W.mg_none_of X G z6,
    m_range := PySem.W.mg_none_of X G z7,
    m_sorted := PySem.W.mg_none_of X G z8,
    m_str := PySem.W.mg_none_of X G z9,
    m_sum := PySem.W.mg_none_of X G z10,
    m_tuple := PySem.W.mg_none_of X G z11,
    m_zip := PySem.W.mg_none_of X G z12,
    t_MOST_MADE_VILLAGES := _,
    c_MOST_MADE_VILLAGES := PySem.W.mg_of X G y0,
    t_MOST_MADE_ROADS := _,
    c_MOST_MADE_ROADS := PySem.W.mg_of X G y1,
    C_TooFar := CC,
    e_TooFar := ⟨xF, PySem.W.mg_of X G aC, kF, bF, tF, exm_self bF iF tF sF⟩ }
  exact ⟨PySem.W.fnOf "law" "law" (defArgs s_law) (defBody s_law) (defScope s_law) .none kV23 dc23 pm23 an23 cd23 ct23, fun s v => .of_eq rfl, fun base _ _ => ok_law T⟩
end K82
open PySem PySem.W PyProof.Rows
set_option maxHeartbeats 0 in
theorem PySem.Challenge.cw_sendround_k82_lands_divided_holds : PySem.Challenge.rw_sendround_k82_lands_divided.Holds := by
  w_on; o_law; k_head; (case hw => w_witness2)
  k_fill
  refine L2.walk_of (l := PySem.Challenge.rw_sendround_k82_lands_divided) (n := 63) (k := 11) (x := "script") (CX := fun _ => L2.CX0) (sp := fun w => K82.spLaw _) rfl (by decide) rfl ⟨rfl, by decide, by decide⟩ (fun w h Y => PySem.W.kIn_of Y) ?F (fun _ _ a ns hl hO hS => ⟨a, ns, rfl, hO, hS, hl, fun _ => rfl⟩) (fun _ _ _ _ _ h => h)
  case F =>
    intro w mg fa h KX G hmg
    refine' K82.all_mk KX G hmg ?a0 ?l0 ?c0 ?k0 ?a1 ?l1 ?c1 ?k1 ?a2 ?l2 ?c2 ?k2 ?a3 ?l3 ?c3 ?k3 ?a4 ?l4 ?c4 ?k4 ?a5 ?l5 ?c5 ?k5 ?a6 ?l6 ?c6 ?k6 ?a7 ?l7 ?c7 ?k7 ?a8 ?l8 ?c8 ?k8 ?a9 ?l9 ?c9 ?k9 ?a10 ?l10 ?c10 ?k10 ?a11 ?l11 ?c11 ?k11 ?a12 ?l12 ?c12 ?k12 ?a13 ?l13 ?c13 ?k13 ?a14 ?l14 ?c14 ?k14 ?a15 ?l15 ?c15 ?k15 ?a16 ?l16 ?c16 ?k16 ?a17 ?l17 ?c17 ?k17 ?a18 ?l18 ?c18 ?k18 ?a19 ?l19 ?c19 ?k19 ?a20 ?l20 ?c20 ?k20 ?a21 ?l21 ?c21 ?k21 ?a22 ?l22 ?c22 ?k22 ?a23 ?l23 ?c23 ?k23 ?z0 ?z1 ?z2 ?z3 ?z4 ?z5 ?z6 ?z7 ?z8 ?z9 ?z10 ?z11 ?z12 ?y0 ?y1 ?aC ?xF ?kF ?bF ?tF ?iF ?sF
    (case a0 => k_is)
    (case l0 => k_is)
    (case c0 => k_is)
    (case k0 => k_is)
    (case a1 => k_is)
    (case l1 => k_is)
    (case c1 => k_is)
    (case k1 => k_is)
    (case a2 => k_is)
    (case l2 => k_is)
    (case c2 => k_is)
    (case k2 => k_is)
    (case a3 => k_is)
    (case l3 => k_is)
    (case c3 => k_is)
    (case k3 => k_is)
    (case a4 => k_is)
    (case l4 => k_is)
    (case c4 => k_is)
    (case k4 => k_is)
    (case a5 => k_is)
    (case l5 => k_is)
    (case c5 => k_is)
    (case k5 => k_is)
    (case a6 => k_is)
    (case l6 => k_is)
    (case c6 => k_is)
    (case k6 => k_is)
    (case a7 => k_is)
    (case l7 => k_is)
    (case c7 => k_is)
    (case k7 => k_is)
    (case a8 => k_is)
    (case l8 => k_is)
    (case c8 => k_is)
    (case k8 => k_is)
    (case a9 => k_is)
    (case l9 => k_is)
    (case c9 => k_is)
    (case k9 => k_is)
    (case a10 => k_is)
    (case l10 => k_is)
    (case c10 => k_is)
    (case k10 => k_is)
    (case a11 => k_is)
    (case l11 => k_is)
    (case c11 => k_is)
    (case k11 => k_is)
    (case a12 => k_is)
    (case l12 => k_is)
    (case c12 => k_is)
    (case k12 => k_is)
    (case a13 => k_is)
    (case l13 => k_is)
    (case c13 => k_is)
    (case k13 => k_is)
    (case a14 => k_is)
    (case l14 => k_is)
    (case c14 => k_is)
    (case k14 => k_is)
    (case a15 => k_is)
    (case l15 => k_is)
    (case c15 => k_is)
    (case k15 => k_is)
    (case a16 => k_is)
    (case l16 => k_is)
    (case c16 => k_is)
    (case k16 => k_is)
    (case a17 => k_is)
    (case l17 => k_is)
    (case c17 => k_is)
    (case k17 => k_is)
    (case a18 => k_is)
    (case l18 => k_is)
    (case c18 => k_is)
    (case k18 => k_is)
    (case a19 => k_is)
    (case l19 => k_is)
    (case c19 => k_is)
    (case k19 => k_is)
    (case a20 => k_is)
    (case l20 => k_is)
    (case c20 => k_is)
    (case k20 => k_is)
    (case a21 => k_is)
    (case l21 => k_is)
    (case c21 => k_is)
    (case k21 => k_is)
    (case a22 => k_is)
    (case l22 => k_is)
    (case c22 => k_is)
    (case k22 => k_is)
    (case a23 => k_is)
    (case l23 => k_is)
    (case c23 => k_is)
    (case k23 => k_is)
    (case z0 => k_is)
    (case z1 => k_is)
    (case z2 => k_is)
    (case z3 => k_is)
    (case z4 => k_is)
    (case z5 => k_is)
    (case z6 => k_is)
    (case z7 => k_is)
    (case z8 => k_is)
    (case z9 => k_is)
    (case z10 => k_is)
    (case z11 => k_is)
    (case z12 => k_is)
    (case y0 => k_is)
    (case y1 => k_is)
    (case aC => k_is)
    (case xF => k_exc)
    (case kF => k_is)
    (case bF => k_is)
    (case tF => k_is)
    (case iF => k_is)
    (case sF => first | rfl | k_is)

