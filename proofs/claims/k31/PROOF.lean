import PyProof.Rows.All
import Wide.All
import OpenK.AllK
import Wide.FinOn
import HandS.ForMost
import HandS.ForExc
import HandS.StrMore
import HandS.IsInst
import HandS.SortInts
import HandS.Style
import HandS.Conv
import HandS.Rev
import HandS.RevRange
import HandS.Zip
import HandS.Flow
import HandS.More
import HandS.Deep
import HandS.Text
import PySem.Challenge.RW_patchsquare_k31_masks_by_their_sums
set_option Elab.async false
set_option linter.all false
set_option maxRecDepth 100000
set_option maxHeartbeats 4000000
/-! Rf0: values, objects, results of the store semantics; how they lie in the layer's heap. -/
namespace Rf
open PySem PySem.Spec PyProof.Rows L2

inductive MV where
  | non | bl (b : Bool) | int (i : Int) | str (x : Str) | ref (k : Nat)
  deriving DecidableEq
inductive MO where
  | lst (xs : List MV) | tup (xs : List MV) | flst (xs : List MV)
  | dK (kvs : List (Key × MV)) | dT (kvs : List (List Key × MV)) | fdK (kvs : List (Key × MV))
  | ins (c : Str) (fs : List (Str × MV))
structure MX where
  cls : Str
  fld : Option (Str × MV)
abbrev Stor := List MO
abbrev MEnv := List (Option MV)
inductive Res (α : Type) where
  | ok (a : α) (S : Stor) | err (x : MX) (S : Stor) | bad
@[inline] def Res.bd {α β : Type} (r : Res α) (k : α → Stor → Res β) : Res β := match r with
  | .ok a S => k a S
  | .err x S => .err x S
  | .bad => .bad
theorem Res.bd_ok {α β : Type} (a : α) (S : Stor) (k : α → Stor → Res β) : (Res.ok a S).bd k = k a S := rfl
theorem Res.bd_bad {α β : Type} (k : α → Stor → Res β) : (Res.bad : Res α).bd k = .bad := rfl
theorem Res.bd_err {α β : Type} (x : MX) (S : Stor) (k : α → Stor → Res β) : (Res.err x S : Res α).bd k = .err x S := rfl
/-- what can be written -/
def isM : MO → Bool
  | .lst _ => true
  | .dK _ => true
  | .dT _ => true
  | .fdK _ => true
  | .ins _ _ => true
  | _ => false

structure WR where
  K : PySem.W.Frag
  gl : List Addr
  cls : Str → Option Addr

def RV (M : List Addr) : MV → V → Prop
  | .non, w => w = .non
  | .bl b, w => w = .bl b
  | .int i, w => w = .int i
  | .str x, w => w = .str x
  | .ref k, w => ∃ a, M[k]? = some a ∧ w = .ref a
abbrev RVs (M : List Addr) : List MV → List V → Prop := Paired (RV M)
def RKs {κ : Type} (M : List Addr) : List (κ × MV) → List (κ × V) → Prop := Paired fun p q => p.1 = q.1 ∧ RV M p.2 q.2
def KTup (K : PySem.W.Frag) (a : Addr) (ys : List V) : Prop :=
  ∃ (o : Obj) (its : Array Value) (n : Nat), K.lookup a = some o ∧ o.cls = .type "tuple" ∧ o.data = .seq its n ∧ its.size ≤ sizeLine ∧ Vals ys its.toList
def KLst (K : PySem.W.Frag) (a : Addr) (ys : List V) : Prop :=
  ∃ (o : Obj) (its : Array Value) (n : Nat), K.lookup a = some o ∧ o.cls = .type "list" ∧ o.dict = none ∧ o.data = .seq its n ∧ its.size ≤ sizeLine ∧ Vals ys its.toList
def RO (W : WR) (M : List Addr) (H : Hp) (a : Addr) : MO → Prop
  | .lst xs => ∃ ys, H a = some (.lst ys) ∧ RVs M xs ys
  | .tup xs => ∃ ys, (H a = some (.tup ys) ∨ KTup W.K a ys) ∧ RVs M xs ys
  | .flst xs => ∃ ys, ((∃ o, H a = some (.frz o (.lst ys))) ∨ KLst W.K a ys) ∧ RVs M xs ys
  | .dK kvs => ∃ zs, H a = some (.dK zs) ∧ RKs M kvs zs
  | .dT kvs => ∃ zs, H a = some (.dT zs) ∧ RKs M kvs zs
  | .fdK kvs => ∃ o zs, H a = some (.frz o (.dK zs)) ∧ RKs M kvs zs
  | .ins c fs => ∃ C dx zs, W.cls c = some C ∧ H a = some (.ins C dx zs) ∧ RKs M fs zs
structure RSt (W : WR) (M : List Addr) (S : Stor) (H : Hp) : Prop where
  gl : W.gl <+: M
  len : M.length = S.length
  obj : ∀ (i : Nat) o a, S[i]? = some o → M[i]? = some a → RO W M H a o
  inj : ∀ (i j : Nat) a o o', M[i]? = some a → M[j]? = some a → S[i]? = some o → S[j]? = some o' → isM o = true → isM o' = true → i = j
structure REnv (M : List Addr) (env : MEnv) (σ : L2.St) : Prop where
  len : env.length = σ.length
  get : ∀ (i : Nat) v, env[i]? = some (some v) → ∃ w, σ[i]? = some (some w) ∧ RV M v w
def RX (W : WR) (M : List Addr) (H : Hp) (x : MX) (C : Value) (d : Option Addr) : Prop :=
  ∃ Ca, W.cls x.cls = some Ca ∧ C = .ref Ca ∧ (match x.fld with
    | none => True
    | some (f, v) => ∃ ad w, d = some ad ∧ H ad = some (.xd [(f, w)]) ∧ RV M v w)

/-! ### lemmas -/
theorem pre_get {α : Type} {M M' : List α} {k : Nat} {a : α} (h : M <+: M') (e : M[k]? = some a) : M'[k]? = some a := by
  obtain ⟨t, rfl⟩ := h
  rw [List.getElem?_append_left (List.getElem?_eq_some_iff.mp e).1]
  exact e
theorem pre_refl {α : Type} (M : List α) : M <+: M := ⟨[], List.append_nil _⟩
theorem pre_app {α : Type} (M t : List α) : M <+: M ++ t := ⟨t, rfl⟩
theorem pre_trans {α : Type} {a b c : List α} (h : a <+: b) (h' : b <+: c) : a <+: c := List.IsPrefix.trans h h'
theorem RV.mono {M M' : List Addr} (h : M <+: M') : ∀ {v : MV} {w : V}, RV M v w → RV M' v w
  | .non, _, e => e
  | .bl _, _, e => e
  | .int _, _, e => e
  | .str _, _, e => e
  | .ref _, _, ⟨a, e, q⟩ => ⟨a, pre_get h e, q⟩
theorem RV.fn {M : List Addr} : ∀ {v : MV} {w w' : V}, RV M v w → RV M v w' → w = w'
  | .non, _, _, e, e' => e.trans e'.symm
  | .bl _, _, _, e, e' => e.trans e'.symm
  | .int _, _, _, e, e' => e.trans e'.symm
  | .str _, _, _, e, e' => e.trans e'.symm
  | .ref _, _, _, ⟨a, e, q⟩, ⟨a', e', q'⟩ => by
    rw [e] at e'
    cases e'
    exact q.trans q'.symm
theorem Paired.imp {α β : Type} {R R' : α → β → Prop} (h : ∀ a b, R a b → R' a b) : ∀ {l : List α} {m : List β}, Paired R l m → Paired R' l m
  | _, _, .nil => .nil
  | _, _, .cons r t => .cons (h _ _ r) (Paired.imp h t)
theorem RVs.mono {M M' : List Addr} (h : M <+: M') {vs : List MV} {ws : List V} (r : RVs M vs ws) : RVs M' vs ws := Paired.imp (fun _ _ => RV.mono h) r
theorem RKs.mono {κ : Type} {M M' : List Addr} (h : M <+: M') {vs : List (κ × MV)} {ws : List (κ × V)} (r : RKs M vs ws) : RKs M' vs ws := Paired.imp (fun _ _ q => ⟨q.1, q.2.mono h⟩) r
theorem RVs.len {M : List Addr} {vs : List MV} {ws : List V} (r : RVs M vs ws) : vs.length = ws.length := Paired.length r
theorem RVs.get {M : List Addr} : ∀ {vs : List MV} {ws : List V} {i : Nat} {v : MV}, RVs M vs ws → vs[i]? = some v → ∃ w, ws[i]? = some w ∧ RV M v w
  | _, _, _, _, .nil, e => by simp at e
  | _, _, 0, _, .cons r _, e => by simp at e; subst e; exact ⟨_, rfl, r⟩
  | _, _, i + 1, v, .cons _ t, e => by
    obtain ⟨w, h1, h2⟩ := RVs.get (i := i) (v := v) t (by simpa using e)
    exact ⟨w, by simpa using h1, h2⟩
theorem RVs.get' {M : List Addr} : ∀ {vs : List MV} {ws : List V} {i : Nat} {w : V}, RVs M vs ws → ws[i]? = some w → ∃ v, vs[i]? = some v ∧ RV M v w
  | _, _, _, _, .nil, e => by simp at e
  | _, _, 0, _, .cons r _, e => by simp at e; subst e; exact ⟨_, rfl, r⟩
  | _, _, i + 1, v, .cons _ t, e => by
    obtain ⟨w, h1, h2⟩ := RVs.get' (i := i) (w := v) t (by simpa using e)
    exact ⟨w, by simpa using h1, h2⟩
theorem RVs.none {M : List Addr} {vs : List MV} {ws : List V} {i : Nat} (r : RVs M vs ws) (e : vs[i]? = none) : ws[i]? = none := by
  have h1 := r.len
  have h2 : vs.length ≤ i := List.getElem?_eq_none_iff.mp e
  exact List.getElem?_eq_none_iff.mpr (by omega)
theorem RVs.append {M : List Addr} : ∀ {vs vs' : List MV} {ws ws' : List V}, RVs M vs ws → RVs M vs' ws' → RVs M (vs ++ vs') (ws ++ ws')
  | _, _, _, _, .nil, s => s
  | _, _, _, _, .cons r t, s => .cons r (RVs.append t s)
theorem RVs.set {M : List Addr} {x : MV} {u : V} (r : RV M x u) : ∀ {xs : List MV} {us : List V} (i : Nat), RVs M xs us → RVs M (xs.set i x) (us.set i u)
  | _, _, _, .nil => .nil
  | _, _, 0, .cons _ t => .cons r t
  | _, _, i + 1, .cons q t => .cons q (RVs.set r i t)
theorem RVs.take {M : List Addr} : ∀ {xs : List MV} {us : List V} (n : Nat), RVs M xs us → RVs M (xs.take n) (us.take n)
  | _, _, 0, _ => .nil
  | _, _, _ + 1, .nil => .nil
  | _, _, n + 1, .cons r t => .cons r (RVs.take n t)
theorem RVs.drop {M : List Addr} : ∀ {xs : List MV} {us : List V} (n : Nat), RVs M xs us → RVs M (xs.drop n) (us.drop n)
  | _, _, 0, r => r
  | _, _, _ + 1, .nil => .nil
  | _, _, n + 1, .cons _ t => RVs.drop n t
theorem RVs.reverse {M : List Addr} {xs : List MV} {us : List V} (h : RVs M xs us) : RVs M xs.reverse us.reverse := by
  induction h with
  | nil => exact .nil
  | cons r t ih => rw [List.reverse_cons, List.reverse_cons]; exact RVs.append ih (.cons r .nil)
theorem RVs.eraseIdx {M : List Addr} : ∀ {xs : List MV} {us : List V} (i : Nat), RVs M xs us → RVs M (xs.eraseIdx i) (us.eraseIdx i)
  | _, _, _, .nil => .nil
  | _, _, 0, .cons _ t => t
  | _, _, i + 1, .cons r t => .cons r (RVs.eraseIdx i t)
theorem RVs.rep {M : List Addr} {xs : List MV} {us : List V} (h : RVs M xs us) : ∀ k : Nat, RVs M (List.replicate k xs).flatten (List.replicate k us).flatten
  | 0 => .nil
  | k + 1 => by
    rw [List.replicate_succ, List.replicate_succ, List.flatten_cons, List.flatten_cons]
    exact RVs.append h (RVs.rep h k)
theorem RVs.fn {M : List Addr} : ∀ {vs : List MV} {ws ws' : List V}, RVs M vs ws → RVs M vs ws' → ws = ws'
  | _, _, _, .nil, .nil => rfl
  | _, _, _, .cons r t, .cons r' t' => by rw [r.fn r', RVs.fn t t']
theorem REnv.mono {M M' : List Addr} {env : MEnv} {σ : L2.St} (h : M <+: M') (r : REnv M env σ) : REnv M' env σ := ⟨r.len, fun i v e => by
  obtain ⟨w, h1, h2⟩ := r.get i v e
  exact ⟨w, h1, h2.mono h⟩⟩
theorem REnv.set {M : List Addr} {env : MEnv} {σ : L2.St} {i : Nat} {v : MV} {w : V} (r : REnv M env σ) (q : RV M v w) : REnv M (env.set i (some v)) (σ.set i (some w)) := by
  refine ⟨by rw [List.length_set, List.length_set]; exact r.len, fun j u e => ?_⟩
  by_cases hj : i = j
  · subst hj
    by_cases hi : i < env.length
    · rw [List.getElem?_set_self hi] at e
      cases e
      exact ⟨w, List.getElem?_set_self (by rw [← r.len]; exact hi), q⟩
    · rw [List.getElem?_eq_none (by rw [List.length_set]; omega)] at e
      cases e
  · rw [List.getElem?_set_ne hj] at e
    rw [List.getElem?_set_ne hj]
    exact r.get j u e
theorem REnv.setNone {M : List Addr} {env : MEnv} {σ : L2.St} {i : Nat} (r : REnv M env σ) : REnv M (env.set i none) (σ.set i none) := by
  refine ⟨by rw [List.length_set, List.length_set]; exact r.len, fun j u e => ?_⟩
  by_cases hj : i = j
  · subst hj
    by_cases hi : i < env.length
    · rw [List.getElem?_set_self hi] at e
      cases e
    · rw [List.getElem?_eq_none (by rw [List.length_set]; omega)] at e
      cases e
  · rw [List.getElem?_set_ne hj] at e
    rw [List.getElem?_set_ne hj]
    exact r.get j u e
theorem RO.monoM {W : WR} {M M' : List Addr} {H : Hp} {a : Addr} (h : M <+: M') : ∀ {o : MO}, RO W M H a o → RO W M' H a o
  | .lst _, ⟨ys, e, r⟩ => ⟨ys, e, r.mono h⟩
  | .tup _, ⟨ys, e, r⟩ => ⟨ys, e, r.mono h⟩
  | .flst _, ⟨ys, e, r⟩ => ⟨ys, e, r.mono h⟩
  | .dK _, ⟨ys, e, r⟩ => ⟨ys, e, r.mono h⟩
  | .dT _, ⟨ys, e, r⟩ => ⟨ys, e, r.mono h⟩
  | .fdK _, ⟨o, ys, e, r⟩ => ⟨o, ys, e, r.mono h⟩
  | .ins _ _, ⟨C, dx, ys, c, e, r⟩ => ⟨C, dx, ys, c, e, r.mono h⟩
/-- what holds of an object, where its own address stays -/
theorem RO.stay {W : WR} {M : List Addr} {H H' : Hp} {a : Addr} (h : ∀ u, H a = some u → H' a = some u) : ∀ {o : MO}, RO W M H a o → RO W M H' a o
  | .lst _, ⟨ys, e, r⟩ => ⟨ys, h _ e, r⟩
  | .tup _, ⟨ys, e, r⟩ => ⟨ys, e.imp (h _) id, r⟩
  | .flst _, ⟨ys, e, r⟩ => ⟨ys, e.imp (fun ⟨o, q⟩ => ⟨o, h _ q⟩) id, r⟩
  | .dK _, ⟨ys, e, r⟩ => ⟨ys, h _ e, r⟩
  | .dT _, ⟨ys, e, r⟩ => ⟨ys, h _ e, r⟩
  | .fdK _, ⟨o, ys, e, r⟩ => ⟨o, ys, h _ e, r⟩
  | .ins _ _, ⟨C, dx, ys, c, e, r⟩ => ⟨C, dx, ys, c, h _ e, r⟩
theorem RO.there {W : WR} {M : List Addr} {H : Hp} {a : Addr} : ∀ {o : MO}, RO W M H a o → isM o = true → ∃ u, H a = some u
  | .lst _, ⟨ys, e, _⟩, _ => ⟨_, e⟩
  | .dK _, ⟨ys, e, _⟩, _ => ⟨_, e⟩
  | .dT _, ⟨ys, e, _⟩, _ => ⟨_, e⟩
  | .fdK _, ⟨_, _, e, _⟩, _ => ⟨_, e⟩
  | .ins _ _, ⟨C, dx, ys, c, e, r⟩, _ => ⟨_, e⟩
  | .tup _, _, z => nomatch z
  | .flst _, _, z => nomatch z
theorem RSt.at {W : WR} {M : List Addr} {S : Stor} {H : Hp} (R : RSt W M S H) {k : Nat} {o : MO} (h : S[k]? = some o) : ∃ a, M[k]? = some a ∧ RO W M H a o := by
  have hk : k < M.length := by rw [R.len]; exact (List.getElem?_eq_some_iff.mp h).1
  exact ⟨M[k], List.getElem?_eq_getElem hk, R.obj k o _ h (List.getElem?_eq_getElem hk)⟩
theorem RSt.ref {W : WR} {M : List Addr} {S : Stor} {H : Hp} (R : RSt W M S H) {k : Nat} {o : MO} {w : V} (h : S[k]? = some o) (r : RV M (.ref k) w) : ∃ a, w = .ref a ∧ M[k]? = some a ∧ RO W M H a o := by
  obtain ⟨a, e, rfl⟩ := r
  obtain ⟨b, e', q⟩ := R.at h
  rw [e] at e'
  cases e'
  exact ⟨a, rfl, e, q⟩
/-- the heap may change where nothing of the store stands -/
theorem RSt.heap {W : WR} {M : List Addr} {S : Stor} {H H' : Hp} (R : RSt W M S H) (h : ∀ b u, H b = some u → H' b = some u) : RSt W M S H' :=
  ⟨R.gl, R.len, fun i o a e e' => (R.obj i o a e e').stay fun u => h a u, R.inj⟩
/-- a new object -/
theorem RSt.alloc {W : WR} {M : List Addr} {S : Stor} {H : Hp} {p : Addr} {u : HO} {o : MO} (R : RSt W M S H) (hp : H p = none) (ro : RO W M (upd H p u) p o) : RSt W (M ++ [p]) (S ++ [o]) (upd H p u) := by
  have keep : ∀ b u', H b = some u' → upd H p u b = some u' := fun b u' e => by rw [upd_ne (ne_of_none e hp)]; exact e
  refine ⟨pre_trans R.gl (pre_app _ _), by rw [List.length_append, List.length_append, R.len]; rfl, fun i o' a e e' => ?_, fun i j a o1 o2 e1 e2 s1 s2 m1 m2 => ?_⟩
  · by_cases hi : i < S.length
    · rw [List.getElem?_append_left hi] at e
      rw [List.getElem?_append_left (by rw [R.len]; exact hi)] at e'
      exact ((R.obj i o' a e e').stay fun u' => keep a u').monoM (pre_app _ _)
    · have hi2 : i = S.length := by
        have := (List.getElem?_eq_some_iff.mp e).1
        rw [List.length_append, List.length_singleton] at this
        omega
      subst hi2
      rw [List.getElem?_append_right (Nat.le_refl _), Nat.sub_self] at e
      rw [List.getElem?_append_right (by rw [R.len]; exact Nat.le_refl _), R.len, Nat.sub_self] at e'
      cases e
      cases e'
      exact ro.monoM (pre_app _ _)
  · have lt : ∀ (i : Nat) o, (S ++ [o])[i]? = some o → True := fun _ _ _ => trivial
    have key : ∀ (i : Nat) (o' : MO), (S ++ [o])[i]? = some o' → (M ++ [p])[i]? = some a → isM o' = true → (i < S.length ∧ S[i]? = some o' ∧ M[i]? = some a ∧ a ≠ p) ∨ (i = S.length ∧ a = p) := fun i o' s e m => by
      by_cases hi : i < S.length
      · rw [List.getElem?_append_left hi] at s
        rw [List.getElem?_append_left (by rw [R.len]; exact hi)] at e
        obtain ⟨u', hu⟩ := (R.obj i o' a s e).there m
        exact .inl ⟨hi, s, e, ne_of_none hu hp⟩
      · have hi2 : i = S.length := by
          have := (List.getElem?_eq_some_iff.mp s).1
          rw [List.length_append, List.length_singleton] at this
          omega
        subst hi2
        rw [List.getElem?_append_right (by rw [R.len]; exact Nat.le_refl _), R.len, Nat.sub_self] at e
        cases e
        exact .inr ⟨rfl, rfl⟩
    rcases key i o1 s1 e1 m1 with ⟨h1, h2, h3, h4⟩ | ⟨h1, h2⟩ <;> rcases key j o2 s2 e2 m2 with ⟨g1, g2, g3, g4⟩ | ⟨g1, g2⟩
    · exact R.inj i j a o1 o2 h3 g3 h2 g2 m1 m2
    · exact absurd g2 h4
    · exact absurd h2 g4
    · rw [h1, g1]
/-- a mutable object is written -/
theorem RSt.write {W : WR} {M : List Addr} {S : Stor} {H : Hp} {k : Nat} {p : Addr} {u : HO} {o o' : MO} (R : RSt W M S H) (hk : S[k]? = some o) (hp : M[k]? = some p) (m : isM o = true) (m' : isM o' = true) (ro : RO W M (upd H p u) p o') :
    RSt W M (S.set k o') (upd H p u) := by
  have hlt := (List.getElem?_eq_some_iff.mp hk).1
  obtain ⟨u0, hu0⟩ := (R.obj k o p hk hp).there m
  have ok0 := R.obj k o p hk hp
  refine ⟨R.gl, by rw [List.length_set]; exact R.len, fun i o1 a e e' => ?_, fun i j a o1 o2 e1 e2 s1 s2 m1 m2 => ?_⟩
  · by_cases hi : k = i
    · subst hi
      rw [List.getElem?_set_self hlt] at e
      cases e
      rw [hp] at e'
      cases e'
      exact ro
    · rw [List.getElem?_set_ne hi] at e
      have q := R.obj i o1 a e e'
      by_cases ha : a = p
      · subst ha
        cases hm : isM o1 with
        | true => exact absurd (R.inj k i a o o1 hp e' hk e m hm) hi
        | false =>
          cases o1 with
          | tup xs =>
            obtain ⟨ys, h1, h2⟩ := q
            refine ⟨ys, ?_, h2⟩
            rcases h1 with h1 | h1
            · exfalso
              cases o with
              | lst xs => obtain ⟨zs, z1, _⟩ := ok0; rw [h1] at z1; cases z1
              | dK xs => obtain ⟨zs, z1, _⟩ := ok0; rw [h1] at z1; cases z1
              | dT xs => obtain ⟨zs, z1, _⟩ := ok0; rw [h1] at z1; cases z1
              | fdK xs => obtain ⟨_, zs, z1, _⟩ := ok0; rw [h1] at z1; cases z1
              | ins c xs => obtain ⟨_, _, zs, _, z1, _⟩ := ok0; rw [h1] at z1; cases z1
              | tup xs => cases m
              | flst xs => cases m
            · exact .inr h1
          | flst xs =>
            obtain ⟨ys, h1, h2⟩ := q
            refine ⟨ys, ?_, h2⟩
            rcases h1 with ⟨ob, h1⟩ | h1
            · exfalso
              cases o with
              | lst xs => obtain ⟨zs, z1, _⟩ := ok0; rw [h1] at z1; cases z1
              | dK xs => obtain ⟨zs, z1, _⟩ := ok0; rw [h1] at z1; cases z1
              | dT xs => obtain ⟨zs, z1, _⟩ := ok0; rw [h1] at z1; cases z1
              | fdK xs => obtain ⟨_, zs, z1, _⟩ := ok0; rw [h1] at z1; cases z1
              | ins c xs => obtain ⟨_, _, zs, _, z1, _⟩ := ok0; rw [h1] at z1; cases z1
              | tup xs => cases m
              | flst xs => cases m
            · exact .inr h1
          | lst xs => cases hm
          | dK xs => cases hm
          | dT xs => cases hm
          | fdK xs => cases hm
          | ins c xs => cases hm
      · exact q.stay fun u' e2 => by rw [upd_ne ha]; exact e2
  · have key : ∀ (i : Nat) (o1 : MO), (S.set k o')[i]? = some o1 → isM o1 = true → ∃ o2, S[i]? = some o2 ∧ isM o2 = true := fun i o1 s m1 => by
      by_cases hi : k = i
      · subst hi
        exact ⟨o, hk, m⟩
      · rw [List.getElem?_set_ne hi] at s
        exact ⟨o1, s, m1⟩
    obtain ⟨q1, h1, g1⟩ := key i o1 s1 m1
    obtain ⟨q2, h2, g2⟩ := key j o2 s2 m2
    exact R.inj i j a q1 q2 e1 e2 h1 h2 g1 g2

/-! ### a result and what follows -/
section
variable {W : WR} {α β γ δ : Type}
def Po (W : WR) (RA : List Addr → α → β → Prop) (E : XK) (M : List Addr) (Q : β → Hp → Prop) : Res α → Prop
  | .ok a S' => ∀ M' H' b, M <+: M' → RSt W M' S' H' → RA M' a b → Q b H'
  | .err x S' => ∀ M' H' C d, M <+: M' → RSt W M' S' H' → RX W M' H' x C d → E C d H'
  | .bad => False
theorem Po.mono {RA : List Addr → α → β → Prop} {E : XK} {M M' : List Addr} {Q : β → Hp → Prop} (h : M <+: M') : ∀ {r : Res α}, Po W RA E M Q r → Po W RA E M' Q r
  | .ok _ _, q => fun M2 H' b e => q M2 H' b (pre_trans h e)
  | .err _ _, q => fun M2 H' C d e => q M2 H' C d (pre_trans h e)
  | .bad, q => q
theorem Po.imp {RA : List Addr → α → β → Prop} {E : XK} {M : List Addr} {Q Q' : β → Hp → Prop} (h : ∀ b H, Q b H → Q' b H) : ∀ {r : Res α}, Po W RA E M Q r → Po W RA E M Q' r
  | .ok _ _, q => fun M2 H' b e R z => h _ _ (q M2 H' b e R z)
  | .err _ _, q => q
  | .bad, q => q
theorem Po.bd {RA : List Addr → α → β → Prop} {RB : List Addr → γ → δ → Prop} {E : XK} {M : List Addr} {Q : δ → Hp → Prop} {k : α → Stor → Res γ} : ∀ {r : Res α}, Po W RB E M Q (r.bd k) →
    Po W RA E M (fun b H' => ∃ M' S' a, M <+: M' ∧ RSt W M' S' H' ∧ RA M' a b ∧ Po W RB E M' Q (k a S')) r
  | .ok a S', q => fun M' H' b e R z => ⟨M', S', a, e, R, z, q.mono e⟩
  | .err _ _, q => q
  | .bad, q => q
theorem Po.ok {RA : List Addr → α → β → Prop} {E : XK} {M : List Addr} {Q : β → Hp → Prop} {a : α} {S : Stor} {H : Hp} {b : β} (p : Po W RA E M Q (.ok a S)) (R : RSt W M S H) (h : RA M a b) : Q b H := p M H b (pre_refl _) R h
end

abbrev SE := MEnv → Stor → Res MV
abbrev SA := MEnv → Stor → Res (List MV)
abbrev SB := MEnv → Stor → Res Bool
inductive Out where
  | nx (env : MEnv) | rt (v : MV) | bk (env : MEnv) | ct (env : MEnv)
abbrev SS := MEnv → Stor → Res Out

section
variable (W : WR) (E : L2.St → XK)
def tE (f : SE) : TE := fun σ H Q => ∃ M S env, RSt W M S H ∧ REnv M env σ ∧ Po W RV (E σ) M Q (f env S)
def tA (f : SA) : TA := fun σ H Q => ∃ M S env, RSt W M S H ∧ REnv M env σ ∧ Po W RVs (E σ) M Q (f env S)
def tB (f : SB) : TT := fun σ H Q => ∃ M S env, RSt W M S H ∧ REnv M env σ ∧ Po W (fun _ (a b : Bool) => a = b) (E σ) M Q (f env S)
end
section
variable (W : WR) (E : XK)
def PoS (M : List Addr) (D : Ends) : Res Out → Prop
  | .ok (.nx env) S' => ∀ M' H' σ', M <+: M' → RSt W M' S' H' → REnv M' env σ' → D.nx σ' H'
  | .ok (.bk env) S' => ∀ M' H' σ', M <+: M' → RSt W M' S' H' → REnv M' env σ' → D.bk σ' H'
  | .ok (.ct env) S' => ∀ M' H' σ', M <+: M' → RSt W M' S' H' → REnv M' env σ' → D.ct σ' H'
  | .ok (.rt v) S' => ∀ M' H' w, M <+: M' → RSt W M' S' H' → RV M' v w → D.rt w H'
  | .err x S' => ∀ M' H' C d, M <+: M' → RSt W M' S' H' → RX W M' H' x C d → E C d H'
  | .bad => False
def tS (f : SS) : TS := fun D σ H => ∃ M S env, RSt W M S H ∧ REnv M env σ ∧ PoS W E M D (f env S)
end
theorem PoS.mono {W : WR} {E : XK} {M M' : List Addr} {D : Ends} (h : M <+: M') {r : Res Out} (q : PoS W E M D r) : PoS W E M' D r := by
  cases r with
  | bad => exact q
  | err x S => exact fun M2 H' C d e => q M2 H' C d (pre_trans h e)
  | ok o S => cases o <;> exact fun M2 H' b e => q M2 H' b (pre_trans h e)
theorem PoS.bd {W : WR} {E : XK} {α β : Type} {RA : List Addr → α → β → Prop} {M : List Addr} {D : Ends} {k : α → Stor → Res Out} : ∀ {r : Res α}, PoS W E M D (r.bd k) →
    Po W RA E M (fun b H' => ∃ M' S' a, M <+: M' ∧ RSt W M' S' H' ∧ RA M' a b ∧ PoS W E M' D (k a S')) r
  | .ok a S', q => fun M' H' b e R z => ⟨M', S', a, e, R, z, q.mono e⟩
  | .err _ _, q => q
  | .bad, q => q

/-! ### readings weakened -/
section
variable {X : Cx}
theorem PE.wk {e : Expr} {t t' : TE} (h : PE X e t) (w : ∀ σ H Q, t' σ H Q → t σ H Q) : PE X e t' := ⟨fun pins s σ H Q I q => h.run pins s σ H Q I (w σ H Q q)⟩
theorem PT.wk {e : Expr} {t t' : TT} (h : PT X e t) (w : ∀ σ H Q, t' σ H Q → t σ H Q) : PT X e t' := ⟨fun pins s σ H Q I q => h.run pins s σ H Q I (w σ H Q q)⟩
theorem PW.wk {e : Expr} {t t' : TT} (h : PW X e t) (w : ∀ σ H Q, t' σ H Q → t σ H Q) : PW X e t' := ⟨fun wh pins s σ H Q I q => h.run wh pins s σ H Q I (w σ H Q q)⟩
theorem PA.wk {e : List Expr} {t t' : TA} (h : PA X e t) (w : ∀ σ H Q, t' σ H Q → t σ H Q) : PA X e t' := ⟨fun pos pins s σ H Q I q => h.run pos pins s σ H Q I (w σ H Q q)⟩
theorem PS.wk {e : Stmt} {t t' : TS} (h : PS X e t) (w : ∀ D σ H, t' D σ H → t D σ H) : PS X e t' := ⟨fun pins s σ H Q I q => h.run pins s σ H Q I (w Q σ H q)⟩
theorem PSs.wk {e : List Stmt} {t t' : TS} (h : PSs X e t) (w : ∀ D σ H, t' D σ H → t D σ H) : PSs X e t' := ⟨fun pins s σ H Q I q => h.run pins s σ H Q I (w Q σ H q)⟩
end
end Rf

/-! Rf1: operations by values, and their soundness. -/
namespace Rf
open PySem PySem.Spec PyProof.Rows L2

/-- a list, a tuple that can be read -/
def lget (S : Stor) (k : Nat) : Option (List MV) := match S[k]? with
  | some (.lst xs) => some xs
  | some (.flst xs) => some xs
  | _ => none
def tget (S : Stor) (k : Nat) : Option (List MV) := match S[k]? with
  | some (.tup xs) => some xs
  | _ => none
def newL (xs : List MV) (S : Stor) : Res MV := if xs.length ≤ sizeLine then .ok (.ref S.length) (S ++ [.lst xs]) else .bad
def newT (xs : List MV) (S : Stor) : Res MV := if xs.length ≤ sizeLine then .ok (.ref S.length) (S ++ [.tup xs]) else .bad
/-- data by values, to a depth -/
def dat : Nat → Stor → MV → Option PyData
  | _, _, .non => some .none
  | _, _, .bl b => some (.bool b)
  | _, _, .int i => some (.int i)
  | _, _, .str x => some (.str x)
  | 0, _, .ref _ => none
  | n + 1, S, .ref k => match S[k]? with
    | some (.lst xs) => (xs.mapM (dat n S)).map .list
    | some (.flst xs) => (xs.mapM (dat n S)).map .list
    | some (.tup xs) => (xs.mapM (dat n S)).map .tuple
    | _ => none

section
variable {W : WR} {E : XK} {M : List Addr} {S : Stor} {H : Hp}
theorem KLst.sq {K : PySem.W.Frag} {a : Addr} {ys : List V} (h : KLst K a ys) : SqL K H a ys := .inr h
theorem KTup.sq {K : PySem.W.Frag} {a : Addr} {ys : List V} (h : KTup K a ys) : SqT K H a ys := .inr h
theorem RSt.lget (R : RSt W M S H) {k : Nat} {xs : List MV} {w : V} (h : lget S k = some xs) (r : RV M (.ref k) w) : ∃ a ys, w = .ref a ∧ SqL W.K H a ys ∧ RVs M xs ys := by
  unfold Rf.lget at h
  split at h
  · rename_i zs e
    cases h
    obtain ⟨a, rfl, ea, ys, q, rs⟩ := R.ref e r
    exact ⟨a, ys, rfl, .of q, rs⟩
  · rename_i zs e
    cases h
    obtain ⟨a, rfl, ea, ys, q, rs⟩ := R.ref e r
    refine ⟨a, ys, rfl, ?_, rs⟩
    rcases q with ⟨o, q⟩ | q
    · exact .inl (.inr ⟨o, q⟩)
    · exact .inr q
  · cases h
theorem RSt.tget (R : RSt W M S H) {k : Nat} {xs : List MV} {w : V} (h : tget S k = some xs) (r : RV M (.ref k) w) : ∃ a ys, w = .ref a ∧ SqT W.K H a ys ∧ RVs M xs ys := by
  unfold Rf.tget at h
  split at h
  · rename_i zs e
    cases h
    obtain ⟨a, rfl, ea, ys, q, rs⟩ := R.ref e r
    refine ⟨a, ys, rfl, ?_, rs⟩
    rcases q with q | q
    · exact .of q
    · exact .inr q
  · cases h
theorem RSt.lst (R : RSt W M S H) {k : Nat} {xs : List MV} {w : V} (h : S[k]? = some (.lst xs)) (r : RV M (.ref k) w) : ∃ a ys, w = .ref a ∧ M[k]? = some a ∧ H a = some (.lst ys) ∧ RVs M xs ys := by
  obtain ⟨a, rfl, ea, ys, q, rs⟩ := R.ref h r
  exact ⟨a, ys, rfl, ea, q, rs⟩
theorem RSt.newL (R : RSt W M S H) {xs : List MV} {ys : List V} {Q : VK} (rs : RVs M xs ys) (p : Po W RV E M Q (newL xs S)) : ys.length ≤ sizeLine ∧ ∀ a, H a = none → Q (.ref a) (upd H a (.lst ys)) := by
  unfold Rf.newL at p
  by_cases hl : xs.length ≤ sizeLine
  · rw [if_pos hl] at p
    refine ⟨by rw [← rs.len]; exact hl, fun a ha => ?_⟩
    refine p (M ++ [a]) _ _ (pre_app _ _) (R.alloc ha ⟨ys, upd_same, rs⟩) ⟨a, ?_, rfl⟩
    rw [← R.len, List.getElem?_append_right (Nat.le_refl _), Nat.sub_self]
    rfl
  · rw [if_neg hl] at p
    exact False.elim p
theorem RSt.newT (R : RSt W M S H) {xs : List MV} {ys : List V} {Q : VK} (rs : RVs M xs ys) (p : Po W RV E M Q (newT xs S)) : ys.length ≤ sizeLine ∧ ∀ a, H a = none → Q (.ref a) (upd H a (.tup ys)) := by
  unfold Rf.newT at p
  by_cases hl : xs.length ≤ sizeLine
  · rw [if_pos hl] at p
    refine ⟨by rw [← rs.len]; exact hl, fun a ha => ?_⟩
    refine p (M ++ [a]) _ _ (pre_app _ _) (R.alloc ha ⟨ys, .inl upd_same, rs⟩) ⟨a, ?_, rfl⟩
    rw [← R.len, List.getElem?_append_right (Nat.le_refl _), Nat.sub_self]
    rfl
  · rw [if_neg hl] at p
    exact False.elim p
/-- a list is written -/
theorem RSt.setL (R : RSt W M S H) {k : Nat} {xs xs' : List MV} {ys' : List V} {a : Addr} (h : S[k]? = some (.lst xs)) (ea : M[k]? = some a) (rs : RVs M xs' ys') : RSt W M (S.set k (.lst xs')) (upd H a (.lst ys')) :=
  R.write h ea rfl rfl ⟨ys', upd_same, rs⟩

/-! data -/
theorem dat_dp (R : RSt W M S H) : ∀ (n : Nat) (v : MV) (d : PyData) (w : V), dat n S v = some d → RV M v w → Dp W.K H w d := by
  intro n
  induction n with
  | zero =>
    intro v d w h r
    cases v with
    | non => cases h; cases (show w = V.non from r); exact .non
    | bl b => cases h; cases (show w = V.bl b from r); exact .bl b
    | int i => cases h; cases (show w = V.int i from r); exact .int i
    | str x => cases h; cases (show w = V.str x from r); exact .str x
    | ref k => cases h
  | succ n ih =>
    have all : ∀ (xs : List MV) (ds : List PyData) (ws : List V), xs.mapM (dat n S) = some ds → RVs M xs ws → DpAll W.K H ws ds := by
      intro xs
      induction xs with
      | nil =>
        intro ds ws h r
        cases r
        rw [List.mapM_nil] at h
        cases h
        exact .nil
      | cons x xs ihx =>
        intro ds ws h r
        cases r with
        | cons r1 r2 =>
          rw [List.mapM_cons] at h
          cases e1 : dat n S x with
          | none => rw [e1] at h; cases h
          | some d1 =>
            rw [e1] at h
            cases e2 : xs.mapM (dat n S) with
            | none => rw [e2] at h; cases h
            | some ds2 =>
              rw [e2] at h
              cases h
              exact .cons (ih x d1 _ e1 r1) (ihx ds2 _ e2 r2)
    intro v d w h r
    cases v with
    | non => cases h; cases (show w = V.non from r); exact .non
    | bl b => cases h; cases (show w = V.bl b from r); exact .bl b
    | int i => cases h; cases (show w = V.int i from r); exact .int i
    | str x => cases h; cases (show w = V.str x from r); exact .str x
    | ref k =>
      unfold dat at h
      split at h
      · rename_i zs e
        cases em : zs.mapM (dat n S) with
        | none => rw [em] at h; cases h
        | some ds =>
          rw [em] at h
          cases h
          obtain ⟨a, ys, rfl, q, rs⟩ := R.lget (show Rf.lget S k = some zs by unfold Rf.lget; rw [e]) r
          exact .lst q (all zs ds ys em rs)
      · rename_i zs e
        cases em : zs.mapM (dat n S) with
        | none => rw [em] at h; cases h
        | some ds =>
          rw [em] at h
          cases h
          obtain ⟨a, ys, rfl, q, rs⟩ := R.lget (show Rf.lget S k = some zs by unfold Rf.lget; rw [e]) r
          exact .lst q (all zs ds ys em rs)
      · rename_i zs e
        cases em : zs.mapM (dat n S) with
        | none => rw [em] at h; cases h
        | some ds =>
          rw [em] at h
          cases h
          obtain ⟨a, ys, rfl, q, rs⟩ := R.tget (show Rf.tget S k = some zs by unfold Rf.tget; rw [e]) r
          exact .tup q (all zs ds ys em rs)
      · cases h
end

/-! ### two-place operations -/
def catS (k l : Nat) (S : Stor) : Res MV := match lget S k, lget S l with
  | some xs, some ys => newL (xs ++ ys) S
  | _, _ => .bad
def repS (k : Nat) (j : Int) (S : Stor) : Res MV := match S[k]? with
  | some (.lst xs) => if -(2 ^ 63) ≤ j ∧ j < 2 ^ 63 ∧ xs.length * j.toNat ≤ sizeLine then newL (List.replicate j.toNat xs).flatten S else .bad
  | _ => .bad
def extS (k l : Nat) (S : Stor) : Res MV := match S[k]?, S[l]? with
  | some (.lst xs), some (.lst ys) => if xs.length + ys.length ≤ sizeLine then .ok (.ref k) (S.set k (.lst (xs ++ ys))) else .bad
  | _, _ => .bad
def intsM (xs : List MV) : Option (List Int) := xs.mapM fun | MV.int i => some i | _ => none
def ltT (k l : Nat) (S : Stor) : Res MV := match tget S k, tget S l with
  | some xs, some ys => match intsM xs, intsM ys with
    | some ns, some ms => .ok (.bl (HT.lexLt ns ms)) S
    | _, _ => .bad
  | _, _ => .bad
def addS : MV → MV → Stor → Res MV
  | .int i, .int j, S => .ok (.int (i + j)) S
  | .str x, .str y, S => if x.length + y.length ≤ sizeLine then .ok (.str (x ++ y)) S else .bad
  | .ref k, .ref l, S => catS k l S
  | _, _, _ => .bad
def subS : MV → MV → Stor → Res MV
  | .int i, .int j, S => .ok (.int (i - j)) S
  | _, _, _ => .bad
instance (i j : Int) : Decidable (CMul i j) := by unfold CMul; infer_instance
instance (i j : Int) : Decidable (CDiv i j) := by unfold CDiv; infer_instance
instance (i j : Int) : Decidable (CPow i j) := by unfold CPow; infer_instance
def mulS : MV → MV → Stor → Res MV
  | .int i, .int j, S => if CMul i j then .ok (.int (i * j)) S else .bad
  | .ref k, .int j, S => repS k j S
  | _, _, _ => .bad
def fdivS : MV → MV → Stor → Res MV
  | .int i, .int j, S => if CDiv i j then .ok (.int (i / j)) S else .bad
  | _, _, _ => .bad
def modS : MV → MV → Stor → Res MV
  | .int i, .int j, S => if 0 < j then .ok (.int (i % j)) S else .bad
  | _, _, _ => .bad
def powS : MV → MV → Stor → Res MV
  | .int i, .int j, S => if CPow i j then .ok (.int (i ^ j.toNat)) S else .bad
  | _, _, _ => .bad
def shlS : MV → MV → Stor → Res MV
  | .int i, .int j, S => if CPow i j then .ok (.int (i * 2 ^ j.toNat)) S else .bad
  | _, _, _ => .bad
def shrS : MV → MV → Stor → Res MV
  | .int i, .int j, S => if 0 ≤ j then .ok (.int (i / 2 ^ j.toNat)) S else .bad
  | _, _, _ => .bad
def andS : MV → MV → Stor → Res MV
  | .int i, .int j, S => .ok (.int (Builtin.bitAnd i j)) S
  | _, _, _ => .bad
def orS : MV → MV → Stor → Res MV
  | .int i, .int j, S => .ok (.int (Builtin.bitOr i j)) S
  | _, _, _ => .bad
def xorS : MV → MV → Stor → Res MV
  | .int i, .int j, S => .ok (.int (Builtin.bitXor i j)) S
  | _, _, _ => .bad
/-- list += list, int += int, text += text -/
def iaddS : MV → MV → Stor → Res MV
  | .int i, .int j, S => .ok (.int (i + j)) S
  | .str x, .str y, S => if x.length + y.length ≤ sizeLine then .ok (.str (x ++ y)) S else .bad
  | .ref k, .ref l, S => extS k l S
  | _, _, _ => .bad
def eqS (neg : Bool) (a b : MV) (S : Stor) : Res MV := match dat 9 S a, dat 9 S b with
  | some d, some e => if SeqAt.shaped d && SeqAt.shaped e then .ok (.bl (if neg then !PyData.eqv d e else PyData.eqv d e)) S else .bad
  | _, _ => .bad
def ltS : MV → MV → Stor → Res MV
  | .int i, .int j, S => .ok (.bl (decide (i < j))) S
  | .ref k, .ref l, S => ltT k l S
  | _, _, _ => .bad
def leS : MV → MV → Stor → Res MV
  | .int i, .int j, S => .ok (.bl (decide (i ≤ j))) S
  | _, _, _ => .bad
def gtS : MV → MV → Stor → Res MV
  | .int i, .int j, S => .ok (.bl (decide (j < i))) S
  | _, _, _ => .bad
def geS : MV → MV → Stor → Res MV
  | .int i, .int j, S => .ok (.bl (decide (j ≤ i))) S
  | _, _, _ => .bad
def flatM : MV → Bool
  | .ref _ => false
  | _ => true
/-- == of flat values -/
def eqM : MV → MV → Bool
  | .non, .non => true
  | .bl a, .bl b => a == b
  | .bl a, .int b => (if a then 1 else 0) == b
  | .int a, .bl b => a == (if b then 1 else 0)
  | .int a, .int b => a == b
  | .str a, .str b => a == b
  | _, _ => false
def inM (x : MV) (xs : List MV) : Bool := xs.any fun y => eqM y x
def keyOf : Stor → MV → Option Key
  | _, .int i => some (.inl i)
  | _, .str x => some (.inr x)
  | _, _ => none
def keysOf (S : Stor) : MV → Option (List Key)
  | .ref k => match tget S k with
    | some xs => xs.mapM (keyOf S)
    | none => none
  | _ => none
def inStr (neg : Bool) (x z : Str) (S : Stor) : Res MV := match x.cps.toList with
  | [c] => .ok (.bl (if neg then !decide (c ∈ z.cps.toList) else decide (c ∈ z.cps.toList))) S
  | _ => .bad
def inSq (neg : Bool) (a : MV) (k : Nat) (S : Stor) : Res MV := match lget S k with
  | some xs => if flatM a && xs.all flatM then .ok (.bl (if neg then !inM a xs else inM a xs)) S else .bad
  | none => match tget S k with
    | some xs => if flatM a && xs.all flatM then .ok (.bl (if neg then !inM a xs else inM a xs)) S else .bad
    | none => .bad
def inS (neg : Bool) : MV → MV → Stor → Res MV
  | .str x, .str z, S => inStr neg x z S
  | a, .ref k, S => inSq neg a k S
  | _, _, _ => .bad
def isS (neg : Bool) : MV → MV → Stor → Res MV
  | a, .non, S => .ok (.bl (if neg then !decide (a = .non) else decide (a = .non))) S
  | .bl a, .bl b, S => .ok (.bl (if neg then !decide (a = b) else decide (a = b))) S
  | _, _, _ => .bad

def rS2 (W : WR) (f : MV → MV → Stor → Res MV) : R2 := fun x y H Q => ∃ (E : XK) (M : List Addr) (S : Stor) (a b : MV), RSt W M S H ∧ RV M a x ∧ RV M b y ∧ Po W RV E M Q (f a b S)

section
variable {X : Cx} {W : WR} (hK : X.K = W.K)
theorem opInt {f : Value → Value → Sem Value} {g : Int → Int → V} {C : Int → Int → Prop} {h : MV → MV → Stor → Res MV} {gm : Int → Int → MV} (ho : OpR X f (rI C g))
    (hs : ∀ a b S, h a b S ≠ .bad → ∃ i j, a = .int i ∧ b = .int j ∧ C i j ∧ h a b S = .ok (gm i j) S) (hg : ∀ M i j, RV M (gm i j) (g i j)) : OpR X f (rS2 W h) := by
  intro pins s σ H x y v u Q I rx ry ⟨E, M, S, a, b, R, ra, rb, p⟩
  have nb : h a b S ≠ .bad := fun e => by rw [e] at p; exact p
  obtain ⟨i, j, rfl, rfl, hc, e⟩ := hs a b S nb
  rw [e] at p
  cases (show x = V.int i from ra)
  cases (show y = V.int j from rb)
  exact ho pins s σ H _ _ v u Q I rx ry ⟨i, j, rfl, rfl, hc, p.ok R (hg M i j)⟩
theorem rI_of0 {f : Value → Value → Sem Value} {g : Int → Int → V} (ho : OpR X f (rI0 g)) : OpR X f (rI (fun _ _ => True) g) := by
  intro pins s σ H x y v u Q I rx ry ⟨i, j, h1, h2, _, q⟩
  exact ho pins s σ H x y v u Q I rx ry ⟨i, j, h1, h2, q⟩
theorem b_sub : OpR X (binaryOp .Sub) (rS2 W subS) := opInt (C := fun _ _ => True) (gm := fun i j => .int (i - j)) (rI_of0 op_sub) (fun a b S n => by
  cases a <;> cases b <;> first | exact absurd rfl n | exact ⟨_, _, rfl, rfl, trivial, rfl⟩) fun _ _ _ => rfl
theorem b_fdiv : OpR X (binaryOp .FloorDiv) (rS2 W fdivS) := opInt (C := CDiv) (gm := fun i j => .int (i / j)) op_fdiv (fun a b S n => by
  cases a <;> cases b <;> first | exact absurd rfl n | (rename_i i j; by_cases h : CDiv i j; exact ⟨i, j, rfl, rfl, h, if_pos h⟩; exact absurd (if_neg h) n)) fun _ _ _ => rfl
theorem b_mod : OpR X (binaryOp .Mod) (rS2 W modS) := opInt (C := fun _ j => 0 < j) (gm := fun i j => .int (i % j)) op_mod (fun a b S n => by
  cases a <;> cases b <;> first | exact absurd rfl n | (rename_i i j; by_cases h : 0 < j; exact ⟨i, j, rfl, rfl, h, if_pos h⟩; exact absurd (if_neg h) n)) fun _ _ _ => rfl
theorem b_pow : OpR X (binaryOp .Pow) (rS2 W powS) := opInt (C := CPow) (gm := fun i j => .int (i ^ j.toNat)) op_pow (fun a b S n => by
  cases a <;> cases b <;> first | exact absurd rfl n | (rename_i i j; by_cases h : CPow i j; exact ⟨i, j, rfl, rfl, h, if_pos h⟩; exact absurd (if_neg h) n)) fun _ _ _ => rfl
theorem b_shl : OpR X (binaryOp .LShift) (rS2 W shlS) := opInt (C := CPow) (gm := fun i j => .int (i * 2 ^ j.toNat)) op_shl (fun a b S n => by
  cases a <;> cases b <;> first | exact absurd rfl n | (rename_i i j; by_cases h : CPow i j; exact ⟨i, j, rfl, rfl, h, if_pos h⟩; exact absurd (if_neg h) n)) fun _ _ _ => rfl
theorem b_shr : OpR X (binaryOp .RShift) (rS2 W shrS) := opInt (C := fun _ j => 0 ≤ j) (gm := fun i j => .int (i / 2 ^ j.toNat)) op_shr (fun a b S n => by
  cases a <;> cases b <;> first | exact absurd rfl n | (rename_i i j; by_cases h : 0 ≤ j; exact ⟨i, j, rfl, rfl, h, if_pos h⟩; exact absurd (if_neg h) n)) fun _ _ _ => rfl
theorem b_and : OpR X (binaryOp .BitAnd) (rS2 W andS) := opInt (C := fun _ _ => True) (gm := fun i j => .int (Builtin.bitAnd i j)) (rI_of0 op_and) (fun a b S n => by
  cases a <;> cases b <;> first | exact absurd rfl n | exact ⟨_, _, rfl, rfl, trivial, rfl⟩) fun _ _ _ => rfl
theorem b_or : OpR X (binaryOp .BitOr) (rS2 W orS) := opInt (C := fun _ _ => True) (gm := fun i j => .int (Builtin.bitOr i j)) (rI_of0 op_or) (fun a b S n => by
  cases a <;> cases b <;> first | exact absurd rfl n | exact ⟨_, _, rfl, rfl, trivial, rfl⟩) fun _ _ _ => rfl
theorem b_xor : OpR X (binaryOp .BitXor) (rS2 W xorS) := opInt (C := fun _ _ => True) (gm := fun i j => .int (Builtin.bitXor i j)) (rI_of0 op_xor) (fun a b S n => by
  cases a <;> cases b <;> first | exact absurd rfl n | exact ⟨_, _, rfl, rfl, trivial, rfl⟩) fun _ _ _ => rfl
theorem i_xor : OpR X (inplaceOp .BitXor) (rS2 W xorS) := opInt (C := fun _ _ => True) (gm := fun i j => .int (Builtin.bitXor i j)) (rI_of0 iop_xor) (fun a b S n => by
  cases a <;> cases b <;> first | exact absurd rfl n | exact ⟨_, _, rfl, rfl, trivial, rfl⟩) fun _ _ _ => rfl
theorem i_shr : OpR X (inplaceOp .RShift) (rS2 W shrS) := opInt (C := fun _ j => 0 ≤ j) (gm := fun i j => .int (i / 2 ^ j.toNat)) iop_shr (fun a b S n => by
  cases a <;> cases b <;> first | exact absurd rfl n | (rename_i i j; by_cases h : 0 ≤ j; exact ⟨i, j, rfl, rfl, h, if_pos h⟩; exact absurd (if_neg h) n)) fun _ _ _ => rfl
theorem b_gt : OpR X (compareOp .Gt) (rS2 W gtS) := opInt (C := fun _ _ => True) (gm := fun i j => .bl (decide (j < i))) (rI_of0 op_gt) (fun a b S n => by
  cases a <;> cases b <;> first | exact absurd rfl n | exact ⟨_, _, rfl, rfl, trivial, rfl⟩) fun _ _ _ => rfl
theorem b_ge : OpR X (compareOp .GtE) (rS2 W geS) := opInt (C := fun _ _ => True) (gm := fun i j => .bl (decide (j ≤ i))) (rI_of0 op_ge) (fun a b S n => by
  cases a <;> cases b <;> first | exact absurd rfl n | exact ⟨_, _, rfl, rfl, trivial, rfl⟩) fun _ _ _ => rfl
theorem b_le : OpR X (compareOp .LtE) (rS2 W leS) := opInt (C := fun _ _ => True) (gm := fun i j => .bl (decide (i ≤ j))) (rI_of0 op_le) (fun a b S n => by
  cases a <;> cases b <;> first | exact absurd rfl n | exact ⟨_, _, rfl, rfl, trivial, rfl⟩) fun _ _ _ => rfl

/-- list + list, whatever lists -/
def rCatR (K : PySem.W.Frag) : R2 := fun x y H Q => ∃ l b xs zs, x = .ref l ∧ y = .ref b ∧ SqL K H l xs ∧ SqL K H b zs ∧ xs.length + zs.length ≤ sizeLine ∧ ∀ p, H p = none → Q (.ref p) (upd H p (.lst (xs ++ zs)))
theorem op_catR : OpR X (binaryOp .Add) (rCatR X.K) := by
  intro pins s σ H x y v u Q I rx ry h
  obtain ⟨l, b, xs, zs, rfl, rfl, hH, hB, hz, q⟩ := h
  cases rx
  cases ry
  obtain ⟨its, r, ⟨o1, n1, e1, c1, d1, dt1⟩, _⟩ := I.list hH
  obtain ⟨its2, r2, ⟨o2, n2, e2, c2, d2, dt2⟩, _⟩ := I.list hB
  obtain ⟨cls, dd, data, sl⟩ := o1
  obtain ⟨cls2, dd2, data2, sl2⟩ := o2
  simp only at c1 d1 dt1 c2 d2 dt2
  subst c1 d1 dt1 c2 d2 dt2
  have hl1 := r.length
  have hl2 := r2.length
  have e : its.toArray ++ its2.toArray = (its ++ its2).toArray := by simp
  refine concat_meets ⟨_, e1, rfl⟩ ⟨_, e2, rfl⟩ noFill_list_add seq_list_add PySem.F.slot_list_add PySem.F.entry_list_add (PySem.F.args_list_add_2 _ _) (list_addW l b its.toArray its2.toArray n1 n2 none none sl sl2 (by rw [List.size_toArray, List.size_toArray]; omega)) ⟨e1, e2, ?_⟩
  rw [e]
  exact ⟨.ref _, _, I.lnew (t' := s.toks) (r.append r2) (by rw [List.length_append]; omega), rfl, q _ I.fresh⟩
include hK
theorem b_add : OpR X (binaryOp .Add) (rS2 W addS) := by
  intro pins s σ H x y v u Q I rx ry ⟨E, M, S, a, b, R, ra, rb, p⟩
  cases a <;> cases b <;> try exact False.elim p
  · rename_i i j
    cases (show x = V.int i from ra)
    cases (show y = V.int j from rb)
    exact op_add pins s σ H _ _ v u Q I rx ry ⟨i, j, rfl, rfl, p.ok R rfl⟩
  · rename_i i j
    cases (show x = V.str i from ra)
    cases (show y = V.str j from rb)
    by_cases hl : i.length + j.length ≤ sizeLine
    · rw [show addS (.str i) (.str j) S = .ok (.str (i ++ j)) S from if_pos hl] at p
      exact op_add_str pins s σ H _ _ v u Q I rx ry ⟨i, j, rfl, rfl, hl, p.ok R rfl⟩
    · rw [show addS (.str i) (.str j) S = .bad from if_neg hl] at p
      exact False.elim p
  · rename_i k l
    have p : Po W RV E M Q (catS k l S) := p
    unfold catS at p
    cases e1 : lget S k with
    | none => rw [e1] at p; exact False.elim p
    | some xs =>
      cases e2 : lget S l with
      | none => rw [e1, e2] at p; exact False.elim p
      | some ys =>
        rw [e1, e2] at p
        obtain ⟨a1, zs, rfl, q1, r1⟩ := R.lget e1 ra
        obtain ⟨a2, zs2, rfl, q2, r2⟩ := R.lget e2 rb
        obtain ⟨hz, q⟩ := R.newL (r1.append r2) p
        rw [List.length_append] at hz
        exact op_catR pins s σ H _ _ v u Q I rx ry ⟨a1, a2, zs, zs2, rfl, rfl, by rw [hK]; exact q1, by rw [hK]; exact q2, hz, q⟩
omit hK in
theorem b_mul : OpR X (binaryOp .Mult) (rS2 W mulS) := by
  intro pins s σ H x y v u Q I rx ry ⟨E, M, S, a, b, R, ra, rb, p⟩
  cases a <;> cases b <;> try exact False.elim p
  · rename_i i j
    cases (show x = V.int i from ra)
    cases (show y = V.int j from rb)
    by_cases h : CMul i j
    · rw [show mulS (.int i) (.int j) S = .ok (.int (i * j)) S from if_pos h] at p
      exact op_mul pins s σ H _ _ v u Q I rx ry ⟨i, j, rfl, rfl, h, p.ok R rfl⟩
    · rw [show mulS (.int i) (.int j) S = .bad from if_neg h] at p
      exact False.elim p
  · rename_i k j
    cases (show y = V.int j from rb)
    have p : Po W RV E M Q (repS k j S) := p
    unfold repS at p
    split at p
    · rename_i xs e
      obtain ⟨a1, zs, rfl, ea, q1, r1⟩ := R.lst e ra
      by_cases h : -(2 ^ 63) ≤ j ∧ j < 2 ^ 63 ∧ xs.length * j.toNat ≤ sizeLine
      · rw [if_pos h] at p
        obtain ⟨hz, q⟩ := R.newL (r1.rep j.toNat) p
        exact op_rep pins s σ H _ _ v u Q I rx ry ⟨a1, j, zs, rfl, rfl, q1, h.1, h.2.1, by rw [← r1.len]; exact h.2.2, q⟩
      · rw [if_neg h] at p
        exact False.elim p
    · exact False.elim p
omit hK in
theorem i_add : OpR X (inplaceOp .Add) (rS2 W iaddS) := by
  intro pins s σ H x y v u Q I rx ry ⟨E, M, S, a, b, R, ra, rb, p⟩
  cases a <;> cases b <;> try exact False.elim p
  · rename_i i j
    cases (show x = V.int i from ra)
    cases (show y = V.int j from rb)
    exact iop_add pins s σ H _ _ v u Q I rx ry ⟨i, j, rfl, rfl, p.ok R rfl⟩
  · rename_i i j
    cases (show x = V.str i from ra)
    cases (show y = V.str j from rb)
    by_cases hl : i.length + j.length ≤ sizeLine
    · rw [show iaddS (.str i) (.str j) S = .ok (.str (i ++ j)) S from if_pos hl] at p
      exact iop_add_str pins s σ H _ _ v u Q I rx ry ⟨i, j, rfl, rfl, hl, p.ok R rfl⟩
    · rw [show iaddS (.str i) (.str j) S = .bad from if_neg hl] at p
      exact False.elim p
  · rename_i k l
    have p : Po W RV E M Q (extS k l S) := p
    unfold extS at p
    split at p
    · rename_i xs ys e1 e2
      by_cases hl : xs.length + ys.length ≤ sizeLine
      · rw [if_pos hl] at p
        obtain ⟨a1, zs, rfl, ea, q1, r1⟩ := R.lst e1 ra
        obtain ⟨a2, zs2, rfl, ea2, q2, r2⟩ := R.lst e2 rb
        exact iop_ext pins s σ H _ _ v u Q I rx ry ⟨a1, a2, zs, zs2, rfl, rfl, q1, q2, by rw [← r1.len, ← r2.len]; exact hl, p.ok (R.setL e1 ea (r1.append r2)) ⟨a1, ea, rfl⟩⟩
      · rw [if_neg hl] at p
        exact False.elim p
    · exact False.elim p
theorem b_eq (hu : X.A.units + 64 < cLine) : OpR X (compareOp .Eq) (rS2 W (eqS false)) := by
  intro pins s σ H x y v u Q I rx ry ⟨E, M, S, a, b, R, ra, rb, p⟩
  unfold eqS at p
  split at p
  · rename_i d e h1 h2
    by_cases h : (SeqAt.shaped d && SeqAt.shaped e) = true
    · rw [if_pos h] at p
      rw [Bool.and_eq_true] at h
      exact op_eqD hu pins s σ H x y v u Q I rx ry ⟨d, e, by rw [hK]; exact dat_dp R 9 a d x h1 ra, by rw [hK]; exact dat_dp R 9 b e y h2 rb, h.1, h.2, p.ok R rfl⟩
    · rw [if_neg h] at p
      exact False.elim p
  · exact False.elim p
theorem b_ne (hu : X.A.units + 64 < cLine) : OpR X (compareOp .NotEq) (rS2 W (eqS true)) := by
  intro pins s σ H x y v u Q I rx ry ⟨E, M, S, a, b, R, ra, rb, p⟩
  unfold eqS at p
  split at p
  · rename_i d e h1 h2
    by_cases h : (SeqAt.shaped d && SeqAt.shaped e) = true
    · rw [if_pos h] at p
      rw [Bool.and_eq_true] at h
      exact op_neD hu pins s σ H x y v u Q I rx ry ⟨d, e, by rw [hK]; exact dat_dp R 9 a d x h1 ra, by rw [hK]; exact dat_dp R 9 b e y h2 rb, h.1, h.2, p.ok R rfl⟩
    · rw [if_neg h] at p
      exact False.elim p
  · exact False.elim p
omit hK in
theorem ints_of {M : List Addr} : ∀ {xs : List MV} {ns : List Int} {ys : List V}, intsM xs = some ns → RVs M xs ys → ys = ns.map V.int
  | [], ns, ys, h, r => by
    unfold intsM at h
    rw [List.mapM_nil] at h
    cases h
    cases r
    rfl
  | x :: xs, ns, ys, h, r => by
    unfold intsM at h
    rw [List.mapM_cons] at h
    cases r with
    | cons r1 r2 =>
      cases x with
      | int i =>
        have h : (some i).bind (fun i => (intsM xs).bind fun r => some (i :: r)) = some ns := h
        cases e2 : intsM xs with
        | none => rw [e2] at h; cases h
        | some ms =>
          rw [e2] at h
          cases h
          rw [ints_of e2 r2]
          cases r1
          rfl
      | _ => cases h
theorem b_lt (hu : X.A.units < cLine) : OpR X (compareOp .Lt) (rS2 W ltS) := by
  intro pins s σ H x y v u Q I rx ry ⟨E, M, S, a, b, R, ra, rb, p⟩
  cases a <;> cases b <;> try exact False.elim p
  · rename_i i j
    cases (show x = V.int i from ra)
    cases (show y = V.int j from rb)
    exact op_lt pins s σ H _ _ v u Q I rx ry ⟨i, j, rfl, rfl, p.ok R rfl⟩
  · rename_i k l
    have p : Po W RV E M Q (ltT k l S) := p
    unfold ltT at p
    split at p
    · rename_i xs ys e1 e2
      split at p
      · rename_i ns ms h1 h2
        obtain ⟨a1, zs, rfl, q1, r1⟩ := R.tget e1 ra
        obtain ⟨a2, zs2, rfl, q2, r2⟩ := R.tget e2 rb
        rw [ints_of h1 r1] at q1
        rw [ints_of h2 r2] at q2
        exact op_ltT hu pins s σ H _ _ v u Q I rx ry ⟨a1, a2, ns, ms, rfl, rfl, by rw [hK]; exact q1, by rw [hK]; exact q2, p.ok R rfl⟩
      · exact False.elim p
    · exact False.elim p
omit hK in
theorem flat_rv {M : List Addr} {a : MV} {w : V} (f : flatM a = true) (r : RV M a w) : flatV w = true := by
  cases a with
  | ref k => cases f
  | non => cases (show w = V.non from r); rfl
  | bl b => cases (show w = V.bl b from r); rfl
  | int b => cases (show w = V.int b from r); rfl
  | str b => cases (show w = V.str b from r); rfl
omit hK in
theorem flat_rvs {M : List Addr} : ∀ {xs : List MV} {ys : List V}, xs.all flatM = true → RVs M xs ys → ys.all flatV = true
  | _, _, _, .nil => rfl
  | _, _, f, .cons r t => by
    rw [List.all_cons, Bool.and_eq_true] at f
    rw [List.all_cons, flat_rv f.1 r, flat_rvs f.2 t]
    rfl
omit hK in
theorem eq_rv {M : List Addr} {a b : MV} {w z : V} (r : RV M a w) (q : RV M b z) (f : flatM a = true) (g : flatM b = true) : eqM a b = eqV w z := by
  cases a with
  | ref k => exact absurd (show false = true from f) Bool.false_ne_true
  | non => cases (show w = V.non from r); cases b with
    | ref k => exact absurd (show false = true from g) Bool.false_ne_true
    | non => cases (show z = V.non from q); rfl
    | bl y => cases (show z = V.bl y from q); rfl
    | int y => cases (show z = V.int y from q); rfl
    | str y => cases (show z = V.str y from q); rfl
  | bl x => cases (show w = V.bl x from r); cases b with
    | ref k => exact absurd (show false = true from g) Bool.false_ne_true
    | non => cases (show z = V.non from q); rfl
    | bl y => cases (show z = V.bl y from q); rfl
    | int y => cases (show z = V.int y from q); rfl
    | str y => cases (show z = V.str y from q); rfl
  | int x => cases (show w = V.int x from r); cases b with
    | ref k => exact absurd (show false = true from g) Bool.false_ne_true
    | non => cases (show z = V.non from q); rfl
    | bl y => cases (show z = V.bl y from q); rfl
    | int y => cases (show z = V.int y from q); rfl
    | str y => cases (show z = V.str y from q); rfl
  | str x => cases (show w = V.str x from r); cases b with
    | ref k => exact absurd (show false = true from g) Bool.false_ne_true
    | non => cases (show z = V.non from q); rfl
    | bl y => cases (show z = V.bl y from q); rfl
    | int y => cases (show z = V.int y from q); rfl
    | str y => cases (show z = V.str y from q); rfl
omit hK in
theorem in_rv {M : List Addr} {a : MV} {w : V} (r : RV M a w) (f : flatM a = true) : ∀ {xs : List MV} {ys : List V}, xs.all flatM = true → RVs M xs ys → inM a xs = inV w ys
  | _, _, _, .nil => rfl
  | _, _, g, .cons r1 t => by
    rw [List.all_cons, Bool.and_eq_true] at g
    unfold inM inV
    rw [List.any_cons, List.any_cons, eq_rv r1 r g.1 f]
    have := in_rv r f g.2 t
    unfold inM inV at this
    rw [this]
theorem inSeq {neg : Bool} {op : CmpOp} (ho : OpR X (compareOp op) (rIn X.K neg)) (hstr : OpR X (compareOp op) (fun x y H Q => ∃ (c : Nat) (z : Str), x = .str ⟨#[c]⟩ ∧ y = .str z ∧ Q (.bl (if neg then !decide (c ∈ z.cps.toList) else decide (c ∈ z.cps.toList))) H)) :
    OpR X (compareOp op) (rS2 W (inS neg)) := by
  intro pins s σ H x y v u Q I rx ry ⟨E, M, S, a, b, R, ra, rb, p⟩
  have seq : ∀ (k : Nat) (q : Po W RV E M Q (inSq neg a k S)), b = .ref k → wpAny (model X.prog X.w) X.A (compareOp op v u) (EP X pins σ Q) X.xe s := by
    intro k q e
    subst e
    unfold inSq at q
    split at q
    · rename_i xs e
      by_cases h : (flatM a && xs.all flatM) = true
      · rw [if_pos h] at q
        rw [Bool.and_eq_true] at h
        obtain ⟨a1, zs, rfl, q1, r1⟩ := R.lget e rb
        have hin := in_rv ra h.1 h.2 r1
        rw [hin] at q
        exact ho pins s σ H _ _ v u Q I rx ry ⟨a1, zs, rfl, .inl (by rw [hK]; exact q1), flat_rv h.1 ra, flat_rvs h.2 r1, q.ok R rfl⟩
      · rw [if_neg h] at q
        exact q.elim
    · split at q
      · rename_i xs e
        by_cases h : (flatM a && xs.all flatM) = true
        · rw [if_pos h] at q
          rw [Bool.and_eq_true] at h
          obtain ⟨a1, zs, rfl, q1, r1⟩ := R.tget e rb
          have hin := in_rv ra h.1 h.2 r1
          rw [hin] at q
          exact ho pins s σ H _ _ v u Q I rx ry ⟨a1, zs, rfl, .inr (by rw [hK]; exact q1), flat_rv h.1 ra, flat_rvs h.2 r1, q.ok R rfl⟩
        · rw [if_neg h] at q
          exact q.elim
      · exact q.elim
  cases b with
  | ref k =>
    refine seq k ?_ rfl
    cases a <;> exact p
  | str z =>
    cases a with
    | str c0 =>
      cases (show x = V.str c0 from ra)
      cases (show y = V.str z from rb)
      have p : Po W RV E M Q (inStr neg c0 z S) := p
      unfold inStr at p
      split at p
      · rename_i c e
        have ec : c0 = ⟨#[c]⟩ := by
          obtain ⟨arr⟩ := c0
          have e' : arr.toList = [c] := e
          have : arr = #[c] := by
            apply Array.ext'
            rw [e']
          rw [this]
        subst ec
        exact hstr pins s σ H _ _ v u Q I rx ry ⟨c, z, rfl, rfl, p.ok R rfl⟩
      · exact False.elim p
    | _ => exact False.elim p
  | non => cases a <;> exact False.elim p
  | bl _ => cases a <;> exact False.elim p
  | int _ => cases a <;> exact False.elim p
theorem b_in : OpR X (compareOp .In) (rS2 W (inS false)) := inSeq hK op_in_seq op_in_sign
theorem b_notIn : OpR X (compareOp .NotIn) (rS2 W (inS true)) := inSeq hK op_notIn_seq op_notIn_sign
omit hK in
theorem non_rv {M : List Addr} {a : MV} {w : V} (r : RV M a w) : decide (w = .non) = decide (a = .non) := by
  cases a with
  | ref k =>
    obtain ⟨ad, _, rfl⟩ := r
    rfl
  | non => cases (show w = V.non from r); rfl
  | bl b => cases (show w = V.bl b from r); rfl
  | int b => cases (show w = V.int b from r); rfl
  | str b => cases (show w = V.str b from r); rfl
omit hK in
theorem b_is : OpR X (compareOp .Is) (rS2 W (isS false)) := by
  intro pins s σ H x y v u Q I rx ry ⟨E, M, S, a, b, R, ra, rb, p⟩
  cases b with
  | non =>
    cases (show y = V.non from rb)
    have p : Po W RV E M Q (.ok (.bl (decide (a = .non))) S) := by cases a <;> exact p
    rw [← non_rv ra] at p
    exact op_isN pins s σ H _ _ v u Q I rx ry ⟨rfl, p.ok R rfl⟩
  | bl b =>
    cases a with
    | bl a =>
      cases (show x = V.bl a from ra)
      cases (show y = V.bl b from rb)
      exact op_isBl pins s σ H _ _ v u Q I rx ry ⟨a, b, rfl, rfl, p.ok R rfl⟩
    | _ => exact False.elim p
  | _ => cases a <;> exact False.elim p
omit hK in
theorem b_isNot : OpR X (compareOp .IsNot) (rS2 W (isS true)) := by
  intro pins s σ H x y v u Q I rx ry ⟨E, M, S, a, b, R, ra, rb, p⟩
  cases b with
  | non =>
    cases (show y = V.non from rb)
    have p : Po W RV E M Q (.ok (.bl (!decide (a = .non))) S) := by cases a <;> exact p
    rw [← non_rv ra] at p
    exact op_notN pins s σ H _ _ v u Q I rx ry ⟨rfl, p.ok R rfl⟩
  | bl b =>
    cases a with
    | bl a =>
      cases (show x = V.bl a from ra)
      cases (show y = V.bl b from rb)
      exact op_notBl pins s σ H _ _ v u Q I rx ry ⟨a, b, rfl, rfl, p.ok R rfl⟩
    | _ => exact False.elim p
  | _ => cases a <;> exact False.elim p
end
end Rf

/-! Rf2: expressions and tests as functions of the store, each with its rule. -/
namespace Rf
open PySem PySem.Spec PyProof.Rows L2

def varS (i : Nat) : SE := fun env S => match env[i]? with
  | some (some v) => .ok v S
  | _ => .bad
def cS (v : MV) : SE := fun _ S => .ok v S
def binS (f : MV → MV → Stor → Res MV) (a b : SE) : SE := fun env S => (a env S).bd fun x S1 => (b env S1).bd fun y S2 => f x y S2
def unS (f : MV → Stor → Res MV) (a : SE) : SE := fun env S => (a env S).bd f
def nilS : SA := fun _ S => .ok [] S
def consS (a : SE) (r : SA) : SA := fun env S => (a env S).bd fun x S1 => (r env S1).bd fun xs S2 => .ok (x :: xs) S2
def appS (F : List MV → Stor → Res MV) (a : SA) : SE := fun env S => (a env S).bd F
abbrev tupS : SA → SE := appS newT
abbrev lstS : SA → SE := appS newL
def tstS (a : SE) : SB := fun env S => (a env S).bd fun v S1 => match v with
  | .bl b => .ok b S1
  | _ => .bad
def andB (a b : SB) : SB := fun env S => (a env S).bd fun c S1 => if c then b env S1 else .ok false S1
def orB (a b : SB) : SB := fun env S => (a env S).bd fun c S1 => if c then .ok true S1 else b env S1
def notB (a : SB) : SB := fun env S => (a env S).bd fun c S1 => .ok (!c) S1
def andV (a b : SE) : SE := fun env S => (a env S).bd fun v S1 => match v with
  | .bl c => if c then b env S1 else .ok (.bl false) S1
  | _ => .bad
def orV (a b : SE) : SE := fun env S => (a env S).bd fun v S1 => match v with
  | .bl c => if c then .ok (.bl true) S1 else b env S1
  | _ => .bad
def notV (a : SE) : SE := fun env S => (a env S).bd fun v S1 => match v with
  | .bl c => .ok (.bl (!c)) S1
  | _ => .bad
def ifE (c : SB) (a b : SE) : SE := fun env S => (c env S).bd fun d S1 => if d then a env S1 else b env S1
def chS (f g : MV → MV → Stor → Res MV) (a b c : SE) : SE := fun env S => (a env S).bd fun x S1 => (b env S1).bd fun y S2 => (f x y S2).bd fun z S3 => match z with
  | .bl k => if k then (c env S3).bd fun w S4 => g y w S4 else .ok (.bl false) S3
  | _ => .bad
def negI : MV → Stor → Res MV
  | .int i, S => .ok (.int (-i)) S
  | _, _ => .bad
def ixS : MV → MV → Stor → Res MV
  | .ref k, .int i, S => match lget S k with
    | some xs => match atI xs i with
      | some v => .ok v S
      | none => .bad
    | none => match tget S k with
      | some xs => match atI xs i with
        | some v => .ok v S
        | none => .bad
      | none => .bad
  | .str z, .int i, S => if z.length ≤ sizeLine then (match atI z.cps.toList i with
    | some c => .ok (.str ⟨#[c]⟩) S
    | none => .bad) else .bad
  | _, _, _ => .bad
def optS (a : Option SE) : MEnv → Stor → Res (Option Int) := fun env S => match a with
  | none => .ok none S
  | some a => (a env S).bd fun v S1 => match v with
    | .int i => .ok (some i) S1
    | _ => .bad
def cutM (xs : List MV) (lo hi : Option Int) : List MV := (xs.drop (HT.sIx xs.length 0 lo)).take (HT.sIx xs.length xs.length hi - HT.sIx xs.length 0 lo)
def slcS : MV → Option Int → Option Int → Stor → Res MV
  | .ref k, lo, hi, S => match lget S k with
    | some xs => newL (cutM xs lo hi) S
    | none => match tget S k with
      | some xs => if HT.sIx xs.length 0 lo = 0 ∧ HT.sIx xs.length xs.length hi = xs.length then .bad else newT (cutM xs lo hi) S
      | none => .bad
  | .str z, lo, hi, S => if z.length ≤ sizeLine then .ok (.str (cutS z lo hi)) S else .bad
  | _, _, _, _ => .bad
def slS (a : SE) (lo hi : Option SE) : SE := fun env S => (a env S).bd fun x S1 => (optS lo env S1).bd fun l S2 => (optS hi env S2).bd fun u S3 => slcS x l u S3

/-! ### stars -/
def nSt : Expr → Bool
  | .Starred _ _ => false
  | _ => true
theorem star_cons {e : Expr} (h : nSt e = true) (es : List Expr) (env : Env) : starEach (e :: es) env = (false, eval e env) :: starEach es env := by
  cases e <;> first | rfl | cases h
theorem star_any {pos : Pos} {env : Env} : ∀ {es : List Expr}, es.all nSt = true → (backTo pos (starEach es env)).any (·.1) = false
  | [], _ => rfl
  | e :: es, h => by
    rw [List.all_cons, Bool.and_eq_true] at h
    rw [star_cons h.1]
    have := star_any (pos := pos) (env := env) h.2
    simpa [backTo] using this

section
variable {X : Cx} {W : WR} {E : L2.St → XK} {a b c : Expr} {fa fb fc : SE} {pos : Pos}
theorem r_var {i : Nat} {x : Str} (hN : X.N[i]? = some x) (hv : Vis X.env.scope x) (hd : (x == ("__debug__" : Str)) = false) (hcd : (x == ("__classdict__" : Str)) = false) : PE X (.Name x pos) (tE W E (varS i)) := by
  refine PE.wk (pe_var hN hv hd hcd) fun σ H Q ⟨M, S, env, R, r, p⟩ => ?_
  unfold varS at p
  split at p
  · rename_i v e
    obtain ⟨w, h1, h2⟩ := r.get i v e
    exact ⟨w, h1, p.ok R h2⟩
  · exact False.elim p
theorem r_int {i j} : PE X (.Constant (.int i) j pos) (tE W E (cS (.int i))) := PE.wk pe_int fun σ H Q ⟨M, S, env, R, r, p⟩ => p.ok R rfl
theorem r_bl {i j} : PE X (.Constant (.bool i) j pos) (tE W E (cS (.bl i))) := PE.wk pe_bl fun σ H Q ⟨M, S, env, R, r, p⟩ => p.ok R rfl
theorem r_non {j} : PE X (.Constant .none j pos) (tE W E (cS .non)) := PE.wk pe_non fun σ H Q ⟨M, S, env, R, r, p⟩ => p.ok R rfl
theorem r_str {i j} : PE X (.Constant (.str i) j pos) (tE W E (cS (.str i))) := PE.wk pe_str fun σ H Q ⟨M, S, env, R, r, p⟩ => p.ok R rfl
/-- a constant of the module: an int or a text -/
theorem r_gc {x : Str} {v : MV} {w : V} {u : Value} (hg : Gl X x) (hm : X.mg x = some u) (r : RelV w u) (hv : ∀ M, RV M v w) (hd : (x == ("__debug__" : Str)) = false) : PE X (.Name x pos) (tE W E (cS v)) :=
  PE.wk (pe_glob hg hm r hd) fun σ H Q ⟨M, S, env, R, _, p⟩ => p.ok R (hv M)
/-- .. an object of the module, which stands in the store from the start -/
theorem r_go {x : Str} {k : Nat} {ad : Addr} (hg : Gl X x) (hm : X.mg x = some (.ref ad)) (hk : W.gl[k]? = some ad) (hd : (x == ("__debug__" : Str)) = false) : PE X (.Name x pos) (tE W E (cS (.ref k))) :=
  PE.wk (pe_glob hg hm (v := .ref ad) rfl hd) fun σ H Q ⟨M, S, env, R, _, p⟩ => p.ok R ⟨ad, pre_get R.gl hk, rfl⟩
theorem opTop {f : MV → MV → Stor → Res MV} {σ : L2.St} {H : Hp} {Q : VK} (h : tE W E (binS f fa fb) σ H Q) : tOp (rS2 W f) (tE W E fa) (tE W E fb) σ H Q := by
  obtain ⟨M, S, env, R, r, p⟩ := h
  refine ⟨M, S, env, R, r, (Po.bd (RA := RV) p).imp fun x H1 ⟨M1, S1, x1, h1, R1, q1, p1⟩ => ?_⟩
  refine ⟨M1, S1, env, R1, r.mono h1, (Po.bd (RA := RV) p1).imp fun y H2 ⟨M2, S2, y1, h2, R2, q2, p2⟩ => ?_⟩
  exact ⟨E σ, M2, S2, x1, y1, R2, q1.mono h2, q2, p2⟩
theorem r_bin {op : Operator} {f : MV → MV → Stor → Res MV} (ho : OpR X (binaryOp op) (rS2 W f)) (ha : PE X a (tE W E fa)) (hb : PE X b (tE W E fb)) : PE X (.BinOp a op b pos) (tE W E (binS f fa fb)) :=
  PE.wk (pe_op ho ha hb) fun _ _ _ h => opTop h
theorem r_cmp {op : CmpOp} {f : MV → MV → Stor → Res MV} (ho : OpR X (compareOp op) (rS2 W f)) (ha : PE X a (tE W E fa)) (hb : PE X b (tE W E fb)) (hm : behindInMarks op b = false) : PE X (.Compare a [op] [b] pos) (tE W E (binS f fa fb)) :=
  PE.wk (pe_cmpR ho ha hb hm) fun _ _ _ h => opTop h
/-- a value's reading, as a test of a bool -/
theorem tst_of {f : SE} {t : TE} (w : ∀ σ H Q, tE W E f σ H Q → t σ H Q) {σ : L2.St} {H : Hp} {Q : Bool → Hp → Prop} (h : tB W E (tstS f) σ H Q) : t σ H fun x H' => ∃ k, x = .bl k ∧ Q k H' := by
  obtain ⟨M, S, env, R, r, p⟩ := h
  refine w σ H _ ⟨M, S, env, R, r, (Po.bd (RA := RV) p).imp fun x H1 ⟨M1, S1, x1, h1, R1, q1, p1⟩ => ?_⟩
  cases x1 with
  | bl k =>
    cases (show x = V.bl k from q1)
    exact ⟨k, rfl, p1.ok R1 rfl⟩
  | _ => exact False.elim p1
theorem r_cmpT {op : CmpOp} {f : MV → MV → Stor → Res MV} (ho : OpR X (compareOp op) (rS2 W f)) (ha : PE X a (tE W E fa)) (hb : PE X b (tE W E fb)) (hm : behindInMarks op b = false) : PT X (.Compare a [op] [b] pos) (tB W E (tstS (binS f fa fb))) :=
  PT.wk (pt_cmpR ho ha hb hm) fun _ _ _ h => tst_of (fun _ _ _ h => opTop h) h
theorem r_tst {e : Expr} {f : SE} (h : PE X e (tE W E f)) (he : ∀ whole, isTrue e X.env whole = (do let v ← whole; standAt e.pos; holding [v] (truthy v))) : PT X e (tB W E (tstS f)) :=
  PT.wk (pt_val h he) fun _ _ _ h => tst_of (fun _ _ _ h => h) h
theorem chTop {f g : MV → MV → Stor → Res MV} {σ : L2.St} {H : Hp} {Q : VK} (h : tE W E (chS f g fa fb fc) σ H Q) : tChain (rS2 W f) (rS2 W g) (tE W E fa) (tE W E fb) (tE W E fc) σ H Q := by
  obtain ⟨M, S, env, R, r, p⟩ := h
  refine ⟨M, S, env, R, r, (Po.bd (RA := RV) p).imp fun x H1 ⟨M1, S1, x1, h1, R1, q1, p1⟩ => ?_⟩
  refine ⟨M1, S1, env, R1, r.mono h1, (Po.bd (RA := RV) p1).imp fun y H2 ⟨M2, S2, y1, h2, R2, q2, p2⟩ => ?_⟩
  refine ⟨E σ, M2, S2, x1, y1, R2, q1.mono h2, q2, (Po.bd (RA := RV) p2).imp fun z H3 ⟨M3, S3, z1, h3, R3, q3, p3⟩ => ?_⟩
  cases z1 with
  | bl k =>
    cases (show z = V.bl k from q3)
    refine ⟨k, rfl, ?_⟩
    cases k with
    | false => exact iteF (p3.ok R3 rfl)
    | true =>
      refine iteT ⟨M3, S3, env, R3, ((r.mono h1).mono h2).mono h3, (Po.bd (RA := RV) p3).imp fun w H4 ⟨M4, S4, w1, h4, R4, q4, p4⟩ => ?_⟩
      exact ⟨E σ, M4, S4, y1, w1, R4, (q2.mono h3).mono h4, q4, p4⟩
  | _ => exact False.elim p3
theorem r_ch {op op' : CmpOp} {f g : MV → MV → Stor → Res MV} (ho : OpR X (compareOp op) (rS2 W f)) (ho' : OpR X (compareOp op') (rS2 W g)) (ha : PE X a (tE W E fa)) (hb : PE X b (tE W E fb)) (hc : PE X c (tE W E fc)) (hm : lastMarks [op, op'] [b, c] = false) :
    PE X (.Compare a [op, op'] [b, c] pos) (tE W E (chS f g fa fb fc)) := PE.wk (pe_chain ho ho' ha hb hc hm) fun _ _ _ h => chTop h
theorem r_chT {op op' : CmpOp} {f g : MV → MV → Stor → Res MV} (ho : OpR X (compareOp op) (rS2 W f)) (ho' : OpR X (compareOp op') (rS2 W g)) (ha : PE X a (tE W E fa)) (hb : PE X b (tE W E fb)) (hc : PE X c (tE W E fc)) (hm : lastMarks [op, op'] [b, c] = false) :
    PT X (.Compare a [op, op'] [b, c] pos) (tB W E (tstS (chS f g fa fb fc))) := PT.wk (pt_chain ho ho' ha hb hc hm) fun _ _ _ h => tst_of (fun _ _ _ h => chTop h) h
/-! tests -/
variable {ba bb : SB} {rest : List Expr}
theorem r_and1 (ha : PT X a (tB W E ba)) : PW X (.BoolOp .And [a] pos) (tB W E ba) := pw_and1 ha
theorem r_or1 (ha : PT X a (tB W E ba)) : PW X (.BoolOp .Or [a] pos) (tB W E ba) := pw_or1 ha
theorem r_and (ha : PT X a (tB W E ba)) (hb : PW X (.BoolOp .And (b :: rest) pos) (tB W E bb)) : PW X (.BoolOp .And (a :: b :: rest) pos) (tB W E (andB ba bb)) :=
  PW.wk (pw_and ha hb) fun σ H Q ⟨M, S, env, R, r, p⟩ => ⟨M, S, env, R, r, (Po.bd (RA := fun _ (a b : Bool) => a = b) p).imp fun k H1 ⟨M1, S1, k1, h1, R1, q1, p1⟩ => by
    cases q1
    cases k with
    | true => exact iteT ⟨M1, S1, env, R1, r.mono h1, p1⟩
    | false => exact iteF (p1.ok R1 rfl)⟩
theorem r_or (ha : PT X a (tB W E ba)) (hb : PW X (.BoolOp .Or (b :: rest) pos) (tB W E bb)) : PW X (.BoolOp .Or (a :: b :: rest) pos) (tB W E (orB ba bb)) :=
  PW.wk (pw_or ha hb) fun σ H Q ⟨M, S, env, R, r, p⟩ => ⟨M, S, env, R, r, (Po.bd (RA := fun _ (a b : Bool) => a = b) p).imp fun k H1 ⟨M1, S1, k1, h1, R1, q1, p1⟩ => by
    cases q1
    cases k with
    | true => exact iteT (p1.ok R1 rfl)
    | false => exact iteF ⟨M1, S1, env, R1, r.mono h1, p1⟩⟩
theorem r_not (ha : PT X a (tB W E ba)) : PT X (.UnaryOp .Not a pos) (tB W E (notB ba)) :=
  PT.wk (pt_not ha) fun σ H Q ⟨M, S, env, R, r, p⟩ => ⟨M, S, env, R, r, (Po.bd (RA := fun _ (a b : Bool) => a = b) p).imp fun k H1 ⟨M1, S1, k1, h1, R1, q1, p1⟩ => by
    cases q1
    exact p1.ok R1 rfl⟩
theorem r_andV (ha : PE X a (tE W E fa)) (hb : PE X (.BoolOp .And (b :: rest) pos) (tE W E fb)) : PE X (.BoolOp .And (a :: b :: rest) pos) (tE W E (andV fa fb)) :=
  PE.wk (pe_and ha hb) fun σ H Q ⟨M, S, env, R, r, p⟩ => ⟨M, S, env, R, r, (Po.bd (RA := RV) p).imp fun k H1 ⟨M1, S1, k1, h1, R1, q1, p1⟩ => by
    cases k1 with
    | bl c =>
      cases (show k = V.bl c from q1)
      refine ⟨c, rfl, ?_⟩
      cases c with
      | true => exact iteT ⟨M1, S1, env, R1, r.mono h1, p1⟩
      | false => exact iteF (p1.ok R1 rfl)
    | _ => exact False.elim p1⟩
theorem r_orV (ha : PE X a (tE W E fa)) (hb : PE X (.BoolOp .Or (b :: rest) pos) (tE W E fb)) : PE X (.BoolOp .Or (a :: b :: rest) pos) (tE W E (orV fa fb)) :=
  PE.wk (pe_or ha hb) fun σ H Q ⟨M, S, env, R, r, p⟩ => ⟨M, S, env, R, r, (Po.bd (RA := RV) p).imp fun k H1 ⟨M1, S1, k1, h1, R1, q1, p1⟩ => by
    cases k1 with
    | bl c =>
      cases (show k = V.bl c from q1)
      refine ⟨c, rfl, ?_⟩
      cases c with
      | true => exact iteT (p1.ok R1 rfl)
      | false => exact iteF ⟨M1, S1, env, R1, r.mono h1, p1⟩
    | _ => exact False.elim p1⟩
theorem r_oneV {op} (h : PE X a (tE W E fa)) : PE X (.BoolOp op [a] pos) (tE W E fa) := pe_one h
theorem r_notV (ha : PE X a (tE W E fa)) : PE X (.UnaryOp .Not a pos) (tE W E (notV fa)) :=
  PE.wk (pe_not ha) fun σ H Q ⟨M, S, env, R, r, p⟩ => ⟨M, S, env, R, r, (Po.bd (RA := RV) p).imp fun k H1 ⟨M1, S1, k1, h1, R1, q1, p1⟩ => by
    cases k1 with
    | bl c =>
      cases (show k = V.bl c from q1)
      exact ⟨c, rfl, p1.ok R1 rfl⟩
    | _ => exact False.elim p1⟩
theorem r_ifE (hc : PT X c (tB W E ba)) (ha : PE X a (tE W E fa)) (hb : PE X b (tE W E fb)) : PE X (.IfExp c a b pos) (tE W E (ifE ba fa fb)) :=
  PE.wk (pe_ifExp hc ha hb) fun σ H Q ⟨M, S, env, R, r, p⟩ => ⟨M, S, env, R, r, (Po.bd (RA := fun _ (a b : Bool) => a = b) p).imp fun k H1 ⟨M1, S1, k1, h1, R1, q1, p1⟩ => by
    cases q1
    cases k with
    | true => exact iteT ⟨M1, S1, env, R1, r.mono h1, p1⟩
    | false => exact iteF ⟨M1, S1, env, R1, r.mono h1, p1⟩⟩
theorem r_neg (ha : PE X a (tE W E fa)) : PE X (.UnaryOp .USub a pos) (tE W E (unS negI fa)) :=
  PE.wk (pe_un un_neg ha) fun σ H Q ⟨M, S, env, R, r, p⟩ => ⟨M, S, env, R, r, (Po.bd (RA := RV) p).imp fun x H1 ⟨M1, S1, x1, h1, R1, q1, p1⟩ => by
    cases x1 with
    | int i =>
      cases (show x = V.int i from q1)
      exact ⟨i, rfl, p1.ok R1 rfl⟩
    | _ => exact False.elim p1⟩
/-! argument lists, displays -/
variable {es : List Expr} {fr : SA} {e : Expr} {fe : SE}
theorem r_nil : PA X [] (tA W E nilS) := PA.wk pa_nil fun σ H Q ⟨M, S, env, R, r, p⟩ => p.ok R .nil
theorem r_cons (ha : PE X e (tE W E fe)) (hr : PA X es (tA W E fr)) (hs : nSt e = true) : PA X (e :: es) (tA W E (consS fe fr)) :=
  PA.wk (pa_cons ha hr (star_cons hs es _)) fun σ H Q ⟨M, S, env, R, r, p⟩ => ⟨M, S, env, R, r, (Po.bd (RA := RV) p).imp fun x H1 ⟨M1, S1, x1, h1, R1, q1, p1⟩ =>
    ⟨M1, S1, env, R1, r.mono h1, (Po.bd (RA := RVs) p1).imp fun xs H2 ⟨M2, S2, xs1, h2, R2, q2, p2⟩ => p2.ok R2 (.cons (q1.mono h2) q2)⟩⟩
theorem r_tup {k} (h : PA X es (tA W E fr)) : PE X (.Tuple es k pos) (tE W E (tupS fr)) :=
  PE.wk (pe_tup h) fun σ H Q ⟨M, S, env, R, r, p⟩ => ⟨M, S, env, R, r, (Po.bd (RA := RVs) p).imp fun xs H1 ⟨M1, S1, xs1, h1, R1, q1, p1⟩ => R1.newT q1 p1⟩
theorem r_lst (h : PA X es (tA W E fr)) : PE X (.List es pos) (tE W E (lstS fr)) :=
  PE.wk (pe_lst h) fun σ H Q ⟨M, S, env, R, r, p⟩ => ⟨M, S, env, R, r, (Po.bd (RA := RVs) p).imp fun xs H1 ⟨M1, S1, xs1, h1, R1, q1, p1⟩ => R1.newL q1 p1⟩
/-! subscripts -/
theorem RVs.atI {M : List Addr} {xs : List MV} {ys : List V} {i : Int} {v : MV} (r : RVs M xs ys) (h : atI xs i = some v) : ∃ w, L2.atI ys i = some w ∧ RV M v w := by
  unfold L2.atI at h ⊢
  rw [← r.len]
  cases e : ixN xs.length i with
  | none => rw [e] at h; cases h
  | some j =>
    rw [e] at h
    obtain ⟨w, h1, h2⟩ := r.get (show xs[j]? = some v from h)
    exact ⟨w, h1, h2⟩
theorem ix_ok (hK : X.K = W.K) : IxR X (rS2 W ixS) := by
  intro value slice pins s σ H x y v u Q I rx ry ⟨E, M, S, a, b, R, ra, rb, p⟩ hs
  cases b with
  | int i =>
    cases (show y = V.int i from rb)
    cases a with
    | ref k =>
      have p : Po W RV E M Q (match lget S k with
        | some xs => match atI xs i with
          | some v => .ok v S
          | none => .bad
        | none => match tget S k with
          | some xs => match atI xs i with
            | some v => .ok v S
            | none => .bad
          | none => .bad) := p
      split at p
      · rename_i xs e
        split at p
        · rename_i z ez
          obtain ⟨ad, ys, rfl, q1, r1⟩ := R.lget e ra
          obtain ⟨w, h1, h2⟩ := r1.atI ez
          exact ix_list value slice pins s σ H _ _ v u Q I rx ry ⟨ad, ys, i, w, rfl, rfl, by rw [hK]; exact q1, h1, p.ok R h2⟩ hs
        · exact False.elim p
      · split at p
        · rename_i xs e
          split at p
          · rename_i z ez
            obtain ⟨ad, ys, rfl, q1, r1⟩ := R.tget e ra
            obtain ⟨w, h1, h2⟩ := r1.atI ez
            exact ix_tup value slice pins s σ H _ _ v u Q I rx ry ⟨ad, ys, i, w, rfl, rfl, by rw [hK]; exact q1, h1, p.ok R h2⟩ hs
          · exact False.elim p
        · exact False.elim p
    | str z =>
      cases (show x = V.str z from ra)
      have p : Po W RV E M Q (if z.length ≤ sizeLine then (match atI z.cps.toList i with
        | some c => .ok (.str ⟨#[c]⟩) S
        | none => .bad) else .bad) := p
      by_cases hl : z.length ≤ sizeLine
      · rw [if_pos hl] at p
        split at p
        · rename_i c ec
          exact ix_str value slice pins s σ H _ _ v u Q I rx ry ⟨z, i, c, rfl, rfl, hl, ec, p.ok R rfl⟩ hs
        · exact False.elim p
      · rw [if_neg hl] at p
        exact False.elim p
    | _ => exact False.elim p
  | _ => cases a <;> exact False.elim p
def plIx : Expr → Bool
  | .Slice _ _ _ _ => false
  | _ => true
theorem plIx_ok {b : Expr} (h : plIx b = true) : PlainIx b := fun o i => by
  cases b <;> first | rfl | cases h
theorem r_ix (hK : X.K = W.K) (ha : PE X a (tE W E fa)) (hb : PE X b (tE W E fb)) (hs : plIx b = true) : PE X (.Subscript a b pos) (tE W E (binS ixS fa fb)) :=
  PE.wk (pe_ix (ix_ok hK) ha hb (plIx_ok hs)) fun _ _ _ h => opTop h
def rSl (W : WR) : V → Option Int → Option Int → Hp → VK → Prop := fun x lo hi H Q => ∃ (E : XK) (M : List Addr) (S : Stor) (a : MV), RSt W M S H ∧ RV M a x ∧ Po W RV E M Q (slcS a lo hi S)
theorem cut_rv {M : List Addr} {xs : List MV} {ys : List V} (r : RVs M xs ys) (lo hi : Option Int) : RVs M (cutM xs lo hi) (cutV ys lo hi) := by
  unfold cutM cutV
  rw [← r.len]
  exact (r.drop _).take _
theorem sl_ok (hK : X.K = W.K) : SlR X (rSl W) := by
  intro pins s σ H x v vl vu lo hi sl Q I rx hs pl pu ⟨E, M, S, a, R, ra, p⟩
  cases a with
  | ref k =>
    have p : Po W RV E M Q (match lget S k with
      | some xs => newL (cutM xs lo hi) S
      | none => match tget S k with
        | some xs => if HT.sIx xs.length 0 lo = 0 ∧ HT.sIx xs.length xs.length hi = xs.length then .bad else newT (cutM xs lo hi) S
        | none => .bad) := p
    split at p
    · rename_i xs e
      obtain ⟨ad, ys, rfl, q1, r1⟩ := R.lget e ra
      exact sl_list pins s σ H _ v vl vu lo hi sl Q I rx hs pl pu ⟨ad, ys, rfl, by rw [hK]; exact q1, (R.newL (cut_rv r1 lo hi) p).2⟩
    · split at p
      · rename_i xs e
        obtain ⟨ad, ys, rfl, q1, r1⟩ := R.tget e ra
        by_cases h : HT.sIx xs.length 0 lo = 0 ∧ HT.sIx xs.length xs.length hi = xs.length
        · rw [if_pos h] at p
          exact False.elim p
        · rw [if_neg h] at p
          exact sl_tup pins s σ H _ v vl vu lo hi sl Q I rx hs pl pu ⟨ad, ys, rfl, by rw [hK]; exact q1, by rw [← r1.len]; exact h, (R.newT (cut_rv r1 lo hi) p).2⟩
      · exact False.elim p
  | str z =>
    cases (show x = V.str z from ra)
    have p : Po W RV E M Q (if z.length ≤ sizeLine then .ok (.str (cutS z lo hi)) S else .bad) := p
    by_cases hl : z.length ≤ sizeLine
    · rw [if_pos hl] at p
      exact sl_str pins s σ H _ v vl vu lo hi sl Q I rx hs pl pu ⟨z, rfl, hl, p.ok R rfl⟩
    · rw [if_neg hl] at p
      exact False.elim p
  | _ => exact False.elim p
/-- a slice's part -/
def tO (W : WR) (E : L2.St → XK) (f : Option SE) : TO := fun σ H Q => ∃ M S env, RSt W M S H ∧ REnv M env σ ∧ Po W (fun _ (a b : Option Int) => a = b) (E σ) M Q (optS f env S)
theorem PO.wk {e : Option Expr} {t t' : TO} (h : PO X e t) (w : ∀ σ H Q, t' σ H Q → t σ H Q) : PO X e t' := ⟨fun pins s σ H Q I q => h.run pins s σ H Q I (w σ H Q q)⟩
theorem r_none : PO X none (tO W E none) := PO.wk po_none fun σ H Q ⟨M, S, env, R, r, p⟩ => p.ok R rfl
theorem r_some (h : PE X e (tE W E fe)) : PO X (some e) (tO W E (some fe)) := PO.wk (po_some h) fun σ H Q ⟨M, S, env, R, r, p⟩ =>
  ⟨M, S, env, R, r, (Po.bd (RA := RV) (show Po W _ (E σ) M Q ((fe env S).bd _) from p)).imp fun x H1 ⟨M1, S1, x1, h1, R1, q1, p1⟩ => by
    cases x1 with
    | int i =>
      cases (show x = V.int i from q1)
      exact ⟨i, rfl, p1.ok R1 rfl⟩
    | _ => exact False.elim p1⟩
theorem r_sl {lo hi : Option Expr} {fl fh : Option SE} {p2 : Pos} (hK : X.K = W.K) (ha : PE X a (tE W E fa)) (hl : PO X lo (tO W E fl)) (hh : PO X hi (tO W E fh)) : PE X (.Subscript a (.Slice lo hi none p2) pos) (tE W E (slS fa fl fh)) :=
  PE.wk (pe_slice (sl_ok hK) ha hl hh) fun σ H Q ⟨M, S, env, R, r, p⟩ => ⟨M, S, env, R, r, (Po.bd (RA := RV) p).imp fun x H1 ⟨M1, S1, x1, h1, R1, q1, p1⟩ =>
    ⟨M1, S1, env, R1, r.mono h1, (Po.bd (RA := fun _ (a b : Option Int) => a = b) p1).imp fun l H2 ⟨M2, S2, l1, h2, R2, q2, p2⟩ =>
      ⟨M2, S2, env, R2, (r.mono h1).mono h2, (Po.bd (RA := fun _ (a b : Option Int) => a = b) p2).imp fun u H3 ⟨M3, S3, u1, h3, R3, q3, p3⟩ => by
        cases q2
        cases q3
        exact ⟨E σ, M3, S3, x1, R3, (q1.mono h2).mono h3, p3⟩⟩⟩⟩
/-! calls of defs -/
def spR (W : WR) (n : Nat) (F : List MV → Stor → Res MV) : Sp := fun vs H Q E => vs.length = n ∧ ∃ M S as, RSt W M S H ∧ RVs M as vs ∧ Po W RV E M Q (F as S)
theorem callTop {n : Nat} {F : List MV → Stor → Res MV} (hn : ∀ as S, as.length ≠ n → F as S = .bad) {σ : L2.St} {H : Hp} {Q : VK} (h : tE W E (appS F fr) σ H Q) : tCallS (spR W n F) E (tA W E fr) σ H Q := by
  obtain ⟨M, S, env, R, r, p⟩ := h
  refine ⟨M, S, env, R, r, (Po.bd (RA := RVs) p).imp fun xs H1 ⟨M1, S1, xs1, h1, R1, q1, p1⟩ => ?_⟩
  refine ⟨?_, M1, S1, xs1, R1, q1, p1⟩
  rw [← q1.len]
  by_cases e : xs1.length = n
  · exact e
  · rw [hn xs1 S1 e] at p1
    exact False.elim p1
variable {CX : CXT} {k n : Nat} {f : Addr} {fd : FuncData} {ps : List Str} {x : Str} {p : Pos} {F : List MV → Stor → Res MV}
theorem r_call (G : FnOk X.prog X.w X.K X.mg X.base CX k f fd ps (spR W n F)) (hn : ∀ as S, as.length ≠ n → F as S = .bad) (hr : Room k X.A) (hg : Gl X x) (hm : X.mg x = some (.ref f)) (hk : PySem.W.keepIn X.K (.ref f) = true) (hb : Binds X.K fd ps [])
    (hx : ∀ σ, PassesAt CX X σ (E σ)) (ha : PA X (e :: es) (tA W E fr)) (hdb : (x == ("__debug__" : Str)) = false) (hs : nSt e = true) (hss : es.all nSt = true) : PE X (.Call (.Name x p) (e :: es) [] pos) (tE W E (appS F fr)) :=
  PE.wk (pe_callS G hr hg hm hk hb hx ha hdb (star_cons hs es _) (star_any hss)) fun _ _ _ h => callTop hn h
theorem pe_call0S {sp : Sp} (G : FnOk X.prog X.w X.K X.mg X.base CX k f fd ps sp) (hr : Room k X.A) (hg : Gl X x) (hm : X.mg x = some (.ref f)) (hk : PySem.W.keepIn X.K (.ref f) = true) (hb : Binds X.K fd ps [])
    (hx : ∀ σ, PassesAt CX X σ (E σ)) (hdb : (x == ("__debug__" : Str)) = false) : PE X (.Call (.Name x p) [] [] pos) (tCallS sp E tNil) := by
  refine ⟨fun pins s σ H Q I h => ?_⟩
  refine wpAny_Call_Name_kw (ld_glob I hg hm ?_ hdb)
  exact PySem.W.callWith_K0 I.kIn hk (run_fnS (us := []) G hr hb (hx σ) I .nil h)
theorem r_call0 (G : FnOk X.prog X.w X.K X.mg X.base CX k f fd ps (spR W n F)) (hn : ∀ as S, as.length ≠ n → F as S = .bad) (hr : Room k X.A) (hg : Gl X x) (hm : X.mg x = some (.ref f)) (hk : PySem.W.keepIn X.K (.ref f) = true) (hb : Binds X.K fd ps [])
    (hx : ∀ σ, PassesAt CX X σ (E σ)) (hdb : (x == ("__debug__" : Str)) = false) : PE X (.Call (.Name x p) [] [] pos) (tE W E (appS F nilS)) := by
  refine PE.wk (pe_call0S G hr hg hm hk hb hx hdb) fun σ _ _ ⟨M, S, env, R, r, p⟩ => ?_
  have p : Po W RV (E σ) M _ (F [] S) := p
  refine ⟨?_, M, S, [], R, .nil, p⟩
  by_cases e : ([] : List MV).length = n
  · exact e
  · rw [hn [] S e] at p
    exact False.elim p
/-! built-ins by values -/
def rP (W : WR) (f : List MV → Stor → Res MV) : List V → Hp → VK → Prop := fun xs H Q => ∃ (E : XK) (M : List Addr) (S : Stor) (as : List MV), RSt W M S H ∧ RVs M as xs ∧ Po W RV E M Q (f as S)
theorem primTop {σ : L2.St} {H : Hp} {Q : VK} (h : tE W E (appS F fr) σ H Q) : tCB (rP W F) (tA W E fr) σ H Q := by
  obtain ⟨M, S, env, R, r, p⟩ := h
  exact ⟨M, S, env, R, r, (Po.bd (RA := RVs) p).imp fun xs H1 ⟨M1, S1, xs1, h1, R1, q1, p1⟩ => ⟨E σ, M1, S1, xs1, R1, q1, p1⟩⟩
theorem r_prim {id : String} (hc : CallR X (.builtin id) (rP W F)) (hg : Gl X x) (hm : X.mg x = none) (hv : bootBuiltins x = some (.builtin id)) (ha : PA X (e :: es) (tA W E fr)) (hn : x ≠ "__name__") (hdb : (x == ("__debug__" : Str)) = false)
    (hs : nSt e = true) (hss : es.all nSt = true) : PE X (.Call (.Name x p) (e :: es) [] pos) (tE W E (appS F fr)) :=
  PE.wk (pe_callB hc hg hm hv ha hn hdb (star_cons hs es _) (star_any hss)) fun _ _ _ h => primTop h
theorem r_primT {T : String} (hc : CallR X (.type T) (rP W F)) (hg : Gl X x) (hm : X.mg x = none) (hv : bootBuiltins x = some (.type T)) (ha : PA X (e :: es) (tA W E fr)) (hn : x ≠ "__name__") (hdb : (x == ("__debug__" : Str)) = false)
    (hs : nSt e = true) (hss : es.all nSt = true) : PE X (.Call (.Name x p) (e :: es) [] pos) (tE W E (appS F fr)) :=
  PE.wk (pe_callTy hc hg hm hv ha hn hdb (star_cons hs es _) (star_any hss)) fun _ _ _ h => primTop h
end
end Rf

/-! Rf3: statements and loops as functions of the store, each with its rule. -/
namespace Rf
open PySem PySem.Spec PyProof.Rows L2

/-! ### statements -/
def nextS : SS := fun env S => .ok (.nx env) S
def seqS (a b : SS) : SS := fun env S => (a env S).bd fun o S1 => match o with
  | .nx env1 => b env1 S1
  | o => .ok o S1
def contS : SS := fun env S => .ok (.ct env) S
def brkS : SS := fun env S => .ok (.bk env) S
def dropS (a : SE) : SS := fun env S => (a env S).bd fun _ S1 => .ok (.nx env) S1
def retS (a : SE) : SS := fun env S => (a env S).bd fun v S1 => .ok (.rt v) S1
def retN : SS := fun _ S => .ok (.rt .non) S
def ifS (c : SB) (a b : SS) : SS := fun env S => (c env S).bd fun d S1 => if d then a env S1 else b env S1
def badS : SS := fun _ _ => .bad
/-- targets -/
abbrev SG := MV → MEnv → Stor → Res MEnv
def nameG (i : Nat) : SG := fun v env S => .ok (env.set i (some v)) S
def tupG (is : List SG) : SG := fun v env S => match v with
  | .ref k => match tget S k with
    | some xs => if xs.length = is.length then go is xs env S else .bad
    | none => .bad
  | _ => .bad
where go : List SG → List MV → MEnv → Stor → Res MEnv
  | [], [], env, S => .ok env S
  | g :: gs, x :: xs, env, S => (g x env S).bd fun env1 S1 => go gs xs env1 S1
  | _, _, _, _ => .bad
def setI : MV → MV → MV → Stor → Res Unit
  | .ref k, .int i, v, S => match S[k]? with
    | some (.lst xs) => match ixN xs.length i with
      | some j => .ok () (S.set k (.lst (xs.set j v)))
      | none => .bad
    | _ => .bad
  | _, _, _, _ => .bad
def subG (f : MV → MV → MV → Stor → Res Unit) (o i : SE) : SG := fun v env S => (o env S).bd fun x S1 => (i env S1).bd fun y S2 => (f x y v S2).bd fun _ S3 => .ok env S3
def asgS (a : SE) (g : SG) : SS := fun env S => (a env S).bd fun v S1 => (g v env S1).bd fun env1 S2 => .ok (.nx env1) S2
def augS (f : MV → MV → Stor → Res MV) (i : Nat) (a : SE) : SS := fun env S => match env[i]? with
  | some (some x) => (a env S).bd fun y S1 => (f x y S1).bd fun z S2 => .ok (.nx (env.set i (some z))) S2
  | _ => .bad
def whileS (c : SB) (b : SS) : Nat → SS
  | 0 => badS
  | n + 1 => fun env S => (c env S).bd fun d S1 => if d then (b env S1).bd fun o S2 => match o with
      | .nx env1 => whileS c b n env1 S2
      | .ct env1 => whileS c b n env1 S2
      | .bk env1 => .ok (.nx env1) S2
      | .rt v => .ok (.rt v) S2
    else .ok (.nx env) S1
/-- what is walked: a range, a list at k, .. -/
inductive Itm where
  | rng (lo : Int) (c : Int) (n : Nat) | lst (k : Nat) | tup (k : Nat) | enm (k : Nat) | zip (k l : Nat) | rev (k : Nat) (n : Nat) | str (x : Str)
/-- an item as it comes: a value, or a pair that is made on the way -/
inductive Yl where
  | one (v : MV) | two (u v : MV)
/-- the i-th item; none: the end -/
def Itm.at (S : Stor) (i : Nat) : Itm → Option (Option Yl)
  | .rng lo c n => some (if i < n then some (.one (.int (lo + i * c))) else none)
  | .lst k => match lget S k with
    | some xs => some (xs[i]?.map .one)
    | none => none
  | .tup k => match tget S k with
    | some xs => some (xs[i]?.map .one)
    | none => none
  | .enm k => match lget S k with
    | some xs => some (xs[i]?.map (.two (.int i)))
    | none => none
  | .zip k l => match lget S k, lget S l with
    | some xs, some ys => some (match xs[i]?, ys[i]? with
      | some x, some y => some (.two x y)
      | _, _ => none)
    | _, _ => none
  | .rev k n => match lget S k with
    | some xs => if xs.length = n then some (if i < n then xs[n - 1 - i]?.map .one else none) else none
    | none => none
  | .str x => some (if i < x.length then (x.cps[i]?).map fun c => .one (.str ⟨#[c]⟩) else none)
/-- turns that can be made at most, and one -/
def Itm.most (S : Stor) : Itm → Nat
  | .rng _ _ n => n + 1
  | .lst k => (lget S k).elim 0 fun xs => xs.length + 1
  | .tup k => (tget S k).elim 0 fun xs => xs.length + 1
  | .enm k => (lget S k).elim 0 fun xs => xs.length + 1
  | .zip k _ => (lget S k).elim 0 fun xs => xs.length + 1
  | .rev _ n => n + 1
  | .str x => x.length + 1
abbrev SI := MEnv → Stor → Res Itm
/-- a target of the items: of a value; of a pair that is made on the way -/
structure YG where
  one : SG
  two : MV → MV → MEnv → Stor → Res MEnv
def YG.put (g : YG) (y : Yl) (env : MEnv) (S : Stor) : Res MEnv := match y with
  | .one v => g.one v env S
  | .two u v => g.two u v env S
def nameY (i : Nat) : YG := ⟨nameG i, fun _ _ _ _ => .bad⟩
def tupY (is : List SG) : YG := ⟨tupG is, fun u v env S => if is.length = 2 then tupG.go is [u, v] env S else .bad⟩
def forL (it : Itm) (g : YG) (b : SS) : Nat → Nat → SS
  | 0, _ => badS
  | n + 1, i => fun env S => match it.at S i with
    | none => .bad
    | some none => .ok (.nx env) S
    | some (some y) => (g.put y env S).bd fun env1 S1 => (b env1 S1).bd fun o S2 => match o with
      | .nx env2 => forL it g b n (i + 1) env2 S2
      | .ct env2 => forL it g b n (i + 1) env2 S2
      | .bk env2 => .ok (.nx env2) S2
      | .rt v => .ok (.rt v) S2
def forS (w : SI) (g : YG) (b : SS) : SS := fun env S => (w env S).bd fun it S1 => forL it g b (it.most S1) 0 env S1

section
variable {X : Cx} {W : WR} {E : XK} {pos : Pos} {e : Expr} {fe : SE} {st : Stmt} {rest : List Stmt} {fs fr : SS}
theorem r_snil : PSs X [] (tS W E nextS) := PSs.wk pss_nil fun D σ H ⟨M, S, env, R, r, p⟩ => p M H σ (pre_refl _) R r
theorem r_scons (h1 : PS X st (tS W E fs)) (h2 : PSs X rest (tS W E fr)) : PSs X (st :: rest) (tS W E (seqS fs fr)) := by
  refine PSs.wk (pss_cons h1 h2) fun D σ H ⟨M, S, env, R, r, p⟩ => ⟨M, S, env, R, r, ?_⟩
  unfold seqS at p
  generalize fs env S = q at p ⊢
  cases q with
  | bad => exact p
  | err x S1 => exact p
  | ok o S1 =>
    cases o with
    | nx env1 => exact fun M' H' σ' h R' r' => ⟨M', S1, env1, R', r', PoS.mono h p⟩
    | rt v => exact p
    | bk env1 => exact p
    | ct env1 => exact p
theorem r_pass : PS X (.Pass pos) (tS W E nextS) := PS.wk ps_pass fun D σ H ⟨M, S, env, R, r, p⟩ => p M H σ (pre_refl _) R r
theorem r_brk : PS X (.Break pos) (tS W E brkS) := PS.wk ps_break fun D σ H ⟨M, S, env, R, r, p⟩ => p M H σ (pre_refl _) R r
theorem r_cont : PS X (.Continue pos) (tS W E contS) := PS.wk ps_continue fun D σ H ⟨M, S, env, R, r, p⟩ => p M H σ (pre_refl _) R r
theorem r_drop (he : PE X e (tE W (fun _ => E) fe)) (hs : swapsWith e none pos.line X.env = pure false) : PS X (.Expr e pos) (tS W E (dropS fe)) :=
  PS.wk (ps_expr he hs) fun D σ H ⟨M, S, env, R, r, p⟩ => ⟨M, S, env, R, r, (PoS.bd (RA := RV) p).imp fun x H1 ⟨M1, S1, x1, h1, R1, q1, p1⟩ => p1 M1 H1 σ (pre_refl _) R1 (r.mono h1)⟩
theorem r_ret (he : PE X e (tE W (fun _ => E) fe)) : PS X (.Return (some e) pos) (tS W E (retS fe)) :=
  PS.wk (ps_ret he) fun D σ H ⟨M, S, env, R, r, p⟩ => ⟨M, S, env, R, r, (PoS.bd (RA := RV) p).imp fun x H1 ⟨M1, S1, x1, h1, R1, q1, p1⟩ => p1 M1 H1 x (pre_refl _) R1 q1⟩
theorem r_retN : PS X (.Return none pos) (tS W E retN) := PS.wk ps_retN fun D σ H ⟨M, S, env, R, r, p⟩ => p M H .non (pre_refl _) R rfl
theorem r_if {c : Expr} {a b : List Stmt} {bc : SB} {fa fb : SS} (hc : PT X c (tB W (fun _ => E) bc)) (ha : PSs X a (tS W E fa)) (hb : PSs X b (tS W E fb)) : PS X (.If c a b pos) (tS W E (ifS bc fa fb)) :=
  PS.wk (ps_if hc ha hb) fun D σ H ⟨M, S, env, R, r, p⟩ => ⟨M, S, env, R, r, (PoS.bd (RA := fun _ (a b : Bool) => a = b) p).imp fun k H1 ⟨M1, S1, k1, h1, R1, q1, p1⟩ => by
    cases q1
    cases k with
    | true => exact iteT ⟨M1, S1, env, R1, r.mono h1, p1⟩
    | false => exact iteF ⟨M1, S1, env, R1, r.mono h1, p1⟩⟩
/-! targets -/
/-- a target's reading, by its function -/
def tG (W : WR) (E : XK) (g : SG) : TG := fun w σ H Q => ∃ M S env v, RSt W M S H ∧ REnv M env σ ∧ RV M v w ∧ Po W REnv E M Q (g v env S)
theorem PG.wk {e : Expr} {t t' : TG} (h : PG X e t) (w : ∀ v σ H Q, t' v σ H Q → t v σ H Q) : PG X e t' := ⟨fun pins s σ H v u Q I r q => h.run pins s σ H v u Q I r (w v σ H Q q)⟩
theorem PGs.wk {e : List Expr} {t t' : TGs} (h : PGs X e t) (w : ∀ v σ H Q, t' v σ H Q → t v σ H Q) : PGs X e t' := ⟨fun pins s σ H v u Q I r q => h.run pins s σ H v u Q I r (w v σ H Q q)⟩
theorem r_name {i : Nat} {x : Str} (hN : X.N.Nodup) (hi : X.N[i]? = some x) (hx : Loc X.env.scope x) (hf : X.fn x = true ∨ X.env.scope.names.lookup x = some .local) : PG X (.Name x pos) (tG W E (nameG i)) :=
  PG.wk (pg_name hN hi hx hf) fun w σ H Q ⟨M, S, env, v, R, r, q, p⟩ => p M H _ (pre_refl _) R (r.set q)
def tGs (W : WR) (E : XK) (gs : List SG) : TGs := fun ws σ H Q => ∃ M S env vs, RSt W M S H ∧ REnv M env σ ∧ RVs M vs ws ∧ Po W REnv E M Q (tupG.go gs vs env S)
def nStT : Expr → Bool := nSt
theorem assign_cons {e : Expr} (h : nSt e = true) (es : List Expr) (env : Env) : (assignEach (e :: es) env).map (·.2) = assign e env :: (assignEach es env).map (·.2) := by
  cases e <;> first | rfl | cases h
theorem assign_len : ∀ {es : List Expr} (env : Env), (assignEach es env).length = es.length
  | [], _ => rfl
  | e :: es, env => by
    have := assign_len (es := es) env
    cases e <;> (unfold assignEach; rw [List.length_cons, this]; rfl)
theorem assign_find : ∀ {es : List Expr} (env : Env), es.all nSt = true → (assignEach es env).findIdx? (·.1) = none
  | [], _, _ => rfl
  | e :: es, env, h => by
    rw [List.all_cons, Bool.and_eq_true] at h
    have := assign_find (es := es) env h.2
    cases e <;> first | (cases h.1; done) | (unfold assignEach; rw [List.findIdx?_cons, this]; rfl)
theorem r_gnil : PGs X [] (tGs W E []) := PGs.wk pgs_nil fun ws σ H Q ⟨M, S, env, vs, R, r, q, p⟩ => by
  cases q with
  | nil => exact ⟨rfl, p.ok R r⟩
  | cons _ _ => exact False.elim p
theorem r_gcons {g : SG} {gs : List SG} {es : List Expr} (h1 : PG X e (tG W E g)) (h2 : PGs X es (tGs W E gs)) (hs : nSt e = true) : PGs X (e :: es) (tGs W E (g :: gs)) :=
  PGs.wk (pgs_cons h1 h2 (assign_cons hs es _)) fun ws σ H Q ⟨M, S, env, vs, R, r, q, p⟩ => by
    cases q with
    | nil => exact False.elim p
    | cons q1 q2 =>
      refine ⟨_, _, rfl, M, S, env, _, R, r, q1, (Po.bd (RA := REnv) p).imp fun σ1 H1 ⟨M1, S1, env1, h1, R1, r1, p1⟩ => ?_⟩
      exact ⟨M1, S1, env1, _, R1, r1, RVs.mono h1 q2, p1⟩
theorem r_gtup {gs : List SG} {es : List Expr} {k : Nat} (hK : X.K = W.K) (hc : X.calm = true) (h : PGs X es (tGs W E gs)) (hl : es.length = gs.length) (hs : es.all nSt = true) : PG X (.Tuple es k pos) (tG W E (tupG gs)) :=
  PG.wk (pg_tup (n := gs.length) hc h (by rw [assign_len, hl]) (assign_find _ hs)) fun w σ H Q ⟨M, S, env, v, R, r, q, p⟩ => by
    cases v with
    | ref k =>
      have p : Po W REnv E M Q (match tget S k with
        | some xs => if xs.length = gs.length then tupG.go gs xs env S else .bad
        | none => .bad) := p
      split at p
      · rename_i xs e
        by_cases hn : xs.length = gs.length
        · rw [if_pos hn] at p
          obtain ⟨a, ys, rfl, q1, r1⟩ := R.tget e q
          exact ⟨a, ys, rfl, by rw [hK]; exact q1, by rw [← r1.len]; exact hn, M, S, env, xs, R, r, r1, p⟩
        · rw [if_neg hn] at p
          exact False.elim p
      · exact False.elim p
    | _ => exact False.elim p
def rSet3 (W : WR) (f : MV → MV → MV → Stor → Res Unit) : TSet := fun o i v H Q => ∃ (E : XK) (M : List Addr) (S : Stor) (a b c : MV), RSt W M S H ∧ RV M a o ∧ RV M b i ∧ RV M c v ∧ Po W (fun _ (_ : Unit) (_ : Unit) => True) E M (fun _ H => Q H) (f a b c S)
theorem set_ok : PSet X (rSet3 W setI) := by
  intro pins s σ H o i v ov iv u Q I ro ri rv ⟨E, M, S, a, b, c, R, ra, rb, rc, p⟩
  cases a <;> cases b <;> try exact False.elim p
  rename_i k j
  cases (show i = V.int j from rb)
  have p : Po W (fun _ (_ : Unit) (_ : Unit) => True) E M (fun _ H => Q H) (match S[k]? with
    | some (.lst xs) => match ixN xs.length j with
      | some n => .ok () (S.set k (.lst (xs.set n c)))
      | none => .bad
    | _ => .bad) := p
  split at p
  · rename_i xs e
    split at p
    · rename_i n en
      obtain ⟨ad, ys, rfl, ea, q1, r1⟩ := R.lst e ra
      exact set_list pins s σ H _ _ v ov iv u Q I ro ri rv ⟨ad, ys, j, n, rfl, rfl, q1, by rw [← r1.len]; exact en, p.ok (b := ()) (R.setL e ea (RVs.set rc n r1)) trivial⟩
    · exact False.elim p
  · exact False.elim p
theorem assign_sub {o i : Expr} (h : plIx i = true) : ∀ v, assign (.Subscript o i pos) X.env v = (do
      let ov ← holding [v] (eval o X.env)
      let iv ← holding [v, ov] (eval i X.env)
      standAt pos
      holding [v, ov, iv] (setItem ov iv v)
      release [v, ov, iv] []) := by
  intro v
  cases i <;> first | rfl | cases h
theorem r_gsub {o i : Expr} {fo fi : SE} {f : MV → MV → MV → Stor → Res Unit} (hf : PSet X (rSet3 W f)) (ho : PE X o (tE W (fun _ => E) fo)) (hi : PE X i (tE W (fun _ => E) fi)) (hp : plIx i = true) : PG X (.Subscript o i pos) (tG W E (subG f fo fi)) :=
  PG.wk (pg_sub ho hi hf (assign_sub hp)) fun w σ H Q ⟨M, S, env, v, R, r, q, p⟩ => ⟨M, S, env, R, r, (Po.bd (RA := RV) p).imp fun x H1 ⟨M1, S1, x1, h1, R1, q1, p1⟩ =>
    ⟨M1, S1, env, R1, r.mono h1, (Po.bd (RA := RV) p1).imp fun y H2 ⟨M2, S2, y1, h2, R2, q2, p2⟩ =>
      ⟨E, M2, S2, x1, y1, v, R2, q1.mono h2, q2, (q.mono h1).mono h2, (Po.bd (RA := fun _ (_ : Unit) (_ : Unit) => True) p2).imp fun _ H3 ⟨M3, S3, _, h3, R3, _, p3⟩ => p3.ok R3 (((r.mono h1).mono h2).mono h3)⟩⟩⟩
theorem r_asg {tg : Expr} {g : SG} (he : PE X e (tE W (fun _ => E) fe)) (hg : PG X tg (tG W E g)) (hs : swapsWithSole [tg] e pos.line X.env = pure false) (hw : swappedStores [tg] e X.env = pure none) (hn : nSt tg = true) : PS X (.Assign [tg] e pos) (tS W E (asgS fe g)) :=
  PS.wk (ps_asg he hg hs hw (by rw [assign_cons hn]; rfl)) fun D σ H ⟨M, S, env, R, r, p⟩ => ⟨M, S, env, R, r, (PoS.bd (RA := RV) p).imp fun x H1 ⟨M1, S1, x1, h1, R1, q1, p1⟩ =>
    ⟨M1, S1, env, x1, R1, r.mono h1, q1, (PoS.bd (RA := REnv) p1).imp fun σ2 H2 ⟨M2, S2, env2, h2, R2, r2, p2⟩ => p2 M2 H2 σ2 (pre_refl _) R2 r2⟩⟩
theorem r_aug {i : Nat} {x : Str} {op : Operator} {f : MV → MV → Stor → Res MV} {pos' : Pos} (hN : X.N.Nodup) (hi : X.N[i]? = some x) (hx : Loc X.env.scope x) (he : PE X e (tE W (fun _ => E) fe)) (ho : OpR X (inplaceOp op) (rS2 W f)) (hf : X.fn x = true ∨ X.env.scope.names.lookup x = some .local) :
    PS X (.AugAssign (.Name x pos') op e pos) (tS W E (augS f i fe)) :=
  PS.wk (ps_aug (ti := rS2 W f) hN hi hx he ho hf) fun D σ H ⟨M, S, env, R, r, p⟩ => by
    have p : PoS W E M D (match env[i]? with
      | some (some x) => (fe env S).bd fun y S1 => (f x y S1).bd fun z S2 => .ok (.nx (env.set i (some z))) S2
      | _ => .bad) := p
    split at p
    · rename_i v ev
      obtain ⟨w, h1, h2⟩ := r.get i v ev
      refine ⟨w, h1, M, S, env, R, r, (PoS.bd (RA := RV) p).imp fun y H1 ⟨M1, S1, y1, h1, R1, q1, p1⟩ => ?_⟩
      exact ⟨E, M1, S1, v, y1, R1, h2.mono h1, q1, (PoS.bd (RA := RV) p1).imp fun z H2 ⟨M2, S2, z1, h2', R2, q2, p2⟩ => p2 M2 H2 _ (pre_refl _) R2 (((r.mono h1).mono h2').set q2)⟩
    · exact False.elim p
/-! while -/
theorem r_while {c : Expr} {body : List Stmt} {bc : SB} {fb : SS} {n : Nat} (hp : PassesOwn (model X.prog X.w) X.A X.env X.xe) (hc : PT X c (tB W (fun _ => E) bc)) (hb : PSs X body (tS W E fb)) : PS X (.While c body [] pos) (tS W E (whileS bc fb n)) :=
  PS.wk (ps_while hp hc hb) fun D σ H ⟨M, S, env, R, r, p⟩ => by
    refine ⟨fun m σ H => ∃ M S env, RSt W M S H ∧ REnv M env σ ∧ PoS W E M D (whileS bc fb m env S), ⟨n, M, S, env, R, r, p⟩, ?_⟩
    rintro m σ H ⟨M, S, env, R, r, p⟩
    cases m with
    | zero => exact False.elim p
    | succ m =>
      refine ⟨M, S, env, R, r, (PoS.bd (RA := fun _ (a b : Bool) => a = b) p).imp fun k H1 ⟨M1, S1, k1, h1, R1, q1, p1⟩ => ?_⟩
      cases q1
      cases k with
      | false => exact iteF (p1 M1 H1 σ (pre_refl _) R1 (r.mono h1))
      | true =>
        refine iteT ⟨fun σ' H' => ∃ M S env, RSt W M S H' ∧ REnv M env σ' ∧ PoS W E M D (whileS bc fb m env S), fun σ' H' q => ⟨m, Nat.lt_succ_self m, q⟩, M1, S1, env, R1, r.mono h1, ?_⟩
        have p1 : PoS W E M1 D ((fb env S1).bd fun o S2 => match o with
          | .nx env1 => whileS bc fb m env1 S2
          | .ct env1 => whileS bc fb m env1 S2
          | .bk env1 => .ok (.nx env1) S2
          | .rt v => .ok (.rt v) S2) := p1
        generalize fb env S1 = q at p1 ⊢
        cases q with
        | bad => exact p1
        | err x S2 => exact p1
        | ok o S2 =>
          cases o with
          | nx env2 => exact fun M' H' σ' h R' r' => ⟨M', S2, env2, R', r', PoS.mono h p1⟩
          | ct env2 => exact fun M' H' σ' h R' r' => ⟨M', S2, env2, R', r', PoS.mono h p1⟩
          | bk env2 => exact p1
          | rt v => exact p1
/-! for -/
/-- how the store's item lies in the layer's -/
def YR (K : PySem.W.Frag) (M : List Addr) (H : Hp) (x : V) (H' : Hp) : Yl → Prop
  | .one v => RV M v x ∧ H' = H
  | .two u v => ∃ T u' v', x = .ref T ∧ H T = none ∧ H' = upd H T (.tup [u', v']) ∧ RV M u u' ∧ RV M v v'
/-- a walk's object, by the store's -/
def ItOk (W : WR) (M0 : List Addr) (J : It) (it : Itm) : Prop := ∀ M S H, M0 <+: M → RSt W M S H → ∀ i,
  (it.at S i = some none → J.stop i H) ∧ ∀ y, it.at S i = some (some y) → J.go i H ∧ ∀ x H', J.yld i H x H' → YR W.K M H x H' y
def tI (W : WR) (E : L2.St → XK) (w : SI) : TI := fun σ H Rk => ∃ M S env, RSt W M S H ∧ REnv M env σ ∧ Po W (fun M' it (J : It) => ItOk W M' J it) (E σ) M (fun J H => Rk J H) (w env S)
/-- a target of a for, by its function: of a value, of a new pair -/
structure GY (X : Cx) (W : WR) (E : XK) (tg : Expr) (t : TG) (g : YG) : Prop where
  pg : PG X tg t
  one : ∀ w σ H Q, tG W E g.one w σ H Q → t w σ H Q
  two : ∀ T u v σ H Q, (∃ M S env u' v', H T = some (.tup [u, v]) ∧ RSt W M S H ∧ REnv M env σ ∧ RV M u' u ∧ RV M v' v ∧ Po W REnv E M Q (g.two u' v' env S)) → t (.ref T) σ H Q
theorem r_nameY {i : Nat} {x : Str} (hN : X.N.Nodup) (hi : X.N[i]? = some x) (hx : Loc X.env.scope x) (hf : X.fn x = true ∨ X.env.scope.names.lookup x = some .local) : GY X W E (.Name x pos) (tG W E (nameG i)) (nameY i) :=
  ⟨r_name hN hi hx hf, fun _ _ _ _ h => h, fun T u v σ H Q ⟨M, S, env, u', v', _, _, _, _, _, p⟩ => False.elim p⟩
theorem r_tupY {gs : List SG} {es : List Expr} {k : Nat} (hK : X.K = W.K) (hc : X.calm = true) (h : PGs X es (tGs W E gs)) (hl : es.length = gs.length) (hs : es.all nSt = true) :
    GY X W E (.Tuple es k pos) (gTup X.K gs.length (tGs W E gs)) (tupY gs) := by
  refine ⟨pg_tup hc h (by rw [assign_len, hl]) (assign_find _ hs), fun w σ H Q ⟨M, S, env, v, R, r, q, p⟩ => ?_, fun T u v σ H Q ⟨M, S, env, u', v', hT, R, r, qu, qv, p⟩ => ?_⟩
  · cases v with
    | ref k =>
      have p : Po W REnv E M Q (match tget S k with
        | some xs => if xs.length = gs.length then tupG.go gs xs env S else .bad
        | none => .bad) := p
      split at p
      · rename_i xs e
        by_cases hn : xs.length = gs.length
        · rw [if_pos hn] at p
          obtain ⟨a, ys, rfl, q1, r1⟩ := R.tget e q
          exact ⟨a, ys, rfl, by rw [hK]; exact q1, by rw [← r1.len]; exact hn, M, S, env, xs, R, r, r1, p⟩
        · rw [if_neg hn] at p
          exact False.elim p
      · exact False.elim p
    | _ => exact False.elim p
  · have p : Po W REnv E M Q (if gs.length = 2 then tupG.go gs [u', v'] env S else .bad) := p
    by_cases h2 : gs.length = 2
    · rw [if_pos h2] at p
      exact ⟨T, [u, v], rfl, .of hT, by rw [h2]; rfl, M, S, env, [u', v'], R, r, .cons qu (.cons qv .nil), p⟩
    · rw [if_neg h2] at p
      exact False.elim p
theorem GY.put {tg : Expr} {t : TG} {g : YG} (G : GY X W E tg t g) {M : List Addr} {S : Stor} {env : MEnv} {σ : L2.St} {H H' : Hp} {x : V} {y : Yl} {Q : L2.St → Hp → Prop} (R : RSt W M S H) (r : REnv M env σ) (hy : YR W.K M H x H' y) (p : Po W REnv E M Q (g.put y env S)) : t x σ H' Q := by
  cases y with
  | one v =>
    obtain ⟨q, rfl⟩ := hy
    exact G.one _ _ _ _ ⟨M, S, env, v, R, r, q, p⟩
  | two u v =>
    obtain ⟨T, u', v', rfl, hT, rfl, qu, qv⟩ := hy
    exact G.two T u' v' σ _ Q ⟨M, S, env, u, v, upd_same, R.heap fun b o e => by rw [upd_ne (ne_of_none e hT)]; exact e, r, qu, qv, p⟩
theorem r_for {iter tg : Expr} {body : List Stmt} {w : SI} {t : TG} {g : YG} {fb : SS} (hp : PassesOwn (model X.prog X.w) X.A X.env X.xe) (hc : X.calm = true) (hi : PI X tg iter (tI W (fun _ => E) w)) (G : GY X W E tg t g) (hb : PSs X body (tS W E fb))
    (hs : ∀ x, foldedSetIterable iter X.env x = pure x) : PS X (.For tg iter body [] pos) (tS W E (forS w g fb)) :=
  PS.wk (ps_for hp hc hi G.pg hb hs) fun D σ H ⟨M, S, env, R, r, p⟩ => by
    refine ⟨M, S, env, R, r, (PoS.bd (RA := fun M' it (J : It) => ItOk W M' J it) p).imp fun J H1 ⟨M1, S1, it, h1, R1, ok, p1⟩ => ?_⟩
    refine ⟨fun i m σ H => ∃ M S env, M1 <+: M ∧ RSt W M S H ∧ REnv M env σ ∧ PoS W E M D (forL it g fb m i env S), ⟨_, M1, S1, env, pre_refl _, R1, r.mono h1, p1⟩, ?_⟩
    rintro i m σ H ⟨M, S, env, pm, R, r, p⟩
    cases m with
    | zero => exact False.elim p
    | succ m =>
      have p : PoS W E M D (match it.at S i with
        | none => .bad
        | some none => .ok (.nx env) S
        | some (some y) => (g.put y env S).bd fun env1 S1 => (fb env1 S1).bd fun o S2 => match o with
          | .nx env2 => forL it g fb m (i + 1) env2 S2
          | .ct env2 => forL it g fb m (i + 1) env2 S2
          | .bk env2 => .ok (.nx env2) S2
          | .rt v => .ok (.rt v) S2) := p
      obtain ⟨k1, k2⟩ := ok M S H pm R i
      split at p
      · exact False.elim p
      · rename_i e
        exact .inl ⟨k1 e, p M H σ (pre_refl _) R r⟩
      · rename_i y e
        obtain ⟨go, yl⟩ := k2 y e
        refine .inr ⟨go, fun σ' H' => ∃ M S env, M1 <+: M ∧ RSt W M S H' ∧ REnv M env σ' ∧ PoS W E M D (forL it g fb m (i + 1) env S), fun σ' H' q => ⟨m, Nat.lt_succ_self m, q⟩, fun x H' hy => ?_⟩
        refine G.put R r (yl x H' hy) ((PoS.bd (RA := REnv) p).imp fun σ2 H2 ⟨M2, S2, env2, h2, R2, r2, p2⟩ => ⟨M2, S2, env2, R2, r2, ?_⟩)
        have pm2 := pre_trans pm h2
        generalize fb env2 S2 = q at p2 ⊢
        cases q with
        | bad => exact p2
        | err x S2 => exact p2
        | ok o S3 =>
          cases o with
          | nx env3 => exact fun M' H' σ' h R' r' => ⟨M', S3, env3, pre_trans pm2 h, R', r', PoS.mono h p2⟩
          | ct env3 => exact fun M' H' σ' h R' r' => ⟨M', S3, env3, pre_trans pm2 h, R', r', PoS.mono h p2⟩
          | bk env3 => exact p2
          | rt v => exact p2
end
end Rf

/-! Rf4: what is walked; list comprehensions. -/
namespace Rf
open PySem PySem.Spec PyProof.Rows L2

def okI (i : Int) : Bool := decide (-(2 ^ 62) ≤ i ∧ i < 2 ^ 62)
def rng1S (a : SA) : SI := fun env S => (a env S).bd fun xs S1 => match xs with
  | [.int j] => if okI j then .ok (.rng 0 1 j.toNat) S1 else .bad
  | _ => .bad
def rng2S (a : SA) : SI := fun env S => (a env S).bd fun xs S1 => match xs with
  | [.int i, .int j] => if okI i && okI j then .ok (.rng i 1 (j - i).toNat) S1 else .bad
  | _ => .bad
def rgN (i j c : Int) : Nat := (Builtin.Range.rangeSize i j c).toNat
def rng3S (a : SA) : SI := fun env S => (a env S).bd fun xs S1 => match xs with
  | [.int i, .int j, .int c] => if c ≠ 0 ∧ c.natAbs < 1073741824 ∧ Builtin.Range.small i j c = true ∧ Builtin.Range.rangeSize i j c = (rgN i j c : Nat) then .ok (.rng i c (rgN i j c)) S1 else .bad
  | _ => .bad
/-- a list, a tuple, a text that is walked -/
def seqI (a : SE) : SI := fun env S => (a env S).bd fun v S1 => match v with
  | .ref k => match lget S1 k with
    | some _ => .ok (.lst k) S1
    | none => match tget S1 k with
      | some _ => .ok (.tup k) S1
      | none => .bad
  | .str x => .ok (.str x) S1
  | _ => .bad
def enmI (a : SA) : SI := fun env S => (a env S).bd fun vs S1 => match vs with
  | [.ref k] => match lget S1 k with
    | some _ => .ok (.enm k) S1
    | none => .bad
  | _ => .bad
def zipI (a : SA) : SI := fun env S => (a env S).bd fun vs S1 => match vs with
  | [.ref k, .ref l] => match lget S1 k, lget S1 l with
    | some _, some _ => .ok (.zip k l) S1
    | _, _ => .bad
  | _ => .bad
def revI (a : SA) : SI := fun env S => (a env S).bd fun vs S1 => match vs with
  | [.ref k] => match lget S1 k with
    | some xs => .ok (.rev k xs.length) S1
    | none => .bad
  | _ => .bad
/-- reversed(range(n)), reversed(range(a, b)) -/
def rvrS (w : SI) : SI := fun env S => (w env S).bd fun it S1 => match it with
  | .rng a 1 n => .ok (.rng (a + (n : Int) - 1) (-1) n) S1
  | _ => .bad

theorem PI.or {X : Cx} {tg e : Expr} {t t' : TI} (h : PI X tg e t) (h' : PI X tg e t') : PI X tg e (fun σ H R => t σ H R ∨ t' σ H R) := ⟨fun pins s σ H R I q => q.elim (h.run pins s σ H R I) (h'.run pins s σ H R I)⟩
theorem PI.wk {X : Cx} {tg e : Expr} {t t' : TI} (h : PI X tg e t) (w : ∀ σ H Q, t' σ H Q → t σ H Q) : PI X tg e t' := ⟨fun pins s σ H Q I q => h.run pins s σ H Q I (w σ H Q q)⟩

section
variable {X : Cx} {W : WR} {E : L2.St → XK} {tg : Expr} {p pos : Pos}
theorem it_rng (M0 : List Addr) (lo : Int) (n : Nat) : ItOk W M0 (Itr lo n) (.rng lo 1 n) := fun M S H _ R i => by
  refine ⟨fun e => ?_, fun y e => ?_⟩
  · have e : (some (if i < n then some (Yl.one (.int (lo + i * 1))) else none)) = some none := e
    by_cases h : i < n
    · rw [if_pos h] at e; cases e
    · exact Nat.le_of_not_lt h
  · have e : (some (if i < n then some (Yl.one (.int (lo + i * 1))) else none)) = some (some y) := e
    by_cases h : i < n
    · rw [if_pos h] at e
      cases e
      refine ⟨h, fun x H' ⟨h1, h2⟩ => ⟨?_, h1⟩⟩
      rw [Int.mul_one]
      exact h2
    · rw [if_neg h] at e; cases e
theorem it_rngC (M0 : List Addr) (lo c : Int) (n : Nat) : ItOk W M0 (Itc lo c n) (.rng lo c n) := fun M S H _ R i => by
  refine ⟨fun e => ?_, fun y e => ?_⟩
  · have e : (some (if i < n then some (Yl.one (.int (lo + i * c))) else none)) = some none := e
    by_cases h : i < n
    · rw [if_pos h] at e; cases e
    · exact Nat.le_of_not_lt h
  · have e : (some (if i < n then some (Yl.one (.int (lo + i * c))) else none)) = some (some y) := e
    by_cases h : i < n
    · rw [if_pos h] at e
      cases e
      exact ⟨h, fun x H' ⟨h1, h2⟩ => ⟨h2, h1⟩⟩
    · rw [if_neg h] at e; cases e
theorem map_none {α β : Type} {f : α → β} {o : Option α} (h : some (o.map f) = some none) : o = none := by
  cases o with
  | none => rfl
  | some x => cases h
theorem map_some {α β : Type} {f : α → β} {o : Option α} {y : β} (h : some (o.map f) = some (some y)) : ∃ x, o = some x ∧ y = f x := by
  cases o with
  | none => cases h
  | some x => cases h; exact ⟨x, rfl, rfl⟩
theorem it_lst {M0 : List Addr} {k : Nat} {a : Addr} (hk : M0[k]? = some a) : ItOk W M0 (Itl W.K a) (.lst k) := fun M S H pm R i => by
  have ra : RV M (.ref k) (.ref a) := ⟨a, pre_get pm hk, rfl⟩
  cases e : lget S k with
  | none => refine ⟨fun q => ?_, fun y q => ?_⟩ <;> (unfold Itm.at at q; simp only [e] at q; cases q)
  | some xs =>
    obtain ⟨b, ys, eb, q1, r1⟩ := R.lget e ra
    cases eb
    refine ⟨fun q => ?_, fun y q => ?_⟩
    · have q := map_none (show some (xs[i]?.map Yl.one) = some none by unfold Itm.at at q; simp only [e] at q; exact q)
      exact ⟨ys, q1, List.getElem?_eq_none_iff.mp (r1.none q)⟩
    · obtain ⟨x, hx, rfl⟩ := map_some (show some (xs[i]?.map Yl.one) = some (some y) by unfold Itm.at at q; simp only [e] at q; exact q)
      obtain ⟨w, h1, h2⟩ := r1.get hx
      refine ⟨⟨ys, w, q1, h1⟩, fun z H' ⟨eH, hz⟩ => ⟨?_, eH⟩⟩
      have := hz ys q1
      rw [h1] at this
      cases this
      exact h2
theorem it_tup {M0 : List Addr} {k : Nat} {a : Addr} (hk : M0[k]? = some a) : ItOk W M0 (Itt W.K a) (.tup k) := fun M S H pm R i => by
  have ra : RV M (.ref k) (.ref a) := ⟨a, pre_get pm hk, rfl⟩
  cases e : tget S k with
  | none => refine ⟨fun q => ?_, fun y q => ?_⟩ <;> (unfold Itm.at at q; simp only [e] at q; cases q)
  | some xs =>
    obtain ⟨b, ys, eb, q1, r1⟩ := R.tget e ra
    cases eb
    refine ⟨fun q => ?_, fun y q => ?_⟩
    · have q := map_none (show some (xs[i]?.map Yl.one) = some none by unfold Itm.at at q; simp only [e] at q; exact q)
      exact ⟨ys, q1, List.getElem?_eq_none_iff.mp (r1.none q)⟩
    · obtain ⟨x, hx, rfl⟩ := map_some (show some (xs[i]?.map Yl.one) = some (some y) by unfold Itm.at at q; simp only [e] at q; exact q)
      obtain ⟨w, h1, h2⟩ := r1.get hx
      refine ⟨⟨ys, w, q1, h1⟩, fun z H' ⟨eH, hz⟩ => ⟨?_, eH⟩⟩
      have := hz ys q1
      rw [h1] at this
      cases this
      exact h2
theorem it_enm {M0 : List Addr} {k : Nat} {a : Addr} (hk : M0[k]? = some a) : ItOk W M0 (Ite W.K a) (.enm k) := fun M S H pm R i => by
  have ra : RV M (.ref k) (.ref a) := ⟨a, pre_get pm hk, rfl⟩
  cases e : lget S k with
  | none => refine ⟨fun q => ?_, fun y q => ?_⟩ <;> (unfold Itm.at at q; simp only [e] at q; cases q)
  | some xs =>
    obtain ⟨b, ys, eb, q1, r1⟩ := R.lget e ra
    cases eb
    refine ⟨fun q => ?_, fun y q => ?_⟩
    · have q := map_none (show some (xs[i]?.map (Yl.two (.int i))) = some none by unfold Itm.at at q; simp only [e] at q; exact q)
      exact ⟨ys, q1, List.getElem?_eq_none_iff.mp (r1.none q)⟩
    · obtain ⟨x, hx, rfl⟩ := map_some (show some (xs[i]?.map (Yl.two (.int i))) = some (some y) by unfold Itm.at at q; simp only [e] at q; exact q)
      obtain ⟨w, h1, h2⟩ := r1.get hx
      refine ⟨⟨ys, w, q1, h1⟩, fun z H' ⟨T, x', ez, hT, eH, hz⟩ => ⟨T, .int i, x', ez, hT, eH, rfl, ?_⟩⟩
      have := hz ys q1
      rw [h1] at this
      cases this
      exact h2
theorem it_zip {M0 : List Addr} {k l : Nat} {a b : Addr} (hk : M0[k]? = some a) (hl : M0[l]? = some b) : ItOk W M0 (Itz W.K a b) (.zip k l) := fun M S H pm R i => by
  have ra : RV M (.ref k) (.ref a) := ⟨a, pre_get pm hk, rfl⟩
  have rb : RV M (.ref l) (.ref b) := ⟨b, pre_get pm hl, rfl⟩
  cases e : lget S k with
  | none => refine ⟨fun q => ?_, fun y q => ?_⟩ <;> (unfold Itm.at at q; simp only [e] at q; cases q)
  | some xs =>
    cases e2 : lget S l with
    | none => refine ⟨fun q => ?_, fun y q => ?_⟩ <;> (unfold Itm.at at q; simp only [e, e2] at q; cases q)
    | some xs2 =>
      obtain ⟨_, ys, eb, q1, r1⟩ := R.lget e ra
      cases eb
      obtain ⟨_, ys2, eb, q2, r2⟩ := R.lget e2 rb
      cases eb
      have ev : ∀ z, (Itm.zip k l).at S i = some z → (match xs[i]?, xs2[i]? with
        | some x, some y => some (Yl.two x y)
        | _, _ => none) = z := fun z q => by
        unfold Itm.at at q
        simp only [e, e2] at q
        exact Option.some.inj q
      refine ⟨fun q => ?_, fun y q => ?_⟩
      · have q := ev _ q
        refine ⟨ys, ys2, q1, q2, ?_⟩
        cases h1 : xs[i]? with
        | none => exact .inl (List.getElem?_eq_none_iff.mp (r1.none h1))
        | some x =>
          cases h2 : xs2[i]? with
          | none => exact .inr (List.getElem?_eq_none_iff.mp (r2.none h2))
          | some y => simp only [h1, h2] at q; cases q
      · have q := ev _ q
        cases h1 : xs[i]? with
        | none => simp only [h1] at q; cases q
        | some x =>
          cases h2 : xs2[i]? with
          | none => simp only [h1, h2] at q; cases q
          | some y' =>
            simp only [h1, h2] at q
            cases q
            obtain ⟨w, g1, g2⟩ := r1.get h1
            obtain ⟨w2, g3, g4⟩ := r2.get h2
            refine ⟨⟨ys, ys2, w, w2, q1, q2, g1, g3⟩, fun z H' ⟨T, x', y2, ez, hT, eH, hz, hz2⟩ => ⟨T, x', y2, ez, hT, eH, ?_, ?_⟩⟩
            · have := hz ys q1
              rw [g1] at this
              cases this
              exact g2
            · have := hz2 ys2 q2
              rw [g3] at this
              cases this
              exact g4
theorem it_rev {M0 : List Addr} {k n : Nat} {a : Addr} (hk : M0[k]? = some a) : ItOk W M0 (Itv W.K a n) (.rev k n) := fun M S H pm R i => by
  have ra : RV M (.ref k) (.ref a) := ⟨a, pre_get pm hk, rfl⟩
  cases e : lget S k with
  | none => refine ⟨fun q => ?_, fun y q => ?_⟩ <;> (unfold Itm.at at q; simp only [e] at q; cases q)
  | some xs =>
    obtain ⟨b, ys, eb, q1, r1⟩ := R.lget e ra
    cases eb
    have ev : ∀ z, (Itm.rev k n).at S i = z → (if xs.length = n then some (if i < n then xs[n - 1 - i]?.map Yl.one else none) else none) = z := fun z q => by
      unfold Itm.at at q
      simp only [e] at q
      exact q
    by_cases hn : xs.length = n
    · refine ⟨fun q => ?_, fun y q => ?_⟩
      · have q := ev _ q
        rw [if_pos hn] at q
        by_cases hi : i < n
        · rw [if_pos hi] at q
          have q := map_none q
          have := List.getElem?_eq_none_iff.mp q
          omega
        · exact Nat.le_of_not_lt hi
      · have q := ev _ q
        rw [if_pos hn] at q
        by_cases hi : i < n
        · rw [if_pos hi] at q
          obtain ⟨x, hx, rfl⟩ := map_some q
          obtain ⟨w, h1, h2⟩ := r1.get hx
          refine ⟨⟨hi, ys, w, q1, h1⟩, fun z H' ⟨eH, hz⟩ => ⟨?_, eH⟩⟩
          have := hz ys q1
          rw [h1] at this
          cases this
          exact h2
        · rw [if_neg hi] at q
          cases q
    · refine ⟨fun q => ?_, fun y q => ?_⟩ <;> (have q := ev _ q; rw [if_neg hn] at q; cases q)
theorem it_str (M0 : List Addr) (x : Str) : ItOk W M0 (Its x) (.str x) := fun M S H _ R i => by
  have hl : x.length = x.cps.size := rfl
  refine ⟨fun e => ?_, fun y e => ?_⟩
  · have e : (some (if i < x.length then (x.cps[i]?).map fun c => Yl.one (.str ⟨#[c]⟩) else none)) = some none := e
    by_cases h : i < x.length
    · rw [if_pos h] at e
      have e := map_none e
      rw [Array.getElem?_eq_none_iff] at e
      omega
    · show x.cps.size ≤ i
      omega
  · have e : (some (if i < x.length then (x.cps[i]?).map fun c => Yl.one (.str ⟨#[c]⟩) else none)) = some (some y) := e
    by_cases h : i < x.length
    · rw [if_pos h] at e
      obtain ⟨c, hc, rfl⟩ := map_some e
      refine ⟨by show i < x.cps.size; omega, fun v H' ⟨h1, c', h2, h3⟩ => ⟨?_, h1⟩⟩
      rw [hc] at h2
      cases h2
      exact h3
    · rw [if_neg h] at e; cases e

variable {a b c : Expr} {fa : SA}
theorem okI_of {i : Int} (h : okI i = true) : -(2 ^ 62) ≤ i ∧ i < 2 ^ 62 := of_decide_eq_true h
theorem star1 {e : Expr} (h : nSt e = true) (env : Env) : starEach [e] env = [(false, eval e env)] := star_cons h [] env
theorem r_rng1 (hg : Gl X "range") (hm : X.mg "range" = none) (ha : PA X [a] (tA W E fa)) (hs : nSt a = true) : PI X tg (.Call (.Name "range" p) [a] [] pos) (tI W E (rng1S fa)) :=
  PI.wk (pi_range1 hg hm ha (star1 hs _)) fun σ H Q ⟨M, S, env, R, r, q⟩ => ⟨M, S, env, R, r, (Po.bd (RA := RVs) q).imp fun xs H1 ⟨M1, S1, xs1, h1, R1, q1, p1⟩ => by
    match xs1, q1, p1 with
    | [.int j], .cons r1 .nil, p1 =>
      have p1 : Po W (fun M' it (J : It) => ItOk W M' J it) (E σ) M1 Q (if okI j then .ok (.rng 0 1 j.toNat) S1 else .bad) := p1
      by_cases h : okI j = true
      · rw [if_pos h] at p1
        cases (show _ = V.int j from r1)
        exact ⟨j, rfl, (okI_of h).1, (okI_of h).2, p1.ok R1 (it_rng M1 0 j.toNat)⟩
      · rw [if_neg h] at p1
        exact False.elim p1⟩
theorem r_rng2 (hg : Gl X "range") (hm : X.mg "range" = none) (ha : PA X [a, b] (tA W E fa)) (hs : nSt a = true) (hs2 : nSt b = true) : PI X tg (.Call (.Name "range" p) [a, b] [] pos) (tI W E (rng2S fa)) :=
  PI.wk (pi_range2 hg hm ha (by rw [star_cons hs, star1 hs2]) (star1 hs2 _)) fun σ H Q ⟨M, S, env, R, r, q⟩ => ⟨M, S, env, R, r, (Po.bd (RA := RVs) q).imp fun xs H1 ⟨M1, S1, xs1, h1, R1, q1, p1⟩ => by
    match xs1, q1, p1 with
    | [.int i, .int j], .cons r1 (.cons r2 .nil), p1 =>
      have p1 : Po W (fun M' it (J : It) => ItOk W M' J it) (E σ) M1 Q (if okI i && okI j then .ok (.rng i 1 (j - i).toNat) S1 else .bad) := p1
      by_cases h : (okI i && okI j) = true
      · rw [if_pos h] at p1
        rw [Bool.and_eq_true] at h
        cases (show _ = V.int i from r1)
        cases (show _ = V.int j from r2)
        exact ⟨i, j, rfl, ⟨(okI_of h.1).1, (okI_of h.1).2, (okI_of h.2).1, (okI_of h.2).2⟩, p1.ok R1 (it_rng M1 i _)⟩
      · rw [if_neg h] at p1
        exact False.elim p1⟩
theorem r_rng3 (hg : Gl X "range") (hm : X.mg "range" = none) (ha : PA X [a, b, c] (tA W E fa)) (hs : nSt a = true) (hs2 : [b, c].all nSt = true) : PI X tg (.Call (.Name "range" p) [a, b, c] [] pos) (tI W E (rng3S fa)) :=
  PI.wk (pi_range3 hg hm ha (star_cons hs _ _) (star_any hs2)) fun σ H Q ⟨M, S, env, R, r, q⟩ => ⟨M, S, env, R, r, (Po.bd (RA := RVs) q).imp fun xs H1 ⟨M1, S1, xs1, h1, R1, q1, p1⟩ => by
    match xs1, q1, p1 with
    | [.int i, .int j, .int k], .cons r1 (.cons r2 (.cons r3 .nil)), p1 =>
      have p1 : Po W (fun M' it (J : It) => ItOk W M' J it) (E σ) M1 Q (if k ≠ 0 ∧ k.natAbs < 1073741824 ∧ Builtin.Range.small i j k = true ∧ Builtin.Range.rangeSize i j k = (rgN i j k : Nat) then .ok (.rng i k (rgN i j k)) S1 else .bad) := p1
      by_cases h : k ≠ 0 ∧ k.natAbs < 1073741824 ∧ Builtin.Range.small i j k = true ∧ Builtin.Range.rangeSize i j k = (rgN i j k : Nat)
      · rw [if_pos h] at p1
        cases (show _ = V.int i from r1)
        cases (show _ = V.int j from r2)
        cases (show _ = V.int k from r3)
        exact ⟨i, j, k, rgN i j k, rfl, h, p1.ok R1 (it_rngC M1 i k _)⟩
      · rw [if_neg h] at p1
        exact False.elim p1⟩
theorem r_seqI {e : Expr} {fe : SE} (hK : X.K = W.K) (he : PE X e (tE W E fe)) : PI X tg e (tI W E (seqI fe)) :=
  PI.wk (PI.or (pi_list he) (PI.or (pi_tup he) (pi_str he))) fun σ H Q ⟨M, S, env, R, r, q⟩ => by
    have q : Po W (fun M' it (J : It) => ItOk W M' J it) (E σ) M Q ((fe env S).bd fun v S1 => match v with
      | .ref k => match lget S1 k with
        | some _ => .ok (.lst k) S1
        | none => match tget S1 k with
          | some _ => .ok (.tup k) S1
          | none => .bad
      | .str x => .ok (.str x) S1
      | _ => .bad) := q
    rw [hK]
    cases e : fe env S with
    | bad => rw [e] at q; exact False.elim q
    | err x S1 =>
      rw [e] at q
      exact .inl ⟨M, S, env, R, r, by rw [e]; exact q⟩
    | ok v S1 =>
      rw [e] at q
      cases v with
      | str x => exact .inr (.inr ⟨M, S, env, R, r, by rw [e]; exact fun M' H' w h R' rv => ⟨x, rv, Po.ok (q.mono h) R' (it_str M' x)⟩⟩)
      | ref k =>
        have q : Po W (fun M' it (J : It) => ItOk W M' J it) (E σ) M Q (match lget S1 k with
          | some _ => .ok (.lst k) S1
          | none => match tget S1 k with
            | some _ => .ok (.tup k) S1
            | none => .bad) := q
        cases e1 : lget S1 k with
        | some xs =>
          rw [e1] at q
          refine .inl ⟨M, S, env, R, r, ?_⟩
          rw [e]
          intro M' H' w h R' rv
          obtain ⟨ad, ys, rfl, q1, r1⟩ := R'.lget e1 rv
          obtain ⟨_, ea, ez⟩ := rv
          cases ez
          exact ⟨ad, rfl, ⟨ys, q1⟩, Po.ok (q.mono h) R' (it_lst ea)⟩
        | none =>
          rw [e1] at q
          cases e2 : tget S1 k with
          | none => rw [e2] at q; exact False.elim q
          | some xs =>
            rw [e2] at q
            refine .inr (.inl ⟨M, S, env, R, r, ?_⟩)
            rw [e]
            intro M' H' w h R' rv
            obtain ⟨ad, ys, rfl, q1, r1⟩ := R'.tget e2 rv
            obtain ⟨_, ea, ez⟩ := rv
            cases ez
            exact ⟨ad, rfl, ⟨ys, q1⟩, Po.ok (q.mono h) R' (it_tup ea)⟩
      | _ => exact False.elim q
theorem r_enm {elts : List Expr} {kk : Nat} {tpos : Pos} (hK : X.K = W.K) (hg : Gl X "enumerate") (hm : X.mg "enumerate" = none) (ha : PA X [a] (tA W E fa)) (hs : nSt a = true) : PI X (.Tuple elts kk tpos) (.Call (.Name "enumerate" p) [a] [] pos) (tI W E (enmI fa)) :=
  PI.wk (pi_enum hg hm ha (star1 hs _)) fun σ H Q ⟨M, S, env, R, r, q⟩ => ⟨M, S, env, R, r, (Po.bd (RA := RVs) q).imp fun xs H1 ⟨M1, S1, xs1, h1, R1, q1, p1⟩ => by
    match xs1, q1, p1 with
    | [.ref k], .cons r1 .nil, p1 =>
      have p1 : Po W (fun M' it (J : It) => ItOk W M' J it) (E σ) M1 Q (match lget S1 k with
        | some _ => .ok (.enm k) S1
        | none => .bad) := p1
      cases e1 : lget S1 k with
      | none => rw [e1] at p1; exact False.elim p1
      | some xs =>
        rw [e1] at p1
        obtain ⟨ad, ys, rfl, q1, r2⟩ := R1.lget e1 r1
        obtain ⟨_, ea, ez⟩ := r1
        cases ez
        exact ⟨ad, ys, rfl, by rw [hK]; exact q1, by rw [hK]; exact p1.ok R1 (it_enm ea)⟩⟩
theorem r_zip {elts : List Expr} {kk : Nat} {tpos : Pos} (hK : X.K = W.K) (hg : Gl X "zip") (hm : X.mg "zip" = none) (ha : PA X [a, b] (tA W E fa)) (hs : nSt a = true) (hs2 : nSt b = true) : PI X (.Tuple elts kk tpos) (.Call (.Name "zip" p) [a, b] [] pos) (tI W E (zipI fa)) :=
  PI.wk (pi_zip hg hm ha (star_cons hs _ _) (star_any (by simp [hs2]))) fun σ H Q ⟨M, S, env, R, r, q⟩ => ⟨M, S, env, R, r, (Po.bd (RA := RVs) q).imp fun xs H1 ⟨M1, S1, xs1, h1, R1, q1, p1⟩ => by
    match xs1, q1, p1 with
    | [.ref k, .ref l], .cons r1 (.cons r2 .nil), p1 =>
      have p1 : Po W (fun M' it (J : It) => ItOk W M' J it) (E σ) M1 Q (match lget S1 k, lget S1 l with
        | some _, some _ => .ok (.zip k l) S1
        | _, _ => .bad) := p1
      cases e1 : lget S1 k with
      | none => rw [e1] at p1; exact False.elim p1
      | some xs =>
        cases e2 : lget S1 l with
        | none => rw [e1, e2] at p1; exact False.elim p1
        | some xs2 =>
          rw [e1, e2] at p1
          obtain ⟨ad, ys, rfl, q1, _⟩ := R1.lget e1 r1
          obtain ⟨_, ea, ez⟩ := r1
          cases ez
          obtain ⟨ad2, ys2, rfl, q2, _⟩ := R1.lget e2 r2
          obtain ⟨_, ea2, ez⟩ := r2
          cases ez
          exact ⟨ad, ad2, ys, ys2, rfl, by rw [hK]; exact q1, by rw [hK]; exact q2, by rw [hK]; exact p1.ok R1 (it_zip ea ea2)⟩⟩
theorem r_rev (hK : X.K = W.K) (hg : Gl X "reversed") (hm : X.mg "reversed" = none) (ha : PA X [a] (tA W E fa)) (hs : nSt a = true) : PI X tg (.Call (.Name "reversed" p) [a] [] pos) (tI W E (revI fa)) :=
  PI.wk (pi_reversed hg hm ha (star1 hs _)) fun σ H Q ⟨M, S, env, R, r, q⟩ => ⟨M, S, env, R, r, (Po.bd (RA := RVs) q).imp fun xs H1 ⟨M1, S1, xs1, h1, R1, q1, p1⟩ => by
    match xs1, q1, p1 with
    | [.ref k], .cons r1 .nil, p1 =>
      have p1 : Po W (fun M' it (J : It) => ItOk W M' J it) (E σ) M1 Q (match lget S1 k with
        | some xs => .ok (.rev k xs.length) S1
        | none => .bad) := p1
      cases e1 : lget S1 k with
      | none => rw [e1] at p1; exact False.elim p1
      | some xs =>
        rw [e1] at p1
        obtain ⟨ad, ys, rfl, q1, r2⟩ := R1.lget e1 r1
        obtain ⟨_, ea, ez⟩ := r1
        cases ez
        exact ⟨ad, ys, rfl, by rw [hK]; exact q1, by rw [hK, ← r2.len]; exact p1.ok R1 (it_rev ea)⟩⟩
/-- range(a) and range(a, b) as values -/
theorem r_rvr1 {fe : SE} {p2 pos2 : Pos} (hg : Gl X "reversed") (hm : X.mg "reversed" = none) (hg2 : Gl X "range") (hm2 : X.mg "range" = none) (ha : PE X a (tE W E fe)) (hs : nSt a = true) :
    PI X tg (.Call (.Name "reversed" p) [.Call (.Name "range" p2) [a] [] pos2] [] pos) (tI W E (rvrS (rng1S (consS fe nilS)))) :=
  PI.wk (pi_revR hg hm (prg_1 hg2 hm2 ha (star_cons hs _ _)) (star_cons rfl _ _)) fun σ H Q ⟨M, S, env, R, r, q⟩ => ⟨M, S, env, R, r, by
    have q : Po W (fun M' it (J : It) => ItOk W M' J it) (E σ) M Q ((rng1S (consS fe nilS) env S).bd fun it S1 => match it with
      | .rng a 1 n => .ok (.rng (a + (n : Int) - 1) (-1) n) S1
      | _ => .bad) := q
    unfold rng1S consS nilS at q
    cases e : fe env S with
    | bad => rw [e] at q; exact False.elim q
    | err x S1 => rw [e] at q; exact q
    | ok v S1 =>
      rw [e] at q
      cases v with
      | int j =>
        have q : Po W (fun M' it (J : It) => ItOk W M' J it) (E σ) M Q (Res.bd (if okI j then Res.ok (Itm.rng 0 1 j.toNat) S1 else .bad) fun it S1 => match it with
          | .rng a 1 n => .ok (.rng (a + (n : Int) - 1) (-1) n) S1
          | _ => .bad) := q
        by_cases h : okI j = true
        · rw [if_pos h] at q
          intro M' H' w hp R' rv
          cases (show w = V.int j from rv)
          refine ⟨j, rfl, by decide, by decide, (okI_of h).1, (okI_of h).2, ?_⟩
          rw [Int.sub_zero]
          exact Po.ok (q.mono hp) R' (it_rngC M' _ _ _)
        · rw [if_neg h] at q
          exact False.elim q
      | _ => exact False.elim q⟩
end
end Rf

/-! Rf5: list comprehensions. -/
namespace Rf
open PySem PySem.Spec PyProof.Rows L2

@[inline] def Res.bdN {α β : Type} (r : Res α) (k : α → Stor → Res β) : Res β := match r with
  | .ok a S => k a S
  | _ => .bad
def wipeM (env : MEnv) : List Nat → MEnv
  | [] => env
  | v :: vs => (wipeM env vs).set v none
inductive CT where
  | name (i : Nat) | tup (is : List Nat)
def setAll {α : Type} (env : List (Option α)) : List Nat → List α → List (Option α)
  | i :: is, x :: xs => setAll (env.set i (some x)) is xs
  | _, _ => env
def CT.put (env : MEnv) (S : Stor) : CT → Yl → Option MEnv
  | .name i, .one v => some (env.set i (some v))
  | .tup is, .one (.ref k) => match tget S k with
    | some xs => if xs.length = is.length then some (setAll env is xs) else none
    | none => none
  | .tup is, .two u v => if is.length = 2 then some (setAll env is [u, v]) else none
  | _, _ => none
def CT.slots : CT → List Nat
  | .name i => [i]
  | .tup is => is
def yesB : SB := fun _ S => .ok true S
def lcL (it : Itm) (g : CT) (c : SB) (el : SE) (D : Nat) (env : MEnv) : Nat → Nat → Stor → Res MV
  | 0, _, _ => .bad
  | n + 1, i, S => match it.at S i with
    | none => .bad
    | some none => .ok (.ref D) S
    | some (some y) => match g.put env S y with
      | none => .bad
      | some env1 => (c env1 S).bdN fun b S2 => if b then (el env1 S2).bdN fun v S3 => match S3[D]? with
          | some (.lst acc) => if acc.length < sizeLine then lcL it g c el D env n (i + 1) (S3.set D (.lst (acc ++ [v]))) else .bad
          | _ => .bad
        else lcL it g c el D env n (i + 1) S2
def lcS (w : SI) (g : CT) (c : SB) (el : SE) (vs : List Nat) : SE := fun env S => (w env S).bd fun it S1 => lcL it g c el S1.length (wipeM env vs) (it.most S1) 0 (S1 ++ [.lst []])

theorem wipe_at (σ : L2.St) : ∀ (vs : List Nat) (j : Nat), (wipe σ vs)[j]? = if j ∈ vs ∧ j < σ.length then some none else σ[j]?
  | [], j => by simp [wipe]
  | v :: vs, j => by
    unfold wipe
    by_cases h : v = j
    · subst h
      by_cases hl : v < σ.length
      · rw [List.getElem?_set_self (by rw [wipe_length]; exact hl), if_pos ⟨List.mem_cons_self, hl⟩]
      · rw [List.getElem?_eq_none (by rw [List.length_set, wipe_length]; omega), if_neg (fun q => hl q.2), List.getElem?_eq_none (by omega)]
    · rw [List.getElem?_set_ne h, wipe_at σ vs j]
      have : (j ∈ v :: vs) ↔ j ∈ vs := by
        rw [List.mem_cons]
        exact ⟨fun q => q.elim (fun z => absurd z.symm h) id, .inr⟩
      simp only [this]
theorem wipe_set (σ : L2.St) (vs : List Nat) {i : Nat} (x : Option V) (hi : i ∈ vs) : wipe (σ.set i x) vs = wipe σ vs := by
  apply List.ext_getElem?
  intro j
  rw [wipe_at, wipe_at, List.length_set]
  by_cases h : j ∈ vs ∧ j < σ.length
  · rw [if_pos h, if_pos h]
  · rw [if_neg h, if_neg h]
    by_cases hj : i = j
    · subst hj
      have : ¬ i < σ.length := fun q => h ⟨hi, q⟩
      rw [List.getElem?_eq_none (by rw [List.length_set]; omega), List.getElem?_eq_none (by omega)]
    · rw [List.getElem?_set_ne hj]
theorem wipe_wipe (σ : L2.St) (vs : List Nat) : wipe (wipe σ vs) vs = wipe σ vs := by
  apply List.ext_getElem?
  intro j
  rw [wipe_at (wipe σ vs), wipe_length, wipe_at]
  by_cases h : j ∈ vs ∧ j < σ.length
  · rw [if_pos h, if_pos h]
  · rw [if_neg h, if_neg h]
theorem wipe_setAll (vs : List Nat) : ∀ (is : List Nat) (xs : List V) (σ : L2.St), (∀ i ∈ is, i ∈ vs) → wipe (setAll σ is xs) vs = wipe σ vs
  | [], xs, σ, _ => by cases xs <;> rfl
  | i :: is, [], σ, _ => rfl
  | i :: is, x :: xs, σ, h => by
    show wipe (setAll (σ.set i (some x)) is xs) vs = _
    rw [wipe_setAll vs is xs _ fun j hj => h j (List.mem_cons_of_mem _ hj), wipe_set σ vs _ (h i List.mem_cons_self)]
theorem REnv.wipe {M : List Addr} {env : MEnv} {σ : L2.St} (r : REnv M env σ) : ∀ vs : List Nat, REnv M (wipeM env vs) (wipe σ vs)
  | [] => r
  | v :: vs => (REnv.wipe r vs).setNone
theorem REnv.setAll {M : List Addr} : ∀ {is : List Nat} {xs : List MV} {ys : List V} {env : MEnv} {σ : L2.St}, REnv M env σ → RVs M xs ys → REnv M (setAll env is xs) (setAll σ is ys)
  | [], _, _, _, _, r, _ => by cases ‹RVs M _ _› <;> exact r
  | _ :: _, _, _, _, _, r, .nil => r
  | i :: is, _, _, _, _, r, .cons q t => REnv.setAll (is := is) (r.set q) t

def gNames : List Nat → TGs
  | [] => gNil
  | i :: is => gCons (gName i) (gNames is)
theorem gNames_ok : ∀ {is : List Nat} {ys : List V} {σ : L2.St} {H : Hp} {Q : L2.St → Hp → Prop}, ys.length = is.length → Q (setAll σ is ys) H → gNames is ys σ H Q
  | [], [], _, _, _, _, q => ⟨rfl, q⟩
  | [], _ :: _, _, _, _, h, _ => nomatch h
  | _ :: _, [], _, _, _, h, _ => nomatch h
  | i :: is, y :: ys, σ, H, Q, h, q => ⟨y, ys, rfl, gNames_ok (is := is) (Nat.succ.inj h) q⟩
def CT.tg (K : PySem.W.Frag) : CT → TG
  | .name i => gName i
  | .tup is => gTup K is.length (gNames is)
theorem CT.ok {W : WR} {M : List Addr} {S : Stor} {H H' : Hp} {g : CT} {y : Yl} {x : V} {env env1 : MEnv} {σ : L2.St} {Q : L2.St → Hp → Prop} (R : RSt W M S H) (r : REnv M env σ) (hy : YR W.K M H x H' y) (hp : g.put env S y = some env1)
    (h : ∀ is xs, (∀ i ∈ is, i ∈ g.slots) → RSt W M S H' → REnv M env1 (setAll σ is xs) → Q (setAll σ is xs) H') : g.tg W.K x σ H' Q := by
  cases g with
  | name i =>
    cases y with
    | one v =>
      obtain ⟨q, rfl⟩ := hy
      cases hp
      exact h [i] [x] (fun j hj => hj) R (r.set q)
    | two u v => cases hp
  | tup is =>
    cases y with
    | one v =>
      obtain ⟨q, rfl⟩ := hy
      cases v with
      | ref k =>
        have hp : (match tget S k with
          | some xs => if xs.length = is.length then some (Rf.setAll env is xs) else none
          | none => none) = some env1 := hp
        split at hp
        · rename_i xs e
          by_cases hn : xs.length = is.length
          · rw [if_pos hn] at hp
            cases hp
            obtain ⟨a, ys, rfl, q1, r1⟩ := R.tget e q
            exact ⟨a, ys, rfl, q1, by rw [← r1.len]; exact hn, gNames_ok (by rw [← r1.len]; exact hn) (h is ys (fun _ hj => hj) R (REnv.setAll r r1))⟩
          · rw [if_neg hn] at hp
            cases hp
        · cases hp
      | _ => cases hp
    | two u v =>
      obtain ⟨T, u', v', rfl, hT, rfl, qu, qv⟩ := hy
      have hp : (if is.length = 2 then some (Rf.setAll env is [u, v]) else none) = some env1 := hp
      by_cases hn : is.length = 2
      · rw [if_pos hn] at hp
        cases hp
        have R' : RSt W M S (upd H T (.tup [u', v'])) := R.heap fun b o e => by rw [upd_ne (ne_of_none e hT)]; exact e
        exact ⟨T, [u', v'], rfl, .of upd_same, hn.symm, gNames_ok hn.symm (h is [u', v'] (fun _ hj => hj) R' (REnv.setAll r (.cons qu (.cons qv .nil))))⟩
      · rw [if_neg hn] at hp
        cases hp
section
variable {X : Cx} {W : WR} {E : L2.St → XK} {pos : Pos}
theorem lcTop {w : SI} {g : CT} {c : SB} {tt : TT} {el : SE} {vs : List Nat} {σ : L2.St} {H : Hp} {Q : VK} (hv : ∀ i ∈ g.slots, i ∈ vs) (htt : ∀ σ H Q, tB W (fun _ => E0) c σ H Q → tt σ H Q) (h : tE W E (lcS w g c el vs) σ H Q) : tLc (tI W E w) (g.tg W.K) tt (tE W (fun _ => E0) el) vs σ H Q := by
  obtain ⟨M, S, env, R, r, p⟩ := h
  refine ⟨M, S, env, R, r, (Po.bd (RA := fun M' it (J : It) => ItOk W M' J it) p).imp fun J H1 ⟨M1, S1, it, h1, R1, ok, p1⟩ => ?_⟩
  intro D hD
  have rM := r.mono h1
  have RD : RSt W (M1 ++ [D]) (S1 ++ [.lst []]) (upd H1 D (.lst [])) := R1.alloc hD ⟨[], upd_same, .nil⟩
  have eD : (M1 ++ [D])[S1.length]? = some D := by rw [← R1.len, List.getElem?_append_right (Nat.le_refl _), Nat.sub_self]; rfl
  refine ⟨fun i m H => ∃ M S, (M1 ++ [D]) <+: M ∧ RSt W M S H ∧ Po W RV (E σ) M Q (lcL it g c el S1.length (wipeM env vs) m i S), ⟨_, _, _, pre_refl _, RD, p1.mono (pre_app _ _)⟩, ?_⟩
  rintro i m H2 ⟨M2, S2, pm, R2, p2⟩
  have eD2 := pre_get pm eD
  cases m with
  | zero => exact False.elim p2
  | succ m =>
    have p2 : Po W RV (E σ) M2 Q (match it.at S2 i with
      | none => .bad
      | some none => .ok (.ref S1.length) S2
      | some (some y) => match g.put (wipeM env vs) S2 y with
        | none => .bad
        | some env1 => (c env1 S2).bdN fun b S2 => if b then (el env1 S2).bdN fun v S3 => match S3[S1.length]? with
            | some (.lst acc) => if acc.length < sizeLine then lcL it g c el S1.length (wipeM env vs) m (i + 1) (S3.set S1.length (.lst (acc ++ [v]))) else .bad
            | _ => .bad
          else lcL it g c el S1.length (wipeM env vs) m (i + 1) S2) := p2
    obtain ⟨k1, k2⟩ := ok M2 S2 H2 (pre_trans (pre_app _ _) pm) R2 i
    split at p2
    · exact False.elim p2
    · rename_i e
      exact .inl ⟨k1 e, p2.ok R2 ⟨D, eD2, rfl⟩⟩
    · rename_i y e
      obtain ⟨go, yl⟩ := k2 y e
      refine .inr ⟨go, fun H => ∃ M S, (M1 ++ [D]) <+: M ∧ RSt W M S H ∧ Po W RV (E σ) M Q (lcL it g c el S1.length (wipeM env vs) m (i + 1) S), fun H' q => ⟨m, Nat.lt_succ_self m, q⟩, fun x H' hy => ?_⟩
      split at p2
      · exact False.elim p2
      · rename_i env1 ep
        have r2 : REnv M2 (wipeM env vs) (wipe σ vs) := (rM.mono (pre_trans (pre_app _ _) pm)).wipe vs
        refine CT.ok R2 r2 (yl x H' hy) ep fun is xs his R3 r3 => ⟨?_, htt _ _ _ ⟨M2, S2, env1, R3, r3, ?_⟩⟩
        · rw [wipe_setAll vs is xs _ fun j hj => hv j (his j hj), wipe_wipe]
        · cases ec : c env1 S2 with
          | bad => rw [ec] at p2; exact False.elim p2
          | err x S3 => rw [ec] at p2; exact False.elim p2
          | ok b S3 =>
            rw [ec] at p2
            have p2 : Po W RV (E σ) M2 Q (if b then (el env1 S3).bdN fun v S3 => match S3[S1.length]? with
              | some (.lst acc) => if acc.length < sizeLine then lcL it g c el S1.length (wipeM env vs) m (i + 1) (S3.set S1.length (.lst (acc ++ [v]))) else .bad
              | _ => .bad
              else lcL it g c el S1.length (wipeM env vs) m (i + 1) S3) := p2
            intro M3 H3 b' h3 R4 eb
            cases eb
            have pm3 := pre_trans pm h3
            cases b with
            | false => exact iteF ⟨M3, S3, pm3, R4, Po.mono h3 p2⟩
            | true =>
              refine iteT ⟨M3, S3, env1, R4, r3.mono h3, ?_⟩
              have p2 : Po W RV (E σ) M2 Q ((el env1 S3).bdN fun v S3 => match S3[S1.length]? with
                | some (.lst acc) => if acc.length < sizeLine then lcL it g c el S1.length (wipeM env vs) m (i + 1) (S3.set S1.length (.lst (acc ++ [v]))) else .bad
                | _ => .bad) := p2
              cases ee : el env1 S3 with
              | bad => rw [ee] at p2; exact False.elim p2
              | err x S4 => rw [ee] at p2; exact False.elim p2
              | ok v S4 =>
                rw [ee] at p2
                have p2 : Po W RV (E σ) M2 Q (match S4[S1.length]? with
                  | some (.lst acc) => if acc.length < sizeLine then lcL it g c el S1.length (wipeM env vs) m (i + 1) (S4.set S1.length (.lst (acc ++ [v]))) else .bad
                  | _ => .bad) := p2
                intro M4 H4 w h4 R5 rv
                have pm4 := pre_trans pm3 h4
                have eD4 := pre_get pm4 eD
                split at p2
                · rename_i acc ea
                  by_cases hz : acc.length < sizeLine
                  · rw [if_pos hz] at p2
                    obtain ⟨a, ys, ey, em, q1, rs⟩ := R5.lst ea ⟨D, eD4, rfl⟩
                    cases ey
                    exact ⟨ys, q1, by rw [← rs.len]; exact hz, M4, _, pm4, R5.setL ea em (rs.append (.cons rv .nil)), Po.mono (pre_trans h3 h4) p2⟩
                  · rw [if_neg hz] at p2
                    exact False.elim p2
                · exact False.elim p2
theorem r_lc {elt tg iter : Expr} {ifs : List Expr} {scope : Scope} {own : List (Str × Nat)} {w : SI} {g : CT} {c : SB} {el : SE} {tt : TT} (hK : X.K = W.K) (hc : X.calm = true) (hN : X.N.Nodup) (hi : PI X tg iter (tI W E w)) (ok : BlkOk X.N X.env.scope scope own) (hv : ∀ i ∈ g.slots, i ∈ own.map (·.2)) (htt : ∀ σ H Q, tB W (fun _ => E0) c σ H Q → tt σ H Q)
    (hg : ∀ (s : Shared) (H : Hp) (C : Addr) (cl : List (Str × Addr)) (fp : List Addr), PG (X.blk s H scope (compEnvC scope cl C X.env) fp) tg (g.tg W.K)) (ht : ∀ (s : Shared) (H : Hp) (C : Addr) (cl : List (Str × Addr)) (fp : List Addr), PTs (X.blk s H scope (compEnvC scope cl C X.env) fp) ifs tt)
    (he : ∀ (s : Shared) (H : Hp) (C : Addr) (cl : List (Str × Addr)) (fp : List Addr), PE (X.blk s H scope (compEnvC scope cl C X.env) fp) elt (tE W (fun _ => E0) el)) (hs : ∀ x, foldedSetIterable iter X.env x = pure x) :
    PE X (.ListComp elt [⟨tg, iter, ifs, 0⟩] scope pos) (tE W E (lcS w g c el (own.map (·.2)))) :=
  PE.wk (pe_lc hc hN hi ok hg ht he hs) fun σ H Q h => lcTop hv htt h
end
end Rf

/-! Rf6: built-in functions and methods, by values. -/
namespace Rf
open PySem PySem.Spec PyProof.Rows L2

def lenV : MV → Stor → Res MV
  | .str z, S => if z.length ≤ sizeLine then .ok (.int z.length) S else .bad
  | .ref k, S => match lget S k with
    | some xs => .ok (.int xs.length) S
    | none => match tget S k with
      | some xs => .ok (.int xs.length) S
      | none => .bad
  | _, _ => .bad
def on1 (f : MV → Stor → Res MV) : List MV → Stor → Res MV
  | [v], S => f v S
  | _, _ => .bad
def lenS := on1 lenV
def absV : MV → Stor → Res MV
  | .int i, S => .ok (.int (if i < 0 then -i else i)) S
  | _, _ => .bad
def absS := on1 absV
def intV : MV → Stor → Res MV
  | .int i, S => .ok (.int i) S
  | .bl k, S => .ok (.int (if k then 1 else 0)) S
  | .str a, S => match PySem.intText? a with
    | some n => if a.length ≤ 640 then .ok (.int n) S else .bad
    | none => .bad
  | _, _ => .bad
def intS := on1 intV
def strV : MV → Stor → Res MV
  | .int i, S => if i.natAbs.log2 < 1920 then .ok (.str (toString i)) S else .bad
  | _, _ => .bad
def strS := on1 strV
def listV : MV → Stor → Res MV
  | .ref k, S => match lget S k with
    | some xs => newL xs S
    | none => match tget S k with
      | some xs => newL xs S
      | none => .bad
  | _, _ => .bad
def listS := on1 listV
def sumV : MV → Stor → Res MV
  | .ref k, S => match lget S k with
    | some xs => match intsM xs with
      | some ns => .ok (.int ns.sum) S
      | none => .bad
    | none => .bad
  | _, _ => .bad
def sumS := on1 sumV
def maxI : List Int → Int
  | [] => 0
  | x :: xs => xs.foldl (fun m y => if y > m then y else m) x
def minI : List Int → Int
  | [] => 0
  | x :: xs => xs.foldl (fun m y => if y < m then y else m) x
def maxS : List MV → Stor → Res MV
  | [.int i, .int j], S => .ok (.int (if j > i then j else i)) S
  | [.ref k], S => match lget S k with
    | some xs => match intsM xs with
      | some ns => if ns = [] then .bad else .ok (.int (maxI ns)) S
      | none => .bad
    | none => .bad
  | _, _ => .bad
def minS : List MV → Stor → Res MV
  | [.int i, .int j], S => .ok (.int (if j < i then j else i)) S
  | [.ref k], S => match lget S k with
    | some xs => match intsM xs with
      | some ns => if ns = [] then .bad else .ok (.int (minI ns)) S
      | none => .bad
    | none => .bad
  | _, _ => .bad
def insI (x : Int) : List Int → List Int
  | [] => [x]
  | y :: ys => if x ≤ y then x :: y :: ys else y :: insI x ys
def sortI : List Int → List Int
  | [] => []
  | x :: xs => insI x (sortI xs)
def sortedV : MV → Stor → Res MV
  | .ref k, S => match lget S k with
    | some xs => match intsM xs with
      | some ns => newL ((sortI ns).map .int) S
      | none => .bad
    | none => .bad
  | _, _ => .bad
def sortedS := on1 sortedV
def blsM (xs : List MV) : Option (List Bool) := xs.mapM fun | MV.bl i => some i | MV.int i => some (i != 0) | _ => none
def anyV : MV → Stor → Res MV
  | .ref k, S => match lget S k with
    | some xs => match blsM xs with
      | some bs => .ok (.bl (bs.any id)) S
      | none => .bad
    | none => .bad
  | _, _ => .bad
def anyS := on1 anyV
def allV : MV → Stor → Res MV
  | .ref k, S => match lget S k with
    | some xs => match blsM xs with
      | some bs => .ok (.bl (bs.all id)) S
      | none => .bad
    | none => .bad
  | _, _ => .bad
def allS := on1 allV
def divmodS : List MV → Stor → Res MV
  | [.int i, .int j], S => if CDiv i j then newT [.int (i / j), .int (i % j)] S else .bad
  | _, _ => .bad
/-- the name of a value's type -/
def tyO : Option MO → Option String
  | some (.lst _) => some "list"
  | some (.flst _) => some "list"
  | some (.tup _) => some "tuple"
  | some (.dK _) => some "dict"
  | some (.dT _) => some "dict"
  | _ => none
def tyN : MV → Stor → Option String
  | .non, _ => some "NoneType"
  | .bl _, _ => some "bool"
  | .int _, _ => some "int"
  | .str _, _ => some "str"
  | .ref k, S => tyO S[k]?
/-- isinstance(x, T) -/
def isiV (T : String) (v : MV) (S : Stor) : Res MV := match tyN v S with
  | some t => match kitB t T with
    | some b => .ok (.bl b) S
    | none => .bad
  | none => .bad

section
variable {X : Cx} {W : WR} {E : L2.St → XK}
theorem p_one {F : MV → Stor → Res MV} {id : Value} (h : ∀ (pins : List (Addr × Obj)) (s : Shared) (σ : L2.St) (H : Hp) (w : V) (us : List Value) (Q : VK) (E : XK) (M : List Addr) (S : Stor) (v : MV), L2.Inv X pins σ H s → Vals [w] us → RSt W M S H → RV M v w → Po W RV E M Q (F v S) →
    wpAny (model X.prog X.w) X.A (call id us) (EP X pins σ Q) X.xe s) : CallR X id (rP W (on1 F)) := by
  intro pins s σ H xs us Q I r ⟨E, M, S, as, R, ra, p⟩
  match as, ra, p with
  | [v], .cons r1 .nil, p => exact h pins s σ H _ us Q E M S v I r R r1 p
theorem p_len (hK : X.K = W.K) : CallR X (.builtin "len") (rP W lenS) := p_one fun pins s σ H w us Q E M S v I r R rv p => by
  cases v with
  | str z =>
    cases (show w = V.str z from rv)
    have p : Po W RV E M Q (if z.length ≤ sizeLine then .ok (.int z.length) S else .bad) := p
    by_cases h : z.length ≤ sizeLine
    · rw [if_pos h] at p
      exact call_len_str pins s σ H _ us Q I r ⟨z, rfl, h, p.ok R rfl⟩
    · rw [if_neg h] at p
      exact False.elim p
  | ref k =>
    have p : Po W RV E M Q (match lget S k with
      | some xs => .ok (.int xs.length) S
      | none => match tget S k with
        | some xs => .ok (.int xs.length) S
        | none => .bad) := p
    split at p
    · rename_i xs e
      obtain ⟨a, ys, rfl, q1, r1⟩ := R.lget e rv
      rw [r1.len] at p
      exact call_len_seq pins s σ H _ us Q I r ⟨a, ys, rfl, .inl (by rw [hK]; exact q1), p.ok R rfl⟩
    · split at p
      · rename_i xs e
        obtain ⟨a, ys, rfl, q1, r1⟩ := R.tget e rv
        rw [r1.len] at p
        exact call_len_seq pins s σ H _ us Q I r ⟨a, ys, rfl, .inr (by rw [hK]; exact q1), p.ok R rfl⟩
      · exact False.elim p
  | _ => exact False.elim p
theorem p_abs : CallR X (.builtin "abs") (rP W absS) := p_one fun pins s σ H w us Q E M S v I r R rv p => by
  cases v with
  | int i =>
    cases (show w = V.int i from rv)
    exact call_abs pins s σ H _ us Q I r ⟨i, rfl, p.ok R rfl⟩
  | _ => exact False.elim p
theorem p_int : CallR X (.type "int") (rP W intS) := p_one fun pins s σ H w us Q E M S v I r R rv p => by
  cases v with
  | int i =>
    cases (show w = V.int i from rv)
    exact call_int1 pins s σ H _ us Q I r (.inl ⟨i, rfl, p.ok R rfl⟩)
  | bl i =>
    cases (show w = V.bl i from rv)
    exact call_int1 pins s σ H _ us Q I r (.inr ⟨i, rfl, p.ok R rfl⟩)
  | str a =>
    cases (show w = V.str a from rv)
    have p : Po W RV E M Q (match PySem.intText? a with
      | some n => if a.length ≤ 640 then .ok (.int n) S else .bad
      | none => .bad) := p
    split at p
    · rename_i n e
      by_cases h : a.length ≤ 640
      · rw [if_pos h] at p
        exact call_int_str pins s σ H _ us Q I r ⟨a, n, rfl, e, h, p.ok R rfl⟩
      · rw [if_neg h] at p
        exact False.elim p
    · exact False.elim p
  | _ => exact False.elim p
theorem p_str : CallR X (.type "str") (rP W strS) := p_one fun pins s σ H w us Q E M S v I r R rv p => by
  cases v with
  | int i =>
    cases (show w = V.int i from rv)
    have p : Po W RV E M Q (if i.natAbs.log2 < 1920 then .ok (.str (toString i)) S else .bad) := p
    by_cases h : i.natAbs.log2 < 1920
    · rw [if_pos h] at p
      exact call_str_int pins s σ H _ us Q I r ⟨i, rfl, h, p.ok R rfl⟩
    · rw [if_neg h] at p
      exact False.elim p
  | _ => exact False.elim p
theorem p_list (hK : X.K = W.K) : CallR X (.type "list") (rP W listS) := p_one fun pins s σ H w us Q E M S v I r R rv p => by
  cases v with
  | ref k =>
    have p : Po W RV E M Q (match lget S k with
      | some xs => newL xs S
      | none => match tget S k with
        | some xs => newL xs S
        | none => .bad) := p
    split at p
    · rename_i xs e
      obtain ⟨a, ys, rfl, q1, r1⟩ := R.lget e rv
      exact call_list_of pins s σ H _ us Q I r ⟨a, ys, rfl, .inl (by rw [hK]; exact q1), (R.newL r1 p).2⟩
    · split at p
      · rename_i xs e
        obtain ⟨a, ys, rfl, q1, r1⟩ := R.tget e rv
        exact call_list_of pins s σ H _ us Q I r ⟨a, ys, rfl, .inr (by rw [hK]; exact q1), (R.newL r1 p).2⟩
      · exact False.elim p
  | _ => exact False.elim p
theorem p_sum (hK : X.K = W.K) (hc : X.calm = true) : CallR X (.builtin "sum") (rP W sumS) := p_one fun pins s σ H w us Q E M S v I r R rv p => by
  cases v with
  | ref k =>
    have p : Po W RV E M Q (match lget S k with
      | some xs => match intsM xs with
        | some ns => .ok (.int ns.sum) S
        | none => .bad
      | none => .bad) := p
    split at p
    · rename_i xs e
      split at p
      · rename_i ns en
        obtain ⟨a, ys, rfl, q1, r1⟩ := R.lget e rv
        rw [ints_of en r1] at q1
        exact cr_sum hc pins s σ H _ us Q I r ⟨a, ns, rfl, by rw [hK]; exact q1, p.ok R rfl⟩
      · exact False.elim p
    · exact False.elim p
  | _ => exact False.elim p
theorem fold_max : ∀ (xs : List Int) (x : Int), (xs.foldl (fun m y => if y > m then y else m) x) ∈ x :: xs ∧ ∀ y ∈ x :: xs, y ≤ xs.foldl (fun m y => if y > m then y else m) x
  | [], x => ⟨List.mem_cons_self, fun y h => by
    rw [List.mem_singleton] at h
    subst h
    exact Int.le_refl _⟩
  | z :: xs, x => by
    rw [List.foldl_cons]
    have q1 : z ≤ (if z > x then z else x) := by split <;> omega
    have q2 : x ≤ (if z > x then z else x) := by split <;> omega
    have q3 : (if z > x then z else x) = z ∨ (if z > x then z else x) = x := by split <;> simp
    generalize (if z > x then z else x) = q at q1 q2 q3 ⊢
    obtain ⟨h1, h2⟩ := fold_max xs q
    have h0 := h2 q List.mem_cons_self
    refine ⟨?_, fun y hy => ?_⟩
    · rcases List.mem_cons.mp h1 with e | e
      · rw [e]
        rcases q3 with e | e <;> rw [e]
        · exact List.mem_cons_of_mem _ List.mem_cons_self
        · exact List.mem_cons_self
      · exact List.mem_cons_of_mem _ (List.mem_cons_of_mem _ e)
    · rcases List.mem_cons.mp hy with e | e
      · omega
      · rcases List.mem_cons.mp e with e | e
        · omega
        · exact h2 y (List.mem_cons_of_mem _ e)
theorem fold_min : ∀ (xs : List Int) (x : Int), (xs.foldl (fun m y => if y < m then y else m) x) ∈ x :: xs ∧ ∀ y ∈ x :: xs, xs.foldl (fun m y => if y < m then y else m) x ≤ y
  | [], x => ⟨List.mem_cons_self, fun y h => by
    rw [List.mem_singleton] at h
    subst h
    exact Int.le_refl _⟩
  | z :: xs, x => by
    rw [List.foldl_cons]
    have q1 : (if z < x then z else x) ≤ z := by split <;> omega
    have q2 : (if z < x then z else x) ≤ x := by split <;> omega
    have q3 : (if z < x then z else x) = z ∨ (if z < x then z else x) = x := by split <;> simp
    generalize (if z < x then z else x) = q at q1 q2 q3 ⊢
    obtain ⟨h1, h2⟩ := fold_min xs q
    have h0 := h2 q List.mem_cons_self
    refine ⟨?_, fun y hy => ?_⟩
    · rcases List.mem_cons.mp h1 with e | e
      · rw [e]
        rcases q3 with e | e <;> rw [e]
        · exact List.mem_cons_of_mem _ List.mem_cons_self
        · exact List.mem_cons_self
      · exact List.mem_cons_of_mem _ (List.mem_cons_of_mem _ e)
    · rcases List.mem_cons.mp hy with e | e
      · omega
      · rcases List.mem_cons.mp e with e | e
        · omega
        · exact h2 y (List.mem_cons_of_mem _ e)
theorem maxI_ok {ns : List Int} (h : ns ≠ []) {m : Int} (hm : m ∈ ns) (hu : ∀ y ∈ ns, y ≤ m) : maxI ns = m := by
  cases ns with
  | nil => exact absurd rfl h
  | cons x xs =>
    obtain ⟨h1, h2⟩ := fold_max xs x
    have a := hu _ h1
    have b := h2 _ hm
    show xs.foldl _ x = m
    omega
theorem minI_ok {ns : List Int} (h : ns ≠ []) {m : Int} (hm : m ∈ ns) (hu : ∀ y ∈ ns, m ≤ y) : minI ns = m := by
  cases ns with
  | nil => exact absurd rfl h
  | cons x xs =>
    obtain ⟨h1, h2⟩ := fold_min xs x
    have a := hu _ h1
    have b := h2 _ hm
    show xs.foldl _ x = m
    omega
theorem p_max (hK : X.K = W.K) (hc : X.calm = true) : CallR X (.builtin "max") (rP W maxS) := by
  intro pins s σ H xs us Q I r ⟨E, M, S, as, R, ra, p⟩
  unfold maxS at p
  split at p
  · cases ra with
    | cons r1 ra => cases ra with
      | cons r2 ra =>
        cases ra
        cases r1
        cases r2
        exact call_max2 hc pins s σ H _ us Q I r ⟨_, _, rfl, p.ok R rfl⟩
  · cases ra with
    | cons r1 ra =>
      cases ra
      split at p
      · rename_i xs e
        split at p
        · rename_i ns en
          obtain ⟨a, ys, rfl, q1, r2⟩ := R.lget e r1
          rw [ints_of en r2] at q1
          by_cases h : ns = []
          · rw [if_pos h] at p
            exact False.elim p
          · rw [if_neg h] at p
            refine cr_max hc pins s σ H _ us Q I r ⟨a, ns, rfl, by rw [hK]; exact q1, List.length_pos_iff.mpr h, fun m h1 h2 => ?_⟩
            rw [maxI_ok h h1 h2] at p
            exact p.ok R rfl
        · exact False.elim p
      · exact False.elim p
  · exact False.elim p
theorem p_min (hK : X.K = W.K) (hc : X.calm = true) : CallR X (.builtin "min") (rP W minS) := by
  intro pins s σ H xs us Q I r ⟨E, M, S, as, R, ra, p⟩
  unfold minS at p
  split at p
  · cases ra with
    | cons r1 ra => cases ra with
      | cons r2 ra =>
        cases ra
        cases r1
        cases r2
        exact call_min2 hc pins s σ H _ us Q I r ⟨_, _, rfl, p.ok R rfl⟩
  · cases ra with
    | cons r1 ra =>
      cases ra
      split at p
      · rename_i xs e
        split at p
        · rename_i ns en
          obtain ⟨a, ys, rfl, q1, r2⟩ := R.lget e r1
          rw [ints_of en r2] at q1
          by_cases h : ns = []
          · rw [if_pos h] at p
            exact False.elim p
          · rw [if_neg h] at p
            refine cr_min hc pins s σ H _ us Q I r ⟨a, ns, rfl, by rw [hK]; exact q1, List.length_pos_iff.mpr h, fun m h1 h2 => ?_⟩
            rw [minI_ok h h1 h2] at p
            exact p.ok R rfl
        · exact False.elim p
      · exact False.elim p
  · exact False.elim p
/-! sorting -/
theorem insI_perm (x : Int) : ∀ l : List Int, (insI x l).Perm (x :: l)
  | [] => List.Perm.refl _
  | y :: ys => by
    unfold insI
    split
    · exact List.Perm.refl _
    · exact ((insI_perm x ys).cons y).trans (List.Perm.swap x y ys)
theorem sortI_perm : ∀ l : List Int, (sortI l).Perm l
  | [] => List.Perm.refl _
  | x :: xs => (insI_perm x _).trans ((sortI_perm xs).cons x)
theorem insI_sorted (x : Int) : ∀ l : List Int, l.Pairwise (· ≤ ·) → (insI x l).Pairwise (· ≤ ·)
  | [], _ => List.pairwise_singleton _ _
  | y :: ys, h => by
    unfold insI
    obtain ⟨h1, h2⟩ := List.pairwise_cons.mp h
    split
    · rename_i hxy
      exact List.pairwise_cons.mpr ⟨fun z hz => by
        rcases List.mem_cons.mp hz with e | e
        · rw [e]; exact hxy
        · exact Int.le_trans hxy (h1 z e), h⟩
    · rename_i hxy
      refine List.pairwise_cons.mpr ⟨fun z hz => ?_, insI_sorted x ys h2⟩
      rcases List.mem_cons.mp ((insI_perm x ys).mem_iff.mp hz) with e | e
      · rw [e]; omega
      · exact h1 z e
theorem sortI_sorted : ∀ l : List Int, (sortI l).Pairwise (· ≤ ·)
  | [] => List.Pairwise.nil
  | x :: xs => insI_sorted x _ (sortI_sorted xs)
theorem ints_rvs {M : List Addr} : ∀ ns : List Int, RVs M (ns.map .int) (ns.map V.int)
  | [] => .nil
  | _ :: ns => .cons rfl (ints_rvs ns)
theorem p_sorted (hK : X.K = W.K) : CallR X (.builtin "sorted") (rP W sortedS) := p_one fun pins s σ H w us Q E M S v I r R rv p => by
  cases v with
  | ref k =>
    have p : Po W RV E M Q (match lget S k with
      | some xs => match intsM xs with
        | some ns => newL ((sortI ns).map .int) S
        | none => .bad
      | none => .bad) := p
    split at p
    · rename_i xs e
      split at p
      · rename_i ns en
        obtain ⟨a, ys, rfl, q1, r1⟩ := R.lget e rv
        rw [ints_of en r1] at q1
        refine cr_sortedI pins s σ H _ us Q I r ⟨a, ns, rfl, by rw [hK]; exact q1, fun ns' ad h1 h2 hn => ?_⟩
        have e1 : ns' = sortI ns := PySem.W.ksm_same (h1.trans (sortI_perm ns).symm) h2 (sortI_sorted ns)
        subst e1
        exact (R.newL (ints_rvs _) p).2 ad hn
      · exact False.elim p
    · exact False.elim p
  | _ => exact False.elim p
/-! any, all -/
theorem truth_vals {prog : Program} {w : World} {A : Around} {M : List Addr} : ∀ {xs : List MV} {ys : List V} {its : List Value} {bs : List Bool}, blsM xs = some bs → RVs M xs ys → Vals ys its → its.length = bs.length ∧
    TruthOf prog w A (fun i v => its.toArray[i]? = some v) (fun i => bs.getD i false) := by
  intro xs ys its bs hb rs rv
  have key : ∀ {xs : List MV} {ys : List V} {its : List Value} {bs : List Bool}, blsM xs = some bs → RVs M xs ys → Vals ys its → its.length = bs.length ∧ ∀ (i : Nat) u, its[i]? = some u → (∃ b, bs[i]? = some b ∧ (u = .bool b ∨ ∃ n t, u = .int n t ∧ b = (n != 0))) := by
    intro xs
    induction xs with
    | nil =>
      intro ys its bs hb rs rv
      unfold blsM at hb
      rw [List.mapM_nil] at hb
      cases hb
      cases rs
      cases rv
      exact ⟨rfl, fun i u h => by simp at h⟩
    | cons x xs ih =>
      intro ys its bs hb rs rv
      unfold blsM at hb
      rw [List.mapM_cons] at hb
      cases rs with
      | cons r1 r2 =>
        cases rv with
        | cons v1 v2 =>
          have go : ∀ b u, (∃ q : List Bool, blsM xs = some q ∧ b :: q = bs) → (u = Value.bool b ∨ ∃ n t, u = .int n t ∧ b = (n != 0)) → ∀ (ys' : List V) (us' : List Value), RVs M xs ys' → Vals ys' us' → (u :: us').length = bs.length ∧ ∀ (i : Nat) z, (u :: us')[i]? = some z → (∃ b, bs[i]? = some b ∧ (z = .bool b ∨ ∃ n t, z = .int n t ∧ b = (n != 0))) := by
            rintro b u ⟨q, hq, rfl⟩ hu ys' us' r2 v2
            obtain ⟨h1, h2⟩ := ih hq r2 v2
            refine ⟨by simp [h1], fun i z hz => ?_⟩
            cases i with
            | zero => simp at hz; subst hz; exact ⟨b, rfl, hu⟩
            | succ i => exact h2 i z (by simpa using hz)
          cases x with
          | bl b =>
            have hb : (blsM xs).bind (fun r => some (b :: r)) = some bs := hb
            cases e : blsM xs with
            | none => rw [e] at hb; cases hb
            | some q =>
              rw [e] at hb
              cases hb
              cases r1
              exact go b _ ⟨q, e, rfl⟩ (.inl v1) _ _ r2 v2
          | int n =>
            have hb : (blsM xs).bind (fun r => some ((n != 0) :: r)) = some bs := hb
            cases e : blsM xs with
            | none => rw [e] at hb; cases hb
            | some q =>
              rw [e] at hb
              cases hb
              cases r1
              obtain ⟨t, v1⟩ := v1
              exact go _ _ ⟨q, e, rfl⟩ (.inr ⟨n, t, v1, rfl⟩) _ _ r2 v2
          | _ => cases hb
  obtain ⟨h1, h2⟩ := key hb rs rv
  refine ⟨h1, fun i v s Q E hv hq => ?_⟩
  obtain ⟨b, e, h⟩ := h2 i v (by simpa using hv)
  have hg : bs.getD i false = b := by rw [List.getD_eq_getElem?_getD, e]; rfl
  have hq' : Q (bs.getD i false) s := hq
  rw [hg] at hq'
  rcases h with rfl | ⟨n, t, rfl, rfl⟩
  · exact wpAny_truthy_bool hq'
  · exact PyProof.Rows.truthy_int hq'
theorem p_any (hK : X.K = W.K) (hc : X.calm = true) : CallR X (.builtin "any") (rP W anyS) := p_one fun pins s σ H w us Q E M S v I r R rv p => by
  cases v with
  | ref k =>
    have p : Po W RV E M Q (match lget S k with
      | some xs => match blsM xs with
        | some bs => .ok (.bl (bs.any id)) S
        | none => .bad
      | none => .bad) := p
    split at p
    · rename_i xs e
      split at p
      · rename_i bs eb
        obtain ⟨a, ys, rfl, q1, r1⟩ := R.lget e rv
        obtain ⟨its, rvv, hl, _⟩ := I.list (by rw [hK]; exact q1)
        rw [Vals.ref1 r]
        obtain ⟨hln, tr⟩ := truth_vals (prog := X.prog) (w := X.w) (A := X.A.in1) eb r1 rvv
        refine call_any_walk (iter_any hl.isList fun s₂ e2 st hne => ?_)
        subst e2
        refine ⟨_, _, _, _, _, _, _, rfl, Walks.list (A := X.A.in1) (I.ok.hd hc) _ a hne its.toArray, st, tr, fun h' tk hk => ?_⟩
        refine ⟨.bl _, H, I.kept fun b o eo => hk b o (fun hmem => ?_) (Heap.get?_push_of_some _ eo), ?_, p.ok R rfl⟩
        · rcases List.mem_cons.mp hmem with e1 | hmem
          · exact absurd (e1 ▸ Heap.lt_size eo) (Nat.lt_irrefl _)
          · cases hmem
        · show Value.bool _ = Value.bool _
          rw [← L2.any_range, ← hln, List.size_toArray]
      · exact False.elim p
    · exact False.elim p
  | _ => exact False.elim p
theorem p_all (hK : X.K = W.K) (hc : X.calm = true) : CallR X (.builtin "all") (rP W allS) := p_one fun pins s σ H w us Q E M S v I r R rv p => by
  cases v with
  | ref k =>
    have p : Po W RV E M Q (match lget S k with
      | some xs => match blsM xs with
        | some bs => .ok (.bl (bs.all id)) S
        | none => .bad
      | none => .bad) := p
    split at p
    · rename_i xs e
      split at p
      · rename_i bs eb
        obtain ⟨a, ys, rfl, q1, r1⟩ := R.lget e rv
        obtain ⟨its, rvv, hl, _⟩ := I.list (by rw [hK]; exact q1)
        rw [Vals.ref1 r]
        obtain ⟨hln, tr⟩ := truth_vals (prog := X.prog) (w := X.w) (A := X.A.in1) eb r1 rvv
        refine call_all_walk (iter_any hl.isList fun s₂ e2 st hne => ?_)
        subst e2
        refine ⟨_, _, _, _, _, _, _, rfl, Walks.list (A := X.A.in1) (I.ok.hd hc) _ a hne its.toArray, st, tr, fun h' tk hk => ?_⟩
        refine ⟨.bl _, H, I.kept fun b o eo => hk b o (fun hmem => ?_) (Heap.get?_push_of_some _ eo), ?_, p.ok R rfl⟩
        · rcases List.mem_cons.mp hmem with e1 | hmem
          · exact absurd (e1 ▸ Heap.lt_size eo) (Nat.lt_irrefl _)
          · cases hmem
        · show Value.bool _ = Value.bool _
          rw [← L2.all_range, ← hln, List.size_toArray]
      · exact False.elim p
    · exact False.elim p
  | _ => exact False.elim p
theorem p_divmod : CallR X (.builtin "divmod") (rP W divmodS) := by
  intro pins s σ H xs us Q I r ⟨E, M, S, as, R, ra, p⟩
  unfold divmodS at p
  split at p
  · rename_i i j
    cases ra with
    | cons r1 ra => cases ra with
      | cons r2 ra =>
        cases ra
        cases r1
        cases r2
        by_cases h : CDiv i j
        · rw [if_pos h] at p
          exact call_divmod pins s σ H _ us Q I r ⟨i, j, rfl, h, (R.newT (ints_rvs [i / j, i % j]) p).2⟩
        · rw [if_neg h] at p
          exact False.elim p
  · exact False.elim p
/-! isinstance(x, T) -/
theorem tyN_ok {M : List Addr} {S : Stor} {H : Hp} {v : MV} {w : V} {t : String} (R : RSt W M S H) (r : RV M v w) (h : tyN v S = some t) : TyX W.K H w (.type t) := by
  cases v with
  | non => cases (show w = V.non from r); cases h; exact .base .non
  | bl b => cases (show w = V.bl b from r); cases h; exact .base (.bl b)
  | int b => cases (show w = V.int b from r); cases h; exact .base (.int b)
  | str b => cases (show w = V.str b from r); cases h; exact .base (.str b)
  | ref k =>
    have h : tyO S[k]? = some t := h
    unfold tyO at h
    split at h
    · rename_i xs e
      cases h
      obtain ⟨a, rfl, _, ys, q, _⟩ := R.ref e r
      exact .base (.lst q)
    · rename_i xs e
      cases h
      obtain ⟨a, rfl, _, ys, q, _⟩ := R.ref e r
      rcases q with ⟨o, q⟩ | ⟨o, its, n, q1, q2, _⟩
      · exact .base (.frz q)
      · exact .kList q1 q2
    · rename_i xs e
      cases h
      obtain ⟨a, rfl, _, ys, q, _⟩ := R.ref e r
      rcases q with q | ⟨o, its, n, q1, q2, _⟩
      · exact .base (.tup q)
      · exact .kTuple q1 q2
    · rename_i xs e
      cases h
      obtain ⟨a, rfl, _, ys, q, _⟩ := R.ref e r
      exact .base (.dK q)
    · rename_i xs e
      cases h
      obtain ⟨a, rfl, _, ys, q, _⟩ := R.ref e r
      exact .base (.dT q)
    · cases h
theorem r_isi {e : Expr} {fe : SE} {T : String} {x : Str} {p p2 pos : Pos} (hK : X.K = W.K) (hg : Gl X "isinstance") (hm : X.mg "isinstance" = none) (hgT : Gl X x) (hmT : X.mg x = none) (hv : bootBuiltins x = some (.type T)) (hn : x ≠ "__name__") (hdb : (x == ("__debug__" : Str)) = false)
    (he : PE X e (tE W E fe)) (hs : nSt e = true) : PE X (.Call (.Name "isinstance" p) [e, .Name x p2] [] pos) (tE W E (unS (isiV T) fe)) :=
  PE.wk (pe_callB call_isi hg hm (by decide +kernel) (pa_cons he (pa_cons (pe_bltn (v := .ty T) hgT hmT hv rfl hn hdb) pa_nil (star_cons rfl _ _)) (star_cons hs _ _)) (by decide) (by decide) (star_cons hs _ _) (star_any rfl)) fun σ H Q ⟨M, S, env, R, r, p⟩ =>
    ⟨M, S, env, R, r, (Po.bd (RA := RV) p).imp fun w H1 ⟨M1, S1, v, h1, R1, q1, p1⟩ => by
      unfold isiV at p1
      split at p1
      · rename_i t et
        split at p1
        · rename_i b eb
          exact ⟨w, .ty T, .type t, .type T, b, rfl, .ty T, by rw [hK]; exact tyN_ok R1 q1 et, kit_ty eb, p1.ok R1 rfl⟩
        · exact False.elim p1
      · exact False.elim p1⟩

/-! ### methods -/
inductive MTy where
  | str | list
  deriving DecidableEq
def MTy.nm : MTy → String
  | .str => "str"
  | .list => "list"
def tyM : MV → Stor → Option MTy
  | .str _, _ => some .str
  | .ref k, S => (lget S k).map fun _ => .list
  | _, _ => none
def methS (T : MTy) (f : MV → List MV → Stor → Res MV) (o : SE) (a : SA) : SE := fun env S => (o env S).bd fun x S1 => if tyM x S1 = some T then (a env S1).bd fun xs S2 => f x xs S2 else .bad
def rM (W : WR) (f : MV → List MV → Stor → Res MV) : V → List V → Hp → VK → Prop := fun x xs H Q => ∃ (E : XK) (M : List Addr) (S : Stor) (a : MV) (as : List MV), RSt W M S H ∧ RV M a x ∧ RVs M as xs ∧ Po W RV E M Q (f a as S)
theorem tyM_ok (hK : X.K = W.K) {M : List Addr} {S : Stor} {H : Hp} {v : MV} {w : V} {T : MTy} (R : RSt W M S H) (r : RV M v w) (h : tyM v S = some T) : tyV X.K T.nm w H := by
  cases v with
  | str x => cases (show w = V.str x from r); cases h; exact rfl
  | ref k =>
    have h : (lget S k).map (fun _ => MTy.list) = some T := h
    cases e : lget S k with
    | none => rw [e] at h; cases h
    | some xs =>
      rw [e] at h
      cases h
      obtain ⟨a, ys, rfl, q, _⟩ := R.lget e r
      exact .inl ⟨rfl, ys, by rw [hK]; exact q⟩
  | _ => cases h
/-- the name's own first call: o is not super() -/
def noCall0 : Expr → Bool
  | .Call _ [] [] _ => false
  | _ => true
theorem attrBase {o : Expr} (h : noCall0 o = true) (name : Str) (env : Env) (w : Sem Value) : attributeBase o name env w = w := by
  cases o <;> first | rfl | skip
  rename_i f as ks pos
  cases as with
  | nil =>
    cases ks with
    | nil => cases h
    | cons _ _ => cases f <;> rfl
  | cons _ _ => cases f <;> rfl
theorem few_ok {pos : Pos} {env : Env} : ∀ {es : List Expr}, es.all nSt = true → (backTo pos (starEach es env)).all (fun x => !x.1) = true
  | [], _ => rfl
  | e :: es, h => by
    rw [List.all_cons, Bool.and_eq_true] at h
    rw [star_cons h.1]
    have := few_ok (pos := pos) (env := env) h.2
    simpa [backTo] using this
theorem r_meth {o e : Expr} {es : List Expr} {fo : SE} {fa : SA} {f : MV → List MV → Stor → Res MV} {T : MTy} {id : String} {name : Str} {apos cpos : Pos} (hK : X.K = W.K) (pa : PlainAttrs T.nm) (slot : Slot T.nm name id) (hty : typeOf (.builtin id) = pure (.type "method_descriptor"))
    (hm : MtR X id (rM W f)) (ho : PE X o (tE W E fo)) (ha : PA X (e :: es) (tA W E fa)) (hb : noCall0 o = true) (hl : (apos.endLine == cpos.line) = true) (hs : (e :: es).all nSt = true) (hlen : (e :: es).length < 30) :
    PE X (.Call (.Attribute o name apos) (e :: es) [] cpos) (tE W E (methS T f fo fa)) := by
  have hs' := hs
  rw [List.all_cons, Bool.and_eq_true] at hs'
  refine PE.wk (pe_bm pa slot hty hm ho ha (attrBase hb _ _ _) ?_ hl (star_cons hs'.1 _ _) (star_any hs'.2)) fun σ H Q ⟨M, S, env, R, r, p⟩ => ⟨M, S, env, R, r, (Po.bd (RA := RV) p).imp fun x H1 ⟨M1, S1, x1, h1, R1, q1, p1⟩ => ?_⟩
  · rw [few_ok hs]
    simp only [keywordEach, backToKw, List.map_nil, List.all_nil, Bool.true_and, List.length_nil, List.isEmpty_nil, if_true, Nat.add_zero, decide_eq_true_eq]
    exact hlen
  · by_cases h : tyM x1 S1 = some T
    · rw [if_pos h] at p1
      exact ⟨tyM_ok hK R1 q1 h, M1, S1, env, R1, r.mono h1, (Po.bd (RA := RVs) p1).imp fun xs H2 ⟨M2, S2, xs1, h2, R2, q2, p2⟩ => ⟨E σ, M2, S2, x1, xs1, R2, q1.mono h2, q2, p2⟩⟩
    · rw [if_neg h] at p1
      exact False.elim p1
theorem r_meth0 {o : Expr} {fo : SE} {f : MV → List MV → Stor → Res MV} {T : MTy} {id : String} {name : Str} {apos cpos : Pos} (hK : X.K = W.K) (pa : PlainAttrs T.nm) (slot : Slot T.nm name id) (hty : typeOf (.builtin id) = pure (.type "method_descriptor"))
    (hm : MtR X id (rM W f)) (ho : PE X o (tE W E fo)) (hb : noCall0 o = true) (hl : (apos.endLine == cpos.line) = true) : PE X (.Call (.Attribute o name apos) [] [] cpos) (tE W E (methS T f fo nilS)) := by
  refine PE.wk (pe_bm0 pa slot hty hm ho (attrBase hb _ _ _) hl) fun σ H Q ⟨M, S, env, R, r, p⟩ => ⟨M, S, env, R, r, (Po.bd (RA := RV) p).imp fun x H1 ⟨M1, S1, x1, h1, R1, q1, p1⟩ => ?_⟩
  by_cases h : tyM x1 S1 = some T
  · rw [if_pos h] at p1
    exact ⟨tyM_ok hK R1 q1 h, E σ, M1, S1, x1, [], R1, q1, .nil, p1⟩
  · rw [if_neg h] at p1
    exact False.elim p1
/-- by the receiver's type -/
def orE (o : SE) (f g : SE) : SE := fun env S => match o env S with
  | .ok (.str _) _ => f env S
  | _ => g env S
theorem PE.or {e : Expr} {t t' : TE} (h : PE X e t) (h' : PE X e t') : PE X e (fun σ H Q => t σ H Q ∨ t' σ H Q) := ⟨fun pins s σ H Q I q => q.elim (h.run pins s σ H Q I) (h'.run pins s σ H Q I)⟩
theorem r_or2 {e : Expr} {o f g : SE} (hf : PE X e (tE W E f)) (hg : PE X e (tE W E g)) : PE X e (tE W E (orE o f g)) := PE.wk (PE.or hf hg) fun σ H Q ⟨M, S, env, R, r, p⟩ => by
  unfold orE at p
  split at p
  · exact .inl ⟨M, S, env, R, r, p⟩
  · exact .inr ⟨M, S, env, R, r, p⟩
/-! list methods -/
def appendM : MV → List MV → Stor → Res MV
  | .ref k, [v], S => match S[k]? with
    | some (.lst xs) => if xs.length < sizeLine then .ok .non (S.set k (.lst (xs ++ [v]))) else .bad
    | _ => .bad
  | _, _, _ => .bad
def extendM : MV → List MV → Stor → Res MV
  | .ref k, [.ref l], S => match S[k]?, S[l]? with
    | some (.lst xs), some (.lst ys) => if xs.length + ys.length ≤ sizeLine then .ok .non (S.set k (.lst (xs ++ ys))) else .bad
    | _, _ => .bad
  | _, _, _ => .bad
def popM : MV → List MV → Stor → Res MV
  | .ref k, [.int i], S => match S[k]? with
    | some (.lst xs) => match ixN xs.length i with
      | some j => match xs[j]? with
        | some v => .ok v (S.set k (.lst (xs.eraseIdx j)))
        | none => .bad
      | none => .bad
    | _ => .bad
  | _, _, _ => .bad
def insertM : MV → List MV → Stor → Res MV
  | .ref k, [.int i, v], S => match S[k]? with
    | some (.lst xs) => if xs.length < sizeLine ∧ 0 ≤ i ∧ i < 2 ^ 63 then .ok .non (S.set k (.lst (xs.take i.toNat ++ [v] ++ xs.drop i.toNat))) else .bad
    | _ => .bad
  | _, _, _ => .bad
def reverseM : MV → List MV → Stor → Res MV
  | .ref k, [], S => match S[k]? with
    | some (.lst xs) => .ok .non (S.set k (.lst xs.reverse))
    | _ => .bad
  | _, _, _ => .bad
def clearM : MV → List MV → Stor → Res MV
  | .ref k, [], S => match S[k]? with
    | some (.lst xs) => .ok .non (S.set k (.lst []))
    | _ => .bad
  | _, _, _ => .bad
theorem m_append : MtR X "list.append" (rM W appendM) := by
  intro pins s σ H x xs v us Q I rx rs ⟨E, M, S, a, as, R, ra, ras, p⟩
  unfold appendM at p
  split at p
  · rename_i k y
    split at p
    · rename_i zs e
      cases ras with
      | cons r1 ras =>
        cases ras
        obtain ⟨ad, ys, rfl, ea, q1, rys⟩ := R.lst e ra
        by_cases h : zs.length < sizeLine
        · rw [if_pos h] at p
          exact mt_append pins s σ H _ _ v us Q I rx rs ⟨ad, ys, _, rfl, rfl, q1, by rw [← rys.len]; exact h, p.ok (R.setL e ea (rys.append (.cons r1 .nil))) rfl⟩
        · rw [if_neg h] at p
          exact False.elim p
    · exact False.elim p
  · exact False.elim p
theorem m_extend : MtR X "list.extend" (rM W extendM) := by
  intro pins s σ H x xs v us Q I rx rs ⟨E, M, S, a, as, R, ra, ras, p⟩
  unfold extendM at p
  split at p
  · rename_i k l
    split at p
    · rename_i zs zs2 e e2
      cases ras with
      | cons r1 ras =>
        cases ras
        obtain ⟨ad, ys, rfl, ea, q1, rys⟩ := R.lst e ra
        obtain ⟨ad2, ys2, rfl, ea2, q2, rys2⟩ := R.lst e2 r1
        by_cases h : zs.length + zs2.length ≤ sizeLine
        · rw [if_pos h] at p
          exact mt_extend pins s σ H _ _ v us Q I rx rs ⟨ad, ad2, ys, ys2, rfl, rfl, q1, q2, by rw [← rys.len, ← rys2.len]; exact h, p.ok (R.setL e ea (rys.append rys2)) rfl⟩
        · rw [if_neg h] at p
          exact False.elim p
    · exact False.elim p
  · exact False.elim p
theorem m_pop : MtR X "list.pop" (rM W popM) := by
  intro pins s σ H x xs v us Q I rx rs ⟨E, M, S, a, as, R, ra, ras, p⟩
  unfold popM at p
  split at p
  · rename_i k i
    split at p
    · rename_i zs e
      split at p
      · rename_i j ej
        split at p
        · rename_i y ey
          cases ras with
          | cons r1 ras =>
            cases ras
            cases r1
            obtain ⟨ad, ys, rfl, ea, q1, rys⟩ := R.lst e ra
            obtain ⟨w, hw, rw'⟩ := rys.get ey
            obtain ⟨h1, h2, h3, h4⟩ := ixN_seq ej
            have hz := (I.lst q1)
            obtain ⟨_, _, _, _, hz⟩ := hz
            have hs : sizeLine = 16777216 := sizeLine_eq
            have hln := rys.len
            exact mt_popAt pins s σ H _ _ v us Q I rx rs ⟨ad, ys, i, j, w, rfl, rfl, q1, by omega, by omega, by rw [← rys.len]; exact h1, hw, p.ok (R.setL e ea (rys.eraseIdx j)) rw'⟩
        · exact False.elim p
      · exact False.elim p
    · exact False.elim p
  · exact False.elim p
theorem m_insert : MtR X "list.insert" (rM W insertM) := by
  intro pins s σ H x xs v us Q I rx rs ⟨E, M, S, a, as, R, ra, ras, p⟩
  unfold insertM at p
  split at p
  · rename_i k i y
    split at p
    · rename_i zs e
      cases ras with
      | cons r1 ras =>
        cases ras with
        | cons r2 ras =>
          cases ras
          cases r1
          obtain ⟨ad, ys, rfl, ea, q1, rys⟩ := R.lst e ra
          by_cases h : zs.length < sizeLine ∧ 0 ≤ i ∧ i < 2 ^ 63
          · rw [if_pos h] at p
            exact mt_insert pins s σ H _ _ v us Q I rx rs ⟨ad, ys, i, _, rfl, rfl, q1, by rw [← rys.len]; exact h.1, h.2.1, h.2.2, p.ok (R.setL e ea (((rys.take _).append (.cons r2 .nil)).append (rys.drop _))) rfl⟩
          · rw [if_neg h] at p
            exact False.elim p
    · exact False.elim p
  · exact False.elim p
theorem m_reverse : MtR X "list.reverse" (rM W reverseM) := by
  intro pins s σ H x xs v us Q I rx rs ⟨E, M, S, a, as, R, ra, ras, p⟩
  unfold reverseM at p
  split at p
  · rename_i k
    split at p
    · rename_i zs e
      cases ras
      obtain ⟨ad, ys, rfl, ea, q1, rys⟩ := R.lst e ra
      exact mt_reverse pins s σ H _ _ v us Q I rx rs ⟨ad, ys, rfl, rfl, q1, p.ok (R.setL e ea rys.reverse) rfl⟩
    · exact False.elim p
  · exact False.elim p
theorem m_clear : MtR X "list.clear" (rM W clearM) := by
  intro pins s σ H x xs v us Q I rx rs ⟨E, M, S, a, as, R, ra, ras, p⟩
  unfold clearM at p
  split at p
  · rename_i k
    split at p
    · rename_i zs e
      cases ras
      obtain ⟨ad, ys, rfl, ea, q1, rys⟩ := R.lst e ra
      exact mt_clear pins s σ H _ _ v us Q I rx rs ⟨ad, ys, rfl, rfl, q1, p.ok (R.setL e ea .nil) rfl⟩
    · exact False.elim p
  · exact False.elim p
end
end Rf

/-! Rf7: from a def's text to its function, and the promise it keeps. -/
namespace Rf
open PySem PySem.Spec PyProof.Rows L2

structure GT where
  fns : List (Str × Nat × (List MV → Stor → Res MV))
  cons : List (Str × MV)
def bltL : List Str := ["len", "abs", "int", "str", "list", "sum", "max", "min", "sorted", "any", "all", "divmod", "isinstance", "range", "enumerate", "zip", "reversed", "bool", "tuple", "dict", "set"]

structure CtxE (X : Cx) (W : WR) (G : GT) (E : L2.St → XK) (N : List Str) (sc : Scope) : Prop where
  eK : X.K = W.K
  eN : X.N = N
  nd : N.Nodup
  eS : X.env.scope = sc
  calm : X.calm = true
  units : X.A.units + 64 < cLine
  fns : ∀ x n F, G.fns.lookup x = some (n, F) → ∃ k f fd ps, FnOk X.prog X.w X.K X.mg X.base (L2.CX X.prog X.w) k f fd ps (spR W n F) ∧ Room k X.A ∧ X.mg x = some (.ref f) ∧ PySem.W.keepIn X.K (.ref f) = true ∧ Binds X.K fd ps [] ∧ ∀ as S, as.length ≠ n → F as S = .bad
  cons : ∀ x v, G.cons.lookup x = some v → ∃ u w, X.mg x = some u ∧ RelV w u ∧ ∀ M, W.gl <+: M → RV M v w
  blt : ∀ x ∈ bltL, X.mg x = none
  pass : ∀ σ, PassesAt (L2.CX X.prog X.w) X σ (E σ)

def ixOf : List Str → Str → Option Nat
  | [], _ => none
  | y :: ys, x => if y == x then some 0 else (ixOf ys x).map (· + 1)
theorem ixOf_ok : ∀ {N : List Str} {x : Str} {i : Nat}, ixOf N x = some i → N[i]? = some x
  | y :: ys, x, i, h => by
    unfold ixOf at h
    by_cases e : (y == x) = true
    · rw [if_pos e] at h
      cases h
      rw [eq_of_beq e]
      rfl
    · rw [if_neg e] at h
      cases e2 : ixOf ys x with
      | none => rw [e2] at h; cases h
      | some j =>
        rw [e2] at h
        cases h
        show ys[j]? = some x
        exact ixOf_ok e2
def isV (sc : Scope) (x : Str) : Bool := match sc.names.lookup x with
  | some .local => true
  | some .cell => true
  | some .free => true
  | _ => false
def isL (sc : Scope) (x : Str) : Bool := match sc.names.lookup x with
  | some .local => true
  | some .cell => true
  | _ => false
def isG (sc : Scope) (x : Str) : Bool := match sc.names.lookup x with
  | some .globalImplicit => true
  | _ => false
theorem isV_ok {sc : Scope} {x : Str} (h : isV sc x = true) : Vis sc x := by
  unfold isV at h
  split at h
  · exact .inl ‹_›
  · exact .inr (.inl ‹_›)
  · exact .inr (.inr ‹_›)
  · cases h
theorem isL_ok {sc : Scope} {x : Str} (h : isL sc x = true) : Loc sc x := by
  unfold isL at h
  split at h
  · exact .inl ‹_›
  · exact .inr ‹_›
  · cases h
theorem isG_ok {sc : Scope} {x : Str} (h : isG sc x = true) : sc.names.lookup x = some .globalImplicit := by
  unfold isG at h
  split at h
  · assumption
  · cases h
def okNm (x : Str) : Bool := !(x == ("__debug__" : Str)) && !(x == ("__classdict__" : Str)) && !(x == ("__name__" : Str))
theorem okNm_d {x : Str} (h : okNm x = true) : (x == ("__debug__" : Str)) = false ∧ (x == ("__classdict__" : Str)) = false ∧ x ≠ "__name__" := by
  unfold okNm at h
  simp only [Bool.and_eq_true, Bool.not_eq_true'] at h
  exact ⟨h.1.1, h.1.2, fun e => by rw [e] at h; exact absurd h.2 (by simp)⟩

def cName (G : GT) (N : List Str) (sc : Scope) (x : Str) : Option SE :=
  if okNm x then (if isV sc x then (ixOf N x).map varS else if isG sc x then (G.cons.lookup x).map cS else none) else none
def cConst : Const → Option SE
  | .int i => some (cS (.int i))
  | .bool b => some (cS (.bl b))
  | .none => some (cS .non)
  | .str x => some (cS (.str x))
  | _ => none
def binF : Operator → Option (MV → MV → Stor → Res MV)
  | .Add => some addS
  | .Sub => some subS
  | .Mult => some mulS
  | .FloorDiv => some fdivS
  | .Mod => some modS
  | .Pow => some powS
  | .LShift => some shlS
  | .RShift => some shrS
  | .BitAnd => some andS
  | .BitOr => some orS
  | .BitXor => some xorS
  | _ => none
def inpF : Operator → Option (MV → MV → Stor → Res MV)
  | .Add => some iaddS
  | .RShift => some shrS
  | .BitXor => some xorS
  | _ => none
def cmpF : CmpOp → Option (MV → MV → Stor → Res MV)
  | .Eq => some (eqS false)
  | .NotEq => some (eqS true)
  | .Lt => some ltS
  | .LtE => some leS
  | .Gt => some gtS
  | .GtE => some geS
  | .In => some (inS false)
  | .NotIn => some (inS true)
  | .Is => some (isS false)
  | .IsNot => some (isS true)
def cBin (op : Operator) (a b : Option SE) : Option SE := match binF op, a, b with
  | some f, some fa, some fb => some (binS f fa fb)
  | _, _, _ => none
def cUn (op : UnaryOp) (a : Option SE) : Option SE := match op, a with
  | .USub, some fa => some (unS negI fa)
  | .Not, some fa => some (notV fa)
  | _, _ => none
def cAndV : List (Option SE) → Option SE
  | [some a] => some a
  | some a :: r => (cAndV r).map (andV a)
  | _ => none
def cOrV : List (Option SE) → Option SE
  | [some a] => some a
  | some a :: r => (cOrV r).map (orV a)
  | _ => none
def cBool (op : BoolOp) (vs : List (Option SE)) : Option SE := match op with
  | .And => cAndV vs
  | .Or => cOrV vs
def cCmp (ops : List CmpOp) (bs : List Expr) (a : Option SE) (fs : List (Option SE)) : Option SE := match ops, bs, a, fs with
  | [op], [b], some fa, [some fb] => if behindInMarks op b = false then (cmpF op).map fun f => binS f fa fb else none
  | [op, op'], [b, c], some fa, [some fb, some fc] => if lastMarks [op, op'] [b, c] = false then (match cmpF op, cmpF op' with
    | some f, some g => some (chS f g fa fb fc)
    | _, _ => none) else none
  | _, _, _, _ => none
def allE : List (Option SE) → Option SA
  | [] => some nilS
  | some f :: r => (allE r).map (consS f)
  | none :: _ => none
def primF (x : Str) : Option (List MV → Stor → Res MV) :=
  if x = "len" then some lenS else if x = "abs" then some absS else if x = "int" then some intS else if x = "str" then some strS else if x = "list" then some listS else if x = "sum" then some sumS
  else if x = "max" then some maxS else if x = "min" then some minS else if x = "sorted" then some sortedS else if x = "any" then some anyS else if x = "all" then some allS else if x = "divmod" then some divmodS else none
def tyF (x : Str) : Option String := if x = "int" then some "int" else if x = "bool" then some "bool" else if x = "str" then some "str" else if x = "list" then some "list" else if x = "tuple" then some "tuple" else none
def lmF (x : Str) : Option (MV → List MV → Stor → Res MV) := if x = "append" then some appendM else if x = "extend" then some extendM else if x = "pop" then some popM else if x = "insert" then some insertM else none
def lm0F (x : Str) : Option (MV → List MV → Stor → Res MV) := if x = "reverse" then some reverseM else if x = "clear" then some clearM else none
def cIsi (sc : Scope) (f : Str) (as : List Expr) (fs : List (Option SE)) : Option SE := match as, fs with
  | [e, .Name T _], [some fe, _] => if f = "isinstance" && isG sc f && isG sc T && okNm T && nSt e then (tyF T).map fun t => unS (isiV t) fe else none
  | _, _ => none
def cCall (G : GT) (sc : Scope) (f : Expr) (as : List Expr) (ks : List Keyword) (pos : Pos) (fs : List (Option SE)) (fo : Option SE) : Option SE := match ks with
  | [] => if as.all nSt then (match f with
    | .Name x _ => if okNm x && isG sc x then (match G.fns.lookup x with
      | some (_, F) => (allE fs).map (appS F)
      | none => match cIsi sc x as fs with
        | some g => some g
        | none => match as with
          | [] => none
          | _ :: _ => match primF x, allE fs with
            | some F, some fa => some (appS F fa)
            | _, _ => none) else none
    | .Attribute o m ap => if noCall0 o && (ap.endLine == pos.line) && decide (as.length < 30) then (match fo, allE fs with
      | some fo, some fa => (match as with
        | [] => (lm0F m).map fun f => methS .list f fo nilS
        | _ :: _ => (lmF m).map fun f => methS .list f fo fa)
      | _, _ => none) else none
    | _ => none) else none
  | _ => none
def cPart : Option Expr → (Expr → Option SE) → Option (Option SE)
  | none, _ => some none
  | some e, c => (c e).map some
def cSub (i : Expr) (a : Option SE) (fi : Option SE) (lo hi : Option (Option SE)) : Option SE := match i with
  | .Slice _ _ none _ => (match a, lo, hi with
    | some fa, some fl, some fh => some (slS fa fl fh)
    | _, _, _ => none)
  | .Slice _ _ (some _) _ => none
  | i => if plIx i then (match a, fi with
    | some fa, some f => some (binS ixS fa f)
    | _, _ => none) else none
/-- the target of a comprehension: its names, stored in the block -/
def nmSlot (N : List Str) (sc : Scope) (e : Expr) : Option (Str × Nat) := match e with
  | .Name x _ => if isL sc x then (ixOf N x).map fun i => (x, i) else none
  | _ => none
def cTg (N : List Str) (sc : Scope) (tg : Expr) : Option (CT × List (Str × Nat)) := match tg with
  | .Name _ _ => (nmSlot N sc tg).map fun p => (.name p.2, [p])
  | .Tuple es _ _ => if es.all nSt then (es.mapM (nmSlot N sc)).map fun ps => (.tup (ps.map (·.2)), ps) else none
  | _ => none
/-- own cells and locals of a block -/
def blkFn (scope : Scope) (ps : List (Str × Nat)) : Bool := ps.all fun p => match scope.names.lookup p.1 with
  | some .local => true
  | some .cell => true
  | _ => false
def noSet : Expr → Bool
  | .Set _ _ _ => false
  | _ => true
def cLc (N : List Str) (sc scope : Scope) (tg it : Expr) (ifs : List Expr) (fi : Option SI) (ft : List (Option SB)) (fe : Option SE) : Option SE := match cTg N (relS scope sc) tg with
  | some (ct, own) => if blkC N sc scope own && blkFn scope own && noSet it then (match fi, ifs, ft, fe with
    | some w, [], [], some el => some (lcS w ct yesB el (own.map (·.2)))
    | some w, [_], [some c], some el => some (lcS w ct c el (own.map (·.2)))
    | _, _, _, _ => none) else none
  | none => none
def cRange (sc : Scope) (as : List Expr) (fs : List (Option SE)) : Option SI := if isG sc "range" && as.all nSt then (match as, allE fs with
  | [_], some fa => some (rng1S fa)
  | [_, _], some fa => some (rng2S fa)
  | [_, _, _], some fa => some (rng3S fa)
  | _, _ => none) else none
/-- isTrue hands the value on -/
def plT : Expr → Bool
  | .UnaryOp .Not _ _ => false
  | .BoolOp _ _ _ => false
  | .IfExp _ _ _ _ => false
  | .Compare _ _ _ _ => false
  | _ => true
def cAndB : List (Option SB) → Option SB
  | [some a] => some a
  | some a :: r => (cAndB r).map (andB a)
  | _ => none
def cOrB : List (Option SB) → Option SB
  | [some a] => some a
  | some a :: r => (cOrB r).map (orB a)
  | _ => none

mutual
def compE (G : GT) (N : List Str) : Nat → Scope → Expr → Option SE
  | 0, _, _ => none
  | n + 1, sc, e => match e with
    | .Name x _ => cName G N sc x
    | .Constant c _ _ => cConst c
    | .BinOp a op b _ => cBin op (compE G N n sc a) (compE G N n sc b)
    | .UnaryOp op a _ => cUn op (compE G N n sc a)
    | .BoolOp op vs _ => cBool op (vs.map (compE G N n sc))
    | .Compare a ops bs _ => cCmp ops bs (compE G N n sc a) (bs.map (compE G N n sc))
    | .IfExp c a b _ => (match compT G N n sc c, compE G N n sc a, compE G N n sc b with
      | some fc, some fa, some fb => some (ifE fc fa fb)
      | _, _, _ => none)
    | .Call f as ks pos => cCall G sc f as ks pos (as.map (compE G N n sc)) (match f with
      | .Attribute o _ _ => compE G N n sc o
      | _ => none)
    | .Subscript a i _ => cSub i (compE G N n sc a) (match i with
      | .Slice _ _ _ _ => none
      | i => compE G N n sc i) (match i with
      | .Slice lo _ _ _ => cPart lo (compE G N n sc)
      | _ => none) (match i with
      | .Slice _ hi _ _ => cPart hi (compE G N n sc)
      | _ => none)
    | .List es _ => (allE (es.map (compE G N n sc))).bind fun fa => if es.all nSt then some (lstS fa) else none
    | .Tuple es _ _ => (allE (es.map (compE G N n sc))).bind fun fa => if es.all nSt then some (tupS fa) else none
    | .ListComp elt [⟨tg, it, ifs, 0⟩] scope _ => cLc N sc scope tg it ifs (compI G N n sc tg it) (ifs.map (compT G N n (relS scope sc))) (compE G N n (relS scope sc) elt)
    | _ => none
def compT (G : GT) (N : List Str) : Nat → Scope → Expr → Option SB
  | 0, _, _ => none
  | n + 1, sc, e => match e with
    | .UnaryOp .Not a _ => (compT G N n sc a).map notB
    | .BoolOp .And vs _ => cAndB (vs.map (compT G N n sc))
    | .BoolOp .Or vs _ => cOrB (vs.map (compT G N n sc))
    | .Compare a ops bs _ => (cCmp ops bs (compE G N n sc a) (bs.map (compE G N n sc))).map tstS
    | e => if plT e then (compE G N n sc e).map tstS else none
def compI (G : GT) (N : List Str) : Nat → Scope → Expr → Expr → Option SI
  | 0, _, _, _ => none
  | n + 1, sc, tg, e => match e with
    | .Call (.Name f _) as [] _ => if f = "range" then cRange sc as (as.map (compE G N n sc))
      else if f = "enumerate" then (match tg, as with
        | .Tuple _ _ _, [a] => if isG sc f && nSt a then (compE G N n sc a).map fun fa => enmI (consS fa nilS) else none
        | _, _ => none)
      else if f = "zip" then (match tg, as with
        | .Tuple _ _ _, [a, b] => if isG sc f && nSt a && nSt b then (match compE G N n sc a, compE G N n sc b with
          | some fa, some fb => some (zipI (consS fa (consS fb nilS)))
          | _, _ => none) else none
        | _, _ => none)
      else if f = "reversed" then (match as with
        | [.Call (.Name g _) [a] [] _] => if g = "range" && isG sc f && isG sc g && nSt a then (compE G N n sc a).map fun fa => rvrS (rng1S (consS fa nilS))
          else if isG sc f then (compE G N n sc (as.headD e)).map fun fa => revI (consS fa nilS) else none
        | [a] => if isG sc f && nSt a then (compE G N n sc a).map fun fa => revI (consS fa nilS) else none
        | _ => none)
      else (compE G N n sc e).map seqI
    | e => if noSet e then (compE G N n sc e).map seqI else none
end
section
variable {W : WR} {G : GT} {N : List Str} {sc : Scope} {X : Cx} {E : L2.St → XK}
theorem CtxE.gl (C : CtxE X W G E N sc) {x : Str} (h : isG sc x = true) : Gl X x := by
  show X.env.scope.names.lookup x = _
  rw [C.eS]
  exact isG_ok h
theorem map_inv {α β : Type} {f : α → β} {o : Option α} {y : β} (h : o.map f = some y) : ∃ x, o = some x ∧ f x = y := by
  cases o with
  | none => cases h
  | some x => cases h; exact ⟨x, rfl, rfl⟩
theorem cName_ok (C : CtxE X W G E N sc) {x : Str} {pos : Pos} {f : SE} (h : cName G N sc x = some f) : PE X (.Name x pos) (tE W E f) := by
  unfold cName at h
  by_cases h1 : okNm x = true
  · rw [if_pos h1] at h
    obtain ⟨d1, d2, d3⟩ := okNm_d h1
    by_cases h2 : isV sc x = true
    · rw [if_pos h2] at h
      obtain ⟨i, hi, rfl⟩ := map_inv h
      exact r_var (by rw [C.eN]; exact ixOf_ok hi) (by rw [C.eS]; exact isV_ok h2) d1 d2
    · rw [if_neg h2] at h
      by_cases h3 : isG sc x = true
      · rw [if_pos h3] at h
        obtain ⟨v, hv, rfl⟩ := map_inv h
        obtain ⟨u, w, e1, e2, e3⟩ := C.cons x v hv
        exact PE.wk (pe_glob (C.gl h3) e1 e2 d1) fun σ H Q ⟨M, S, env, R, r, p⟩ => p.ok R (e3 M R.gl)
      · rw [if_neg h3] at h
        cases h
  · rw [if_neg h1] at h
    cases h
theorem cConst_ok {c : Const} {j : Nat} {pos : Pos} {f : SE} (h : cConst c = some f) : PE X (.Constant c j pos) (tE W E f) := by
  cases c <;> cases h
  · exact r_non
  · exact r_bl
  · exact r_int
  · exact r_str
theorem binF_ok (C : CtxE X W G E N sc) {op : Operator} {f : MV → MV → Stor → Res MV} (h : binF op = some f) : OpR X (binaryOp op) (rS2 W f) := by
  cases op <;> cases h
  · exact b_add C.eK
  · exact b_sub
  · exact b_mul
  · exact b_mod
  · exact b_pow
  · exact b_shl
  · exact b_shr
  · exact b_or
  · exact b_xor
  · exact b_and
  · exact b_fdiv
theorem inpF_ok {op : Operator} {f : MV → MV → Stor → Res MV} (h : inpF op = some f) : OpR X (inplaceOp op) (rS2 W f) := by
  cases op <;> cases h
  · exact i_add
  · exact i_shr
  · exact i_xor
theorem cmpF_ok (C : CtxE X W G E N sc) {op : CmpOp} {f : MV → MV → Stor → Res MV} (h : cmpF op = some f) : OpR X (compareOp op) (rS2 W f) := by
  have hu : X.A.units < cLine := by have := C.units; omega
  cases op <;> cases h
  · exact b_eq C.eK C.units
  · exact b_ne C.eK C.units
  · exact b_lt C.eK hu
  · exact b_le
  · exact b_gt
  · exact b_ge
  · exact b_is
  · exact b_isNot
  · exact b_in C.eK
  · exact b_notIn C.eK
theorem cBin_ok (C : CtxE X W G E N sc) {a b : Expr} {op : Operator} {pos : Pos} {oa ob : Option SE} {f : SE} (h : cBin op oa ob = some f) (ha : ∀ f, oa = some f → PE X a (tE W E f)) (hb : ∀ f, ob = some f → PE X b (tE W E f)) : PE X (.BinOp a op b pos) (tE W E f) := by
  unfold cBin at h
  split at h
  · rename_i g fa fb h1
    cases h
    exact r_bin (binF_ok C h1) (ha fa rfl) (hb fb rfl)
  · cases h
theorem cUn_ok {a : Expr} {op : UnaryOp} {pos : Pos} {oa : Option SE} {f : SE} (h : cUn op oa = some f) (ha : ∀ f, oa = some f → PE X a (tE W E f)) : PE X (.UnaryOp op a pos) (tE W E f) := by
  unfold cUn at h
  split at h
  · cases h; exact r_neg (ha _ rfl)
  · cases h; exact r_notV (ha _ rfl)
  · cases h
theorem cAndV_ok {pos : Pos} {vs : List Expr} {os : List (Option SE)} {f : SE} (h : cAndV os = some f) (q : Paired (fun e o => ∀ f, o = some f → PE X e (tE W E f)) vs os) : PE X (.BoolOp .And vs pos) (tE W E f) := by
  induction q generalizing f with
  | nil => cases h
  | @cons e o es os r t ih =>
    cases o with
    | none => cases os <;> cases h
    | some fa =>
      cases t with
      | nil => cases h; exact r_oneV (r _ rfl)
      | cons r2 t2 =>
        obtain ⟨g, hg, rfl⟩ := map_inv h
        exact r_andV (r _ rfl) (ih hg)
theorem cOrV_ok {pos : Pos} {vs : List Expr} {os : List (Option SE)} {f : SE} (h : cOrV os = some f) (q : Paired (fun e o => ∀ f, o = some f → PE X e (tE W E f)) vs os) : PE X (.BoolOp .Or vs pos) (tE W E f) := by
  induction q generalizing f with
  | nil => cases h
  | @cons e o es os r t ih =>
    cases o with
    | none => cases os <;> cases h
    | some fa =>
      cases t with
      | nil => cases h; exact r_oneV (r _ rfl)
      | cons r2 t2 =>
        obtain ⟨g, hg, rfl⟩ := map_inv h
        exact r_orV (r _ rfl) (ih hg)
theorem cAndB_ok {pos : Pos} {vs : List Expr} {os : List (Option SB)} {f : SB} (h : cAndB os = some f) (q : Paired (fun e o => ∀ f, o = some f → PT X e (tB W E f)) vs os) : PW X (.BoolOp .And vs pos) (tB W E f) := by
  induction q generalizing f with
  | nil => cases h
  | @cons e o es os r t ih =>
    cases o with
    | none => cases os <;> cases h
    | some fa =>
      cases t with
      | nil => cases h; exact r_and1 (r _ rfl)
      | cons r2 t2 =>
        obtain ⟨g, hg, rfl⟩ := map_inv h
        exact r_and (r _ rfl) (ih hg)
theorem cOrB_ok {pos : Pos} {vs : List Expr} {os : List (Option SB)} {f : SB} (h : cOrB os = some f) (q : Paired (fun e o => ∀ f, o = some f → PT X e (tB W E f)) vs os) : PW X (.BoolOp .Or vs pos) (tB W E f) := by
  induction q generalizing f with
  | nil => cases h
  | @cons e o es os r t ih =>
    cases o with
    | none => cases os <;> cases h
    | some fa =>
      cases t with
      | nil => cases h; exact r_or1 (r _ rfl)
      | cons r2 t2 =>
        obtain ⟨g, hg, rfl⟩ := map_inv h
        exact r_or (r _ rfl) (ih hg)
theorem paired_map {α β : Type} {R : α → β → Prop} {g : α → β} (h : ∀ a, R a (g a)) : ∀ l : List α, Paired R l (l.map g)
  | [] => .nil
  | a :: l => .cons (h a) (paired_map h l)
theorem allE_ok {es : List Expr} {os : List (Option SE)} {fa : SA} (h : allE os = some fa) (s : es.all nSt = true) (q : Paired (fun e o => ∀ f, o = some f → PE X e (tE W E f)) es os) : PA X es (tA W E fa) := by
  induction q generalizing fa with
  | nil => cases h; exact r_nil
  | @cons e o es os r t ih =>
    cases o with
    | none => cases h
    | some f =>
      obtain ⟨g, hg, rfl⟩ := map_inv h
      rw [List.all_cons, Bool.and_eq_true] at s
      exact r_cons (r _ rfl) (ih hg s.2) s.1
/-- a comparison by its parts, as a value and as a test -/
theorem cCmp_ok (C : CtxE X W G E N sc) {a : Expr} {ops : List CmpOp} {bs : List Expr} {pos : Pos} {oa : Option SE} {os : List (Option SE)} {f : SE} (h : cCmp ops bs oa os = some f) (ha : ∀ f, oa = some f → PE X a (tE W E f)) (hb : Paired (fun e o => ∀ f, o = some f → PE X e (tE W E f)) bs os) :
    PE X (.Compare a ops bs pos) (tE W E f) ∧ PT X (.Compare a ops bs pos) (tB W E (tstS f)) := by
  unfold cCmp at h
  split at h
  · rename_i op b fa fb
    cases hb with
    | cons r _ =>
      by_cases hm : behindInMarks op b = false
      · rw [if_pos hm] at h
        obtain ⟨g, hg, rfl⟩ := map_inv h
        exact ⟨r_cmp (cmpF_ok C hg) (ha _ rfl) (r _ rfl) hm, r_cmpT (cmpF_ok C hg) (ha _ rfl) (r _ rfl) hm⟩
      · rw [if_neg hm] at h
        cases h
  · rename_i op op' b c fa fb fc
    cases hb with
    | cons r t =>
      cases t with
      | cons r2 _ =>
        by_cases hm : lastMarks [op, op'] [b, c] = false
        · rw [if_pos hm] at h
          split at h
          · rename_i g g' h1 h2
            cases h
            exact ⟨r_ch (cmpF_ok C h1) (cmpF_ok C h2) (ha _ rfl) (r _ rfl) (r2 _ rfl) hm, r_chT (cmpF_ok C h1) (cmpF_ok C h2) (ha _ rfl) (r _ rfl) (r2 _ rfl) hm⟩
          · cases h
        · rw [if_neg hm] at h
          cases h
  · cases h
theorem primF_ok (C : CtxE X W G E N sc) {x : Str} {F : List MV → Stor → Res MV} {e : Expr} {es : List Expr} {fr : SA} {p pos : Pos} (h : primF x = some F) (hg : Gl X x) (hx : okNm x = true) (ha : PA X (e :: es) (tA W E fr)) (hs : (e :: es).all nSt = true) :
    PE X (.Call (.Name x p) (e :: es) [] pos) (tE W E (appS F fr)) := by
  obtain ⟨d1, d2, d3⟩ := okNm_d hx
  rw [List.all_cons, Bool.and_eq_true] at hs
  have bl : ∀ y : Str, y ∈ bltL → X.mg y = none := C.blt
  unfold primF at h
  repeat' (first | (split at h; rename_i hx; subst hx; cases h) | (split at h))
  all_goals first
    | exact r_prim (p_len C.eK) hg (bl _ (by simp [bltL])) (by decide +kernel) ha d3 d1 hs.1 hs.2
    | exact r_prim p_abs hg (bl _ (by simp [bltL])) (by decide +kernel) ha d3 d1 hs.1 hs.2
    | exact r_primT p_int hg (bl _ (by simp [bltL])) (by decide +kernel) ha d3 d1 hs.1 hs.2
    | exact r_primT p_str hg (bl _ (by simp [bltL])) (by decide +kernel) ha d3 d1 hs.1 hs.2
    | exact r_primT (p_list C.eK) hg (bl _ (by simp [bltL])) (by decide +kernel) ha d3 d1 hs.1 hs.2
    | exact r_prim (p_sum C.eK C.calm) hg (bl _ (by simp [bltL])) (by decide +kernel) ha d3 d1 hs.1 hs.2
    | exact r_prim (p_max C.eK C.calm) hg (bl _ (by simp [bltL])) (by decide +kernel) ha d3 d1 hs.1 hs.2
    | exact r_prim (p_min C.eK C.calm) hg (bl _ (by simp [bltL])) (by decide +kernel) ha d3 d1 hs.1 hs.2
    | exact r_prim (p_sorted C.eK) hg (bl _ (by simp [bltL])) (by decide +kernel) ha d3 d1 hs.1 hs.2
    | exact r_prim (p_any C.eK C.calm) hg (bl _ (by simp [bltL])) (by decide +kernel) ha d3 d1 hs.1 hs.2
    | exact r_prim (p_all C.eK C.calm) hg (bl _ (by simp [bltL])) (by decide +kernel) ha d3 d1 hs.1 hs.2
    | exact r_prim p_divmod hg (bl _ (by simp [bltL])) (by decide +kernel) ha d3 d1 hs.1 hs.2
    | exact absurd h (by simp)
end
end Rf

/-! Rf8: the soundness of the reading of expressions. -/
namespace Rf
open PySem PySem.Spec PyProof.Rows L2
section
variable {W : WR} {G : GT} {N : List Str} {sc : Scope} {X : Cx} {E : L2.St → XK}
theorem tyF_ok {x : Str} {t : String} (h : tyF x = some t) : bootBuiltins x = some (.type t) ∧ x ∈ bltL := by
  unfold tyF at h
  repeat' (first | (split at h; rename_i hx; subst hx; cases h) | (split at h))
  all_goals first
    | exact ⟨by decide +kernel, by simp [bltL]⟩
    | exact absurd h (by simp)
theorem cIsi_ok (C : CtxE X W G E N sc) {f : Str} {as : List Expr} {os : List (Option SE)} {g : SE} {p pos : Pos} (h : cIsi sc f as os = some g) (ha : Paired (fun e o => ∀ f, o = some f → PE X e (tE W E f)) as os) : PE X (.Call (.Name f p) as [] pos) (tE W E g) := by
  unfold cIsi at h
  split at h
  · rename_i e T pT fe o2
    split at h
    · rename_i hc
      simp only [Bool.and_eq_true, decide_eq_true_eq] at hc
      obtain ⟨⟨⟨⟨h1, h2⟩, h3⟩, h4⟩, h5⟩ := hc
      subst h1
      obtain ⟨t, ht, rfl⟩ := map_inv h
      obtain ⟨b1, b2⟩ := tyF_ok ht
      obtain ⟨d1, d2, d3⟩ := okNm_d h4
      cases ha with
      | cons r _ => exact r_isi C.eK (C.gl h2) (C.blt _ (by simp [bltL])) (C.gl h3) (C.blt _ b2) b1 d3 d1 (r _ rfl) h5
    · cases h
  · cases h
theorem lmF_ok (C : CtxE X W G E N sc) {m : Str} {f : MV → List MV → Stor → Res MV} {o e : Expr} {es : List Expr} {fo : SE} {fa : SA} {apos cpos : Pos} (h : lmF m = some f) (ho : PE X o (tE W E fo)) (ha : PA X (e :: es) (tA W E fa)) (hb : noCall0 o = true) (hl : (apos.endLine == cpos.line) = true)
    (hs : (e :: es).all nSt = true) (hlen : (e :: es).length < 30) : PE X (.Call (.Attribute o m apos) (e :: es) [] cpos) (tE W E (methS .list f fo fa)) := by
  unfold lmF at h
  repeat' (first | (split at h; rename_i hx; subst hx; cases h) | (split at h))
  all_goals first
    | exact r_meth (T := .list) C.eK PySem.F.plainAttrs_list PySem.F.slot_list_append PySem.F.type_list_append m_append ho ha hb hl hs hlen
    | exact r_meth (T := .list) C.eK PySem.F.plainAttrs_list PySem.F.slot_list_extend PySem.F.type_list_extend m_extend ho ha hb hl hs hlen
    | exact r_meth (T := .list) C.eK PySem.F.plainAttrs_list PySem.F.slot_list_pop PySem.F.type_list_pop m_pop ho ha hb hl hs hlen
    | exact r_meth (T := .list) C.eK PySem.F.plainAttrs_list PySem.F.slot_list_insert PySem.F.type_list_insert m_insert ho ha hb hl hs hlen
    | exact absurd h (by simp)
theorem lm0F_ok (C : CtxE X W G E N sc) {m : Str} {f : MV → List MV → Stor → Res MV} {o : Expr} {fo : SE} {apos cpos : Pos} (h : lm0F m = some f) (ho : PE X o (tE W E fo)) (hb : noCall0 o = true) (hl : (apos.endLine == cpos.line) = true) :
    PE X (.Call (.Attribute o m apos) [] [] cpos) (tE W E (methS .list f fo nilS)) := by
  unfold lm0F at h
  repeat' (first | (split at h; rename_i hx; subst hx; cases h) | (split at h))
  all_goals first
    | exact r_meth0 (T := .list) C.eK PySem.F.plainAttrs_list PySem.F.slot_list_reverse PySem.F.type_list_reverse m_reverse ho hb hl
    | exact r_meth0 (T := .list) C.eK PySem.F.plainAttrs_list PySem.F.slot_list_clear PySem.F.type_list_clear m_clear ho hb hl
    | exact absurd h (by simp)
theorem cCall_ok (C : CtxE X W G E N sc) {f : Expr} {as : List Expr} {ks : List Keyword} {pos : Pos} {os : List (Option SE)} {oo : Option SE} {g : SE} (h : cCall G sc f as ks pos os oo = some g) (ha : Paired (fun e o => ∀ f, o = some f → PE X e (tE W E f)) as os)
    (ho : ∀ o m ap, f = .Attribute o m ap → ∀ fo, oo = some fo → PE X o (tE W E fo)) : PE X (.Call f as ks pos) (tE W E g) := by
  unfold cCall at h
  split at h
  · split at h
    · rename_i hs
      split at h
      · rename_i x p
        split at h
        · rename_i hx
          rw [Bool.and_eq_true] at hx
          split at h
          · rename_i n F hF
            obtain ⟨fa, hfa, rfl⟩ := map_inv h
            obtain ⟨k, fad, fd, ps, FO, hr, hm, hk, hb, hn⟩ := C.fns x n F hF
            have hpa := allE_ok hfa hs ha
            cases as with
            | nil =>
              cases ha
              cases hfa
              exact r_call0 FO hn hr (C.gl hx.2) hm hk hb C.pass (okNm_d hx.1).1
            | cons e es =>
              rw [List.all_cons, Bool.and_eq_true] at hs
              exact r_call FO hn hr (C.gl hx.2) hm hk hb C.pass hpa (okNm_d hx.1).1 hs.1 hs.2
          · split at h
            · rename_i g' hg'
              cases h
              exact cIsi_ok C hg' ha
            · split at h
              · cases h
              · rename_i e es
                split at h
                · rename_i F fa h1 h2
                  cases h
                  exact primF_ok C h1 (C.gl hx.2) hx.1 (allE_ok h2 hs ha) hs
                · cases h
        · cases h
      · rename_i o m ap
        split at h
        · rename_i hc
          simp only [Bool.and_eq_true, decide_eq_true_eq] at hc
          obtain ⟨⟨h1, h2⟩, h3⟩ := hc
          split at h
          · rename_i fo fa ho' hfa
            split at h
            · obtain ⟨f', hf', rfl⟩ := map_inv h
              exact lm0F_ok C hf' (ho _ _ _ rfl _ rfl) h1 h2
            · obtain ⟨f', hf', rfl⟩ := map_inv h
              exact lmF_ok C hf' (ho _ _ _ rfl _ rfl) (allE_ok (by assumption) hs ha) h1 h2 hs h3
          · cases h
        · cases h
      · cases h
    · cases h
  · cases h
theorem cSub_ok (C : CtxE X W G E N sc) {a i : Expr} {pos : Pos} {oa oi : Option SE} {lo hi : Option (Option SE)} {g : SE} (h : cSub i oa oi lo hi = some g) (ha : ∀ f, oa = some f → PE X a (tE W E f)) (hi' : plIx i = true → ∀ f, oi = some f → PE X i (tE W E f))
    (hl : ∀ l u s p, i = .Slice l u s p → ∀ fl, lo = some fl → PO X l (tO W E fl)) (hh : ∀ l u s p, i = .Slice l u s p → ∀ fl, hi = some fl → PO X u (tO W E fl)) : PE X (.Subscript a i pos) (tE W E g) := by
  unfold cSub at h
  split at h
  · rename_i l u p
    split at h
    · cases h
      exact r_sl C.eK (ha _ rfl) (hl l u _ p rfl _ rfl) (hh l u _ p rfl _ rfl)
    · cases h
  · cases h
  · split at h
    · rename_i hp
      split at h
      · cases h
        exact r_ix C.eK (ha _ rfl) (hi' hp _ rfl) hp
      · cases h
    · cases h
theorem cPart_ok {o : Option Expr} {c : Expr → Option SE} {fl : Option SE} (h : cPart o c = some fl) (hc : ∀ e f, c e = some f → PE X e (tE W E f)) : PO X o (tO W E fl) := by
  cases o with
  | none => cases h; exact r_none
  | some e =>
    obtain ⟨f, hf, rfl⟩ := map_inv (show (c e).map some = some fl from h)
    exact r_some (hc e f hf)
/-! comprehensions -/
theorem CtxE.blk (C : CtxE X W G E N sc) (s : Shared) (H : Hp) (scope : Scope) (cl : List (Str × Addr)) (Cd : Addr) (fp : List Addr) : CtxE (X.blk s H scope (compEnvC scope cl Cd X.env) fp) W G (fun _ => E0) N (relS scope sc) :=
  ⟨C.eK, C.eN, C.nd, by rw [← C.eS]; rfl, C.calm, C.units, C.fns, C.cons, C.blt, fun _ _ _ _ _ _ _ h => by
    obtain ⟨_, _, _, _, _, _, _, _, _, _, _, _, z⟩ := h
    exact z.elim⟩
theorem blkFn_ok {scope : Scope} {ps : List (Str × Nat)} (h : blkFn scope ps = true) {p : Str × Nat} (hp : p ∈ ps) : scope.names.lookup p.1 = some .local ∨ scope.names.lookup p.1 = some .cell := by
  have q := List.all_eq_true.mp h p hp
  split at q
  · exact .inl ‹_›
  · exact .inr ‹_›
  · cases q
theorem nmSlot_ok (C : CtxE X W G E N sc) {scope : Scope} {tg : Expr} {p : Str × Nat} (h : nmSlot N (relS scope sc) tg = some p) (hb : scope.names.lookup p.1 = some .local ∨ scope.names.lookup p.1 = some .cell)
    (s : Shared) (H : Hp) (cl : List (Str × Addr)) (Cd : Addr) (fp : List Addr) : PG (X.blk s H scope (compEnvC scope cl Cd X.env) fp) tg (gName p.2) := by
  unfold nmSlot at h
  split at h
  · rename_i x pos
    split at h
    · rename_i hl
      obtain ⟨i, hi, rfl⟩ := map_inv h
      refine pg_name (X := X.blk s H scope (compEnvC scope cl Cd X.env) fp) (by show X.N.Nodup; rw [C.eN]; exact C.nd) (by show X.N[i]? = some x; rw [C.eN]; exact ixOf_ok hi) ?_ ?_
      · show Loc (relS scope X.env.scope) x
        rw [C.eS]
        exact isL_ok hl
      · rcases hb with hb | hb
        · refine .inr ?_
          show (relS scope X.env.scope).names.lookup x = some .local
          exact lookup_relS_keep (by decide) hb
        · refine .inl ?_
          show (scope.names.lookup x == some NameKind.cell) = true
          rw [show scope.names.lookup x = some .cell from hb]
          rfl
    · cases h
  · cases h
theorem mapM_inv {α β : Type} {g : α → Option β} : ∀ {l : List α} {r : List β}, l.mapM g = some r → Paired (fun a b => g a = some b) l r
  | [], r, h => by rw [List.mapM_nil] at h; cases h; exact .nil
  | a :: l, r, h => by
    rw [List.mapM_cons] at h
    cases e : g a with
    | none => rw [e] at h; cases h
    | some b =>
      rw [e] at h
      cases e2 : l.mapM g with
      | none => rw [e2] at h; cases h
      | some bs =>
        rw [e2] at h
        cases h
        exact .cons e (mapM_inv e2)
theorem gNames_pg {X' : Cx} {es : List Expr} {ps : List (Str × Nat)} (h : Paired (fun e p => PG X' e (gName p.2)) es ps) (hs : es.all nSt = true) : PGs X' es (gNames (ps.map (·.2))) := by
  induction h with
  | nil => exact pgs_nil
  | cons r t ih =>
    rw [List.all_cons, Bool.and_eq_true] at hs
    exact pgs_cons r (ih hs.2) (assign_cons hs.1 _ _)
theorem Paired.imp2 {α β : Type} {R R' : α → β → Prop} : ∀ {l : List α} {m : List β}, (∀ a b, b ∈ m → R a b → R' a b) → Paired R l m → Paired R' l m
  | _, _, _, .nil => .nil
  | _, _, h, .cons r t => .cons (h _ _ List.mem_cons_self r) (Paired.imp2 (fun a b hb => h a b (List.mem_cons_of_mem _ hb)) t)
theorem cTg_ok (C : CtxE X W G E N sc) {scope : Scope} {tg : Expr} {ct : CT} {own : List (Str × Nat)} (h : cTg N (relS scope sc) tg = some (ct, own)) (hb : blkFn scope own = true) :
    (∀ i ∈ ct.slots, i ∈ own.map (·.2)) ∧ ∀ (s : Shared) (H : Hp) (Cd : Addr) (cl : List (Str × Addr)) (fp : List Addr), PG (X.blk s H scope (compEnvC scope cl Cd X.env) fp) tg (ct.tg W.K) := by
  unfold cTg at h
  split at h
  · obtain ⟨p, hp, e⟩ := map_inv h
    cases e
    exact ⟨fun i hi => hi, fun s H Cd cl fp => nmSlot_ok C hp (blkFn_ok hb List.mem_cons_self) s H cl Cd fp⟩
  · rename_i es k pos
    split at h
    · rename_i hs
      obtain ⟨ps, hp, e⟩ := map_inv h
      cases e
      refine ⟨fun i hi => hi, fun s H Cd cl fp => ?_⟩
      have pr := mapM_inv hp
      have hl : (own.map (·.2)).length = es.length := by rw [List.length_map]; exact pr.length.symm
      show PG _ _ (gTup W.K (own.map (·.2)).length (gNames (own.map (·.2))))
      rw [← C.eK]
      refine pg_tup (X := X.blk s H scope (compEnvC scope cl Cd X.env) fp) C.calm (gNames_pg (Paired.imp2 (fun a b hb' q => nmSlot_ok C q (blkFn_ok hb hb') s H cl Cd fp) pr) hs) (by rw [assign_len, hl]) (assign_find _ hs)
    · cases h
  · cases h
theorem noSet_ok {e : Expr} (h : noSet e = true) (env : Env) (x : Value) : foldedSetIterable e env x = pure x := by
  cases e <;> first | rfl | cases h
theorem cLc_ok (C : CtxE X W G E N sc) {scope : Scope} {tg it elt : Expr} {ifs : List Expr} {pos : Pos} {fi : Option SI} {ft : List (Option SB)} {fe : Option SE} {g : SE} (h : cLc N sc scope tg it ifs fi ft fe = some g)
    (hi : ∀ w, fi = some w → PI X tg it (tI W E w)) (ht : ∀ (s : Shared) (H : Hp) (Cd : Addr) (cl : List (Str × Addr)) (fp : List Addr), Paired (fun e o => ∀ f, o = some f → PT (X.blk s H scope (compEnvC scope cl Cd X.env) fp) e (tB W (fun _ => E0) f)) ifs ft)
    (he : ∀ (s : Shared) (H : Hp) (Cd : Addr) (cl : List (Str × Addr)) (fp : List Addr) f, fe = some f → PE (X.blk s H scope (compEnvC scope cl Cd X.env) fp) elt (tE W (fun _ => E0) f)) : PE X (.ListComp elt [⟨tg, it, ifs, 0⟩] scope pos) (tE W E g) := by
  unfold cLc at h
  split at h
  · rename_i ct own hct
    split at h
    · rename_i hc
      simp only [Bool.and_eq_true] at hc
      obtain ⟨⟨h1, h2⟩, h3⟩ := hc
      obtain ⟨t1, t2⟩ := cTg_ok C hct h2
      have bo : BlkOk X.N X.env.scope scope own := by rw [C.eN, C.eS]; exact blkOk_by h1
      have nd : X.N.Nodup := by rw [C.eN]; exact C.nd
      split at h
      · cases h
        exact r_lc (tt := tYes) C.eK C.calm nd (hi _ rfl) bo t1 (fun σ H Q ⟨M, S, env, R, r, p⟩ => p.ok R rfl) t2 (fun _ _ _ _ _ => pts_nil) (fun s H Cd cl fp => he s H Cd cl fp _ rfl) (noSet_ok h3 _)
      · cases h
        exact r_lc C.eK C.calm nd (hi _ rfl) bo t1 (fun σ H Q q => q) t2 (fun s H Cd cl fp => by
          cases ht s H Cd cl fp with
          | cons r _ => exact pts_one (r _ rfl)) (fun s H Cd cl fp => he s H Cd cl fp _ rfl) (noSet_ok h3 _)
      · cases h
    · cases h
  · cases h
theorem cRange_ok (C : CtxE X W G E N sc) {tg : Expr} {as : List Expr} {os : List (Option SE)} {w : SI} {p pos : Pos} (h : cRange sc as os = some w) (ha : Paired (fun e o => ∀ f, o = some f → PE X e (tE W E f)) as os) : PI X tg (.Call (.Name "range" p) as [] pos) (tI W E w) := by
  unfold cRange at h
  split at h
  · rename_i hc
    rw [Bool.and_eq_true] at hc
    have hm : X.mg "range" = none := C.blt _ (by simp [bltL])
    have hg := C.gl hc.1
    have hs := hc.2
    split at h
    · rename_i a fa hfa
      cases h
      have hs' := hs
      rw [List.all_cons, Bool.and_eq_true] at hs'
      exact r_rng1 hg hm (allE_ok hfa hs ha) hs'.1
    · rename_i a b fa hfa
      cases h
      have hs' := hs
      rw [List.all_cons, Bool.and_eq_true, List.all_cons, Bool.and_eq_true] at hs'
      exact r_rng2 hg hm (allE_ok hfa hs ha) hs'.1 hs'.2.1
    · rename_i a b c fa hfa
      cases h
      have hs' := hs
      rw [List.all_cons, Bool.and_eq_true] at hs'
      exact r_rng3 hg hm (allE_ok hfa hs ha) hs'.1 hs'.2
    · cases h
  · cases h
theorem plT_ok {e : Expr} (h : plT e = true) (env : Env) : ∀ whole, isTrue e env whole = (do let v ← whole; standAt e.pos; holding [v] (truthy v)) := by
  intro whole
  cases e <;> first | rfl | (cases h; done) | skip
  rename_i op a pos
  cases op <;> first | rfl | cases h
end

theorem sound (W : WR) (G : GT) (N : List Str) : ∀ n : Nat,
    (∀ sc e f, compE G N n sc e = some f → ∀ X E, CtxE X W G E N sc → PE X e (tE W E f)) ∧
    (∀ sc e f, compT G N n sc e = some f → ∀ X E, CtxE X W G E N sc → PT X e (tB W E f)) ∧
    (∀ sc tg e w, compI G N n sc tg e = some w → ∀ X E, CtxE X W G E N sc → PI X tg e (tI W E w)) := by
  intro n
  induction n with
  | zero => exact ⟨fun _ _ _ h => by (unfold compE at h; cases h), fun _ _ _ h => by (unfold compT at h; cases h), fun _ _ _ _ h => by (unfold compI at h; cases h)⟩
  | succ n ih =>
    obtain ⟨ihE, ihT, ihI⟩ := ih
    have eE : ∀ {sc X E}, CtxE X W G E N sc → ∀ e f, compE G N n sc e = some f → PE X e (tE W E f) := fun C e f h => ihE _ e f h _ _ C
    have eT : ∀ {sc X E}, CtxE X W G E N sc → ∀ e f, compT G N n sc e = some f → PT X e (tB W E f) := fun C e f h => ihT _ e f h _ _ C
    refine ⟨fun sc e f h X E C => ?_, fun sc e f h X E C => ?_, fun sc tg e w h X E C => ?_⟩
    · unfold compE at h
      split at h
      · exact cName_ok C h
      · exact cConst_ok h
      · exact cBin_ok C h (eE C _) (eE C _)
      · exact cUn_ok h (eE C _)
      · rename_i op vs pos
        have q := paired_map (R := fun e o => ∀ f, o = some f → PE X e (tE W E f)) (g := compE G N n sc) (fun e => eE C e) vs
        cases op with
        | And => exact cAndV_ok h q
        | Or => exact cOrV_ok h q
      · exact (cCmp_ok C h (eE C _) (paired_map (fun e => eE C e) _)).1
      · split at h
        · rename_i h1 h2 h3
          cases h
          exact r_ifE (eT C _ _ h1) (eE C _ _ h2) (eE C _ _ h3)
        · cases h
      · rename_i f' as ks pos
        exact cCall_ok C h (paired_map (fun e => eE C e) _) fun o m ap e fo hfo => by
          subst e
          exact eE C _ _ hfo
      · rename_i a i pos
        refine cSub_ok C h (eE C _) (fun hp f hf => ?_) (fun l u s p e fl hfl => ?_) (fun l u s p e fl hfl => ?_)
        · cases i <;> first | (cases hp; done) | exact eE C _ _ hf
        · subst e
          exact cPart_ok hfl (eE C)
        · subst e
          exact cPart_ok hfl (eE C)
      · rename_i es pos
        cases e : allE (es.map (compE G N n sc)) with
        | none => rw [e] at h; cases h
        | some fa =>
          rw [e] at h
          have h : (if es.all nSt = true then some (lstS fa) else none) = some f := h
          split at h
          · rename_i hs
            cases h
            exact r_lst (allE_ok e hs (paired_map (fun e => eE C e) _))
          · cases h
      · rename_i es k pos
        cases e : allE (es.map (compE G N n sc)) with
        | none => rw [e] at h; cases h
        | some fa =>
          rw [e] at h
          have h : (if es.all nSt = true then some (tupS fa) else none) = some f := h
          split at h
          · rename_i hs
            cases h
            exact r_tup (allE_ok e hs (paired_map (fun e => eE C e) _))
          · cases h
      · rename_i elt tg it ifs scope pos
        exact cLc_ok C h (fun w hw => ihI _ _ _ _ hw _ _ C) (fun s H Cd cl fp => paired_map (fun e => eT (C.blk s H scope cl Cd fp) e) _) (fun s H Cd cl fp f hf => eE (C.blk s H scope cl Cd fp) _ _ hf)
      · cases h
    · unfold compT at h
      split at h
      · obtain ⟨g, hg, rfl⟩ := map_inv h
        exact r_not (eT C _ _ hg)
      · exact (cAndB_ok h (paired_map (fun e => eT C e) _)).pt
      · exact (cOrB_ok h (paired_map (fun e => eT C e) _)).pt
      · obtain ⟨g, hg, rfl⟩ := map_inv h
        exact (cCmp_ok C hg (eE C _) (paired_map (fun e => eE C e) _)).2
      · split at h
        · rename_i hp
          obtain ⟨g, hg, rfl⟩ := map_inv h
          exact r_tst (eE C _ _ hg) (plT_ok hp _)
        · cases h
    · unfold compI at h
      split at h
      · rename_i f p as pos
        split at h
        · rename_i hf
          subst hf
          exact cRange_ok C h (paired_map (fun e => eE C e) _)
        · split at h
          · rename_i hf
            subst hf
            split at h
            · split at h
              · rename_i hc
                rw [Bool.and_eq_true] at hc
                obtain ⟨fa, hfa, rfl⟩ := map_inv h
                exact r_enm C.eK (C.gl hc.1) (C.blt _ (by simp [bltL])) (r_cons (eE C _ _ hfa) r_nil hc.2) hc.2
              · cases h
            · cases h
          · split at h
            · rename_i hf
              subst hf
              split at h
              · split at h
                · rename_i hc
                  simp only [Bool.and_eq_true] at hc
                  obtain ⟨⟨c1, c2⟩, c3⟩ := hc
                  split at h
                  · rename_i fa fb h1 h2
                    cases h
                    exact r_zip C.eK (C.gl c1) (C.blt _ (by simp [bltL])) (r_cons (eE C _ _ h1) (r_cons (eE C _ _ h2) r_nil c3) c2) c2 c3
                  · cases h
                · cases h
              · cases h
            · split at h
              · rename_i hf
                subst hf
                split at h
                · rename_i g pg a pos2
                  split at h
                  · rename_i hc
                    simp only [Bool.and_eq_true, decide_eq_true_eq] at hc
                    obtain ⟨⟨⟨c0, c1⟩, c2⟩, c3⟩ := hc
                    subst c0
                    obtain ⟨fa, hfa, rfl⟩ := map_inv h
                    exact r_rvr1 (C.gl c1) (C.blt _ (by simp [bltL])) (C.gl c2) (C.blt _ (by simp [bltL])) (eE C _ _ hfa) c3
                  · split at h
                    · rename_i c1
                      obtain ⟨fa, hfa, rfl⟩ := map_inv h
                      exact r_rev C.eK (C.gl c1) (C.blt _ (by simp [bltL])) (r_cons (eE C _ _ hfa) r_nil rfl) rfl
                    · cases h
                · split at h
                  · rename_i hc
                    rw [Bool.and_eq_true] at hc
                    obtain ⟨fa, hfa, rfl⟩ := map_inv h
                    exact r_rev C.eK (C.gl hc.1) (C.blt _ (by simp [bltL])) (r_cons (eE C _ _ hfa) r_nil hc.2) hc.2
                  · cases h
                · cases h
              · obtain ⟨fa, hfa, rfl⟩ := map_inv h
                exact r_seqI C.eK (eE C _ _ hfa)
      · split at h
        · obtain ⟨fa, hfa, rfl⟩ := map_inv h
          exact r_seqI C.eK (eE C _ _ hfa)
        · cases h
end Rf

/-! Rf9: statements, defs, the law. -/
namespace Rf
open PySem PySem.Spec PyProof.Rows L2

def noComp : Expr → Bool
  | .ListComp _ _ _ _ => false
  | .SetComp _ _ _ _ => false
  | .DictComp _ _ _ _ _ => false
  | _ => true
theorem noComp_ok {e : Expr} (h : noComp e = true) (t : Option Expr) (l : Nat) (env : Env) : swapsWith e t l env = pure false := by
  cases e <;> first | rfl | cases h
def noTup : Expr → Bool
  | .Tuple _ _ _ => false
  | .List _ _ => false
  | _ => true
theorem noTup_ok {tg e : Expr} (h : noTup tg = true ∨ noTup e = true) (env : Env) : swappedStores [tg] e env = pure none := by
  rcases h with h | h
  · cases tg <;> first | (cases h; done) | (cases e <;> rfl)
  · cases e <;> first | (cases h; done) | (cases tg <;> rfl)
def noNm : Expr → Bool
  | .Name _ _ => false
  | _ => true
theorem noNm_ok {e tg : Expr} (h : noComp e = true ∨ noNm tg = true) (l : Nat) (env : Env) : swapsWithSole [tg] e l env = pure false := by
  rcases h with h | h
  · exact noComp_ok h _ _ _
  · cases tg <;> first | (cases h; done) | (cases e <;> rfl)
theorem notLocal_ok {elt : Expr} {gs : List Comprehension} {scope : Scope} {pos py : Pos} {y : Str} {l : Nat} {env : Env} (hy : env.scope.names.lookup y ≠ some .local) : swapsWith (.ListComp elt gs scope pos) (some (.Name y py)) l env = pure false := by
  have ky : (env.kindOf y == some NameKind.local) = false := by
    rw [beq_eq_false_iff_ne]
    exact hy
  unfold swapsWith
  simp only [ky, Bool.and_false, Bool.false_and]
abbrev fuelW : Nat := 1000000
/-- a target, and a target of a loop -/
def cNm (N : List Str) (sc : Scope) (e : Expr) : Option Nat := match e with
  | .Name x _ => if isL sc x then ixOf N x else none
  | _ => none
def cG (G : GT) (N : List Str) (n : Nat) (sc : Scope) (tg : Expr) : Option SG := match tg with
  | .Name _ _ => (cNm N sc tg).map nameG
  | .Tuple es _ _ => if es.all nSt then (es.mapM (cNm N sc)).map fun is => tupG (is.map nameG) else none
  | .Subscript o i _ => if plIx i then (match compE G N n sc o, compE G N n sc i with
    | some fo, some fi => some (subG setI fo fi)
    | _, _ => none) else none
  | _ => none
def cY (N : List Str) (sc : Scope) (tg : Expr) : Option YG := match tg with
  | .Name _ _ => (cNm N sc tg).map nameY
  | .Tuple es _ _ => if es.all nSt then (es.mapM (cNm N sc)).map fun is => tupY (is.map nameG) else none
  | _ => none
def isLocal (sc : Scope) (x : Str) : Bool := match sc.names.lookup x with
  | some .local => true
  | _ => false
/-- is the comprehension one that stores by itself? -/
def swaps (sc scope : Scope) (x : Str) (py pos : Pos) : Option Bool :=
  if isLocal sc x then (if (py.line == pos.line) && !(scope.names.any fun (n, k) => n == x && (k == .local || k == .cell)) then some true else none) else some false
mutual
def compS (G : GT) (N : List Str) : Nat → Scope → Stmt → Option SS
  | 0, _, _ => none
  | n + 1, sc, st => match st with
    | .Expr e _ => if noComp e then (compE G N n sc e).map dropS else none
    | .Return (some e) _ => (compE G N n sc e).map retS
    | .Return none _ => some retN
    | .Pass _ => some nextS
    | .Continue _ => some contS
    | .Break _ => some brkS
    | .If c a b _ => (match compT G N n sc c, compSs G N n sc a, compSs G N n sc b with
      | some fc, some fa, some fb => some (ifS fc fa fb)
      | _, _, _ => none)
    | .While c b [] _ => (match compT G N n sc c, compSs G N n sc b with
      | some fc, some fb => some (whileS fc fb fuelW)
      | _, _ => none)
    | .For tg it b [] _ => (match compI G N n sc tg it, cY N sc tg, compSs G N n sc b with
      | some w, some g, some fb => if noSet it then some (forS w g fb) else none
      | _, _, _ => none)
    | .AugAssign (.Name x _) op e _ => (match cNm N sc (.Name x ⟨0, 0, 0, 0⟩), compE G N n sc e, inpF op with
      | some i, some fe, some f => some (augS f i fe)
      | _, _, _ => none)
    | .Assign [.Name x py] (.ListComp elt [⟨tg, it, ifs, 0⟩] scope pos) _ => (match cNm N sc (.Name x py), cLc N sc scope tg it ifs (compI G N n sc tg it) (ifs.map (compT G N n (relS scope sc))) (compE G N n (relS scope sc) elt), swaps sc scope x py pos with
      | some i, some f, some _ => some (asgS f (nameG i))
      | _, _, _ => none)
    | .Assign [tg] e _ => if nSt tg && (noTup tg || noTup e) && (noComp e || noNm tg) then (match cG G N n sc tg, compE G N n sc e with
      | some g, some fe => some (asgS fe g)
      | _, _ => none) else none
    | _ => none
def compSs (G : GT) (N : List Str) : Nat → Scope → List Stmt → Option SS
  | 0, _, _ => none
  | n + 1, sc, sts => match sts with
    | [] => some nextS
    | st :: r => (match compS G N n sc st, compSs G N n sc r with
      | some a, some b => some (seqS a b)
      | _, _ => none)
end

structure CtxS (X : Cx) (W : WR) (G : GT) (E : XK) (N : List Str) (sc : Scope) : Prop extends CtxE X W G (fun _ => E) N sc where
  own : PassesOwn (model X.prog X.w) X.A X.env X.xe
  fn : ∀ x, X.fn x = true
  kind : X.env.scope.kind = .function
section
variable {W : WR} {G : GT} {N : List Str} {sc : Scope} {X : Cx} {E : XK}
theorem cNm_ok (C : CtxS X W G E N sc) {tg : Expr} {i : Nat} (h : cNm N sc tg = some i) : ∃ x pos, tg = .Name x pos ∧ X.N.Nodup ∧ X.N[i]? = some x ∧ Loc X.env.scope x ∧ (X.fn x = true ∨ X.env.scope.names.lookup x = some .local) := by
  unfold cNm at h
  split at h
  · rename_i x pos
    split at h
    · rename_i hl
      exact ⟨x, pos, rfl, by rw [C.eN]; exact C.nd, by rw [C.eN]; exact ixOf_ok h, by rw [C.eS]; exact isL_ok hl, .inl (C.fn x)⟩
    · cases h
  · cases h
theorem cNms_ok (C : CtxS X W G E N sc) {es : List Expr} {is : List Nat} (h : Paired (fun e i => cNm N sc e = some i) es is) (hs : es.all nSt = true) : PGs X es (tGs W E (is.map nameG)) := by
  induction h with
  | nil => exact r_gnil
  | cons r t ih =>
    rw [List.all_cons, Bool.and_eq_true] at hs
    obtain ⟨x, pos, rfl, h1, h2, h3, h4⟩ := cNm_ok C r
    exact r_gcons (r_name h1 h2 h3 h4) (ih hs.2) rfl
theorem cG_ok (C : CtxS X W G E N sc) {n : Nat} {tg : Expr} {g : SG} (h : cG G N n sc tg = some g) : PG X tg (tG W E g) := by
  unfold cG at h
  split at h
  · obtain ⟨i, hi, rfl⟩ := map_inv h
    obtain ⟨x, pos, e, h1, h2, h3, h4⟩ := cNm_ok C hi
    cases e
    exact r_name h1 h2 h3 h4
  · rename_i es k pos
    split at h
    · rename_i hs
      obtain ⟨is, hi, rfl⟩ := map_inv h
      have pr := mapM_inv hi
      exact r_gtup C.eK C.calm (cNms_ok C pr hs) (by rw [List.length_map]; exact pr.length) hs
    · cases h
  · rename_i o i pos
    split at h
    · rename_i hp
      split at h
      · rename_i fo fi h1 h2
        cases h
        exact r_gsub set_ok ((sound W G N n).1 _ _ _ h1 _ _ C.toCtxE) ((sound W G N n).1 _ _ _ h2 _ _ C.toCtxE) hp
      · cases h
    · cases h
  · cases h
theorem cY_ok (C : CtxS X W G E N sc) {tg : Expr} {g : YG} (h : cY N sc tg = some g) : ∃ t, GY X W E tg t g := by
  unfold cY at h
  split at h
  · obtain ⟨i, hi, rfl⟩ := map_inv h
    obtain ⟨x, pos, e, h1, h2, h3, h4⟩ := cNm_ok C hi
    cases e
    exact ⟨_, r_nameY h1 h2 h3 h4⟩
  · rename_i es k pos
    split at h
    · rename_i hs
      obtain ⟨is, hi, rfl⟩ := map_inv h
      have pr := mapM_inv hi
      exact ⟨_, r_tupY C.eK C.calm (cNms_ok C pr hs) (by rw [List.length_map]; exact pr.length) hs⟩
    · cases h
  · cases h
theorem isLocal_ok {x : Str} (h : isLocal sc x = true) : sc.names.lookup x = some .local := by
  unfold isLocal at h
  split at h
  · assumption
  · cases h
/-- name = [..]: the comprehension stores it -/
theorem r_setLc {i : Nat} {y : Str} {py : Pos} {elt tg iter : Expr} {ifs : List Expr} {scope : Scope} {pos spos : Pos} {wi : TI} {g : TG} {tt : TT} {te : TE} {own : List (Str × Nat)} {f : SE} (hc : X.calm = true) (hN : X.N.Nodup) (hy : X.N[i]? = some y) (hyl : X.env.scope.names.lookup y = some .local)
    (hsw : swapsWith (.ListComp elt [⟨tg, iter, ifs, 0⟩] scope pos) (some (.Name y py)) spos.line X.env = pure true) (hi : PI X tg iter wi) (ok : BlkOk X.N X.env.scope scope own)
    (hg : ∀ (s : Shared) (H : Hp) (C : Addr) (cl : List (Str × Addr)) (fp : List Addr), PG (X.blk s H scope (compEnvC scope cl C X.env) fp) tg g) (ht : ∀ (s : Shared) (H : Hp) (C : Addr) (cl : List (Str × Addr)) (fp : List Addr), PTs (X.blk s H scope (compEnvC scope cl C X.env) fp) ifs tt)
    (he : ∀ (s : Shared) (H : Hp) (C : Addr) (cl : List (Str × Addr)) (fp : List Addr), PE (X.blk s H scope (compEnvC scope cl C X.env) fp) elt te) (hs : ∀ x, foldedSetIterable iter X.env x = pure x)
    (w : ∀ σ H Q, tE W (fun _ => E) f σ H Q → tLc wi g tt te (own.map (·.2)) σ H Q) : PS X (.Assign [.Name y py] (.ListComp elt [⟨tg, iter, ifs, 0⟩] scope pos) spos) (tS W E (asgS f (nameG i))) :=
  PS.wk (ps_setLc hc hN hy hyl hsw hi ok hg ht he hs) fun D σ H ⟨M, S, env, R, r, p⟩ => w σ H _ ⟨M, S, env, R, r, (PoS.bd (RA := RV) p).imp fun x H1 ⟨M1, S1, x1, h1, R1, q1, p1⟩ => p1 M1 H1 _ (pre_refl _) R1 ((r.mono h1).set q1)⟩
/-- the parts of a comprehension's derivation, for one that stores -/
theorem cLc_parts (C : CtxE X W G (fun _ => E) N sc) {scope : Scope} {tg it elt : Expr} {ifs : List Expr} {pos py spos : Pos} {y : Str} {i : Nat} {fi : Option SI} {ft : List (Option SB)} {fe : Option SE} {f : SE} (h : cLc N sc scope tg it ifs fi ft fe = some f)
    (hi : ∀ w, fi = some w → PI X tg it (tI W (fun _ => E) w)) (ht : ∀ (s : Shared) (H : Hp) (Cd : Addr) (cl : List (Str × Addr)) (fp : List Addr), Paired (fun e o => ∀ f, o = some f → PT (X.blk s H scope (compEnvC scope cl Cd X.env) fp) e (tB W (fun _ => E0) f)) ifs ft)
    (he : ∀ (s : Shared) (H : Hp) (Cd : Addr) (cl : List (Str × Addr)) (fp : List Addr) f, fe = some f → PE (X.blk s H scope (compEnvC scope cl Cd X.env) fp) elt (tE W (fun _ => E0) f)) (hy : X.N[i]? = some y) (hyl : X.env.scope.names.lookup y = some .local)
    (hsw : swapsWith (.ListComp elt [⟨tg, it, ifs, 0⟩] scope pos) (some (.Name y py)) spos.line X.env = pure true) : PS X (.Assign [.Name y py] (.ListComp elt [⟨tg, it, ifs, 0⟩] scope pos) spos) (tS W E (asgS f (nameG i))) := by
  unfold cLc at h
  split at h
  · rename_i ct own hct
    split at h
    · rename_i hc
      simp only [Bool.and_eq_true] at hc
      obtain ⟨⟨h1, h2⟩, h3⟩ := hc
      obtain ⟨t1, t2⟩ := cTg_ok C hct h2
      have bo : BlkOk X.N X.env.scope scope own := by rw [C.eN, C.eS]; exact blkOk_by h1
      have nd : X.N.Nodup := by rw [C.eN]; exact C.nd
      split at h
      · cases h
        exact r_setLc (tt := tYes) C.calm nd hy hyl hsw (hi _ rfl) bo t2 (fun _ _ _ _ _ => pts_nil) (fun s H Cd cl fp => he s H Cd cl fp _ rfl) (noSet_ok h3 _) (fun σ H Q q => lcTop t1 (fun σ H Q ⟨M, S, env, R, r, p⟩ => p.ok R rfl) q)
      · cases h
        exact r_setLc C.calm nd hy hyl hsw (hi _ rfl) bo t2 (fun s H Cd cl fp => by
          cases ht s H Cd cl fp with
          | cons r _ => exact pts_one (r _ rfl)) (fun s H Cd cl fp => he s H Cd cl fp _ rfl) (noSet_ok h3 _) (fun σ H Q q => lcTop t1 (fun σ H Q q => q) q)
      · cases h
    · cases h
  · cases h
end
theorem soundS (W : WR) (G : GT) (N : List Str) : ∀ n : Nat,
    (∀ sc st f, compS G N n sc st = some f → ∀ X E, CtxS X W G E N sc → PS X st (tS W E f)) ∧ (∀ sc sts f, compSs G N n sc sts = some f → ∀ X E, CtxS X W G E N sc → PSs X sts (tS W E f)) := by
  intro n
  induction n with
  | zero => exact ⟨fun _ _ _ h => by (unfold compS at h; cases h), fun _ _ _ h => by (unfold compSs at h; cases h)⟩
  | succ n ih =>
    obtain ⟨ihS, ihSs⟩ := ih
    obtain ⟨sE, sT, sI⟩ := sound W G N n
    refine ⟨fun sc st f h X E C => ?_, fun sc sts f h X E C => ?_⟩
    · have Ce := C.toCtxE
      unfold compS at h
      split at h
      · split at h
        · rename_i hc
          obtain ⟨g, hg, rfl⟩ := map_inv h
          exact r_drop (sE _ _ _ hg _ _ Ce) (noComp_ok hc _ _ _)
        · cases h
      · obtain ⟨g, hg, rfl⟩ := map_inv h
        exact r_ret (sE _ _ _ hg _ _ Ce)
      · cases h; exact r_retN
      · cases h; exact r_pass
      · cases h; exact r_cont
      · cases h; exact r_brk
      · split at h
        · rename_i h1 h2 h3
          cases h
          exact r_if (sT _ _ _ h1 _ _ Ce) (ihSs _ _ _ h2 _ _ C) (ihSs _ _ _ h3 _ _ C)
        · cases h
      · split at h
        · rename_i h1 h2
          cases h
          exact r_while C.own (sT _ _ _ h1 _ _ Ce) (ihSs _ _ _ h2 _ _ C)
        · cases h
      · split at h
        · rename_i h1 h2 h3
          split at h
          · rename_i hs
            cases h
            obtain ⟨t, G'⟩ := cY_ok C h2
            exact r_for C.own C.calm (sI _ _ _ _ h1 _ _ Ce) G' (ihSs _ _ _ h3 _ _ C) (noSet_ok hs _)
          · cases h
        · cases h
      · split at h
        · rename_i h1 h2 h3
          cases h
          obtain ⟨x, pos, e, g1, g2, g3, g4⟩ := cNm_ok C h1
          cases e
          exact r_aug g1 g2 g3 (sE _ _ _ h2 _ _ Ce) (inpF_ok h3) g4
        · cases h
      · rename_i x py elt tg it ifs scope pos spos
        split at h
        · rename_i i f b h1 h2 h3
          cases h
          obtain ⟨y, py2, e, g1, g2, g3, g4⟩ := cNm_ok C h1
          cases e
          unfold swaps at h3
          split at h3
          · rename_i hl
            split at h3
            · rename_i hb2
              rw [Bool.and_eq_true, Bool.not_eq_true'] at hb2
              have hyl : X.env.scope.names.lookup x = some .local := by rw [C.eS]; exact isLocal_ok hl
              have hk : X.env.scope.kind = .function := C.kind
              exact cLc_parts Ce h2 (fun w hw => sI _ _ _ _ hw _ _ Ce) (fun s H Cd cl fp => paired_map (fun e f hf => sT _ _ _ hf _ _ (Ce.blk s H scope cl Cd fp)) _) (fun s H Cd cl fp f hf => sE _ _ _ hf _ _ (Ce.blk s H scope cl Cd fp)) g2 hyl (sw_true hk hyl hb2.1 hb2.2)
            · cases h3
          · rename_i hl
            have hyl : X.env.scope.names.lookup x ≠ some .local := by
              rw [C.eS]
              intro e
              apply hl
              unfold isLocal
              rw [e]
            exact r_asg (cLc_ok Ce h2 (fun w hw => sI _ _ _ _ hw _ _ Ce) (fun s H Cd cl fp => paired_map (fun e f hf => sT _ _ _ hf _ _ (Ce.blk s H scope cl Cd fp)) _) (fun s H Cd cl fp f hf => sE _ _ _ hf _ _ (Ce.blk s H scope cl Cd fp))) (r_name g1 g2 g3 g4) (notLocal_ok (l := spos.line) hyl) (noTup_ok (.inl rfl) _) rfl
        · cases h
      · rename_i tg e pos _
        split at h
        · rename_i hc
          simp only [Bool.and_eq_true, Bool.or_eq_true] at hc
          obtain ⟨⟨c1, c2⟩, c3⟩ := hc
          split at h
          · rename_i g fe h1 h2
            cases h
            exact r_asg (sE _ _ _ h2 _ _ Ce) (cG_ok C h1) (noNm_ok c3 _ _) (noTup_ok c2 _) c1
          · cases h
        · cases h
      · cases h
    · unfold compSs at h
      split at h
      · cases h; exact r_snil
      · split at h
        · rename_i h1 h2
          cases h
          exact r_scons (ihS _ _ _ h1 _ _ C) (ihSs _ _ _ h2 _ _ C)
        · cases h
/-! ### defs -/
def mkFn (n m : Nat) (b : SS) : List MV → Stor → Res MV := fun as S => if as.length = n then (match b (as.map some ++ List.replicate (m - n) none) S with
  | .ok (.nx _) S' => .ok .non S'
  | .ok (.rt v) S' => .ok v S'
  | .err x S' => .err x S'
  | _ => .bad) else .bad
theorem mkFn_len {n m : Nat} {b : SS} (as : List MV) (S : Stor) (h : as.length ≠ n) : mkFn n m b as S = .bad := if_neg h
/-- what is known of the table, by the module's facts; k: the greatest level in it -/
structure GOk (P : Program) (w : World) (K : PySem.W.Frag) (mg : Str → Option Value) (base : Heap) (W : WR) (G : GT) (k : Nat) : Prop where
  fns : ∀ x n F, G.fns.lookup x = some (n, F) → ∃ j f fd ps, j ≤ k ∧ FnOk P w K mg base (L2.CX P w) j f fd ps (spR W n F) ∧ mg x = some (.ref f) ∧ PySem.W.keepIn K (.ref f) = true ∧ Binds K fd ps [] ∧ ∀ as S, as.length ≠ n → F as S = .bad
  cons : ∀ x v, G.cons.lookup x = some v → ∃ u w, mg x = some u ∧ RelV w u ∧ ∀ M, W.gl <+: M → RV M v w
  blt : ∀ x ∈ bltL, mg x = none
section
variable {P : Program} {w : World} {K : PySem.W.Frag} {mg : Str → Option Value} {base : Heap} {W : WR} {G : GT}
theorem renv_start {M : List Addr} {as : List MV} {vs : List V} {N : List Str} {n : Nat} (r : RVs M as vs) (hn : as.length = n) : REnv M (as.map some ++ List.replicate (N.length - n) none) (L2.start N vs) := by
  have hl := r.len
  unfold L2.start
  refine ⟨by simp [hl, hn]; omega, fun i v e => ?_⟩
  by_cases hi : i < as.length
  · rw [List.getElem?_append_left (by simpa using hi), List.getElem?_map] at e
    cases e2 : as[i]? with
    | none => rw [e2] at e; cases e
    | some v' =>
      rw [e2] at e
      cases e
      obtain ⟨w, h1, h2⟩ := r.get e2
      refine ⟨w, ?_, h2⟩
      rw [List.getElem?_append_left (by rw [List.length_map, ← hl]; exact hi), List.getElem?_map, h1]
      rfl
  · rw [List.getElem?_append_right (by simpa using hi)] at e
    rw [List.getElem?_replicate] at e
    split at e <;> cases e
theorem def_ok {x qual : Str} {st : Stmt} {f : Addr} {fd : FuncData} {N ps : List Str} {k n : Nat} {b : SS} (hK : K = W.K) (F : Fun K x qual st f fd) (S : FnScope N ps (defScope st)) (gk : GOk P w K mg base W G k) (hb : compSs G N n (defScope st) (defBody st) = some b) :
    FnOk P w K mg base (L2.CX P w) (k + 1) f fd ps (spR W ps.length (mkFn ps.length N.length b)) := by
  refine F.okX S (fun vs H Q E h => h.1) (fun cdv A outer s H vs Q E hr h => ?_)
  obtain ⟨hl, M, St, as, R, ra, p⟩ := h
  have hla : as.length = ps.length := by rw [ra.len]; exact hl
  have tk : Takes (cxOf (L2.CX P w) P w K mg base N qual (defScope st) f cdv A outer s H E) (fun cls d _ H => E cls d H) := takes_of rfl rfl rfl rfl
  have C : CtxS (cxOf (L2.CX P w) P w K mg base N qual (defScope st) f cdv A outer s H E) W G E N (defScope st) :=
    { eK := hK, eN := rfl, nd := S.nd, eS := rfl, calm := rfl, units := hr.units, cons := gk.cons, blt := gk.blt,
      fns := fun x n F hF => by
        obtain ⟨j, f, fd, ps, hj, h1, h2, h3, h4, h5⟩ := gk.fns x n F hF
        exact ⟨j, f, fd, ps, h1, hr.mono hj, h2, h3, h4, h5⟩
      pass := fun σ pins H' s' e s'' I c => passes_call tk (fun _ _ _ _ h => h) pins σ H' s' e s'' I c
      own := passes_of rfl, fn := fun _ => rfl, kind := S.kind }
  refine ⟨_, (soundS W G N n).2 _ _ _ hb _ _ C, M, St, _, R, renv_start ra hla, ?_⟩
  unfold mkFn at p
  rw [if_pos hla] at p
  generalize b (as.map some ++ List.replicate (N.length - ps.length) none) St = q at p ⊢
  cases q with
  | bad => exact p
  | err x S' => exact p
  | ok o S' =>
    cases o with
    | nx env => exact fun M' H' σ' h R' r' => p M' H' .non h R' rfl
    | rt v => exact p
    | bk env => exact False.elim p
    | ct env => exact False.elim p
/-- one more def in the table -/
theorem GOk.add {x : Str} {f : Addr} {fd : FuncData} {ps : List Str} {k n : Nat} {F : List MV → Stor → Res MV} (gk : GOk P w K mg base W G k) (h1 : FnOk P w K mg base (L2.CX P w) (k + 1) f fd ps (spR W n F)) (h2 : mg x = some (.ref f)) (h3 : PySem.W.keepIn K (.ref f) = true) (h4 : Binds K fd ps [])
    (h5 : ∀ as S, as.length ≠ n → F as S = .bad) : GOk P w K mg base W ⟨(x, n, F) :: G.fns, G.cons⟩ (k + 1) := by
  refine ⟨fun y m F' h => ?_, gk.cons, gk.blt⟩
  have h : (match y == x with
    | true => some (n, F)
    | false => G.fns.lookup y) = some (m, F') := h
  split at h
  · rename_i e
    cases h
    rw [eq_of_beq e]
    exact ⟨k + 1, f, fd, ps, Nat.le_refl _, h1, h2, h3, h4, h5⟩
  · obtain ⟨j, f, fd, ps, hj, r⟩ := gk.fns y m F' h
    exact ⟨j, f, fd, ps, Nat.le_succ_of_le hj, r⟩
theorem GOk.nil (hc : ∀ x v, G.cons.lookup x = some v → ∃ u w, mg x = some u ∧ RelV w u ∧ ∀ M, W.gl <+: M → RV M v w) (hb : ∀ x ∈ bltL, mg x = none) : GOk P w K mg base W ⟨[], G.cons⟩ 0 := ⟨(fun _ _ _ h => nomatch h), hc, hb⟩
end
/-! ### the law -/
/-- the law's promise: for a store that holds the module's objects and then the script -/
def spLaw (K : PySem.W.Frag) (F : List MV → Stor → Res MV) : Sp := fun vs H Q E => vs.length = 1 ∧ ∃ W : WR, W.K = K ∧ W.gl = [] ∧ spR W 1 F vs H Q E
theorem RSt.script {W : WR} {H : Hp} {a : Addr} {ns : List Int} (hg : W.gl = []) (hO : Only H) (hS : SqL W.K H a (ns.map V.int)) : RSt W [a] [.flst (ns.map .int)] H := by
  refine ⟨by rw [hg]; exact ⟨[a], rfl⟩, rfl, fun i o b e e' => ?_, fun i j b o o' _ _ s1 _ m1 _ => ?_⟩
  · cases i with
    | succ i => cases i <;> cases e
    | zero =>
      cases e
      cases e'
      refine ⟨ns.map V.int, ?_, ints_rvs ns⟩
      rcases hS with (h | ⟨o, h⟩) | h
      · rcases hO a with z | ⟨ob, xs, z⟩
        · rw [h] at z; cases z
        · rw [h] at z; cases z
      · exact .inl ⟨o, h⟩
      · exact .inr h
  · cases i with
    | succ i => cases i <;> cases s1
    | zero => cases s1; cases m1
end Rf

/-! Rf10: the law's head. -/
namespace Rf
open PySem PySem.Spec PyProof.Rows L2

/-- the law is called with a list of at most 63 ints, and nothing else of ours is there -/
def spScr (K : PySem.W.Frag) : Sp := fun vs H Q _ => ∃ (a : Addr) (ns : List Int), vs = [.ref a] ∧ ns.length ≤ 63 ∧ Only H ∧ SqL K H a (ns.map V.int) ∧ ∀ H', Q (.bl true) H'
/-- the module's objects, as the store holds them -/
def Glo (W : WR) (gs : List MO) : Prop := gs.length = W.gl.length ∧ ∀ (i : Nat) o a, gs[i]? = some o → W.gl[i]? = some a → isM o = false ∧ ∃ ys, KTup W.K a ys ∧ ∃ xs, o = .tup xs ∧ RVs W.gl xs ys
theorem Glo.nil {W : WR} (h : W.gl = []) : Glo W [] := ⟨by rw [h]; rfl, fun i o a e => by simp at e⟩
theorem RSt.head {W : WR} {H : Hp} {a : Addr} {ns : List Int} {gs : List MO} (G : Glo W gs) (hO : Only H) (hS : SqL W.K H a (ns.map V.int)) : RSt W (W.gl ++ [a]) (gs ++ [.flst (ns.map .int)]) H := by
  obtain ⟨hl, hg⟩ := G
  have key : ∀ (i : Nat) o b, (gs ++ [MO.flst (ns.map .int)])[i]? = some o → (W.gl ++ [a])[i]? = some b → isM o = false ∧ RO W (W.gl ++ [a]) H b o := fun i o b e e' => by
    by_cases hi : i < gs.length
    · rw [List.getElem?_append_left hi] at e
      rw [List.getElem?_append_left (by omega)] at e'
      obtain ⟨h1, ys, h2, xs, rfl, h3⟩ := hg i o b e e'
      exact ⟨h1, ys, .inr h2, h3.mono (pre_app _ _)⟩
    · rw [List.getElem?_append_right (by omega)] at e
      rw [List.getElem?_append_right (by omega)] at e'
      rw [← hl] at e'
      cases hj : i - gs.length with
      | succ j => rw [hj] at e; simp at e
      | zero =>
        rw [hj] at e e'
        cases e
        cases e'
        refine ⟨rfl, ns.map V.int, ?_, ints_rvs ns⟩
        rcases hS with (h | ⟨o, h⟩) | h
        · rcases hO a with z | ⟨ob, xs, z⟩
          · rw [h] at z; cases z
          · rw [h] at z; cases z
        · exact .inl ⟨o, h⟩
        · exact .inr h
  refine ⟨pre_app _ _, by simp [hl], fun i o b e e' => (key i o b e e').2, fun i j b o o' e1 e2 s1 s2 m1 m2 => ?_⟩
  have := (key i o b s1 e1).1
  rw [m1] at this
  cases this
theorem spScr_by {K : PySem.W.Frag} {W : WR} {gs : List MO} {F : List MV → Stor → Res MV} (hK : W.K = K) (G : Glo W gs) (t : ∀ ns : List Int, ns.length ≤ 63 → ∃ S', F [.ref gs.length] (gs ++ [.flst (ns.map .int)]) = .ok (.bl true) S') :
    ∀ vs H Q E, spScr K vs H Q E → spR W 1 F vs H Q E := fun vs H Q E h => by
  obtain ⟨a, ns, rfl, hl, hO, hS, q⟩ := h
  subst hK
  obtain ⟨S', e⟩ := t ns hl
  refine ⟨rfl, _, _, [.ref gs.length], RSt.head G hO hS, .cons ⟨a, ?_, rfl⟩ .nil, ?_⟩
  · rw [G.1, List.getElem?_append_right (Nat.le_refl _), Nat.sub_self]
    rfl
  · rw [e]
    intro M' H' b _ _ r
    cases r
    exact q H'
theorem noCX {P : Program} {w : World} {H : Hp} {s s' : Shared} {e : Value} {o : List Env} (h : L2.CX P w o H s (fun _ _ _ => False) e s') : False := by
  obtain ⟨_, _, _, _, _, _, _, _, _, _, _, _, z⟩ := h
  exact z
end Rf
namespace Rf
open PySem PySem.Spec PyProof.Rows L2
/-- the module's names that a law reads -/
def ConOk (mg : Str → Option Value) (W : WR) (l : List (Str × MV)) : Prop := ∀ x v, l.lookup x = some v → ∃ u w, mg x = some u ∧ RelV w u ∧ ∀ M, W.gl <+: M → RV M v w
theorem ConOk.nil {mg : Str → Option Value} {W : WR} : ConOk mg W [] := fun x v h => nomatch h
theorem ConOk.add {mg : Str → Option Value} {W : WR} {l : List (Str × MV)} {x : Str} {v : MV} {u : Value} {w : V} (e : mg x = some u) (r : RelV w u) (h : ∀ M, W.gl <+: M → RV M v w) (t : ConOk mg W l) : ConOk mg W ((x, v) :: l) := fun y z e2 => by
  have e2 : (match y == x with
    | true => some v
    | false => l.lookup y) = some z := e2
  split at e2
  · rename_i q
    cases e2
    rw [eq_of_beq q]
    exact ⟨u, w, e, r, h⟩
  · exact t y z e2
theorem ConOk.int {mg : Str → Option Value} {W : WR} {l : List (Str × MV)} {x : Str} {i : Int} {t : Tok} (r : ConOk mg W l) (e : mg x = some (.int i t)) : ConOk mg W ((x, .int i) :: l) := .add (w := V.int i) e ⟨_, rfl⟩ (fun _ _ => rfl) r
theorem ConOk.str {mg : Str → Option Value} {W : WR} {l : List (Str × MV)} {x : Str} {s : Str} {t : Tok} (r : ConOk mg W l) (e : mg x = some (.str s t)) : ConOk mg W ((x, .str s) :: l) := .add (w := V.str s) e ⟨_, rfl⟩ (fun _ _ => rfl) r
end Rf

/-! Rf11: readings of the store semantics (weakest preconditions), loops by invariants. -/
namespace Rf
open PySem PySem.Spec PyProof.Rows L2

@[irreducible] def Wp {α : Type} (r : Res α) (Q : α → Stor → Prop) : Prop := match r with
  | .ok a S => Q a S
  | _ => False
theorem Wp_ok {α : Type} {a : α} {S : Stor} {Q : α → Stor → Prop} : Wp (.ok a S) Q = Q a S := by with_unfolding_all exact propext Iff.rfl
theorem Wp_bd {α β : Type} {r : Res α} {k : α → Stor → Res β} {Q : β → Stor → Prop} : Wp (r.bd k) Q = Wp r fun a S => Wp (k a S) Q := by with_unfolding_all (cases r <;> rfl)
theorem Wp_bdN {α β : Type} {r : Res α} {k : α → Stor → Res β} {Q : β → Stor → Prop} : Wp (r.bdN k) Q = Wp r fun a S => Wp (k a S) Q := by with_unfolding_all (cases r <;> rfl)
theorem Wp.mono {α : Type} {r : Res α} {Q Q' : α → Stor → Prop} (h : Wp r Q) (i : ∀ a S, Q a S → Q' a S) : Wp r Q' := by
  with_unfolding_all
    cases r with
    | ok a S => exact i _ _ h
    | err x S => exact h
    | bad => exact h
theorem Wp.out {α : Type} {r : Res α} {Q : α → Stor → Prop} (h : Wp r Q) : ∃ a S, r = .ok a S ∧ Q a S := by
  with_unfolding_all
    cases r with
    | ok a S => exact ⟨a, S, rfl, h⟩
    | err x S => exact False.elim h
    | bad => exact False.elim h
theorem Wp_ite {α : Type} {c : Prop} [Decidable c] {a : Res α} {Q : α → Stor → Prop} : Wp (if c then a else .bad) Q = (c ∧ Wp a Q) := by
  with_unfolding_all
    by_cases h : c
    · rw [if_pos h]
      exact propext ⟨fun q => ⟨h, q⟩, fun q => q.2⟩
    · rw [if_neg h]
      exact propext ⟨fun q => q.elim, fun q => h q.1⟩
/-! ### statements -/
def SeqK (b : SS) (Q : Out → Stor → Prop) : Out → Stor → Prop := fun o S => match o with
  | .nx env => Wp (b env S) Q
  | o => Q o S
def IfK {β : Type} (a b : MEnv → Stor → Res β) (env : MEnv) (Q : β → Stor → Prop) (d : Bool) (S : Stor) : Prop := Wp ((if d then a else b) env S) Q
def RetK (Q : MV → Stor → Prop) : Out → Stor → Prop := fun o S => match o with
  | .nx _ => Q .non S
  | .rt v => Q v S
  | _ => False
def LoopK (J : MEnv → Stor → Prop) (Q : Out → Stor → Prop) : Out → Stor → Prop := fun o S => match o with
  | .nx env => J env S
  | .ct env => J env S
  | .bk env => Q (.nx env) S
  | .rt v => Q (.rt v) S
section
variable {env : MEnv} {S : Stor} {Q : Out → Stor → Prop} {a b : SS} {c : SB} {e : SE} {R : MV → Stor → Prop} {v : MV} {J : MEnv → Stor → Prop}
theorem SeqK_nx : SeqK b Q (.nx env) S = Wp (b env S) Q := by with_unfolding_all exact propext Iff.rfl
theorem SeqK_rt : SeqK b Q (.rt v) S = Q (.rt v) S := propext Iff.rfl
theorem SeqK_ct : SeqK b Q (.ct env) S = Q (.ct env) S := propext Iff.rfl
theorem SeqK_bk : SeqK b Q (.bk env) S = Q (.bk env) S := propext Iff.rfl
theorem RetK_nx : RetK R (.nx env) S = R .non S := propext Iff.rfl
theorem RetK_rt : RetK R (.rt v) S = R v S := propext Iff.rfl
theorem LoopK_nx : LoopK J Q (.nx env) S = J env S := propext Iff.rfl
theorem LoopK_ct : LoopK J Q (.ct env) S = J env S := propext Iff.rfl
theorem LoopK_bk : LoopK J Q (.bk env) S = Q (.nx env) S := propext Iff.rfl
theorem LoopK_rt : LoopK J Q (.rt v) S = Q (.rt v) S := propext Iff.rfl
theorem e_seq : Wp (seqS a b env S) Q = Wp (a env S) (SeqK b Q) := by
  with_unfolding_all
    unfold seqS
    rw [Wp_bd]
    congr 1
    funext o S1
    cases o <;> rfl
theorem e_next : Wp (nextS env S) Q = Q (.nx env) S := by with_unfolding_all exact propext Iff.rfl
theorem e_cont : Wp (contS env S) Q = Q (.ct env) S := by with_unfolding_all exact propext Iff.rfl
theorem e_brk : Wp (brkS env S) Q = Q (.bk env) S := by with_unfolding_all exact propext Iff.rfl
theorem e_retN : Wp (retN env S) Q = Q (.rt .non) S := by with_unfolding_all exact propext Iff.rfl
theorem e_ret : Wp (retS e env S) Q = Wp (e env S) fun v S1 => Q (.rt v) S1 := by with_unfolding_all (unfold retS; rw [Wp_bd]; rfl)
theorem e_drop : Wp (dropS e env S) Q = Wp (e env S) fun v S1 => Q (.nx env) S1 := by with_unfolding_all (unfold dropS; rw [Wp_bd]; rfl)
theorem e_if : Wp (ifS c a b env S) Q = Wp (c env S) (IfK a b env Q) := by
  with_unfolding_all
    unfold ifS
    rw [Wp_bd]
    congr 1
    funext d S1
    cases d <;> rfl
theorem IfK_t {β : Type} {a b : MEnv → Stor → Res β} {Q : β → Stor → Prop} : IfK a b env Q true S = Wp (a env S) Q := by with_unfolding_all exact propext Iff.rfl
theorem IfK_f {β : Type} {a b : MEnv → Stor → Res β} {Q : β → Stor → Prop} : IfK a b env Q false S = Wp (b env S) Q := by with_unfolding_all exact propext Iff.rfl
theorem IfK_by {β : Type} {a b : MEnv → Stor → Res β} {Q : β → Stor → Prop} {d : Bool} (h1 : d = true → Wp (a env S) Q) (h2 : d = false → Wp (b env S) Q) : IfK a b env Q d S := by
  with_unfolding_all
    cases d
    · exact h2 rfl
    · exact h1 rfl
theorem IfK_dec {β : Type} {a b : MEnv → Stor → Res β} {Q : β → Stor → Prop} {p : Prop} [Decidable p] (h1 : p → Wp (a env S) Q) (h2 : ¬p → Wp (b env S) Q) : IfK a b env Q (decide p) S := by with_unfolding_all exact (IfK_by (fun h => h1 (of_decide_eq_true h)) (fun h => h2 (of_decide_eq_false h)))
theorem e_asg {i : Nat} : Wp (asgS e (nameG i) env S) Q = Wp (e env S) fun v S1 => Q (.nx (env.set i (some v))) S1 := by
  with_unfolding_all
    unfold asgS nameG
    rw [Wp_bd]
    rfl
theorem e_asgG {g : SG} : Wp (asgS e g env S) Q = Wp (e env S) fun v S1 => Wp (g v env S1) fun env1 S2 => Q (.nx env1) S2 := by
  with_unfolding_all
    unfold asgS
    rw [Wp_bd]
    congr 1
    funext v S1
    rw [Wp_bd]
    rfl
theorem e_subG {f : MV → MV → MV → Stor → Res Unit} {o i : SE} {P : MEnv → Stor → Prop} : Wp (subG f o i v env S) P = Wp (o env S) fun x S1 => Wp (i env S1) fun y S2 => Wp (f x y v S2) fun _ S3 => P env S3 := by
  with_unfolding_all
    unfold subG
    rw [Wp_bd]
    congr 1
    funext x S1
    rw [Wp_bd]
    congr 1
    funext y S2
    rw [Wp_bd]
    rfl
def VarK (Q : MV → Stor → Prop) (S : Stor) : Option (Option MV) → Prop
  | some (some v) => Q v S
  | _ => False
theorem VarK_s {Q : MV → Stor → Prop} : VarK Q S (some (some v)) = Q v S := propext Iff.rfl
theorem e_aug {f : MV → MV → Stor → Res MV} {i : Nat} : Wp (augS f i e env S) Q = VarK (fun x _ => Wp (e env S) fun y S1 => Wp (f x y S1) fun z S2 => Q (.nx (env.set i (some z))) S2) S env[i]? := by
  with_unfolding_all
    unfold augS
    cases h : env[i]? with
    | none => rfl
    | some o =>
      cases o with
      | none => rfl
      | some x =>
        show Wp ((e env S).bd _) Q = Wp (e env S) _
        rw [Wp_bd]
        congr 1
        funext y S1
        rw [Wp_bd]
        rfl
theorem e_fn {n m : Nat} {as : List MV} (h : as.length = n) : Wp (mkFn n m b as S) R = Wp (b (as.map some ++ List.replicate (m - n) none) S) (RetK R) := by
  with_unfolding_all
    unfold mkFn
    rw [if_pos h]
    generalize b (as.map some ++ List.replicate (m - n) none) S = r
    cases r with
    | bad => rfl
    | err x S => rfl
    | ok o S => cases o <;> rfl
end
/-! ### expressions -/
section
variable {env : MEnv} {S : Stor} {Q : MV → Stor → Prop} {QL : List MV → Stor → Prop} {QB : Bool → Stor → Prop} {a b c : SE} {p q : SB} {r : SA} {v : MV}
theorem e_var {i : Nat} : Wp (varS i env S) Q = VarK Q S env[i]? := by
  with_unfolding_all
    unfold varS
    cases h : env[i]? with
    | none => rfl
    | some o => cases o <;> rfl
theorem e_c : Wp (cS v env S) Q = Q v S := by with_unfolding_all exact propext Iff.rfl
theorem e_bin {f : MV → MV → Stor → Res MV} : Wp (binS f a b env S) Q = Wp (a env S) fun x S1 => Wp (b env S1) fun y S2 => Wp (f x y S2) Q := by
  with_unfolding_all
    unfold binS
    rw [Wp_bd]
    congr 1
    funext x S1
    rw [Wp_bd]
theorem e_un {f : MV → Stor → Res MV} : Wp (unS f a env S) Q = Wp (a env S) fun x S1 => Wp (f x S1) Q := by with_unfolding_all (unfold unS; rw [Wp_bd])
theorem e_nil : Wp (nilS env S) QL = QL [] S := by with_unfolding_all exact propext Iff.rfl
theorem e_cons : Wp (consS a r env S) QL = Wp (a env S) fun x S1 => Wp (r env S1) fun xs S2 => QL (x :: xs) S2 := by
  with_unfolding_all
    unfold consS
    rw [Wp_bd]
    congr 1
    funext x S1
    rw [Wp_bd]
    rfl
theorem e_app {F : List MV → Stor → Res MV} : Wp (appS F r env S) Q = Wp (r env S) fun vs S1 => Wp (F vs S1) Q := by with_unfolding_all (unfold appS; rw [Wp_bd])
def TstK (Q : Bool → Stor → Prop) : MV → Stor → Prop := fun v S => match v with
  | .bl b => Q b S
  | _ => False
theorem TstK_bl {d : Bool} : TstK QB (.bl d) S = QB d S := propext Iff.rfl
theorem e_tst : Wp (tstS a env S) QB = Wp (a env S) (TstK QB) := by
  with_unfolding_all
    unfold tstS
    rw [Wp_bd]
    congr 1
    funext x S1
    cases x <;> rfl
theorem e_andB : Wp (andB p q env S) QB = Wp (p env S) fun d S1 => if d = true then Wp (q env S1) QB else QB false S1 := by
  with_unfolding_all
    unfold andB
    rw [Wp_bd]
    congr 1
    funext d S1
    cases d <;> rfl
theorem e_orB : Wp (orB p q env S) QB = Wp (p env S) fun d S1 => if d = true then QB true S1 else Wp (q env S1) QB := by
  with_unfolding_all
    unfold orB
    rw [Wp_bd]
    congr 1
    funext d S1
    cases d <;> rfl
theorem e_notB : Wp (notB p env S) QB = Wp (p env S) fun d S1 => QB (!d) S1 := by with_unfolding_all (unfold notB; rw [Wp_bd]; rfl)
theorem e_yes : Wp (yesB env S) QB = QB true S := by with_unfolding_all exact propext Iff.rfl
def BlK (Q : Bool → Stor → Prop) : MV → Stor → Prop := fun v S => match v with
  | .bl b => Q b S
  | _ => False
theorem BlK_bl {d : Bool} : BlK QB (.bl d) S = QB d S := propext Iff.rfl
theorem e_andV : Wp (andV a b env S) Q = Wp (a env S) (BlK fun d S1 => if d = true then Wp (b env S1) Q else Q (.bl false) S1) := by
  with_unfolding_all
    unfold andV
    rw [Wp_bd]
    congr 1
    funext x S1
    cases x with
    | bl d => cases d <;> rfl
    | _ => rfl
theorem e_orV : Wp (orV a b env S) Q = Wp (a env S) (BlK fun d S1 => if d = true then Q (.bl true) S1 else Wp (b env S1) Q) := by
  with_unfolding_all
    unfold orV
    rw [Wp_bd]
    congr 1
    funext x S1
    cases x with
    | bl d => cases d <;> rfl
    | _ => rfl
theorem e_notV : Wp (notV a env S) Q = Wp (a env S) (BlK fun d S1 => Q (.bl (!d)) S1) := by
  with_unfolding_all
    unfold notV
    rw [Wp_bd]
    congr 1
    funext x S1
    cases x <;> rfl
theorem e_ifE : Wp (ifE p a b env S) Q = Wp (p env S) (IfK a b env Q) := by
  with_unfolding_all
    unfold ifE
    rw [Wp_bd]
    congr 1
    funext d S1
    cases d <;> rfl
theorem e_ch {f g : MV → MV → Stor → Res MV} : Wp (chS f g a b c env S) Q = Wp (a env S) fun x S1 => Wp (b env S1) fun y S2 => Wp (f x y S2) (BlK fun k S3 => if k = true then Wp (c env S3) fun w S4 => Wp (g y w S4) Q else Q (.bl false) S3) := by
  with_unfolding_all
    unfold chS
    rw [Wp_bd]
    congr 1
    funext x S1
    rw [Wp_bd]
    congr 1
    funext y S2
    rw [Wp_bd]
    congr 1
    funext z S3
    cases z with
    | bl d =>
      cases d
      · rfl
      · show Wp ((c env S3).bd _) Q = _
        rw [Wp_bd]
        rfl
    | _ => rfl
/-! ### operations -/
variable {i j : Int}
theorem e_neg : Wp (negI (.int i) S) Q = Q (.int (-i)) S := by with_unfolding_all exact propext Iff.rfl
theorem e_add : Wp (addS (.int i) (.int j) S) Q = Q (.int (i + j)) S := by with_unfolding_all exact propext Iff.rfl
theorem e_sub : Wp (subS (.int i) (.int j) S) Q = Q (.int (i - j)) S := by with_unfolding_all exact propext Iff.rfl
theorem e_mul : Wp (mulS (.int i) (.int j) S) Q = (CMul i j ∧ Q (.int (i * j)) S) := by with_unfolding_all exact Wp_ite
theorem e_fdiv : Wp (fdivS (.int i) (.int j) S) Q = (CDiv i j ∧ Q (.int (i / j)) S) := by with_unfolding_all exact Wp_ite
theorem e_mod : Wp (modS (.int i) (.int j) S) Q = (0 < j ∧ Q (.int (i % j)) S) := by with_unfolding_all exact Wp_ite
theorem e_pow : Wp (powS (.int i) (.int j) S) Q = (CPow i j ∧ Q (.int (i ^ j.toNat)) S) := by with_unfolding_all exact Wp_ite
theorem e_shl : Wp (shlS (.int i) (.int j) S) Q = (CPow i j ∧ Q (.int (i * 2 ^ j.toNat)) S) := by with_unfolding_all exact Wp_ite
theorem e_shr : Wp (shrS (.int i) (.int j) S) Q = (0 ≤ j ∧ Q (.int (i / 2 ^ j.toNat)) S) := by with_unfolding_all exact Wp_ite
theorem e_and : Wp (andS (.int i) (.int j) S) Q = Q (.int (Builtin.bitAnd i j)) S := by with_unfolding_all exact propext Iff.rfl
theorem e_or : Wp (orS (.int i) (.int j) S) Q = Q (.int (Builtin.bitOr i j)) S := by with_unfolding_all exact propext Iff.rfl
theorem e_xor : Wp (xorS (.int i) (.int j) S) Q = Q (.int (Builtin.bitXor i j)) S := by with_unfolding_all exact propext Iff.rfl
theorem e_iadd : Wp (iaddS (.int i) (.int j) S) Q = Q (.int (i + j)) S := by with_unfolding_all exact propext Iff.rfl
theorem e_lt : Wp (ltS (.int i) (.int j) S) Q = Q (.bl (decide (i < j))) S := by with_unfolding_all exact propext Iff.rfl
theorem e_le : Wp (leS (.int i) (.int j) S) Q = Q (.bl (decide (i ≤ j))) S := by with_unfolding_all exact propext Iff.rfl
theorem e_gt : Wp (gtS (.int i) (.int j) S) Q = Q (.bl (decide (j < i))) S := by with_unfolding_all exact propext Iff.rfl
theorem e_ge : Wp (geS (.int i) (.int j) S) Q = Q (.bl (decide (j ≤ i))) S := by with_unfolding_all exact propext Iff.rfl
theorem eqv_int : PyData.eqv (.int i) (.int j) = decide (i = j) := by
  rw [PyData.eqv]
  by_cases h : i = j
  · subst h; simp
  · simp [h]
theorem e_eq : Wp (eqS false (.int i) (.int j) S) Q = Q (.bl (decide (i = j))) S := by
  with_unfolding_all
    show Q (.bl (PyData.eqv (.int i) (.int j))) S = _
    rw [eqv_int]
theorem e_ne : Wp (eqS true (.int i) (.int j) S) Q = Q (.bl (decide (i ≠ j))) S := by
  with_unfolding_all
    show Q (.bl (!PyData.eqv (.int i) (.int j))) S = _
    rw [eqv_int, decide_not]
theorem e_isNon : Wp (isS false v .non S) Q = Q (.bl (decide (v = .non))) S := by with_unfolding_all (cases v <;> rfl)
theorem e_isnNon : Wp (isS true v .non S) Q = Q (.bl (!decide (v = .non))) S := by with_unfolding_all (cases v <;> rfl)
theorem e_isiInt : Wp (isiV "int" (.int i) S) Q = Q (.bl true) S := by with_unfolding_all exact propext Iff.rfl
theorem e_isiBool : Wp (isiV "bool" (.int i) S) Q = Q (.bl false) S := by with_unfolding_all exact propext Iff.rfl
end
theorem e_newL {xs : List MV} {S : Stor} {Q : MV → Stor → Prop} : Wp (newL xs S) Q = (xs.length ≤ sizeLine ∧ Q (.ref S.length) (S ++ [.lst xs])) := by with_unfolding_all exact Wp_ite
theorem e_newT {xs : List MV} {S : Stor} {Q : MV → Stor → Prop} : Wp (newT xs S) Q = (xs.length ≤ sizeLine ∧ Q (.ref S.length) (S ++ [.tup xs])) := by with_unfolding_all exact Wp_ite
theorem band_nat (a b : Nat) : Builtin.bitAnd (a : Int) (b : Int) = ((a &&& b : Nat) : Int) := by
  rw [PyProof.Rows.bitAnd_pp (Int.natCast_nonneg a) (Int.natCast_nonneg b)]
  rfl
theorem bor_nat (a b : Nat) : Builtin.bitOr (a : Int) (b : Int) = ((a ||| b : Nat) : Int) := by
  rw [Bits.bitOr_pp (Int.natCast_nonneg a) (Int.natCast_nonneg b)]
  rfl
theorem bxor_nat (a b : Nat) : Builtin.bitXor (a : Int) (b : Int) = ((a ^^^ b : Nat) : Int) := by
  rw [Bits.bitXor_pp (Int.natCast_nonneg a) (Int.natCast_nonneg b)]
  rfl
theorem bandL (a n : Nat) : Builtin.bitAnd (a : Int) (OfNat.ofNat n : Int) = ((a &&& OfNat.ofNat n : Nat) : Int) := band_nat a n
theorem borL (a n : Nat) : Builtin.bitOr (a : Int) (OfNat.ofNat n : Int) = ((a ||| OfNat.ofNat n : Nat) : Int) := bor_nat a n
theorem bxorL (a n : Nat) : Builtin.bitXor (a : Int) (OfNat.ofNat n : Int) = ((a ^^^ OfNat.ofNat n : Nat) : Int) := bxor_nat a n
theorem castL (n : Nat) : ((no_index (OfNat.ofNat n) : Nat) : Int) = OfNat.ofNat n := rfl
/-! ### loops -/
theorem wp_forL {it : Itm} {g : YG} {b : SS} {Q : Out → Stor → Prop} {N : Nat} {I : Nat → MEnv → Stor → Prop}
    (st : ∀ i env S, I i env S → (i = N ∧ it.at S i = some none ∧ Q (.nx env) S) ∨ (i < N ∧ ∃ y, it.at S i = some (some y) ∧ Wp (g.put y env S) fun env1 S1 => Wp (b env1 S1) (LoopK (I (i + 1)) Q))) :
    ∀ (n i : Nat) (env : MEnv) (S : Stor), N < i + n → I i env S → Wp (forL it g b n i env S) Q
  | 0, i, env, S, hn, h => by
    with_unfolding_all
      rcases st i env S h with ⟨e, _⟩ | ⟨e, _⟩ <;> omega
  | n + 1, i, env, S, hn, h => by
    with_unfolding_all
      unfold forL
      rcases st i env S h with ⟨_, e, q⟩ | ⟨hi, y, e, q⟩
      · rw [e]
        exact q
      · rw [e]
        show Wp ((g.put y env S).bd _) Q
        rw [Wp_bd]
        refine q.mono fun env1 S1 q1 => ?_
        rw [Wp_bd]
        refine q1.mono fun o S2 q2 => ?_
        cases o with
        | nx env2 => exact wp_forL st n (i + 1) env2 S2 (by omega) q2
        | ct env2 => exact wp_forL st n (i + 1) env2 S2 (by omega) q2
        | bk env2 => exact q2
        | rt v => exact q2
section
variable {env : MEnv} {S : Stor} {Q : Out → Stor → Prop} {b : SS} {g : YG} {w : SI}
theorem e_for : Wp (forS w g b env S) Q = Wp (w env S) fun it S1 => Wp (forL it g b (it.most S1) 0 env S1) Q := by with_unfolding_all (unfold forS; rw [Wp_bd])
/-- over a range -/
theorem wp_rng {lo c : Int} {n : Nat} (I : Nat → MEnv → Stor → Prop) (h0 : I 0 env S)
    (st : ∀ i env S, i < n → I i env S → Wp (g.one (.int (lo + i * c)) env S) fun env1 S1 => Wp (b env1 S1) (LoopK (I (i + 1)) Q))
    (fin : ∀ env S, I n env S → Q (.nx env) S) : Wp (forL (.rng lo c n) g b (Itm.most S (.rng lo c n)) 0 env S) Q := by
  with_unfolding_all
    refine wp_forL (N := n) (I := fun i env S => i ≤ n ∧ I i env S) (fun i env S h => ?_) _ 0 env S (by show n < 0 + (n + 1); omega) ⟨Nat.zero_le _, h0⟩
    by_cases hi : i < n
    · refine .inr ⟨hi, .one (.int (lo + i * c)), by show some (if i < n then _ else _) = _; rw [if_pos hi], ?_⟩
      refine (st i env S hi h.2).mono fun env1 S1 q => q.mono fun o S2 q2 => ?_
      cases o with
      | nx e => exact ⟨hi, q2⟩
      | ct e => exact ⟨hi, q2⟩
      | bk e => exact q2
      | rt v => exact q2
    · have e : i = n := Nat.le_antisymm h.1 (Nat.le_of_not_lt hi)
      subst e
      exact .inl ⟨rfl, by show some (if i < i then _ else _) = _; rw [if_neg hi], fin env S h.2⟩
/-- over a list -/
theorem wp_lst {k : Nat} {xs : List MV} (I : Nat → MEnv → Stor → Prop) (h0 : I 0 env S) (hk : ∀ i env S, I i env S → lget S k = some xs)
    (st : ∀ i env S x, xs[i]? = some x → I i env S → Wp (g.one x env S) fun env1 S1 => Wp (b env1 S1) (LoopK (I (i + 1)) Q))
    (fin : ∀ env S, I xs.length env S → Q (.nx env) S) : Wp (forL (.lst k) g b (Itm.most S (.lst k)) 0 env S) Q := by
  with_unfolding_all
    have e0 := hk _ _ _ h0
    refine wp_forL (N := xs.length) (I := fun i env S => i ≤ xs.length ∧ I i env S) (fun i env S h => ?_) _ 0 env S (by show _ < 0 + (lget S k).elim 0 _; rw [e0]; simp) ⟨Nat.zero_le _, h0⟩
    have e1 := hk _ _ _ h.2
    have ea : (Itm.lst k).at S i = some (xs[i]?.map .one) := by
      show (match lget S k with | some xs => some (xs[i]?.map Yl.one) | none => none) = _
      rw [e1]
    by_cases hi : i < xs.length
    · have ex : xs[i]? = some xs[i] := List.getElem?_eq_getElem hi
      refine .inr ⟨hi, .one xs[i], by rw [ea, ex]; rfl, ?_⟩
      refine (st i env S _ ex h.2).mono fun env1 S1 q => q.mono fun o S2 q2 => ?_
      cases o with
      | nx e => exact ⟨hi, q2⟩
      | ct e => exact ⟨hi, q2⟩
      | bk e => exact q2
      | rt v => exact q2
    · have e : i = xs.length := Nat.le_antisymm h.1 (Nat.le_of_not_lt hi)
      refine .inl ⟨e, by rw [ea, List.getElem?_eq_none (Nat.le_of_not_lt hi)]; rfl, fin env S ?_⟩
      rw [← e]
      exact h.2
theorem wp_tup {k : Nat} {xs : List MV} (I : Nat → MEnv → Stor → Prop) (h0 : I 0 env S) (hk : ∀ i env S, I i env S → tget S k = some xs)
    (st : ∀ i env S x, xs[i]? = some x → I i env S → Wp (g.one x env S) fun env1 S1 => Wp (b env1 S1) (LoopK (I (i + 1)) Q))
    (fin : ∀ env S, I xs.length env S → Q (.nx env) S) : Wp (forL (.tup k) g b (Itm.most S (.tup k)) 0 env S) Q := by
  with_unfolding_all
    have e0 := hk _ _ _ h0
    refine wp_forL (N := xs.length) (I := fun i env S => i ≤ xs.length ∧ I i env S) (fun i env S h => ?_) _ 0 env S (by show _ < 0 + (tget S k).elim 0 _; rw [e0]; simp) ⟨Nat.zero_le _, h0⟩
    have e1 := hk _ _ _ h.2
    have ea : (Itm.tup k).at S i = some (xs[i]?.map .one) := by
      show (match tget S k with | some xs => some (xs[i]?.map Yl.one) | none => none) = _
      rw [e1]
    by_cases hi : i < xs.length
    · have ex : xs[i]? = some xs[i] := List.getElem?_eq_getElem hi
      refine .inr ⟨hi, .one xs[i], by rw [ea, ex]; rfl, ?_⟩
      refine (st i env S _ ex h.2).mono fun env1 S1 q => q.mono fun o S2 q2 => ?_
      cases o with
      | nx e => exact ⟨hi, q2⟩
      | ct e => exact ⟨hi, q2⟩
      | bk e => exact q2
      | rt v => exact q2
    · have e : i = xs.length := Nat.le_antisymm h.1 (Nat.le_of_not_lt hi)
      refine .inl ⟨e, by rw [ea, List.getElem?_eq_none (Nat.le_of_not_lt hi)]; rfl, fin env S ?_⟩
      rw [← e]
      exact h.2
/-- a while, by a measure -/
theorem wp_whileN {c : SB} (I : Nat → MEnv → Stor → Prop)
    (st : ∀ m env S, I m env S → Wp (c env S) fun d S1 => if d = true then Wp (b env S1) (LoopK (fun env2 S2 => ∃ m', m' < m ∧ I m' env2 S2) Q) else Q (.nx env) S1) :
    ∀ (n m : Nat) (env : MEnv) (S : Stor), m < n → I m env S → Wp (whileS c b n env S) Q
  | 0, m, env, S, hn, h => by with_unfolding_all (omega)
  | n + 1, m, env, S, hn, h => by
    with_unfolding_all
      unfold whileS
      rw [Wp_bd]
      refine (st m env S h).mono fun d S1 q => ?_
      cases d with
      | false => exact q
      | true =>
        show Wp ((b env S1).bd _) Q
        rw [Wp_bd]
        have q : Wp (b env S1) _ := q
        refine q.mono fun o S2 q2 => ?_
        cases o with
        | nx env2 => obtain ⟨m', hm, q3⟩ := q2; exact wp_whileN I st n m' env2 S2 (by omega) q3
        | ct env2 => obtain ⟨m', hm, q3⟩ := q2; exact wp_whileN I st n m' env2 S2 (by omega) q3
        | bk env2 => exact q2
        | rt v => exact q2
theorem wp_while {c : SB} (I : Nat → MEnv → Stor → Prop) (m : Nat) (hm : m < 1000000) (h0 : I m env S)
    (st : ∀ m env S, I m env S → Wp (c env S) fun d S1 => if d = true then Wp (b env S1) (LoopK (fun env2 S2 => ∃ m', m' < m ∧ I m' env2 S2) Q) else Q (.nx env) S1) : Wp (whileS c b fuelW env S) Q := by with_unfolding_all exact (wp_whileN I st fuelW m env S hm h0)
end
section
variable {env : MEnv} {S : Stor} {r : SA} {e : SE} {QI : Itm → Stor → Prop} {i j : Int}
def R1K (Q : Itm → Stor → Prop) : List MV → Stor → Prop := fun xs S => match xs with
  | [.int j] => okI j = true ∧ Q (.rng 0 1 j.toNat) S
  | _ => False
theorem e_rng1 : Wp (rng1S r env S) QI = Wp (r env S) (R1K QI) := by
  with_unfolding_all
    unfold rng1S
    rw [Wp_bd]
    congr 1
    funext xs S1
    rcases xs with _ | ⟨v, _ | ⟨u, t⟩⟩
    · rfl
    · cases v with
      | int j => exact Wp_ite
      | _ => rfl
    · cases v <;> rfl
theorem R1K_i : R1K QI [.int j] S = (okI j = true ∧ QI (.rng 0 1 j.toNat) S) := propext Iff.rfl
def R2K (Q : Itm → Stor → Prop) : List MV → Stor → Prop := fun xs S => match xs with
  | [.int i, .int j] => (okI i && okI j) = true ∧ Q (.rng i 1 (j - i).toNat) S
  | _ => False
theorem e_rng2 : Wp (rng2S r env S) QI = Wp (r env S) (R2K QI) := by
  with_unfolding_all
    unfold rng2S
    rw [Wp_bd]
    congr 1
    funext xs S1
    rcases xs with _ | ⟨v, _ | ⟨u, _ | ⟨x, t⟩⟩⟩
    · rfl
    · cases v <;> rfl
    · cases v with
      | int i => cases u with
        | int j => exact Wp_ite
        | _ => rfl
      | _ => rfl
    · cases v with
      | int i => cases u <;> rfl
      | _ => rfl
theorem R2K_i : R2K QI [.int i, .int j] S = ((okI i && okI j) = true ∧ QI (.rng i 1 (j - i).toNat) S) := propext Iff.rfl
def SqK (Q : Itm → Stor → Prop) : MV → Stor → Prop := fun v S => match v with
  | .ref k => (match lget S k with
    | some _ => Q (.lst k) S
    | none => match tget S k with
      | some _ => Q (.tup k) S
      | none => False)
  | .str x => Q (.str x) S
  | _ => False
theorem e_seqI : Wp (seqI e env S) QI = Wp (e env S) (SqK QI) := by
  with_unfolding_all
    unfold seqI
    rw [Wp_bd]
    congr 1
    funext v S1
    cases v with
    | ref k =>
      show Wp (match lget S1 k with | some _ => Res.ok (Itm.lst k) S1 | none => match tget S1 k with | some _ => .ok (.tup k) S1 | none => .bad) QI = (match lget S1 k with | some _ => QI (.lst k) S1 | none => match tget S1 k with | some _ => QI (.tup k) S1 | none => False)
      cases lget S1 k with
      | some xs => rfl
      | none => cases tget S1 k <;> rfl
    | _ => rfl
theorem SqK_l {k : Nat} {xs : List MV} (h : lget S k = some xs) : SqK QI (.ref k) S = QI (.lst k) S := by
  show (match lget S k with | some _ => QI (.lst k) S | none => match tget S k with | some _ => QI (.tup k) S | none => False) = _
  rw [h]
theorem tget_l {k : Nat} {xs : List MV} (h : tget S k = some xs) : lget S k = none := by
  unfold Rf.tget at h
  unfold Rf.lget
  split at h
  · rename_i e; rw [e]
  · cases h
theorem SqK_t {k : Nat} {xs : List MV} (h : tget S k = some xs) : SqK QI (.ref k) S = QI (.tup k) S := by
  show (match lget S k with | some _ => QI (.lst k) S | none => match tget S k with | some _ => QI (.tup k) S | none => False) = _
  rw [tget_l h, h]
theorem okI_by (h : -(2 ^ 62) ≤ i) (h' : i < 2 ^ 62) : okI i = true := decide_eq_true ⟨h, h'⟩
end
section
variable {S : Stor} {Q : MV → Stor → Prop} {k l : Nat} {xs ys : List MV}
theorem e_cat (h1 : lget S k = some xs) (h2 : lget S l = some ys) : Wp (addS (.ref k) (.ref l) S) Q = ((xs ++ ys).length ≤ sizeLine ∧ Q (.ref S.length) (S ++ [.lst (xs ++ ys)])) := by
  with_unfolding_all
    show Wp (match lget S k, lget S l with | some xs, some ys => newL (xs ++ ys) S | _, _ => .bad) Q = _
    rw [h1, h2]
    exact e_newL
theorem lget_new : lget (S ++ [.lst xs]) S.length = some xs := by
  unfold lget
  rw [List.getElem?_append_right (Nat.le_refl _), Nat.sub_self]
  rfl
theorem tget_new : tget (S ++ [.tup xs]) S.length = some xs := by
  unfold tget
  rw [List.getElem?_append_right (Nat.le_refl _), Nat.sub_self]
  rfl
theorem lget_lt (h : lget S k = some xs) : k < S.length := by
  unfold lget at h
  rcases Nat.lt_or_ge k S.length with q | q
  · exact q
  · rw [List.getElem?_eq_none q] at h
    cases h
theorem tget_lt (h : tget S k = some xs) : k < S.length := by
  unfold tget at h
  rcases Nat.lt_or_ge k S.length with q | q
  · exact q
  · rw [List.getElem?_eq_none q] at h
    cases h
theorem lget_app {T : Stor} (h : lget S k = some xs) : lget (S ++ T) k = some xs := by
  have := lget_lt h
  unfold lget at h ⊢
  rw [List.getElem?_append_left this]
  exact h
theorem tget_app {T : Stor} (h : tget S k = some xs) : tget (S ++ T) k = some xs := by
  have := tget_lt h
  unfold tget at h ⊢
  rw [List.getElem?_append_left this]
  exact h
end
theorem map_int_get {ns : List Int} {i : Nat} {x : MV} (h : (ns.map MV.int)[i]? = some x) : ∃ c, ns[i]? = some c ∧ x = .int c := by
  rw [List.getElem?_map] at h
  cases e : ns[i]? with
  | none => rw [e] at h; cases h
  | some c => rw [e] at h; cases h; exact ⟨c, rfl, rfl⟩
/-- for cell in script + [c]: ... return True, where a turn leaves the store in R and may forget all names but the first -/
theorem law_of_wp {F : List MV → Stor → Res MV} {vs : List MV} {S : Stor} (h : Wp (F vs S) fun v _ => v = .bl true) : ∃ S', F vs S = .ok (.bl true) S' := by
  with_unfolding_all
    obtain ⟨v, S', e, h⟩ := h.out
    exact ⟨S', by rw [← h]; exact e⟩
end Rf

/-! Rf12: what a computation does is the same in a greater store (the first g objects stay in their places, the others move behind P). -/
namespace Rf
open PySem PySem.Spec PyProof.Rows L2
section
variable (g : Nat) (P : Stor)
def shN (k : Nat) : Nat := if k < g then k else k + P.length
def shV : MV → MV
  | .ref k => .ref (shN g P k)
  | v => v
def shO : MO → MO
  | .lst xs => .lst (xs.map (shV g P))
  | .tup xs => .tup (xs.map (shV g P))
  | .flst xs => .flst (xs.map (shV g P))
  | .dK kvs => .dK (kvs.map fun q => (q.1, shV g P q.2))
  | .dT kvs => .dT (kvs.map fun q => (q.1, shV g P q.2))
  | .fdK kvs => .fdK (kvs.map fun q => (q.1, shV g P q.2))
  | .ins c fs => .ins c (fs.map fun q => (q.1, shV g P q.2))
def shS (S : Stor) : Stor := (S.map (shO g P)).take g ++ P ++ (S.map (shO g P)).drop g
def shEnv (env : MEnv) : MEnv := env.map (Option.map (shV g P))
def shOut : Out → Out
  | .nx env => .nx (shEnv g P env)
  | .rt v => .rt (shV g P v)
  | .bk env => .bk (shEnv g P env)
  | .ct env => .ct (shEnv g P env)
def shI : Itm → Itm
  | .rng a b n => .rng a b n
  | .lst k => .lst (shN g P k)
  | .tup k => .tup (shN g P k)
  | .enm k => .enm (shN g P k)
  | .zip k l => .zip (shN g P k) (shN g P l)
  | .rev k n => .rev (shN g P k) n
  | .str x => .str x
def shY : Yl → Yl
  | .one v => .one (shV g P v)
  | .two u v => .two (shV g P u) (shV g P v)
def Fr {α : Type} (sh : α → α) (r r' : Res α) : Prop := ∀ a S', r = .ok a S' → g ≤ S'.length ∧ r' = .ok (sh a) (shS g P S')
end
section
variable {g : Nat} {P : Stor} {S : Stor} (hg : g ≤ S.length)
theorem Fr.bad {α : Type} {sh : α → α} {r : Res α} : Fr g P sh .bad r := fun a S h => nomatch h
theorem Fr.ok {α : Type} {sh : α → α} {a : α} {S : Stor} (hg : g ≤ S.length) : Fr g P sh (.ok a S) (.ok (sh a) (shS g P S)) := fun a S h => by
  cases h
  exact ⟨hg, rfl⟩
theorem Fr.bd {α β : Type} {sh : α → α} {sh' : β → β} {r r' : Res α} {k k' : α → Stor → Res β} (h : Fr g P sh r r') (hk : ∀ a S, g ≤ S.length → Fr g P sh' (k a S) (k' (sh a) (shS g P S))) : Fr g P sh' (r.bd k) (r'.bd k') := fun b S e => by
  cases r with
  | bad => cases e
  | err x S1 => cases e
  | ok a S1 =>
    obtain ⟨h1, h2⟩ := h a S1 rfl
    subst h2
    exact hk a S1 h1 b S e
theorem Fr.bdN {α β : Type} {sh : α → α} {sh' : β → β} {r r' : Res α} {k k' : α → Stor → Res β} (h : Fr g P sh r r') (hk : ∀ a S, g ≤ S.length → Fr g P sh' (k a S) (k' (sh a) (shS g P S))) : Fr g P sh' (r.bdN k) (r'.bdN k') := fun b S e => by
  cases r with
  | bad => cases e
  | err x S1 => cases e
  | ok a S1 =>
    obtain ⟨h1, h2⟩ := h a S1 rfl
    subst h2
    exact hk a S1 h1 b S e
include hg in
theorem shS_len : (shS g P S).length = S.length + P.length := by
  unfold shS
  simp
  omega
include hg in
theorem shS_get {k : Nat} : (shS g P S)[shN g P k]? = S[k]?.map (shO g P) := by
  unfold shS shN
  by_cases h : k < g
  · rw [if_pos h, List.append_assoc, List.getElem?_append_left (by simp; omega), List.getElem?_take_of_lt h, List.getElem?_map]
  · rw [if_neg h, List.getElem?_append_right (by simp; omega), List.getElem?_drop, List.getElem?_map]
    congr 2
    simp
    omega
include hg in
theorem shS_app {o : MO} : shS g P (S ++ [o]) = shS g P S ++ [shO g P o] := by
  unfold shS
  rw [List.map_append, List.take_append_of_le_length (by simpa using hg), List.drop_append_of_le_length (by simpa using hg)]
  simp
include hg in
theorem shS_mid {j : Nat} (h1 : ¬j < g) (h2 : j < g + P.length) : (shS g P S)[j]? = P[j - g]? := by
  have hl : ((S.map (shO g P)).take g).length = g := by simp; omega
  unfold shS
  rw [List.append_assoc, List.getElem?_append_right (by omega), hl, List.getElem?_append_left (by omega)]
include hg in
theorem shS_set {k : Nat} {o : MO} : shS g P (S.set k o) = (shS g P S).set (shN g P k) (shO g P o) := by
  apply List.ext_getElem?
  intro j
  have hl : g ≤ (S.set k o).length := by rw [List.length_set]; exact hg
  by_cases hj : j < g
  · have e1 : shN g P j = j := if_pos hj
    have h1 := shS_get (P := P) hl (k := j)
    rw [e1] at h1
    rw [h1]
    by_cases hk : k = j
    · subst hk
      rw [e1, List.getElem?_set_self (by omega), List.getElem?_set_self (by rw [shS_len hg]; omega)]
      rfl
    · have : shN g P k ≠ j := by unfold shN; split <;> omega
      rw [List.getElem?_set_ne hk, List.getElem?_set_ne this]
      have h2 := shS_get (P := P) hg (k := j)
      rw [e1] at h2
      exact h2.symm
  · by_cases hj2 : j < g + P.length
    · have : shN g P k ≠ j := by unfold shN; split <;> omega
      rw [List.getElem?_set_ne this]
      rw [shS_mid hl hj hj2, shS_mid hg hj hj2]
    · obtain ⟨i, rfl⟩ : ∃ i, j = i + P.length := ⟨j - P.length, by omega⟩
      have e1 : shN g P i = i + P.length := if_neg (by omega)
      have h1 := shS_get (P := P) hl (k := i)
      rw [e1] at h1
      rw [h1]
      by_cases hk : k = i
      · subst hk
        rw [e1]
        rcases Nat.lt_or_ge k S.length with q | q
        · rw [List.getElem?_set_self q, List.getElem?_set_self (by rw [shS_len hg]; omega)]
          rfl
        · rw [List.getElem?_eq_none (by simpa using q), List.getElem?_eq_none (by rw [List.length_set, shS_len hg]; omega)]
          rfl
      · have : shN g P k ≠ i + P.length := by unfold shN; split <;> omega
        rw [List.getElem?_set_ne hk, List.getElem?_set_ne this]
        have h2 := shS_get (P := P) hg (k := i)
        rw [e1] at h2
        exact h2.symm
include hg in
theorem lget_sh {k : Nat} {xs : List MV} (h : lget S k = some xs) : lget (shS g P S) (shN g P k) = some (xs.map (shV g P)) := by
  unfold lget at h ⊢
  rw [shS_get hg]
  split at h
  · rename_i e; cases h; rw [e]; rfl
  · rename_i e; cases h; rw [e]; rfl
  · cases h
include hg in
theorem lget_shN {k : Nat} (h : lget S k = none) : lget (shS g P S) (shN g P k) = none := by
  unfold lget at h ⊢
  rw [shS_get hg]
  cases e : S[k]? with
  | none => rfl
  | some o =>
    rw [e] at h
    cases o <;> first | rfl | cases h
include hg in
theorem tget_sh {k : Nat} {xs : List MV} (h : tget S k = some xs) : tget (shS g P S) (shN g P k) = some (xs.map (shV g P)) := by
  unfold tget at h ⊢
  rw [shS_get hg]
  split at h
  · rename_i e; cases h; rw [e]; rfl
  · cases h
include hg in
theorem tget_shN {k : Nat} (h : tget S k = none) : tget (shS g P S) (shN g P k) = none := by
  unfold tget at h ⊢
  rw [shS_get hg]
  cases e : S[k]? with
  | none => rfl
  | some o =>
    rw [e] at h
    cases o <;> first | rfl | cases h
include hg in
theorem get_lst {k : Nat} {xs : List MV} (h : S[k]? = some (.lst xs)) : (shS g P S)[shN g P k]? = some (.lst (xs.map (shV g P))) := by
  rw [shS_get hg, h]
  rfl
theorem shN_len {S : Stor} (hg : g ≤ S.length) : shN g P S.length = (shS g P S).length := by
  rw [shS_len hg]
  exact if_neg (by omega)
end
/-! ### operations -/
abbrev N1 (f : MV → Stor → Res MV) : Prop := ∀ (g : Nat) (P : Stor) a S, g ≤ S.length → Fr g P (shV g P) (f a S) (f (shV g P a) (shS g P S))
abbrev N2 (f : MV → MV → Stor → Res MV) : Prop := ∀ (g : Nat) (P : Stor) a b S, g ≤ S.length → Fr g P (shV g P) (f a b S) (f (shV g P a) (shV g P b) (shS g P S))
abbrev NL (f : List MV → Stor → Res MV) : Prop := ∀ (g : Nat) (P : Stor) as S, g ≤ S.length → Fr g P (shV g P) (f as S) (f (as.map (shV g P)) (shS g P S))
abbrev NM (f : MV → List MV → Stor → Res MV) : Prop := ∀ (g : Nat) (P : Stor) a as S, g ≤ S.length → Fr g P (shV g P) (f a as S) (f (shV g P a) (as.map (shV g P)) (shS g P S))
section
variable {g : Nat} {P : Stor} {S : Stor}
theorem fr_newL {xs : List MV} (hg : g ≤ S.length) : Fr g P (shV g P) (newL xs S) (newL (xs.map (shV g P)) (shS g P S)) := fun a S' h => by
  unfold newL at h ⊢
  rw [List.length_map]
  split at h
  · rename_i hl
    cases h
    rw [if_pos hl, shS_app hg]
    refine ⟨by simp; omega, ?_⟩
    rw [show shV g P (.ref S.length) = .ref (shN g P S.length) from rfl, shN_len hg]
    rfl
  · cases h
theorem fr_newT {xs : List MV} (hg : g ≤ S.length) : Fr g P (shV g P) (newT xs S) (newT (xs.map (shV g P)) (shS g P S)) := fun a S' h => by
  unfold newT at h ⊢
  rw [List.length_map]
  split at h
  · rename_i hl
    cases h
    rw [if_pos hl, shS_app hg]
    refine ⟨by simp; omega, ?_⟩
    rw [show shV g P (.ref S.length) = .ref (shN g P S.length) from rfl, shN_len hg]
    rfl
  · cases h
theorem fr_set {k : Nat} {o : MO} {v : MV} (hg : g ≤ S.length) : Fr g P (shV g P) (.ok v (S.set k o)) (.ok (shV g P v) ((shS g P S).set (shN g P k) (shO g P o))) := fun a S' h => by
  cases h
  exact ⟨by rw [List.length_set]; exact hg, by rw [shS_set hg]⟩
end
theorem n_newL : NL newL := fun g P as S hg => fr_newL hg
theorem n_newT : NL newT := fun g P as S hg => fr_newT hg
theorem n_add : N2 addS := fun g P a b S hg v S' h => by
  cases a <;> cases b <;> try (cases h; done)
  · cases h; exact ⟨hg, rfl⟩
  · exact (show Fr g P (shV g P) (if _ then _ else _) _ from fun v S' h => by
      split at h
      · rename_i hl; cases h; exact ⟨hg, if_pos hl⟩
      · cases h) v S' h
  · rename_i k l
    have h : (match lget S k, lget S l with | some xs, some ys => newL (xs ++ ys) S | _, _ => .bad) = .ok v S' := h
    show _ ∧ (match lget (shS g P S) (shN g P k), lget (shS g P S) (shN g P l) with | some xs, some ys => newL (xs ++ ys) (shS g P S) | _, _ => .bad) = _
    split at h
    · rename_i xs ys e1 e2
      rw [lget_sh hg e1, lget_sh hg e2]
      show _ ∧ newL (xs.map _ ++ ys.map _) _ = _
      rw [← List.map_append]
      exact fr_newL hg v S' h
    · cases h
theorem n_i2 {f : MV → MV → Stor → Res MV} (h : ∀ (a b : MV) (S : Stor) v S', f a b S = .ok v S' → S' = S ∧ (∀ k, a ≠ .ref k) ∧ (∀ k, b ≠ .ref k) ∧ (∀ k, v ≠ .ref k) ∧ ∀ T, f a b T = .ok v T) : N2 f := fun g P a b S hg v S' e => by
  obtain ⟨rfl, h1, h2, h3, h4⟩ := h a b S v S' e
  have e1 : ∀ u : MV, (∀ k, u ≠ .ref k) → shV g P u = u := fun u hu => by cases u <;> first | rfl | exact absurd rfl (hu _)
  rw [e1 a h1, e1 b h2, e1 v h3]
  exact ⟨hg, h4 _⟩
theorem n_sub : N2 subS := n_i2 fun a b S v S' h => by
  cases a <;> cases b <;> cases h
  exact ⟨rfl, by simp, by simp, by simp, fun _ => rfl⟩
theorem n_if {c : Int → Int → Prop} [∀ i j, Decidable (c i j)] {o : Int → Int → Int} {f : MV → MV → Stor → Res MV} (hi : ∀ i j S, f (.int i) (.int j) S = if c i j then .ok (.int (o i j)) S else .bad) (hn : ∀ a b S v S', f a b S = .ok v S' → ∃ i j, a = .int i ∧ b = .int j) : N2 f :=
  n_i2 fun a b S v S' h => by
    obtain ⟨i, j, rfl, rfl⟩ := hn a b S v S' h
    rw [hi] at h
    split at h
    · rename_i q
      cases h
      exact ⟨rfl, by simp, by simp, by simp, fun T => by rw [hi, if_pos q]⟩
    · cases h
theorem n_fdiv : N2 fdivS := n_if (c := CDiv) (o := fun i j => i / j) (fun _ _ _ => rfl) fun a b S v S' h => by cases a <;> cases b <;> first | cases h; done | exact ⟨_, _, rfl, rfl⟩
theorem n_mod : N2 modS := n_if (c := fun _ j => 0 < j) (o := fun i j => i % j) (fun _ _ _ => rfl) fun a b S v S' h => by cases a <;> cases b <;> first | cases h; done | exact ⟨_, _, rfl, rfl⟩
theorem n_pow : N2 powS := n_if (c := CPow) (o := fun i j => i ^ j.toNat) (fun _ _ _ => rfl) fun a b S v S' h => by cases a <;> cases b <;> first | cases h; done | exact ⟨_, _, rfl, rfl⟩
theorem n_shl : N2 shlS := n_if (c := CPow) (o := fun i j => i * 2 ^ j.toNat) (fun _ _ _ => rfl) fun a b S v S' h => by cases a <;> cases b <;> first | cases h; done | exact ⟨_, _, rfl, rfl⟩
theorem n_shr : N2 shrS := n_if (c := fun _ j => 0 ≤ j) (o := fun i j => i / 2 ^ j.toNat) (fun _ _ _ => rfl) fun a b S v S' h => by cases a <;> cases b <;> first | cases h; done | exact ⟨_, _, rfl, rfl⟩
theorem n_and : N2 andS := n_i2 fun a b S v S' h => by cases a <;> cases b <;> cases h; exact ⟨rfl, by simp, by simp, by simp, fun _ => rfl⟩
theorem n_or : N2 orS := n_i2 fun a b S v S' h => by cases a <;> cases b <;> cases h; exact ⟨rfl, by simp, by simp, by simp, fun _ => rfl⟩
theorem n_xor : N2 xorS := n_i2 fun a b S v S' h => by cases a <;> cases b <;> cases h; exact ⟨rfl, by simp, by simp, by simp, fun _ => rfl⟩
theorem n_le : N2 leS := n_i2 fun a b S v S' h => by cases a <;> cases b <;> cases h; exact ⟨rfl, by simp, by simp, by simp, fun _ => rfl⟩
theorem n_gt : N2 gtS := n_i2 fun a b S v S' h => by cases a <;> cases b <;> cases h; exact ⟨rfl, by simp, by simp, by simp, fun _ => rfl⟩
theorem n_ge : N2 geS := n_i2 fun a b S v S' h => by cases a <;> cases b <;> cases h; exact ⟨rfl, by simp, by simp, by simp, fun _ => rfl⟩
theorem n_mul : N2 mulS := fun g P a b S hg v S' h => by
  cases a <;> cases b <;> try (cases h; done)
  · rename_i i j
    have h : (if CMul i j then Res.ok (MV.int (i * j)) S else .bad) = .ok v S' := h
    split at h
    · rename_i q
      cases h
      exact ⟨hg, if_pos q⟩
    · cases h
  · rename_i k j
    have h : (match S[k]? with | some (.lst xs) => if -(2 ^ 63) ≤ j ∧ j < 2 ^ 63 ∧ xs.length * j.toNat ≤ sizeLine then newL (List.replicate j.toNat xs).flatten S else .bad | _ => .bad) = .ok v S' := h
    show _ ∧ (match (shS g P S)[shN g P k]? with | some (.lst xs) => if -(2 ^ 63) ≤ j ∧ j < 2 ^ 63 ∧ xs.length * j.toNat ≤ sizeLine then newL (List.replicate j.toNat xs).flatten (shS g P S) else .bad | _ => .bad) = _
    split at h
    · rename_i xs e
      rw [get_lst hg e]
      split at h
      · rename_i q
        show _ ∧ (if -(2 ^ 63) ≤ j ∧ j < 2 ^ 63 ∧ (xs.map (shV g P)).length * j.toNat ≤ sizeLine then newL (List.replicate j.toNat (xs.map (shV g P))).flatten (shS g P S) else .bad) = _
        rw [List.length_map, if_pos q]
        have := fr_newL (P := P) hg v S' h
        rw [List.map_flatten, List.map_replicate] at this
        exact this
      · cases h
    · cases h
theorem n_iadd : N2 iaddS := fun g P a b S hg v S' h => by
  cases a <;> cases b <;> try (cases h; done)
  · cases h; exact ⟨hg, rfl⟩
  · exact (show Fr g P (shV g P) (if _ then _ else _) _ from fun v S' h => by
      split at h
      · rename_i hl; cases h; exact ⟨hg, if_pos hl⟩
      · cases h) v S' h
  · rename_i k l
    have h : (match S[k]?, S[l]? with | some (.lst xs), some (.lst ys) => if xs.length + ys.length ≤ sizeLine then Res.ok (MV.ref k) (S.set k (.lst (xs ++ ys))) else .bad | _, _ => .bad) = .ok v S' := h
    show _ ∧ (match (shS g P S)[shN g P k]?, (shS g P S)[shN g P l]? with | some (.lst xs), some (.lst ys) => if xs.length + ys.length ≤ sizeLine then Res.ok (MV.ref (shN g P k)) ((shS g P S).set (shN g P k) (.lst (xs ++ ys))) else .bad | _, _ => .bad) = _
    split at h
    · rename_i xs ys e1 e2
      rw [get_lst hg e1, get_lst hg e2]
      split at h
      · rename_i q
        show _ ∧ (if (xs.map (shV g P)).length + (ys.map (shV g P)).length ≤ sizeLine then Res.ok (MV.ref (shN g P k)) ((shS g P S).set (shN g P k) (.lst (xs.map (shV g P) ++ ys.map (shV g P)))) else .bad) = _
        rw [List.length_map, List.length_map, if_pos q, ← List.map_append]
        exact fr_set (P := P) hg v S' h
      · cases h
    · cases h
theorem dat_sh {g : Nat} {P S : Stor} (hg : g ≤ S.length) : ∀ (n : Nat) (v : MV) (d : PyData), dat n S v = some d → dat n (shS g P S) (shV g P v) = some d := by
  intro n
  induction n with
  | zero => intro v d h; cases v <;> first | exact h | cases h
  | succ n ih =>
    have all : ∀ (xs : List MV) (ds : List PyData), xs.mapM (dat n S) = some ds → (xs.map (shV g P)).mapM (dat n (shS g P S)) = some ds := by
      intro xs
      induction xs with
      | nil => intro ds h; exact h
      | cons x xs ihx =>
        intro ds h
        rw [List.mapM_cons] at h
        rw [List.map_cons, List.mapM_cons]
        cases e1 : dat n S x with
        | none => rw [e1] at h; cases h
        | some d1 =>
          rw [e1] at h
          cases e2 : xs.mapM (dat n S) with
          | none => rw [e2] at h; cases h
          | some ds2 =>
            rw [e2] at h
            rw [ih x d1 e1, ihx ds2 e2]
            exact h
    intro v d h
    cases v with
    | ref k =>
      have h : (match S[k]? with | some (.lst xs) => (xs.mapM (dat n S)).map PyData.list | some (.flst xs) => (xs.mapM (dat n S)).map .list | some (.tup xs) => (xs.mapM (dat n S)).map .tuple | _ => none) = some d := h
      show (match (shS g P S)[shN g P k]? with | some (.lst xs) => (xs.mapM (dat n (shS g P S))).map PyData.list | some (.flst xs) => (xs.mapM (dat n (shS g P S))).map .list | some (.tup xs) => (xs.mapM (dat n (shS g P S))).map .tuple | _ => none) = some d
      rw [shS_get hg]
      split at h
      all_goals first
        | (rename_i xs e
           rw [e]
           cases em : xs.mapM (dat n S) with
           | none => rw [em] at h; cases h
           | some ds =>
             rw [em] at h
             cases h
             show ((xs.map (shV g P)).mapM (dat n (shS g P S))).map _ = _
             rw [all xs ds em]
             rfl)
        | cases h
    | _ => exact h
theorem n_eq (neg : Bool) : N2 (eqS neg) := fun g P a b S hg v S' h => by
  have h : (match dat 9 S a, dat 9 S b with | some d, some e => if SeqAt.shaped d && SeqAt.shaped e then Res.ok (MV.bl (if neg then !PyData.eqv d e else PyData.eqv d e)) S else .bad | _, _ => .bad) = .ok v S' := h
  show _ ∧ (match dat 9 (shS g P S) (shV g P a), dat 9 (shS g P S) (shV g P b) with | some d, some e => if SeqAt.shaped d && SeqAt.shaped e then Res.ok (MV.bl (if neg then !PyData.eqv d e else PyData.eqv d e)) (shS g P S) else .bad | _, _ => .bad) = _
  split at h
  · rename_i d e h1 h2
    rw [dat_sh hg 9 a d h1, dat_sh hg 9 b e h2]
    split at h
    · rename_i q
      cases h
      exact ⟨hg, if_pos q⟩
    · cases h
  · cases h
theorem mapM_some {α β : Type} {f : α → Option β} {a : α} {b : β} {xs : List α} (h : f a = some b) : (a :: xs).mapM f = (xs.mapM f).map (List.cons b) := by
  rw [List.mapM_cons, h]
  cases xs.mapM f <;> rfl
theorem intsM_int {i : Int} {xs : List MV} : intsM (.int i :: xs) = (intsM xs).map (List.cons i) := mapM_some rfl
theorem blsM_bl {i : Bool} {xs : List MV} : blsM (.bl i :: xs) = (blsM xs).map (List.cons i) := mapM_some rfl
theorem blsM_int {i : Int} {xs : List MV} : blsM (.int i :: xs) = (blsM xs).map (List.cons (i != 0)) := mapM_some rfl
theorem ints_sh {g : Nat} {P : Stor} : ∀ {xs : List MV} {ns : List Int}, intsM xs = some ns → intsM (xs.map (shV g P)) = some ns
  | [], ns, h => h
  | .int i :: xs, ns, h => by
    rw [intsM_int] at h
    rw [show (MV.int i :: xs).map (shV g P) = .int i :: xs.map (shV g P) from rfl, intsM_int]
    cases e : intsM xs with
    | none => rw [e] at h; cases h
    | some ms => rw [e] at h; rw [ints_sh e]; exact h
  | .non :: xs, ns, h => nomatch h
  | .bl _ :: xs, ns, h => nomatch h
  | .str _ :: xs, ns, h => nomatch h
  | .ref _ :: xs, ns, h => nomatch h
theorem bls_sh {g : Nat} {P : Stor} : ∀ {xs : List MV} {ns : List Bool}, blsM xs = some ns → blsM (xs.map (shV g P)) = some ns
  | [], ns, h => h
  | .int i :: xs, ns, h => by
    rw [blsM_int] at h
    rw [show (MV.int i :: xs).map (shV g P) = .int i :: xs.map (shV g P) from rfl, blsM_int]
    cases e : blsM xs with
    | none => rw [e] at h; cases h
    | some ms => rw [e] at h; rw [bls_sh e]; exact h
  | .bl i :: xs, ns, h => by
    rw [blsM_bl] at h
    rw [show (MV.bl i :: xs).map (shV g P) = .bl i :: xs.map (shV g P) from rfl, blsM_bl]
    cases e : blsM xs with
    | none => rw [e] at h; cases h
    | some ms => rw [e] at h; rw [bls_sh e]; exact h
  | .non :: xs, ns, h => nomatch h
  | .str _ :: xs, ns, h => nomatch h
  | .ref _ :: xs, ns, h => nomatch h
theorem n_lt : N2 ltS := fun g P a b S hg v S' h => by
  cases a <;> cases b <;> try (cases h; done)
  · cases h; exact ⟨hg, rfl⟩
  · rename_i k l
    have h : ltT k l S = .ok v S' := h
    show _ ∧ ltT (shN g P k) (shN g P l) (shS g P S) = _
    unfold ltT at h ⊢
    split at h
    · rename_i xs ys e1 e2
      rw [tget_sh hg e1, tget_sh hg e2]
      split at h
      · rename_i ns ms e3 e4
        cases h
        refine ⟨hg, ?_⟩
        show (match intsM (xs.map (shV g P)), intsM (ys.map (shV g P)) with | some ns, some ms => _ | _, _ => _) = _
        rw [ints_sh e3, ints_sh e4]
        rfl
      · cases h
    · cases h
theorem flat_sh {g : Nat} {P : Stor} {v : MV} (h : flatM v = true) : shV g P v = v := by cases v <;> first | rfl | cases h
theorem flats_sh {g : Nat} {P : Stor} : ∀ {xs : List MV}, xs.all flatM = true → xs.map (shV g P) = xs
  | [], _ => rfl
  | x :: xs, h => by
    rw [List.all_cons, Bool.and_eq_true] at h
    rw [List.map_cons, flat_sh h.1, flats_sh h.2]
theorem n_inSq {neg : Bool} {a : MV} {k : Nat} {g : Nat} {P S : Stor} (hg : g ≤ S.length) : Fr g P (shV g P) (inSq neg a k S) (inSq neg (shV g P a) (shN g P k) (shS g P S)) := fun v S' h => by
  unfold inSq at h ⊢
  split at h
  · rename_i xs e
    rw [lget_sh hg e]
    split at h
    · rename_i q
      cases h
      have q' := q
      rw [Bool.and_eq_true] at q'
      refine ⟨hg, ?_⟩
      show (if (flatM (shV g P a) && (xs.map (shV g P)).all flatM) = true then Res.ok (MV.bl (if neg then !inM (shV g P a) (xs.map (shV g P)) else inM (shV g P a) (xs.map (shV g P)))) (shS g P S) else .bad) = _
      rw [flat_sh q'.1, flats_sh q'.2, if_pos q]
      rfl
    · cases h
  · rename_i e0
    rw [lget_shN hg e0]
    split at h
    · rename_i xs e
      show _ ∧ (match tget (shS g P S) (shN g P k) with | some xs => _ | none => _) = _
      rw [tget_sh hg e]
      split at h
      · rename_i q
        cases h
        have q' := q
        rw [Bool.and_eq_true] at q'
        refine ⟨hg, ?_⟩
        show (if (flatM (shV g P a) && (xs.map (shV g P)).all flatM) = true then Res.ok (MV.bl (if neg then !inM (shV g P a) (xs.map (shV g P)) else inM (shV g P a) (xs.map (shV g P)))) (shS g P S) else .bad) = _
        rw [flat_sh q'.1, flats_sh q'.2, if_pos q]
        rfl
      · cases h
    · cases h
theorem n_in (neg : Bool) : N2 (inS neg) := fun g P a b S hg v S' h => by
  cases b with
  | ref k => cases a <;> exact n_inSq hg v S' h
  | str z =>
    cases a with
    | str x =>
      have h : inStr neg x z S = .ok v S' := h
      show _ ∧ inStr neg x z (shS g P S) = _
      unfold inStr at h ⊢
      split at h
      · cases h
        exact ⟨hg, rfl⟩
      · cases h
    | _ => cases h
  | _ => cases a <;> cases h
theorem n_is (neg : Bool) : N2 (isS neg) := fun g P a b S hg v S' h => by
  cases b with
  | non =>
    cases a <;> cases h <;> refine ⟨hg, ?_⟩ <;> rfl
  | bl c =>
    cases a <;> cases h
    exact ⟨hg, rfl⟩
  | _ => cases a <;> cases h
theorem n_neg : N1 negI := fun g P a S hg v S' h => by cases a <;> cases h; exact ⟨hg, rfl⟩
theorem atI_sh {g : Nat} {P : Stor} {xs : List MV} {i : Int} {v : MV} (h : atI xs i = some v) : atI (xs.map (shV g P)) i = some (shV g P v) := by
  unfold atI at h ⊢
  rw [List.length_map]
  cases e : ixN xs.length i with
  | none => rw [e] at h; cases h
  | some j =>
    rw [e] at h
    have h : xs[j]? = some v := h
    show (xs.map (shV g P))[j]? = _
    rw [List.getElem?_map, h]
    rfl
theorem n_ix : N2 ixS := fun g P a b S hg v S' h => by
  cases a with
  | ref k =>
    cases b with
    | int i =>
      have h : (match lget S k with | some xs => (match atI xs i with | some v => Res.ok v S | none => .bad) | none => match tget S k with | some xs => (match atI xs i with | some v => .ok v S | none => .bad) | none => .bad) = .ok v S' := h
      show _ ∧ (match lget (shS g P S) (shN g P k) with | some xs => (match atI xs i with | some v => Res.ok v (shS g P S) | none => .bad) | none => match tget (shS g P S) (shN g P k) with | some xs => (match atI xs i with | some v => .ok v (shS g P S) | none => .bad) | none => .bad) = _
      split at h
      · rename_i xs e
        rw [lget_sh hg e]
        split at h
        · rename_i u e2
          cases h
          refine ⟨hg, ?_⟩
          show (match atI (xs.map (shV g P)) i with | some v => Res.ok v (shS g P S) | none => .bad) = _
          rw [atI_sh e2]
        · cases h
      · rename_i e0
        rw [lget_shN hg e0]
        split at h
        · rename_i xs e
          show _ ∧ (match tget (shS g P S) (shN g P k) with | some xs => (match atI xs i with | some v => Res.ok v (shS g P S) | none => .bad) | none => .bad) = _
          rw [tget_sh hg e]
          split at h
          · rename_i u e2
            cases h
            refine ⟨hg, ?_⟩
            show (match atI (xs.map (shV g P)) i with | some v => Res.ok v (shS g P S) | none => .bad) = _
            rw [atI_sh e2]
          · cases h
        · cases h
    | _ => cases h
  | str z =>
    cases b with
    | int i =>
      have h : (if z.length ≤ sizeLine then (match atI z.cps.toList i with | some c => Res.ok (MV.str ⟨#[c]⟩) S | none => .bad) else .bad) = .ok v S' := h
      show _ ∧ (if z.length ≤ sizeLine then (match atI z.cps.toList i with | some c => Res.ok (MV.str ⟨#[c]⟩) (shS g P S) | none => .bad) else .bad) = _
      split at h
      · rename_i q
        rw [if_pos q]
        split at h
        · cases h; exact ⟨hg, rfl⟩
        · cases h
      · cases h
    | _ => cases h
  | _ => cases b <;> cases h
end Rf

/-! Rf13: the frame, of builtins, methods, expressions, statements, defs. -/
namespace Rf
open PySem PySem.Spec PyProof.Rows L2
theorem cutM_map {g : Nat} {P : Stor} {xs : List MV} {lo hi : Option Int} : cutM (xs.map (shV g P)) lo hi = (cutM xs lo hi).map (shV g P) := by
  unfold cutM
  rw [List.length_map, List.map_take, List.map_drop]
abbrev N3 (f : MV → Option Int → Option Int → Stor → Res MV) : Prop := ∀ (g : Nat) (P : Stor) a i j S, g ≤ S.length → Fr g P (shV g P) (f a i j S) (f (shV g P a) i j (shS g P S))
theorem n_slc : N3 slcS := fun g P a lo hi S hg v S' h => by
  cases a with
  | ref k =>
    have h : (match lget S k with | some xs => newL (cutM xs lo hi) S | none => match tget S k with | some xs => if HT.sIx xs.length 0 lo = 0 ∧ HT.sIx xs.length xs.length hi = xs.length then Res.bad else newT (cutM xs lo hi) S | none => .bad) = .ok v S' := h
    show _ ∧ (match lget (shS g P S) (shN g P k) with | some xs => newL (cutM xs lo hi) (shS g P S) | none => match tget (shS g P S) (shN g P k) with | some xs => if HT.sIx xs.length 0 lo = 0 ∧ HT.sIx xs.length xs.length hi = xs.length then Res.bad else newT (cutM xs lo hi) (shS g P S) | none => .bad) = _
    split at h
    · rename_i xs e
      rw [lget_sh hg e]
      show _ ∧ newL (cutM (xs.map (shV g P)) lo hi) _ = _
      rw [cutM_map]
      exact fr_newL hg v S' h
    · rename_i e0
      rw [lget_shN hg e0]
      split at h
      · rename_i xs e
        show _ ∧ (match tget (shS g P S) (shN g P k) with | some xs => if HT.sIx xs.length 0 lo = 0 ∧ HT.sIx xs.length xs.length hi = xs.length then Res.bad else newT (cutM xs lo hi) (shS g P S) | none => .bad) = _
        rw [tget_sh hg e]
        show _ ∧ (if HT.sIx (xs.map (shV g P)).length 0 lo = 0 ∧ HT.sIx (xs.map (shV g P)).length (xs.map (shV g P)).length hi = (xs.map (shV g P)).length then Res.bad else newT (cutM (xs.map (shV g P)) lo hi) (shS g P S)) = _
        rw [List.length_map, cutM_map]
        split at h
        · cases h
        · rename_i q
          rw [if_neg q]
          exact fr_newT hg v S' h
      · cases h
  | str z =>
    have h : (if z.length ≤ sizeLine then Res.ok (MV.str (cutS z lo hi)) S else .bad) = .ok v S' := h
    show _ ∧ (if z.length ≤ sizeLine then Res.ok (MV.str (cutS z lo hi)) (shS g P S) else .bad) = _
    split at h
    · rename_i q
      cases h
      exact ⟨hg, if_pos q⟩
    · cases h
  | _ => cases h
theorem n_len : NL lenS := fun g P as S hg v S' h => by
  rcases as with _ | ⟨a, _ | ⟨b, r⟩⟩
  · cases h
  · have h : lenV a S = .ok v S' := h
    show _ ∧ lenV (shV g P a) (shS g P S) = _
    cases a with
    | str z =>
      have h : (if z.length ≤ sizeLine then Res.ok (MV.int z.length) S else .bad) = .ok v S' := h
      show _ ∧ (if z.length ≤ sizeLine then Res.ok (MV.int z.length) (shS g P S) else .bad) = _
      split at h
      · rename_i q; cases h; exact ⟨hg, if_pos q⟩
      · cases h
    | ref k =>
      have h : (match lget S k with | some xs => Res.ok (MV.int xs.length) S | none => match tget S k with | some xs => .ok (.int xs.length) S | none => .bad) = .ok v S' := h
      show _ ∧ (match lget (shS g P S) (shN g P k) with | some xs => Res.ok (MV.int xs.length) (shS g P S) | none => match tget (shS g P S) (shN g P k) with | some xs => .ok (.int xs.length) (shS g P S) | none => .bad) = _
      split at h
      · rename_i xs e
        cases h
        rw [lget_sh hg e]
        refine ⟨hg, ?_⟩
        show Res.ok (MV.int ((xs.map (shV g P)).length : Nat)) _ = _
        rw [List.length_map]
        rfl
      · rename_i e0
        rw [lget_shN hg e0]
        split at h
        · rename_i xs e
          cases h
          refine ⟨hg, ?_⟩
          show (match tget (shS g P S) (shN g P k) with | some xs => Res.ok (MV.int xs.length) (shS g P S) | none => .bad) = _
          rw [tget_sh hg e]
          show Res.ok (MV.int ((xs.map (shV g P)).length : Nat)) _ = _
          rw [List.length_map]
          rfl
        · cases h
    | _ => cases h
  · cases h
theorem n_v1 {f : MV → Stor → Res MV} (h : ∀ (a : MV) (S : Stor) v S', f a S = .ok v S' → S' = S ∧ (∀ k, a ≠ .ref k) ∧ (∀ k, v ≠ .ref k) ∧ ∀ T, f a T = .ok v T) : NL (on1 f) := fun g P as S hg v S' e => by
  rcases as with _ | ⟨a, _ | ⟨b, r⟩⟩
  · cases e
  · obtain ⟨rfl, h1, h3, h4⟩ := h a S v S' e
    have e1 : ∀ u : MV, (∀ k, u ≠ .ref k) → shV g P u = u := fun u hu => by cases u <;> first | rfl | exact absurd rfl (hu _)
    show _ ∧ f (shV g P a) _ = _
    rw [e1 a h1, e1 v h3]
    exact ⟨hg, h4 _⟩
  · cases e
theorem n_abs : NL absS := n_v1 fun a S v S' h => by cases a <;> cases h; exact ⟨rfl, by simp, by simp, fun _ => rfl⟩
theorem n_int : NL intS := n_v1 fun a S v S' h => by
  cases a with
  | int i => cases h; exact ⟨rfl, by simp, by simp, fun _ => rfl⟩
  | bl i => cases h; exact ⟨rfl, by simp, by simp, fun _ => rfl⟩
  | str z =>
    have h : (match PySem.intText? z with | some n => if z.length ≤ 640 then Res.ok (MV.int n) S else .bad | none => .bad) = .ok v S' := h
    split at h
    · rename_i n e
      split at h
      · rename_i q
        cases h
        refine ⟨rfl, by simp, by simp, fun T => ?_⟩
        show (match PySem.intText? z with | some n => if z.length ≤ 640 then Res.ok (MV.int n) T else .bad | none => .bad) = _
        rw [e]
        exact if_pos q
      · cases h
    · cases h
  | _ => cases h
theorem n_str : NL strS := n_v1 fun a S v S' h => by
  cases a with
  | int i =>
    have h : (if i.natAbs.log2 < 1920 then Res.ok (MV.str (toString i)) S else .bad) = .ok v S' := h
    split at h
    · rename_i q
      cases h
      exact ⟨rfl, by simp, by simp, fun T => if_pos q⟩
    · cases h
  | _ => cases h
theorem n_list : NL listS := fun g P as S hg v S' h => by
  rcases as with _ | ⟨a, _ | ⟨b, r⟩⟩
  · cases h
  · have h : listV a S = .ok v S' := h
    show _ ∧ listV (shV g P a) (shS g P S) = _
    cases a with
    | ref k =>
      have h : (match lget S k with | some xs => newL xs S | none => match tget S k with | some xs => newL xs S | none => .bad) = .ok v S' := h
      show _ ∧ (match lget (shS g P S) (shN g P k) with | some xs => newL xs (shS g P S) | none => match tget (shS g P S) (shN g P k) with | some xs => newL xs (shS g P S) | none => .bad) = _
      split at h
      · rename_i xs e
        rw [lget_sh hg e]
        exact fr_newL hg v S' h
      · rename_i e0
        rw [lget_shN hg e0]
        split at h
        · rename_i xs e
          show _ ∧ (match tget (shS g P S) (shN g P k) with | some xs => newL xs (shS g P S) | none => .bad) = _
          rw [tget_sh hg e]
          exact fr_newL hg v S' h
        · cases h
    | _ => cases h
  · cases h
/-- over a list of ints, to a value -/
theorem n_ints {f : MV → Stor → Res MV} {o : List Int → Stor → Res MV} (hf : ∀ k S, f (.ref k) S = match lget S k with | some xs => (match intsM xs with | some ns => o ns S | none => .bad) | none => .bad) (hn : ∀ a S v S', f a S = .ok v S' → ∃ k, a = .ref k)
    (ho : ∀ g P ns S, g ≤ S.length → Fr g P (shV g P) (o ns S) (o ns (shS g P S))) : N1 f := fun g P a S hg v S' h => by
  obtain ⟨k, rfl⟩ := hn a S v S' h
  rw [hf] at h
  show _ ∧ f (.ref (shN g P k)) _ = _
  rw [hf]
  split at h
  · rename_i xs e
    rw [lget_sh hg e]
    split at h
    · rename_i ns e2
      show _ ∧ (match intsM (xs.map (shV g P)) with | some ns => o ns (shS g P S) | none => .bad) = _
      rw [ints_sh e2]
      exact ho g P ns S hg v S' h
    · cases h
  · cases h
theorem n_on1 {f : MV → Stor → Res MV} (h : N1 f) : NL (on1 f) := fun g P as S hg v S' e => by
  rcases as with _ | ⟨a, _ | ⟨b, r⟩⟩
  · cases e
  · exact h g P a S hg v S' e
  · cases e
theorem fr_int {g : Nat} {P S : Stor} {i : Int} (hg : g ≤ S.length) : Fr g P (shV g P) (.ok (.int i) S) (.ok (.int i) (shS g P S)) := fun v S' h => by cases h; exact ⟨hg, rfl⟩
theorem fr_bl {g : Nat} {P S : Stor} {i : Bool} (hg : g ≤ S.length) : Fr g P (shV g P) (.ok (.bl i) S) (.ok (.bl i) (shS g P S)) := fun v S' h => by cases h; exact ⟨hg, rfl⟩
theorem ints_map {g : Nat} {P : Stor} (ns : List Int) : (ns.map MV.int).map (shV g P) = ns.map MV.int := by
  rw [List.map_map]
  rfl
theorem n_sumV : N1 sumV := n_ints (o := fun ns S => .ok (.int ns.sum) S) (fun _ _ => rfl) (fun a S v S' h => by cases a <;> first | cases h; done | exact ⟨_, rfl⟩) fun g P ns S hg => fr_int hg
theorem n_sum : NL sumS := n_on1 n_sumV
theorem n_sortedV : N1 sortedV := n_ints (o := fun ns S => newL ((sortI ns).map .int) S) (fun _ _ => rfl) (fun a S v S' h => by cases a <;> first | cases h; done | exact ⟨_, rfl⟩) fun g P ns S hg => by
  have := fr_newL (g := g) (P := P) (xs := (sortI ns).map .int) hg
  rw [ints_map] at this
  exact this
theorem n_sorted : NL sortedS := n_on1 n_sortedV
def maxV : MV → Stor → Res MV
  | .ref k, S => match lget S k with
    | some xs => match intsM xs with
      | some ns => if ns = [] then .bad else .ok (.int (maxI ns)) S
      | none => .bad
    | none => .bad
  | _, _ => .bad
def minV : MV → Stor → Res MV
  | .ref k, S => match lget S k with
    | some xs => match intsM xs with
      | some ns => if ns = [] then .bad else .ok (.int (minI ns)) S
      | none => .bad
    | none => .bad
  | _, _ => .bad
theorem n_maxV : N1 maxV := n_ints (o := fun ns S => if ns = [] then .bad else .ok (.int (maxI ns)) S) (fun _ _ => rfl) (fun a S v S' h => by cases a <;> first | cases h; done | exact ⟨_, rfl⟩) fun g P ns S hg => by
  split
  · exact Fr.bad
  · exact fr_int hg
theorem n_minV : N1 minV := n_ints (o := fun ns S => if ns = [] then .bad else .ok (.int (minI ns)) S) (fun _ _ => rfl) (fun a S v S' h => by cases a <;> first | cases h; done | exact ⟨_, rfl⟩) fun g P ns S hg => by
  split
  · exact Fr.bad
  · exact fr_int hg
theorem n_max : NL maxS := fun g P as S hg v S' h => by
  rcases as with _ | ⟨a, _ | ⟨b, _ | ⟨c, r⟩⟩⟩
  · cases h
  · cases a <;> first | exact n_maxV g P (.ref _) S hg v S' h | cases h
  · cases a <;> cases b <;> cases h
    exact ⟨hg, rfl⟩
  · cases a <;> cases b <;> cases h
theorem n_min : NL minS := fun g P as S hg v S' h => by
  rcases as with _ | ⟨a, _ | ⟨b, _ | ⟨c, r⟩⟩⟩
  · cases h
  · cases a <;> first | exact n_minV g P (.ref _) S hg v S' h | cases h
  · cases a <;> cases b <;> cases h
    exact ⟨hg, rfl⟩
  · cases a <;> cases b <;> cases h
theorem n_bls {f : MV → Stor → Res MV} {o : List Bool → Bool} (hf : ∀ k S, f (.ref k) S = match lget S k with | some xs => (match blsM xs with | some ns => .ok (.bl (o ns)) S | none => .bad) | none => .bad) (hn : ∀ a S v S', f a S = .ok v S' → ∃ k, a = .ref k) : N1 f := fun g P a S hg v S' h => by
  obtain ⟨k, rfl⟩ := hn a S v S' h
  rw [hf] at h
  show _ ∧ f (.ref (shN g P k)) _ = _
  rw [hf]
  split at h
  · rename_i xs e
    rw [lget_sh hg e]
    split at h
    · rename_i ns e2
      show _ ∧ (match blsM (xs.map (shV g P)) with | some ns => Res.ok (MV.bl (o ns)) (shS g P S) | none => .bad) = _
      rw [bls_sh e2]
      exact fr_bl hg v S' h
    · cases h
  · cases h
theorem n_any : NL anyS := n_on1 (n_bls (o := fun bs => bs.any id) (fun _ _ => rfl) (fun a S v S' h => by cases a <;> first | cases h; done | exact ⟨_, rfl⟩))
theorem n_all : NL allS := n_on1 (n_bls (o := fun bs => bs.all id) (fun _ _ => rfl) (fun a S v S' h => by cases a <;> first | cases h; done | exact ⟨_, rfl⟩))
theorem n_divmod : NL divmodS := fun g P as S hg v S' h => by
  rcases as with _ | ⟨a, _ | ⟨b, _ | ⟨c, r⟩⟩⟩
  · cases h
  · cases a <;> cases h
  · cases a with
    | int i =>
      cases b with
      | int j =>
        have h : (if CDiv i j then newT [.int (i / j), .int (i % j)] S else .bad) = .ok v S' := h
        show _ ∧ (if CDiv i j then newT [.int (i / j), .int (i % j)] (shS g P S) else .bad) = _
        split at h
        · rename_i q
          rw [if_pos q]
          exact fr_newT (xs := [.int (i / j), .int (i % j)]) hg v S' h
        · cases h
      | _ => cases h
    | _ => cases b <;> cases h
  · cases a <;> cases b <;> cases h
theorem tyN_sh {g : Nat} {P S : Stor} (hg : g ≤ S.length) {v : MV} {t : String} (h : tyN v S = some t) : tyN (shV g P v) (shS g P S) = some t := by
  cases v with
  | ref k =>
    have h : tyO S[k]? = some t := h
    show tyO (shS g P S)[shN g P k]? = some t
    rw [shS_get hg]
    cases e : S[k]? with
    | none => rw [e] at h; cases h
    | some o => rw [e] at h; cases o <;> exact h
  | _ => exact h
theorem n_isi (T : String) : N1 (isiV T) := fun g P a S hg v S' h => by
  unfold isiV at h ⊢
  split at h
  · rename_i t e
    rw [tyN_sh hg e]
    split at h
    · rename_i b e2
      cases h
      refine ⟨hg, ?_⟩
      show (match kitB t T with | some b => Res.ok (MV.bl b) (shS g P S) | none => .bad) = _
      rw [e2]
      rfl
    · cases h
  · cases h
/-! methods -/
theorem n_append : NM appendM := fun g P a as S hg v S' h => by
  cases a with
  | ref k =>
    rcases as with _ | ⟨x, _ | ⟨y, r⟩⟩
    · cases h
    · have h : (match S[k]? with | some (.lst xs) => if xs.length < sizeLine then Res.ok MV.non (S.set k (.lst (xs ++ [x]))) else .bad | _ => .bad) = .ok v S' := h
      show _ ∧ (match (shS g P S)[shN g P k]? with | some (.lst xs) => if xs.length < sizeLine then Res.ok MV.non ((shS g P S).set (shN g P k) (.lst (xs ++ [shV g P x]))) else .bad | _ => .bad) = _
      split at h
      · rename_i xs e
        rw [get_lst hg e]
        show _ ∧ (if (xs.map (shV g P)).length < sizeLine then Res.ok MV.non ((shS g P S).set (shN g P k) (.lst (xs.map (shV g P) ++ [shV g P x]))) else .bad) = _
        rw [List.length_map]
        split at h
        · rename_i q
          rw [if_pos q]
          have := fr_set (P := P) (k := k) (o := .lst (xs ++ [x])) (v := .non) hg v S' h
          rw [show shO g P (.lst (xs ++ [x])) = .lst (xs.map (shV g P) ++ [shV g P x]) by simp [shO]] at this
          exact this
        · cases h
      · cases h
    · cases h
  | _ => cases h
theorem n_extend : NM extendM := fun g P a as S hg v S' h => by
  cases a with
  | ref k =>
    rcases as with _ | ⟨x, _ | ⟨y, r⟩⟩
    · cases h
    · cases x with
      | ref l =>
        have h : (match S[k]?, S[l]? with | some (.lst xs), some (.lst ys) => if xs.length + ys.length ≤ sizeLine then Res.ok MV.non (S.set k (.lst (xs ++ ys))) else .bad | _, _ => .bad) = .ok v S' := h
        show _ ∧ (match (shS g P S)[shN g P k]?, (shS g P S)[shN g P l]? with | some (.lst xs), some (.lst ys) => if xs.length + ys.length ≤ sizeLine then Res.ok MV.non ((shS g P S).set (shN g P k) (.lst (xs ++ ys))) else .bad | _, _ => .bad) = _
        split at h
        · rename_i xs ys e1 e2
          rw [get_lst hg e1, get_lst hg e2]
          show _ ∧ (if (xs.map (shV g P)).length + (ys.map (shV g P)).length ≤ sizeLine then Res.ok MV.non ((shS g P S).set (shN g P k) (.lst (xs.map (shV g P) ++ ys.map (shV g P)))) else .bad) = _
          rw [List.length_map, List.length_map]
          split at h
          · rename_i q
            rw [if_pos q, ← List.map_append]
            exact fr_set (P := P) (k := k) (o := .lst (xs ++ ys)) (v := .non) hg v S' h
          · cases h
        · cases h
      | _ => cases h
    · cases x <;> cases h
  | _ => cases h
theorem n_pop : NM popM := fun g P a as S hg v S' h => by
  cases a with
  | ref k =>
    rcases as with _ | ⟨x, _ | ⟨y, r⟩⟩
    · cases h
    · cases x with
      | int i =>
        have h : (match S[k]? with | some (.lst xs) => (match ixN xs.length i with | some j => (match xs[j]? with | some v => Res.ok v (S.set k (.lst (xs.eraseIdx j))) | none => .bad) | none => .bad) | _ => .bad) = .ok v S' := h
        show _ ∧ (match (shS g P S)[shN g P k]? with | some (.lst xs) => (match ixN xs.length i with | some j => (match xs[j]? with | some v => Res.ok v ((shS g P S).set (shN g P k) (.lst (xs.eraseIdx j))) | none => .bad) | none => .bad) | _ => .bad) = _
        split at h
        · rename_i xs e
          rw [get_lst hg e]
          show _ ∧ (match ixN (xs.map (shV g P)).length i with | some j => (match (xs.map (shV g P))[j]? with | some v => Res.ok v ((shS g P S).set (shN g P k) (.lst ((xs.map (shV g P)).eraseIdx j))) | none => .bad) | none => .bad) = _
          rw [List.length_map]
          split at h
          · rename_i j e2
            show _ ∧ (match (xs.map (shV g P))[j]? with | some v => Res.ok v ((shS g P S).set (shN g P k) (.lst ((xs.map (shV g P)).eraseIdx j))) | none => .bad) = _
            rw [List.getElem?_map]
            split at h
            · rename_i u e3
              rw [e3]
              have := fr_set (P := P) (k := k) (o := .lst (xs.eraseIdx j)) (v := u) hg v S' h
              rw [show shO g P (.lst (xs.eraseIdx j)) = .lst ((xs.map (shV g P)).eraseIdx j) by simp [shO, List.eraseIdx_eq_take_drop_succ, List.map_take, List.map_drop]] at this
              exact this
            · cases h
          · cases h
        · cases h
      | _ => cases h
    · cases x <;> cases h
  | _ => cases h
theorem n_insert : NM insertM := fun g P a as S hg v S' h => by
  cases a with
  | ref k =>
    rcases as with _ | ⟨x, _ | ⟨y, _ | ⟨z, r⟩⟩⟩
    · cases h
    · cases x <;> cases h
    · cases x with
      | int i =>
        have h : (match S[k]? with | some (.lst xs) => if xs.length < sizeLine ∧ 0 ≤ i ∧ i < 2 ^ 63 then Res.ok MV.non (S.set k (.lst (xs.take i.toNat ++ [y] ++ xs.drop i.toNat))) else .bad | _ => .bad) = .ok v S' := h
        show _ ∧ (match (shS g P S)[shN g P k]? with | some (.lst xs) => if xs.length < sizeLine ∧ 0 ≤ i ∧ i < 2 ^ 63 then Res.ok MV.non ((shS g P S).set (shN g P k) (.lst (xs.take i.toNat ++ [shV g P y] ++ xs.drop i.toNat))) else .bad | _ => .bad) = _
        split at h
        · rename_i xs e
          rw [get_lst hg e]
          show _ ∧ (if (xs.map (shV g P)).length < sizeLine ∧ 0 ≤ i ∧ i < 2 ^ 63 then Res.ok MV.non ((shS g P S).set (shN g P k) (.lst ((xs.map (shV g P)).take i.toNat ++ [shV g P y] ++ (xs.map (shV g P)).drop i.toNat))) else .bad) = _
          rw [List.length_map]
          split at h
          · rename_i q
            rw [if_pos q]
            have := fr_set (P := P) (k := k) (o := .lst (xs.take i.toNat ++ [y] ++ xs.drop i.toNat)) (v := .non) hg v S' h
            rw [show shO g P (.lst (xs.take i.toNat ++ [y] ++ xs.drop i.toNat)) = .lst ((xs.map (shV g P)).take i.toNat ++ [shV g P y] ++ (xs.map (shV g P)).drop i.toNat) by simp [shO, List.map_take, List.map_drop]] at this
            exact this
          · cases h
        · cases h
      | _ => cases h
    · cases x <;> cases h
  | _ => cases h
theorem n_reverse : NM reverseM := fun g P a as S hg v S' h => by
  cases a with
  | ref k =>
    rcases as with _ | ⟨x, r⟩
    · have h : (match S[k]? with | some (.lst xs) => Res.ok MV.non (S.set k (.lst xs.reverse)) | _ => .bad) = .ok v S' := h
      show _ ∧ (match (shS g P S)[shN g P k]? with | some (.lst xs) => Res.ok MV.non ((shS g P S).set (shN g P k) (.lst xs.reverse)) | _ => .bad) = _
      split at h
      · rename_i xs e
        rw [get_lst hg e]
        have := fr_set (P := P) (k := k) (o := .lst xs.reverse) (v := .non) hg v S' h
        rw [show shO g P (.lst xs.reverse) = .lst (xs.map (shV g P)).reverse by simp [shO]] at this
        exact this
      · cases h
    · cases h
  | _ => cases h
theorem n_clear : NM clearM := fun g P a as S hg v S' h => by
  cases a with
  | ref k =>
    rcases as with _ | ⟨x, r⟩
    · have h : (match S[k]? with | some (.lst xs) => Res.ok MV.non (S.set k (.lst [])) | _ => .bad) = .ok v S' := h
      show _ ∧ (match (shS g P S)[shN g P k]? with | some (.lst xs) => Res.ok MV.non ((shS g P S).set (shN g P k) (.lst [])) | _ => .bad) = _
      split at h
      · rename_i xs e
        rw [get_lst hg e]
        exact fr_set (P := P) (k := k) (o := .lst []) (v := .non) hg v S' h
      · cases h
    · cases h
  | _ => cases h
/-! ### expressions -/
section
variable (g : Nat) (P : Stor)
abbrev NE (f : SE) : Prop := ∀ env S, g ≤ S.length → Fr g P (shV g P) (f env S) (f (shEnv g P env) (shS g P S))
abbrev NA (f : SA) : Prop := ∀ env S, g ≤ S.length → Fr g P (List.map (shV g P)) (f env S) (f (shEnv g P env) (shS g P S))
abbrev NB (f : SB) : Prop := ∀ env S, g ≤ S.length → Fr g P id (f env S) (f (shEnv g P env) (shS g P S))
abbrev NS (f : SS) : Prop := ∀ env S, g ≤ S.length → Fr g P (shOut g P) (f env S) (f (shEnv g P env) (shS g P S))
abbrev NI (f : SI) : Prop := ∀ env S, g ≤ S.length → Fr g P (shI g P) (f env S) (f (shEnv g P env) (shS g P S))
abbrev NG (f : SG) : Prop := ∀ v env S, g ≤ S.length → Fr g P (shEnv g P) (f v env S) (f (shV g P v) (shEnv g P env) (shS g P S))
abbrev NF (F : List MV → Stor → Res MV) : Prop := ∀ as S, g ≤ S.length → Fr g P (shV g P) (F as S) (F (as.map (shV g P)) (shS g P S))
end
section
variable {g : Nat} {P : Stor}
theorem env_get {env : MEnv} {i : Nat} : (shEnv g P env)[i]? = env[i]?.map (Option.map (shV g P)) := by unfold shEnv; rw [List.getElem?_map]
theorem env_set {env : MEnv} {i : Nat} {v : MV} : shEnv g P (env.set i (some v)) = (shEnv g P env).set i (some (shV g P v)) := by unfold shEnv; rw [List.map_set]; rfl
theorem n_varS (i : Nat) : NE g P (varS i) := fun env S hg v S' h => by
  unfold varS at h ⊢
  rw [env_get]
  split at h
  · rename_i u e
    cases h
    rw [e]
    exact ⟨hg, rfl⟩
  · cases h
theorem n_cS {v : MV} (hv : shV g P v = v) : NE g P (cS v) := fun env S hg u S' h => by
  cases h
  refine ⟨hg, ?_⟩
  show Res.ok v _ = _
  rw [hv]
theorem n_binS {f : MV → MV → Stor → Res MV} {a b : SE} (hf : N2 f) (ha : NE g P a) (hb : NE g P b) : NE g P (binS f a b) := fun env S hg => Fr.bd (ha env S hg) fun x S1 h1 => Fr.bd (hb env S1 h1) fun y S2 h2 => hf g P x y S2 h2
theorem n_unS {f : MV → Stor → Res MV} {a : SE} (hf : N1 f) (ha : NE g P a) : NE g P (unS f a) := fun env S hg => Fr.bd (ha env S hg) fun x S1 h1 => hf g P x S1 h1
theorem n_nilS : NA g P nilS := fun env S hg v S' h => by cases h; exact ⟨hg, rfl⟩
theorem n_consS {a : SE} {r : SA} (ha : NE g P a) (hr : NA g P r) : NA g P (consS a r) := fun env S hg => Fr.bd (ha env S hg) fun x S1 h1 => Fr.bd (hr env S1 h1) fun xs S2 h2 v S' h => by cases h; exact ⟨h2, rfl⟩
theorem n_appS {F : List MV → Stor → Res MV} {a : SA} (hF : NF g P F) (ha : NA g P a) : NE g P (appS F a) := fun env S hg => Fr.bd (ha env S hg) fun xs S1 h1 => hF xs S1 h1
theorem n_appL {F : List MV → Stor → Res MV} {a : SA} (hF : NL F) (ha : NA g P a) : NE g P (appS F a) := n_appS (hF g P) ha
theorem n_tupS {a : SA} (ha : NA g P a) : NE g P (tupS a) := n_appL n_newT ha
theorem n_lstS {a : SA} (ha : NA g P a) : NE g P (lstS a) := n_appL n_newL ha
theorem n_tstS {a : SE} (ha : NE g P a) : NB g P (tstS a) := fun env S hg => Fr.bd (ha env S hg) fun x S1 h1 v S' h => by
  cases x <;> cases h
  exact ⟨h1, rfl⟩
theorem n_andB {a b : SB} (ha : NB g P a) (hb : NB g P b) : NB g P (andB a b) := fun env S hg => Fr.bd (ha env S hg) fun x S1 h1 => by
  cases x
  · exact fun v S' h => by cases h; exact ⟨h1, rfl⟩
  · exact hb env S1 h1
theorem n_orB {a b : SB} (ha : NB g P a) (hb : NB g P b) : NB g P (orB a b) := fun env S hg => Fr.bd (ha env S hg) fun x S1 h1 => by
  cases x
  · exact hb env S1 h1
  · exact fun v S' h => by cases h; exact ⟨h1, rfl⟩
theorem n_notB {a : SB} (ha : NB g P a) : NB g P (notB a) := fun env S hg => Fr.bd (ha env S hg) fun x S1 h1 v S' h => by cases h; exact ⟨h1, rfl⟩
theorem n_yesB : NB g P yesB := fun env S hg v S' h => by cases h; exact ⟨hg, rfl⟩
theorem n_andV {a b : SE} (ha : NE g P a) (hb : NE g P b) : NE g P (andV a b) := fun env S hg => Fr.bd (ha env S hg) fun x S1 h1 => by
  cases x with
  | bl c =>
    cases c
    · exact fun v S' h => by cases h; exact ⟨h1, rfl⟩
    · exact hb env S1 h1
  | _ => exact Fr.bad
theorem n_orV {a b : SE} (ha : NE g P a) (hb : NE g P b) : NE g P (orV a b) := fun env S hg => Fr.bd (ha env S hg) fun x S1 h1 => by
  cases x with
  | bl c =>
    cases c
    · exact hb env S1 h1
    · exact fun v S' h => by cases h; exact ⟨h1, rfl⟩
  | _ => exact Fr.bad
theorem n_notV {a : SE} (ha : NE g P a) : NE g P (notV a) := fun env S hg => Fr.bd (ha env S hg) fun x S1 h1 => by
  cases x with
  | bl c => exact fun v S' h => by cases h; exact ⟨h1, rfl⟩
  | _ => exact Fr.bad
theorem n_ifE {c : SB} {a b : SE} (hc : NB g P c) (ha : NE g P a) (hb : NE g P b) : NE g P (ifE c a b) := fun env S hg => Fr.bd (hc env S hg) fun x S1 h1 => by
  cases x
  · exact hb env S1 h1
  · exact ha env S1 h1
theorem n_chS {f f' : MV → MV → Stor → Res MV} {a b c : SE} (hf : N2 f) (hf' : N2 f') (ha : NE g P a) (hb : NE g P b) (hc : NE g P c) : NE g P (chS f f' a b c) := fun env S hg => Fr.bd (ha env S hg) fun x S1 h1 => Fr.bd (hb env S1 h1) fun y S2 h2 => Fr.bd (hf g P x y S2 h2) fun z S3 h3 => by
  cases z with
  | bl k =>
    cases k
    · exact fun v S' h => by cases h; exact ⟨h3, rfl⟩
    · exact Fr.bd (hc env S3 h3) fun w S4 h4 => hf' g P y w S4 h4
  | _ => exact Fr.bad
def NO (g : Nat) (P : Stor) : Option SE → Prop
  | none => True
  | some a => NE g P a
theorem n_none : NO g P none := trivial
theorem n_some {a : SE} (h : NE g P a) : NO g P (some a) := h
theorem n_optS {a : Option SE} (ha : NO g P a) (env : MEnv) (S : Stor) (hg : g ≤ S.length) : Fr g P id (optS a env S) (optS a (shEnv g P env) (shS g P S)) := by
  cases a with
  | none => exact fun v S' h => by cases h; exact ⟨hg, rfl⟩
  | some a => exact Fr.bd (ha env S hg) fun x S1 h1 v S' h => by cases x <;> cases h; exact ⟨h1, rfl⟩
theorem n_slS {a : SE} {lo hi : Option SE} (ha : NE g P a) (hl : NO g P lo) (hh : NO g P hi) : NE g P (slS a lo hi) := fun env S hg => Fr.bd (ha env S hg) fun x S1 h1 => Fr.bd (n_optS hl env S1 h1) fun i S2 h2 => Fr.bd (n_optS hh env S2 h2) fun j S3 h3 => n_slc g P x i j S3 h3
theorem tyM_sh {S : Stor} (hg : g ≤ S.length) {v : MV} {T : MTy} (h : tyM v S = some T) : tyM (shV g P v) (shS g P S) = some T := by
  cases v with
  | ref k =>
    have h : (lget S k).map (fun _ => MTy.list) = some T := h
    show (lget (shS g P S) (shN g P k)).map (fun _ => MTy.list) = some T
    cases e : lget S k with
    | none => rw [e] at h; cases h
    | some xs => rw [e] at h; rw [lget_sh hg e]; exact h
  | _ => exact h
theorem n_methS {T : MTy} {f : MV → List MV → Stor → Res MV} {o : SE} {a : SA} (hf : NM f) (ho : NE g P o) (ha : NA g P a) : NE g P (methS T f o a) := fun env S hg => Fr.bd (ho env S hg) fun x S1 h1 => by
  by_cases q : tyM x S1 = some T
  · rw [if_pos q, if_pos (tyM_sh h1 q)]
    exact Fr.bd (ha env S1 h1) fun xs S2 h2 => hf g P x xs S2 h2
  · rw [if_neg q]
    exact Fr.bad
/-! what is walked -/
theorem n_rng1S {a : SA} (ha : NA g P a) : NI g P (rng1S a) := fun env S hg => Fr.bd (ha env S hg) fun xs S1 h1 => by
  rcases xs with _ | ⟨x, _ | ⟨y, r⟩⟩
  · exact Fr.bad
  · cases x with
    | int j =>
      show Fr g P (shI g P) (if _ then _ else _) (if _ then _ else _)
      split
      · exact Fr.ok (a := Itm.rng 0 1 j.toNat) h1
      · exact Fr.bad
    | _ => exact Fr.bad
  · cases x <;> exact Fr.bad
theorem n_rng2S {a : SA} (ha : NA g P a) : NI g P (rng2S a) := fun env S hg => Fr.bd (ha env S hg) fun xs S1 h1 => by
  rcases xs with _ | ⟨x, _ | ⟨y, _ | ⟨z, r⟩⟩⟩
  · exact Fr.bad
  · cases x <;> exact Fr.bad
  · cases x with
    | int i =>
      cases y with
      | int j =>
        show Fr g P (shI g P) (if _ then _ else _) (if _ then _ else _)
        split
        · exact Fr.ok (a := Itm.rng i 1 (j - i).toNat) h1
        · exact Fr.bad
      | _ => exact Fr.bad
    | _ => cases y <;> exact Fr.bad
  · cases x <;> cases y <;> exact Fr.bad
theorem n_rng3S {a : SA} (ha : NA g P a) : NI g P (rng3S a) := fun env S hg => Fr.bd (ha env S hg) fun xs S1 h1 => by
  rcases xs with _ | ⟨x, _ | ⟨y, _ | ⟨z, _ | ⟨w, r⟩⟩⟩⟩
  · exact Fr.bad
  · cases x <;> exact Fr.bad
  · cases x <;> cases y <;> exact Fr.bad
  · cases x with
    | int i =>
      cases y with
      | int j =>
        cases z with
        | int c =>
          show Fr g P (shI g P) (if _ then _ else _) (if _ then _ else _)
          split
          · exact Fr.ok (a := Itm.rng i c (rgN i j c)) h1
          · exact Fr.bad
        | _ => exact Fr.bad
      | _ => cases z <;> exact Fr.bad
    | _ => cases y <;> cases z <;> exact Fr.bad
  · cases x <;> cases y <;> cases z <;> exact Fr.bad
theorem n_seqI {a : SE} (ha : NE g P a) : NI g P (seqI a) := fun env S hg => Fr.bd (ha env S hg) fun x S1 h1 => by
  cases x with
  | ref k =>
    intro v S' h
    have h : (match lget S1 k with | some _ => Res.ok (Itm.lst k) S1 | none => match tget S1 k with | some _ => .ok (.tup k) S1 | none => .bad) = .ok v S' := h
    show _ ∧ (match lget (shS g P S1) (shN g P k) with | some _ => Res.ok (Itm.lst (shN g P k)) (shS g P S1) | none => match tget (shS g P S1) (shN g P k) with | some _ => .ok (.tup (shN g P k)) (shS g P S1) | none => .bad) = _
    split at h
    · rename_i xs e
      cases h
      rw [lget_sh h1 e]
      exact ⟨h1, rfl⟩
    · rename_i e0
      rw [lget_shN h1 e0]
      split at h
      · rename_i xs e
        cases h
        refine ⟨h1, ?_⟩
        show (match tget (shS g P S1) (shN g P k) with | some _ => Res.ok (Itm.tup (shN g P k)) (shS g P S1) | none => .bad) = _
        rw [tget_sh h1 e]
        rfl
      · cases h
  | str z => exact Fr.ok (a := Itm.str z) h1
  | _ => exact Fr.bad
theorem n_enmI {a : SA} (ha : NA g P a) : NI g P (enmI a) := fun env S hg => Fr.bd (ha env S hg) fun xs S1 h1 => by
  rcases xs with _ | ⟨x, _ | ⟨y, r⟩⟩
  · exact Fr.bad
  · cases x with
    | ref k =>
      intro v S' h
      have h : (match lget S1 k with | some _ => Res.ok (Itm.enm k) S1 | none => .bad) = .ok v S' := h
      show _ ∧ (match lget (shS g P S1) (shN g P k) with | some _ => Res.ok (Itm.enm (shN g P k)) (shS g P S1) | none => .bad) = _
      split at h
      · rename_i xs e
        cases h
        rw [lget_sh h1 e]
        exact ⟨h1, rfl⟩
      · cases h
    | _ => exact Fr.bad
  · cases x <;> exact Fr.bad
theorem n_zipI {a : SA} (ha : NA g P a) : NI g P (zipI a) := fun env S hg => Fr.bd (ha env S hg) fun xs S1 h1 => by
  rcases xs with _ | ⟨x, _ | ⟨y, _ | ⟨z, r⟩⟩⟩
  · exact Fr.bad
  · cases x <;> exact Fr.bad
  · cases x with
    | ref k =>
      cases y with
      | ref l =>
        intro v S' h
        have h : (match lget S1 k, lget S1 l with | some _, some _ => Res.ok (Itm.zip k l) S1 | _, _ => .bad) = .ok v S' := h
        show _ ∧ (match lget (shS g P S1) (shN g P k), lget (shS g P S1) (shN g P l) with | some _, some _ => Res.ok (Itm.zip (shN g P k) (shN g P l)) (shS g P S1) | _, _ => .bad) = _
        split at h
        · rename_i xs ys e e'
          cases h
          rw [lget_sh h1 e, lget_sh h1 e']
          exact ⟨h1, rfl⟩
        · cases h
      | _ => exact Fr.bad
    | _ => cases y <;> exact Fr.bad
  · cases x <;> cases y <;> exact Fr.bad
theorem n_revI {a : SA} (ha : NA g P a) : NI g P (revI a) := fun env S hg => Fr.bd (ha env S hg) fun xs S1 h1 => by
  rcases xs with _ | ⟨x, _ | ⟨y, r⟩⟩
  · exact Fr.bad
  · cases x with
    | ref k =>
      intro v S' h
      have h : (match lget S1 k with | some xs => Res.ok (Itm.rev k xs.length) S1 | none => .bad) = .ok v S' := h
      show _ ∧ (match lget (shS g P S1) (shN g P k) with | some xs => Res.ok (Itm.rev (shN g P k) xs.length) (shS g P S1) | none => .bad) = _
      split at h
      · rename_i xs e
        cases h
        rw [lget_sh h1 e]
        refine ⟨h1, ?_⟩
        show Res.ok (Itm.rev (shN g P k) (xs.map (shV g P)).length) _ = _
        rw [List.length_map]
        rfl
      · cases h
    | _ => exact Fr.bad
  · cases x <;> exact Fr.bad
theorem n_rvrS {w : SI} (hw : NI g P w) : NI g P (rvrS w) := fun env S hg => Fr.bd (hw env S hg) fun it S1 h1 v S' h => by
  cases it with
  | rng a b n =>
    show _ ∧ (match Itm.rng a b n with | .rng a 1 n => Res.ok (Itm.rng (a + (n : Int) - 1) (-1) n) (shS g P S1) | _ => .bad) = _
    have h : (match Itm.rng a b n with | .rng a 1 n => Res.ok (Itm.rng (a + (n : Int) - 1) (-1) n) S1 | _ => .bad) = .ok v S' := h
    split at h
    · rename_i e
      cases e
      cases h
      exact ⟨h1, rfl⟩
    · cases h
  | _ => cases h
/-! ### loops -/
theorem at_sh {S : Stor} (hg : g ≤ S.length) {it : Itm} {i : Nat} {y : Option Yl} (h : it.at S i = some y) : (shI g P it).at (shS g P S) i = some (y.map (shY g P)) := by
  cases it with
  | rng lo c n =>
    have h : (some (if i < n then some (Yl.one (.int (lo + i * c))) else none)) = some y := h
    cases h
    show some (if i < n then some (Yl.one (.int (lo + i * c))) else none) = _
    split <;> rfl
  | lst k =>
    have h : (match lget S k with | some xs => some (xs[i]?.map Yl.one) | none => none) = some y := h
    show (match lget (shS g P S) (shN g P k) with | some xs => some (xs[i]?.map Yl.one) | none => none) = _
    split at h
    · rename_i xs e
      cases h
      rw [lget_sh hg e]
      show some ((xs.map (shV g P))[i]?.map Yl.one) = _
      rw [List.getElem?_map]
      cases xs[i]? <;> rfl
    · cases h
  | tup k =>
    have h : (match tget S k with | some xs => some (xs[i]?.map Yl.one) | none => none) = some y := h
    show (match tget (shS g P S) (shN g P k) with | some xs => some (xs[i]?.map Yl.one) | none => none) = _
    split at h
    · rename_i xs e
      cases h
      rw [tget_sh hg e]
      show some ((xs.map (shV g P))[i]?.map Yl.one) = _
      rw [List.getElem?_map]
      cases xs[i]? <;> rfl
    · cases h
  | enm k =>
    have h : (match lget S k with | some xs => some (xs[i]?.map (Yl.two (.int i))) | none => none) = some y := h
    show (match lget (shS g P S) (shN g P k) with | some xs => some (xs[i]?.map (Yl.two (.int i))) | none => none) = _
    split at h
    · rename_i xs e
      cases h
      rw [lget_sh hg e]
      show some ((xs.map (shV g P))[i]?.map (Yl.two (.int i))) = _
      rw [List.getElem?_map]
      cases xs[i]? <;> rfl
    · cases h
  | zip k l =>
    have h : (match lget S k, lget S l with | some xs, some ys => some (match xs[i]?, ys[i]? with | some x, some y => some (Yl.two x y) | _, _ => none) | _, _ => none) = some y := h
    show (match lget (shS g P S) (shN g P k), lget (shS g P S) (shN g P l) with | some xs, some ys => some (match xs[i]?, ys[i]? with | some x, some y => some (Yl.two x y) | _, _ => none) | _, _ => none) = _
    split at h
    · rename_i xs ys e e'
      cases h
      rw [lget_sh hg e, lget_sh hg e']
      show some (match (xs.map (shV g P))[i]?, (ys.map (shV g P))[i]? with | some x, some y => some (Yl.two x y) | _, _ => none) = _
      rw [List.getElem?_map, List.getElem?_map]
      cases xs[i]? <;> cases ys[i]? <;> rfl
    · cases h
  | rev k n =>
    have h : (match lget S k with | some xs => if xs.length = n then some (if i < n then xs[n - 1 - i]?.map Yl.one else none) else none | none => none) = some y := h
    show (match lget (shS g P S) (shN g P k) with | some xs => if xs.length = n then some (if i < n then xs[n - 1 - i]?.map Yl.one else none) else none | none => none) = _
    split at h
    · rename_i xs e
      rw [lget_sh hg e]
      show (if (xs.map (shV g P)).length = n then some (if i < n then (xs.map (shV g P))[n - 1 - i]?.map Yl.one else none) else none) = _
      rw [List.length_map, List.getElem?_map]
      split at h
      · rename_i q
        cases h
        rw [if_pos q]
        split
        · cases xs[n - 1 - i]? <;> rfl
        · rfl
      · cases h
    · cases h
  | str x =>
    have h : (some (if i < x.length then (x.cps[i]?).map fun c => Yl.one (.str ⟨#[c]⟩) else none)) = some y := h
    cases h
    show some (if i < x.length then (x.cps[i]?).map fun c => Yl.one (.str ⟨#[c]⟩) else none) = _
    split
    · cases x.cps[i]? <;> rfl
    · rfl
theorem most_sh {S : Stor} (hg : g ≤ S.length) {it : Itm} : (shI g P it).most (shS g P S) = it.most S := by
  have l : ∀ k, ((lget (shS g P S) (shN g P k)).elim 0 fun xs => xs.length + 1) = (lget S k).elim 0 fun xs => xs.length + 1 := fun k => by
    cases e : lget S k with
    | none => rw [lget_shN hg e]
    | some xs => rw [lget_sh hg e]; simp
  have t : ∀ k, ((tget (shS g P S) (shN g P k)).elim 0 fun xs => xs.length + 1) = (tget S k).elim 0 fun xs => xs.length + 1 := fun k => by
    cases e : tget S k with
    | none => rw [tget_shN hg e]
    | some xs => rw [tget_sh hg e]; simp
  cases it with
  | lst k => exact l k
  | enm k => exact l k
  | zip k _ => exact l k
  | tup k => exact t k
  | _ => rfl
structure NY (g : Nat) (P : Stor) (y : YG) : Prop where
  one : NG g P y.one
  two : ∀ u v env S, g ≤ S.length → Fr g P (shEnv g P) (y.two u v env S) (y.two (shV g P u) (shV g P v) (shEnv g P env) (shS g P S))
theorem n_nameG (i : Nat) : NG g P (nameG i) := fun v env S hg u S' h => by
  cases h
  refine ⟨hg, ?_⟩
  rw [env_set]
  rfl
theorem n_nameY (i : Nat) : NY g P (nameY i) := ⟨n_nameG i, fun _ _ _ _ _ => Fr.bad⟩
def NGs (g : Nat) (P : Stor) : List SG → Prop
  | [] => True
  | x :: r => NG g P x ∧ NGs g P r
theorem n_go : ∀ {is : List SG}, NGs g P is → ∀ (xs : List MV) (env : MEnv) (S : Stor), g ≤ S.length → Fr g P (shEnv g P) (tupG.go is xs env S) (tupG.go is (xs.map (shV g P)) (shEnv g P env) (shS g P S))
  | [], _, [], env, S, hg => fun v S' h => by cases h; exact ⟨hg, rfl⟩
  | [], _, _ :: _, env, S, hg => Fr.bad
  | _ :: _, _, [], env, S, hg => Fr.bad
  | i :: is, h, x :: xs, env, S, hg => Fr.bd (h.1 x env S hg) fun env1 S1 h1 => n_go h.2 xs env1 S1 h1
theorem n_tupG {is : List SG} (h : NGs g P is) : NG g P (tupG is) := fun v env S hg u S' e => by
  cases v with
  | ref k =>
    have e : (match tget S k with | some xs => if xs.length = is.length then tupG.go is xs env S else .bad | none => .bad) = .ok u S' := e
    show _ ∧ (match tget (shS g P S) (shN g P k) with | some xs => if xs.length = is.length then tupG.go is xs (shEnv g P env) (shS g P S) else .bad | none => .bad) = _
    split at e
    · rename_i xs e1
      rw [tget_sh hg e1]
      show _ ∧ (if (xs.map (shV g P)).length = is.length then tupG.go is (xs.map (shV g P)) (shEnv g P env) (shS g P S) else .bad) = _
      rw [List.length_map]
      split at e
      · rename_i q
        rw [if_pos q]
        exact n_go h xs env S hg u S' e
      · cases e
    · cases e
  | _ => cases e
theorem n_tupY {is : List SG} (h : NGs g P is) : NY g P (tupY is) := ⟨n_tupG h, fun u v env S hg => by
  show Fr g P (shEnv g P) (if _ then _ else _) (if _ then _ else _)
  split
  · exact n_go h [u, v] env S hg
  · exact Fr.bad⟩
theorem n_setI {a b c : MV} {S : Stor} (hg : g ≤ S.length) : Fr g P id (setI a b c S) (setI (shV g P a) (shV g P b) (shV g P c) (shS g P S)) := fun u S' h => by
  cases a with
  | ref k =>
    cases b with
    | int i =>
      have h : (match S[k]? with | some (.lst xs) => (match ixN xs.length i with | some j => Res.ok () (S.set k (.lst (xs.set j c))) | none => .bad) | _ => .bad) = .ok u S' := h
      show _ ∧ (match (shS g P S)[shN g P k]? with | some (.lst xs) => (match ixN xs.length i with | some j => Res.ok () ((shS g P S).set (shN g P k) (.lst (xs.set j (shV g P c)))) | none => .bad) | _ => .bad) = _
      split at h
      · rename_i xs e
        rw [get_lst hg e]
        show _ ∧ (match ixN (xs.map (shV g P)).length i with | some j => Res.ok () ((shS g P S).set (shN g P k) (.lst ((xs.map (shV g P)).set j (shV g P c)))) | none => .bad) = _
        rw [List.length_map]
        split at h
        · rename_i j e2
          cases h
          refine ⟨by rw [List.length_set]; exact hg, ?_⟩
          rw [shS_set hg, show shO g P (.lst (xs.set j c)) = .lst ((xs.map (shV g P)).set j (shV g P c)) by simp [shO, List.map_set]]
        · cases h
      · cases h
    | _ => cases h
  | _ => cases b <;> cases h
theorem n_subG {o i : SE} (ho : NE g P o) (hi : NE g P i) : NG g P (subG setI o i) := fun v env S hg => Fr.bd (ho env S hg) fun x S1 h1 => Fr.bd (hi env S1 h1) fun y S2 h2 => Fr.bd (sh := id) (n_setI h2) fun _ S3 h3 u S' e => by cases e; exact ⟨h3, rfl⟩
theorem n_nextS : NS g P nextS := fun env S hg => Fr.ok (a := Out.nx env) hg
theorem n_contS : NS g P contS := fun env S hg => Fr.ok (a := Out.ct env) hg
theorem n_brkS : NS g P brkS := fun env S hg => Fr.ok (a := Out.bk env) hg
theorem n_retN : NS g P retN := fun env S hg => Fr.ok (a := Out.rt .non) hg
theorem n_seqS {a b : SS} (ha : NS g P a) (hb : NS g P b) : NS g P (seqS a b) := fun env S hg => Fr.bd (ha env S hg) fun o S1 h1 => by
  cases o with
  | nx env1 => exact hb env1 S1 h1
  | rt v => exact Fr.ok (a := Out.rt v) h1
  | bk env1 => exact Fr.ok (a := Out.bk env1) h1
  | ct env1 => exact Fr.ok (a := Out.ct env1) h1
theorem n_dropS {a : SE} (ha : NE g P a) : NS g P (dropS a) := fun env S hg => Fr.bd (ha env S hg) fun v S1 h1 => Fr.ok (a := Out.nx env) h1
theorem n_retS {a : SE} (ha : NE g P a) : NS g P (retS a) := fun env S hg => Fr.bd (ha env S hg) fun v S1 h1 => Fr.ok (a := Out.rt v) h1
theorem n_ifS {c : SB} {a b : SS} (hc : NB g P c) (ha : NS g P a) (hb : NS g P b) : NS g P (ifS c a b) := fun env S hg => Fr.bd (hc env S hg) fun d S1 h1 => by
  cases d
  · exact hb env S1 h1
  · exact ha env S1 h1
theorem n_asgS {a : SE} {t : SG} (ha : NE g P a) (ht : NG g P t) : NS g P (asgS a t) := fun env S hg => Fr.bd (ha env S hg) fun v S1 h1 => Fr.bd (ht v env S1 h1) fun env1 S2 h2 => Fr.ok (a := Out.nx env1) h2
theorem n_augS {f : MV → MV → Stor → Res MV} {i : Nat} {a : SE} (hf : N2 f) (ha : NE g P a) : NS g P (augS f i a) := fun env S hg o S' h => by
  unfold augS at h ⊢
  rw [env_get]
  split at h
  · rename_i x e
    rw [e]
    refine Fr.bd (sh' := shOut g P) (ha env S hg) (k' := fun y S1 => (f (shV g P x) y S1).bd fun z S2 => .ok (.nx ((shEnv g P env).set i (some z))) S2) (fun y S1 h1 => Fr.bd (hf g P x y S1 h1) fun z S2 h2 o S3 q => ?_) o S' h
    cases q
    refine ⟨h2, ?_⟩
    show _ = Res.ok (Out.nx (shEnv g P (env.set i (some z)))) _
    rw [env_set]
  · cases h
theorem n_whileS {c : SB} {b : SS} (hc : NB g P c) (hb : NS g P b) : ∀ n, NS g P (whileS c b n)
  | 0 => fun env S hg => Fr.bad
  | n + 1 => fun env S hg => by
    unfold whileS
    refine Fr.bd (hc env S hg) fun d S1 h1 => ?_
    cases d
    · exact Fr.ok (a := Out.nx env) h1
    · refine Fr.bd (hb env S1 h1) fun o S2 h2 => ?_
      cases o with
      | nx env1 => exact n_whileS hc hb n env1 S2 h2
      | ct env1 => exact n_whileS hc hb n env1 S2 h2
      | bk env1 => exact Fr.ok (a := Out.nx env1) h2
      | rt v => exact Fr.ok (a := Out.rt v) h2
theorem n_put {y : YG} (hy : NY g P y) (v : Yl) (env : MEnv) (S : Stor) (hg : g ≤ S.length) : Fr g P (shEnv g P) (y.put v env S) (y.put (shY g P v) (shEnv g P env) (shS g P S)) := by
  cases v with
  | one v => exact hy.one v env S hg
  | two u v => exact hy.two u v env S hg
theorem n_forL {it : Itm} {y : YG} {b : SS} (hy : NY g P y) (hb : NS g P b) : ∀ (n i : Nat) (env : MEnv) (S : Stor), g ≤ S.length → Fr g P (shOut g P) (forL it y b n i env S) (forL (shI g P it) y b n i (shEnv g P env) (shS g P S))
  | 0, i, env, S, hg => Fr.bad
  | n + 1, i, env, S, hg => fun o S' h => by
    unfold forL at h ⊢
    cases e : it.at S i with
    | none => rw [e] at h; cases h
    | some v =>
      rw [e] at h
      rw [at_sh hg e]
      cases v with
      | none => cases h; exact ⟨hg, rfl⟩
      | some v =>
        refine Fr.bd (n_put hy v env S hg) (fun env1 S1 h1 => Fr.bd (hb env1 S1 h1) fun o S2 h2 => ?_) o S' h
        cases o with
        | nx env2 => exact n_forL hy hb n (i + 1) env2 S2 h2
        | ct env2 => exact n_forL hy hb n (i + 1) env2 S2 h2
        | bk env2 => exact Fr.ok (a := Out.nx env2) h2
        | rt v => exact Fr.ok (a := Out.rt v) h2
theorem n_forS {w : SI} {y : YG} {b : SS} (hw : NI g P w) (hy : NY g P y) (hb : NS g P b) : NS g P (forS w y b) := fun env S hg => Fr.bd (hw env S hg) fun it S1 h1 => by
  rw [most_sh h1]
  exact n_forL hy hb _ 0 env S1 h1
/-! comprehensions -/
theorem wipe_sh {env : MEnv} : ∀ {vs : List Nat}, wipeM (shEnv g P env) vs = shEnv g P (wipeM env vs)
  | [] => rfl
  | v :: vs => by
    show (wipeM (shEnv g P env) vs).set v none = shEnv g P ((wipeM env vs).set v none)
    rw [wipe_sh]
    unfold shEnv
    rw [List.map_set]
    rfl
theorem setAll_sh : ∀ {is : List Nat} {xs : List MV} {env : MEnv}, setAll (shEnv g P env) is (xs.map (shV g P)) = shEnv g P (setAll env is xs)
  | [], _, _ => rfl
  | _ :: _, [], _ => rfl
  | i :: is, x :: xs, env => by
    show setAll ((shEnv g P env).set i (some (shV g P x))) is (xs.map (shV g P)) = _
    rw [← env_set]
    exact setAll_sh
theorem ctput_sh {S : Stor} (hg : g ≤ S.length) {env env1 : MEnv} {t : CT} {v : Yl} (h : t.put env S v = some env1) : t.put (shEnv g P env) (shS g P S) (shY g P v) = some (shEnv g P env1) := by
  cases t with
  | name i =>
    cases v with
    | one v => cases h; show some _ = _; rw [env_set]
    | two u v => cases h
  | tup is =>
    cases v with
    | one v =>
      cases v with
      | ref k =>
        have h : (match tget S k with | some xs => if xs.length = is.length then some (setAll env is xs) else none | none => none) = some env1 := h
        show (match tget (shS g P S) (shN g P k) with | some xs => if xs.length = is.length then some (setAll (shEnv g P env) is xs) else none | none => none) = _
        split at h
        · rename_i xs e
          rw [tget_sh hg e]
          show (if (xs.map (shV g P)).length = is.length then some (setAll (shEnv g P env) is (xs.map (shV g P))) else none) = _
          rw [List.length_map, setAll_sh]
          split at h
          · rename_i q; cases h; exact if_pos q
          · cases h
        · cases h
      | _ => cases h
    | two u v =>
      have h : (if is.length = 2 then some (setAll env is [u, v]) else none) = some env1 := h
      show (if is.length = 2 then some (setAll (shEnv g P env) is [shV g P u, shV g P v]) else none) = _
      split at h
      · rename_i q
        cases h
        rw [if_pos q, ← setAll_sh]
        rfl
      · cases h
theorem n_lcL {it : Itm} {t : CT} {c : SB} {el : SE} {D : Nat} {env : MEnv} (hc : NB g P c) (he : NE g P el) : ∀ (n i : Nat) (S : Stor), g ≤ S.length → Fr g P (shV g P) (lcL it t c el D env n i S) (lcL (shI g P it) t c el (shN g P D) (shEnv g P env) n i (shS g P S))
  | 0, i, S, hg => Fr.bad
  | n + 1, i, S, hg => fun o S' h => by
    unfold lcL at h ⊢
    cases e : it.at S i with
    | none => rw [e] at h; cases h
    | some v =>
      rw [e] at h
      rw [at_sh hg e]
      cases v with
      | none => cases h; exact ⟨hg, rfl⟩
      | some v =>
        cases e2 : t.put env S v with
        | none =>
          simp only [e2] at h
          cases h
        | some env1 =>
          simp only [e2] at h
          simp only [Option.map, ctput_sh hg e2]
          refine Fr.bdN (hc env1 S hg) (fun b S2 h2 => ?_) o S' h
          cases b
          · exact n_lcL hc he n (i + 1) S2 h2
          · refine Fr.bdN (he env1 S2 h2) fun v S3 h3 => fun o S' h => ?_
            split at h
            · rename_i acc e3
              rw [get_lst h3 e3]
              show _ ∧ (if (acc.map (shV g P)).length < sizeLine then lcL (shI g P it) t c el (shN g P D) (shEnv g P env) n (i + 1) ((shS g P S3).set (shN g P D) (.lst (acc.map (shV g P) ++ [shV g P v]))) else .bad) = _
              rw [List.length_map]
              split at h
              · rename_i q
                rw [if_pos q]
                have := n_lcL hc he n (i + 1) (S3.set D (.lst (acc ++ [v]))) (by rw [List.length_set]; exact h3) o S' h
                rw [shS_set h3, show shO g P (.lst (acc ++ [v])) = .lst (acc.map (shV g P) ++ [shV g P v]) by simp [shO]] at this
                exact this
              · cases h
            · cases h
theorem n_lcS {w : SI} {t : CT} {c : SB} {el : SE} {vs : List Nat} (hw : NI g P w) (hc : NB g P c) (he : NE g P el) : NE g P (lcS w t c el vs) := fun env S hg => Fr.bd (hw env S hg) fun it S1 h1 => by
  rw [most_sh h1, wipe_sh, ← shN_len h1, show ([MO.lst []] : Stor) = [shO g P (.lst [])] from rfl, ← shS_app h1]
  exact n_lcL hc he _ 0 (S1 ++ [.lst []]) (by simp; omega)
/-! defs -/
theorem n_fn {n m : Nat} {b : SS} (hb : NS g P b) : NF g P (mkFn n m b) := fun as S hg v S' h => by
  unfold mkFn at h ⊢
  rw [List.length_map]
  split at h
  · rename_i q
    rw [if_pos q]
    have e : (as.map (shV g P)).map some ++ List.replicate (m - n) none = shEnv g P (as.map some ++ List.replicate (m - n) none) := by
      unfold shEnv
      simp [Function.comp_def]
    rw [e]
    have := hb (as.map some ++ List.replicate (m - n) none) S hg
    generalize b (as.map some ++ List.replicate (m - n) none) S = r at this h
    cases r with
    | bad => cases h
    | err x S => cases h
    | ok o S1 =>
      obtain ⟨h1, h2⟩ := this o S1 rfl
      rw [h2]
      cases o with
      | nx env => cases h; exact ⟨h1, rfl⟩
      | rt u => cases h; exact ⟨h1, rfl⟩
      | bk env => cases h
      | ct env => cases h
  · cases h
end
/-- THE FRAME: what a def does of itself, it does in any store -/
theorem frame {F : List MV → Stor → Res MV} (h : ∀ P, NF 0 P F) {as : List MV} {v : MV} {T : Stor} (e : F as [] = .ok v T) (S : Stor) : F (as.map (shV 0 S)) S = .ok (shV 0 S v) (S ++ T.map (shO 0 S)) := by
  have := (h S as [] (Nat.le_refl _) v T e).2
  rw [show shS 0 S [] = S by simp [shS], show shS 0 S T = S ++ T.map (shO 0 S) by simp [shS]] at this
  exact this
end Rf

/-! Rf14: comprehensions read; what the kernel reckons of closed calls. -/
namespace Rf
open PySem PySem.Spec PyProof.Rows L2
theorem e_lc {w : SI} {t : CT} {c : SB} {el : SE} {vs : List Nat} {env : MEnv} {S : Stor} {Q : MV → Stor → Prop} :
    Wp (lcS w t c el vs env S) Q = Wp (w env S) fun it S1 => Wp (lcL it t c el S1.length (wipeM env vs) (it.most S1) 0 (S1 ++ [.lst []])) Q := by with_unfolding_all (unfold lcS; rw [Wp_bd])
theorem wp_lcL {it : Itm} {t : CT} {c : SB} {el : SE} {D : Nat} {env : MEnv} {Q : MV → Stor → Prop} {N : Nat} (I : Nat → List MV → Stor → Prop)
    (st : ∀ i acc S, I i acc S → S[D]? = some (.lst acc) → (i = N ∧ it.at S i = some none ∧ Q (.ref D) S) ∨ (i < N ∧ ∃ y env1, it.at S i = some (some y) ∧ t.put env S y = some env1 ∧ Wp (c env1 S) fun b S2 =>
      if b = true then Wp (el env1 S2) fun v S3 => S3[D]? = some (.lst acc) ∧ acc.length < sizeLine ∧ I (i + 1) (acc ++ [v]) (S3.set D (.lst (acc ++ [v]))) else S2[D]? = some (.lst acc) ∧ I (i + 1) acc S2)) :
    ∀ (n i : Nat) (acc : List MV) (S : Stor), N < i + n → I i acc S → S[D]? = some (.lst acc) → Wp (lcL it t c el D env n i S) Q
  | 0, i, acc, S, hn, h, hd => by with_unfolding_all (rcases st i acc S h hd with ⟨e, _⟩ | ⟨e, _⟩ <;> omega)
  | n + 1, i, acc, S, hn, h, hd => by
    with_unfolding_all
      unfold lcL
      rcases st i acc S h hd with ⟨_, e, q⟩ | ⟨hi, y, env1, e, e2, q⟩
      · rw [e]
        exact q
      · simp only [e, e2]
        rw [Wp_bdN]
        refine q.mono fun b S2 q2 => ?_
        cases b with
        | false => exact wp_lcL I st n (i + 1) acc S2 (by omega) q2.2 q2.1
        | true =>
          have q2 : Wp (el env1 S2) _ := q2
          show Wp ((el env1 S2).bdN _) Q
          rw [Wp_bdN]
          refine q2.mono fun v S3 q3 => ?_
          obtain ⟨h1, h2, h3⟩ := q3
          simp only [h1, h2, if_true]
          exact wp_lcL I st n (i + 1) (acc ++ [v]) _ (by omega) h3 (by rw [List.getElem?_set_self (List.getElem?_eq_some_iff.mp h1).1])
theorem get_last {S : Stor} {o : MO} : (S ++ [o])[S.length]? = some o := by rw [List.getElem?_append_right (Nat.le_refl _), Nat.sub_self]; rfl
theorem set_last {S : Stor} {o o' : MO} : (S ++ [o]).set S.length o' = S ++ [o'] := by rw [List.set_append_right _ _ (Nat.le_refl _), Nat.sub_self]; rfl
/-- conditions and elements that make nothing -/
theorem wp_lcP {it : Itm} {t : CT} {c : SB} {el : SE} {env : MEnv} {S : Stor} {Q : MV → Stor → Prop} (N : Nat) (p : Nat → Bool) (f : Nat → MV) (hN : N ≤ sizeLine) (hm : it.most S = N + 1) (hl : ∀ acc, it.most (S ++ [.lst acc]) = it.most S)
    (he : ∀ acc, it.at (S ++ [.lst acc]) N = some none)
    (st : ∀ i acc, i < N → ∃ y env1, it.at (S ++ [.lst acc]) i = some (some y) ∧ t.put env (S ++ [.lst acc]) y = some env1 ∧ (Wp (c env1 (S ++ [.lst acc])) fun b S2 => b = p i ∧ S2 = S ++ [.lst acc]) ∧ (p i = true → Wp (el env1 (S ++ [.lst acc])) fun v S3 => v = f i ∧ S3 = S ++ [.lst acc]))
    (q : Q (.ref S.length) (S ++ [.lst (((List.range N).filter p).map f)])) : Wp (lcL it t c el S.length env (it.most S) 0 (S ++ [.lst []])) Q := by
  with_unfolding_all
    rw [hm]
    refine wp_lcL (N := N) (fun i acc S' => i ≤ N ∧ S' = S ++ [.lst acc] ∧ acc = ((List.range i).filter p).map f) (fun i acc S' h hd => ?_) (N + 1) 0 [] _ (by omega) ⟨Nat.zero_le _, rfl, rfl⟩ get_last
    obtain ⟨hi, rfl, ha⟩ := h
    by_cases hiN : i < N
    · obtain ⟨y, env1, e1, e2, e3, e4⟩ := st i acc hiN
      refine .inr ⟨hiN, y, env1, e1, e2, e3.mono fun b S2 h => ?_⟩
      obtain ⟨rfl, rfl⟩ := h
      have ln : acc.length < sizeLine := by
        rw [ha, List.length_map]
        have := List.length_filter_le p (List.range i)
        rw [List.length_range] at this
        omega
      by_cases hp : p i = true
      · rw [if_pos hp]
        refine (e4 hp).mono fun v S3 h => ?_
        obtain ⟨rfl, rfl⟩ := h
        refine ⟨get_last, ln, hiN, set_last, ?_⟩
        rw [List.range_succ, List.filter_append, List.map_append, ← ha]
        simp [hp]
      · rw [if_neg hp]
        refine ⟨get_last, hiN, rfl, ?_⟩
        rw [List.range_succ, List.filter_append, List.map_append, ← ha]
        simp [hp]
    · have e : i = N := by omega
      subst e
      refine .inl ⟨rfl, he acc, ?_⟩
      rw [ha]
      exact q
theorem filter_yes {α : Type} (l : List α) : l.filter (fun _ => true) = l := by induction l with
  | nil => rfl
  | cons a l ih => rw [List.filter_cons_of_pos rfl, ih]
/-- over a range -/
theorem wp_lcR {lo c0 : Int} {n s : Nat} {c : SB} {el : SE} {env : MEnv} {S : Stor} {Q : MV → Stor → Prop} (p : Nat → Bool) (f : Nat → MV) (hN : n ≤ sizeLine)
    (hc : ∀ i acc, i < n → Wp (c (env.set s (some (.int (lo + i * c0)))) (S ++ [.lst acc])) fun b S2 => b = p i ∧ S2 = S ++ [.lst acc])
    (hf : ∀ i acc, i < n → p i = true → Wp (el (env.set s (some (.int (lo + i * c0)))) (S ++ [.lst acc])) fun v S3 => v = f i ∧ S3 = S ++ [.lst acc])
    (q : Q (.ref S.length) (S ++ [.lst (((List.range n).filter p).map f)])) : Wp (lcL (.rng lo c0 n) (.name s) c el S.length env (Itm.most S (.rng lo c0 n)) 0 (S ++ [.lst []])) Q := by
  with_unfolding_all
    refine wp_lcP n p f hN rfl (fun _ => rfl) (fun acc => ?_) (fun i acc hi => ⟨.one (.int (lo + i * c0)), _, ?_, rfl, hc i acc hi, hf i acc hi⟩) q
    · show some (if n < n then _ else _) = _
      rw [if_neg (by omega)]
    · show some (if i < n then _ else _) = _
      rw [if_pos hi]
/-- over a list -/
theorem wp_lcX {k s : Nat} {xs : List MV} {c : SB} {el : SE} {env : MEnv} {S : Stor} {Q : MV → Stor → Prop} (hk : lget S k = some xs) (p : Nat → Bool) (f : Nat → MV) (hN : xs.length ≤ sizeLine)
    (hc : ∀ i acc x, xs[i]? = some x → Wp (c (env.set s (some x)) (S ++ [.lst acc])) fun b S2 => b = p i ∧ S2 = S ++ [.lst acc])
    (hf : ∀ i acc x, xs[i]? = some x → p i = true → Wp (el (env.set s (some x)) (S ++ [.lst acc])) fun v S3 => v = f i ∧ S3 = S ++ [.lst acc])
    (q : Q (.ref S.length) (S ++ [.lst (((List.range xs.length).filter p).map f)])) : Wp (lcL (.lst k) (.name s) c el S.length env (Itm.most S (.lst k)) 0 (S ++ [.lst []])) Q := by
  with_unfolding_all
    have at' : ∀ i acc, (Itm.lst k).at (S ++ [.lst acc]) i = some (xs[i]?.map .one) := fun i acc => by
      show (match lget (S ++ [.lst acc]) k with | some xs => some (xs[i]?.map Yl.one) | none => none) = _
      rw [lget_app hk]
    refine wp_lcP xs.length p f hN ?_ (fun acc => ?_) (fun acc => ?_) (fun i acc hi => ⟨.one xs[i], _, ?_, rfl, hc i acc xs[i] (List.getElem?_eq_getElem hi), hf i acc xs[i] (List.getElem?_eq_getElem hi)⟩) q
    · show (lget S k).elim 0 _ = _
      rw [hk]
      rfl
    · show (lget (S ++ [.lst acc]) k).elim 0 _ = (lget S k).elim 0 _
      rw [lget_app hk, hk]
    · rw [at', List.getElem?_eq_none (Nat.le_refl _)]
      rfl
    · rw [at', List.getElem?_eq_getElem hi]
      rfl
/-! ### closed calls -/
def isT : Res MV → Bool
  | .ok (.bl true) _ => true
  | _ => false
def isI (i : Int) : Res MV → Bool
  | .ok (.int j) _ => i == j
  | _ => false
def intsOf : Res MV → Option (List Int)
  | .ok (.ref k) T => (lget T k).bind intsM
  | _ => none
def flat1 : MV → Bool
  | .ref _ => false
  | _ => true
theorem flat1s {P : Stor} : ∀ {as : List MV}, as.all flat1 = true → as.map (shV 0 P) = as
  | [], _ => rfl
  | a :: as, h => by
    rw [List.all_cons, Bool.and_eq_true] at h
    rw [List.map_cons, flat1s h.2]
    cases a <;> first | rfl | cases h.1
theorem frame_t {F : List MV → Stor → Res MV} (h : ∀ P, NF 0 P F) {as : List MV} (ha : as.all flat1 = true) (e : isT (F as []) = true) {S : Stor} {Q : MV → Stor → Prop} (q : ∀ T, Q (.bl true) (S ++ T)) : Wp (F as S) Q := by
  with_unfolding_all
    cases r : F as [] with
    | ok v T =>
      rw [r] at e
      have := frame h r S
      rw [flat1s ha] at this
      rw [this]
      cases v with
      | bl b =>
        cases b
        · cases e
        · exact q _
      | _ => cases e
    | _ => rw [r] at e; cases e
theorem frame_i {F : List MV → Stor → Res MV} (h : ∀ P, NF 0 P F) {as : List MV} (ha : as.all flat1 = true) {i : Int} (e : isI i (F as []) = true) {S : Stor} {Q : MV → Stor → Prop} (q : ∀ T, Q (.int i) (S ++ T)) : Wp (F as S) Q := by
  with_unfolding_all
    cases r : F as [] with
    | ok v T =>
      rw [r] at e
      have := frame h r S
      rw [flat1s ha] at this
      rw [this]
      cases v with
      | int j =>
        have e : (i == j) = true := e
        rw [eq_of_beq e] at q
        exact q _
      | _ => cases e
    | _ => rw [r] at e; cases e
theorem intsM_eq : ∀ {xs : List MV} {ns : List Int}, intsM xs = some ns → xs = ns.map .int
  | [], ns, h => by cases h; rfl
  | .int i :: xs, ns, h => by
    rw [intsM_int] at h
    cases e : intsM xs with
    | none => rw [e] at h; cases h
    | some ms => rw [e] at h; cases h; rw [intsM_eq e]; rfl
  | .non :: xs, ns, h => nomatch h
  | .bl _ :: xs, ns, h => nomatch h
  | .str _ :: xs, ns, h => nomatch h
  | .ref _ :: xs, ns, h => nomatch h
theorem intsM_map : ∀ ns : List Int, intsM (ns.map .int) = some ns
  | [] => rfl
  | i :: ns => by rw [List.map_cons, intsM_int, intsM_map ns]; rfl
/-- a list of ints at v -/
def IsI (S : Stor) (v : MV) (ns : List Int) : Prop := ∃ k, v = .ref k ∧ lget S k = some (ns.map .int)
theorem IsI.app {S T : Stor} {v : MV} {ns : List Int} (h : IsI S v ns) : IsI (S ++ T) v ns := by
  obtain ⟨k, rfl, h⟩ := h
  exact ⟨k, rfl, lget_app h⟩
theorem frame_l {F : List MV → Stor → Res MV} (h : ∀ P, NF 0 P F) {as : List MV} (ha : as.all flat1 = true) {ns : List Int} (e : intsOf (F as []) = some ns) {S : Stor} {Q : MV → Stor → Prop} (q : ∀ k T, S.length ≤ k → lget (S ++ T) k = some (ns.map .int) → Q (.ref k) (S ++ T)) : Wp (F as S) Q := by
  with_unfolding_all
    cases r : F as [] with
    | ok v T =>
      rw [r] at e
      have := frame h r S
      rw [flat1s ha] at this
      rw [this]
      cases v with
      | ref k =>
        have e : (lget T k).bind intsM = some ns := e
        cases e1 : lget T k with
        | none => rw [e1] at e; cases e
        | some xs =>
          rw [e1] at e
          have e : intsM xs = some ns := e
          have h1 := lget_sh (g := 0) (P := S) (Nat.zero_le _) e1
          rw [show shS 0 S T = S ++ T.map (shO 0 S) by simp [shS], intsM_eq e, ints_map] at h1
          refine q _ _ ?_ h1
          show S.length ≤ k + S.length
          omega
      | _ => cases e
    | _ => rw [r] at e; cases e
/-! ### stores that grow -/
def Le (S S' : Stor) : Prop := ∃ T, S' = S ++ T
theorem Le.refl (S : Stor) : Le S S := ⟨[], (List.append_nil S).symm⟩
theorem Le.app (S T : Stor) : Le S (S ++ T) := ⟨T, rfl⟩
theorem Le.trans {A B C : Stor} (h : Le A B) (h' : Le B C) : Le A C := by
  obtain ⟨T, rfl⟩ := h
  obtain ⟨U, rfl⟩ := h'
  exact ⟨T ++ U, List.append_assoc _ _ _⟩
theorem Le.lget {S S' : Stor} {k : Nat} {xs : List MV} (h : Le S S') (e : lget S k = some xs) : Rf.lget S' k = some xs := by
  obtain ⟨T, rfl⟩ := h
  exact lget_app e
theorem Le.tget {S S' : Stor} {k : Nat} {xs : List MV} (h : Le S S') (e : tget S k = some xs) : Rf.tget S' k = some xs := by
  obtain ⟨T, rfl⟩ := h
  exact tget_app e
theorem Le.len {S S' : Stor} (h : Le S S') : S.length ≤ S'.length := by
  obtain ⟨T, rfl⟩ := h
  simp
section
variable {S : Stor} {Q : MV → Stor → Prop} {xs ys : List MV} {k l : Nat}
theorem wp_newL (hl : xs.length ≤ sizeLine) (q : ∀ k S', Le S S' → S'[k]? = some (.lst xs) → S.length ≤ k → Q (.ref k) S') : Wp (newL xs S) Q := by
  with_unfolding_all
    rw [e_newL]
    exact ⟨hl, q _ _ (Le.app _ _) get_last (Nat.le_refl _)⟩
theorem lget_of {k : Nat} (h : S[k]? = some (.lst xs)) : lget S k = some xs := by
  unfold lget
  rw [h]
theorem wp_newT (hl : xs.length ≤ sizeLine) (q : ∀ k S', Le S S' → tget S' k = some xs → Q (.ref k) S') : Wp (newT xs S) Q := by
  with_unfolding_all
    rw [e_newT]
    exact ⟨hl, q _ _ (Le.app _ _) tget_new⟩
theorem e_ixL {i : Int} {v : MV} (h : lget S k = some xs) (e : atI xs i = some v) : Wp (ixS (.ref k) (.int i) S) Q = Q v S := by
  with_unfolding_all
    show Wp (match lget S k with | some xs => (match atI xs i with | some v => Res.ok v S | none => .bad) | none => _) Q = _
    rw [h]
    show Wp (match atI xs i with | some v => Res.ok v S | none => .bad) Q = _
    rw [e]
    rfl
theorem e_ixT {i : Int} {v : MV} (h : tget S k = some xs) (e : atI xs i = some v) : Wp (ixS (.ref k) (.int i) S) Q = Q v S := by
  with_unfolding_all
    show Wp (match lget S k with | some xs => (match atI xs i with | some v => Res.ok v S | none => .bad) | none => (match tget S k with | some xs => (match atI xs i with | some v => Res.ok v S | none => .bad) | none => .bad)) Q = _
    rw [tget_l h, h]
    show Wp (match atI xs i with | some v => Res.ok v S | none => .bad) Q = _
    rw [e]
    rfl
theorem e_len (h : lget S k = some xs) : Wp (lenS [.ref k] S) Q = Q (.int xs.length) S := by
  with_unfolding_all
    show Wp (match lget S k with | some xs => Res.ok (MV.int xs.length) S | none => _) Q = _
    rw [h]
    rfl
theorem e_lenT (h : tget S k = some xs) : Wp (lenS [.ref k] S) Q = Q (.int xs.length) S := by
  with_unfolding_all
    show Wp (match lget S k with | some xs => Res.ok (MV.int xs.length) S | none => (match tget S k with | some xs => Res.ok (MV.int xs.length) S | none => .bad)) Q = _
    rw [tget_l h, h]
    rfl
theorem dat_ints (n : Nat) (S : Stor) : ∀ ns : List Int, (ns.map MV.int).mapM (dat n S) = some (ns.map PyData.int)
  | [] => rfl
  | i :: ns => by
    rw [List.map_cons, mapM_some (b := PyData.int i) (by cases n <;> rfl), dat_ints n S ns]
    rfl
end
/-! data with an equality of their own -/
structure Sh {α : Type} [DecidableEq α] (f : α → PyData) (n : Nat) : Prop where
  eq : ∀ a b, PyData.eqv (f a) (f b) = decide (a = b)
  can : ∀ a, (f a).canLay0 = true
  dep : ∀ a, (f a).depth ≤ n
section
variable {α : Type} [DecidableEq α] {f : α → PyData} {n : Nat}
theorem Sh.int : Sh PyData.int 0 := ⟨fun i j => eqv_int, fun _ => by simp [PyData.canLay0], fun _ => by simp [PyData.depth]⟩
theorem Sh.all (h : Sh f n) : ∀ l m : List α, PyData.eqvAll (l.map f) (m.map f) = decide (l = m)
  | [], [] => by simp [PyData.eqvAll]
  | [], _ :: _ => by simp [PyData.eqvAll]
  | _ :: _, [] => by simp [PyData.eqvAll]
  | a :: l, b :: m => by
    rw [List.map_cons, List.map_cons, PyData.eqvAll, h.all l m, h.eq]
    by_cases h : a = b <;> by_cases h2 : l = m <;> simp [h, h2]
theorem Sh.canAll (h : Sh f n) : ∀ l : List α, PyData.canLayAll0 (l.map f) = true
  | [] => by simp [PyData.canLayAll0]
  | a :: l => by rw [List.map_cons, PyData.canLayAll0, h.can, h.canAll l]; rfl
theorem Sh.depAll (h : Sh f n) : ∀ l : List α, PyData.depthAll (l.map f) ≤ n
  | [] => by simp [PyData.depthAll]
  | a :: l => by
    rw [List.map_cons, PyData.depthAll]
    exact Nat.max_le.mpr ⟨h.dep a, h.depAll l⟩
theorem Sh.list (h : Sh f n) : Sh (fun l : List α => PyData.list (l.map f)) (n + 1) :=
  ⟨fun l m => by rw [PyData.eqv]; exact h.all l m, fun l => by rw [PyData.canLay0]; exact h.canAll l, fun l => by rw [PyData.depth]; exact Nat.succ_le_succ (h.depAll l)⟩
theorem Sh.tup (h : Sh f n) : Sh (fun l : List α => PyData.tuple (l.map f)) (n + 1) :=
  ⟨fun l m => by rw [PyData.eqv]; exact h.all l m, fun l => by rw [PyData.canLay0]; exact h.canAll l, fun l => by rw [PyData.depth]; exact Nat.succ_le_succ (h.depAll l)⟩
theorem Sh.shaped (h : Sh f n) (hn : n ≤ 64) (a : α) : SeqAt.shaped (f a) = true := by
  unfold SeqAt.shaped
  rw [h.can, decide_eq_true (Nat.le_trans (h.dep a) hn)]
  rfl
theorem e_eqSh (h : Sh f n) (hn : n ≤ 64) {S : Stor} {v w : MV} {x y : α} {Q : MV → Stor → Prop} (e1 : dat 9 S v = some (f x)) (e2 : dat 9 S w = some (f y)) : Wp (eqS false v w S) Q = Q (.bl (decide (x = y))) S := by
  with_unfolding_all
    unfold eqS
    rw [e1, e2]
    show Wp (if (SeqAt.shaped (f x) && SeqAt.shaped (f y)) = true then Res.ok (MV.bl (PyData.eqv (f x) (f y))) S else .bad) Q = _
    rw [h.shaped hn, h.shaped hn, h.eq]
    rfl
theorem e_neSh (h : Sh f n) (hn : n ≤ 64) {S : Stor} {v w : MV} {x y : α} {Q : MV → Stor → Prop} (e1 : dat 9 S v = some (f x)) (e2 : dat 9 S w = some (f y)) : Wp (eqS true v w S) Q = Q (.bl (decide (x ≠ y))) S := by
  with_unfolding_all
    unfold eqS
    rw [e1, e2]
    show Wp (if (SeqAt.shaped (f x) && SeqAt.shaped (f y)) = true then Res.ok (MV.bl (!PyData.eqv (f x) (f y))) S else .bad) Q = _
    rw [h.shaped hn, h.shaped hn, h.eq, decide_not]
    rfl
end
theorem dat_list {S : Stor} {k : Nat} {xs : List MV} {n : Nat} {ds : List PyData} (h : lget S k = some xs) (e : xs.mapM (dat n S) = some ds) : dat (n + 1) S (.ref k) = some (.list ds) := by
  unfold lget at h
  show (match S[k]? with | some (.lst xs) => (xs.mapM (dat n S)).map PyData.list | some (.flst xs) => (xs.mapM (dat n S)).map .list | some (.tup xs) => (xs.mapM (dat n S)).map .tuple | _ => none) = _
  split at h
  · rename_i q; cases h; rw [q]; show (xs.mapM (dat n S)).map PyData.list = _; rw [e]; rfl
  · rename_i q; cases h; rw [q]; show (xs.mapM (dat n S)).map PyData.list = _; rw [e]; rfl
  · cases h
theorem dat_tup {S : Stor} {k : Nat} {xs : List MV} {n : Nat} {ds : List PyData} (h : tget S k = some xs) (e : xs.mapM (dat n S) = some ds) : dat (n + 1) S (.ref k) = some (.tuple ds) := by
  unfold tget at h
  show (match S[k]? with | some (.lst xs) => (xs.mapM (dat n S)).map PyData.list | some (.flst xs) => (xs.mapM (dat n S)).map .list | some (.tup xs) => (xs.mapM (dat n S)).map .tuple | _ => none) = _
  split at h
  · rename_i q; cases h; rw [q]; show (xs.mapM (dat n S)).map PyData.tuple = _; rw [e]; rfl
  · cases h
section
variable {S : Stor} {k l : Nat} {ns ms : List Int} {Q : MV → Stor → Prop}
theorem e_eqL (h1 : lget S k = some (ns.map .int)) (h2 : lget S l = some (ms.map .int)) : Wp (eqS false (.ref k) (.ref l) S) Q = Q (.bl (decide (ns = ms))) S := by with_unfolding_all exact e_eqSh Sh.int.list (by decide) (dat_list h1 (dat_ints 8 S ns)) (dat_list h2 (dat_ints 8 S ms))
theorem e_neL (h1 : lget S k = some (ns.map .int)) (h2 : lget S l = some (ms.map .int)) : Wp (eqS true (.ref k) (.ref l) S) Q = Q (.bl (decide (ns ≠ ms))) S := by with_unfolding_all exact e_neSh Sh.int.list (by decide) (dat_list h1 (dat_ints 8 S ns)) (dat_list h2 (dat_ints 8 S ms))
theorem e_eqT (h1 : tget S k = some (ns.map .int)) (h2 : tget S l = some (ms.map .int)) : Wp (eqS false (.ref k) (.ref l) S) Q = Q (.bl (decide (ns = ms))) S := by with_unfolding_all exact e_eqSh Sh.int.tup (by decide) (dat_tup h1 (dat_ints 8 S ns)) (dat_tup h2 (dat_ints 8 S ms))
theorem e_neT (h1 : tget S k = some (ns.map .int)) (h2 : tget S l = some (ms.map .int)) : Wp (eqS true (.ref k) (.ref l) S) Q = Q (.bl (decide (ns ≠ ms))) S := by with_unfolding_all exact e_neSh Sh.int.tup (by decide) (dat_tup h1 (dat_ints 8 S ns)) (dat_tup h2 (dat_ints 8 S ms))
end
theorem wp_cat {S : Stor} {k l : Nat} {xs ys : List MV} {Q : MV → Stor → Prop} (h1 : lget S k = some xs) (h2 : lget S l = some ys) (hl : xs.length + ys.length ≤ sizeLine) (q : ∀ j S', Le S S' → S'[j]? = some (.lst (xs ++ ys)) → S.length ≤ j → Q (.ref j) S') : Wp (addS (.ref k) (.ref l) S) Q := by
  with_unfolding_all
    rw [e_cat h1 h2]
    exact ⟨by rw [List.length_append]; exact hl, q _ _ (Le.app _ _) get_last (Nat.le_refl _)⟩
/-- script + [c] -/
theorem wp_more {S : Stor} {k : Nat} {ns : List Int} {c : Int} {Q : MV → Stor → Prop} (h1 : lget S k = some (ns.map .int)) (hl : ns.length ≤ 1000) (q : ∀ j S', Le S S' → lget S' j = some ((ns ++ [c]).map .int) → S.length ≤ j → Q (.ref j) S') : Wp (newL [.int c] S) fun y S2 => Wp (addS (.ref k) y S2) Q := by
  with_unfolding_all
    refine wp_newL (by simp [sizeLine]) fun l S1 le1 g1 _ => ?_
    refine wp_cat (le1.lget h1) (lget_of g1) (by simp [sizeLine]; omega) fun j S2 le2 g2 hj => ?_
    refine q j S2 (le1.trans le2) ?_ (Nat.le_trans le1.len hj)
    rw [lget_of g2]
    simp
end Rf

/-! Rf15: what stands in other names does not matter. -/
namespace Rf
open PySem PySem.Spec PyProof.Rows L2
structure Su (a b : MEnv) : Prop where
  len : a.length = b.length
  get : ∀ (i : Nat) (v : MV), a[i]? = some (some v) → b[i]? = some (some v)
theorem Su.refl (a : MEnv) : Su a a := ⟨rfl, fun _ _ h => h⟩
theorem Su.set {a b : MEnv} (h : Su a b) (i : Nat) (o : Option MV) : Su (a.set i o) (b.set i o) := ⟨by rw [List.length_set, List.length_set, h.len], fun j v e => by
  by_cases hj : i = j
  · subst hj
    have hl : i < a.length := by
      rcases Nat.lt_or_ge i a.length with q | q
      · exact q
      · rw [List.getElem?_eq_none (by rw [List.length_set]; exact q)] at e; cases e
    rw [List.getElem?_set_self hl] at e
    rw [List.getElem?_set_self (by rw [← h.len]; exact hl), e]
  · rw [List.getElem?_set_ne hj] at e ⊢
    exact h.get j v e⟩
def Mr {α : Type} (R : α → α → Prop) (r r' : Res α) : Prop := ∀ a S, r = .ok a S → ∃ b, r' = .ok b S ∧ R a b
def SuO : Out → Out → Prop
  | .nx a, .nx b => Su a b
  | .bk a, .bk b => Su a b
  | .ct a, .ct b => Su a b
  | .rt v, .rt w => v = w
  | _, _ => False
section
variable {α β : Type} {R : α → α → Prop} {R' : β → β → Prop}
theorem Mr.bad {r : Res α} : Mr R .bad r := fun _ _ h => nomatch h
theorem Mr.ok {a b : α} {S : Stor} (h : R a b) : Mr R (.ok a S) (.ok b S) := fun _ _ e => by cases e; exact ⟨b, rfl, h⟩
theorem Mr.same {r : Res α} : Mr Eq r r := fun a S h => ⟨a, h, rfl⟩
theorem Mr.bd {r r' : Res α} {k k' : α → Stor → Res β} (h : Mr R r r') (hk : ∀ a b S, R a b → Mr R' (k a S) (k' b S)) : Mr R' (r.bd k) (r'.bd k') := fun c S e => by
  cases r with
  | bad => cases e
  | err x S1 => cases e
  | ok a S1 =>
    obtain ⟨b, h1, h2⟩ := h a S1 rfl
    subst h1
    exact hk a b S1 h2 c S e
theorem Mr.bdN {r r' : Res α} {k k' : α → Stor → Res β} (h : Mr R r r') (hk : ∀ a b S, R a b → Mr R' (k a S) (k' b S)) : Mr R' (r.bdN k) (r'.bdN k') := fun c S e => by
  cases r with
  | bad => cases e
  | err x S1 => cases e
  | ok a S1 =>
    obtain ⟨b, h1, h2⟩ := h a S1 rfl
    subst h1
    exact hk a b S1 h2 c S e
end
abbrev ME {α : Type} (f : MEnv → Stor → Res α) : Prop := ∀ env env' S, Su env env' → Mr Eq (f env S) (f env' S)
abbrev MS (f : SS) : Prop := ∀ env env' S, Su env env' → Mr SuO (f env S) (f env' S)
abbrev MG (f : SG) : Prop := ∀ v env env' S, Su env env' → Mr Su (f v env S) (f v env' S)
theorem Mr.bdE {α β : Type} {R' : β → β → Prop} {r r' : Res α} {k k' : α → Stor → Res β} (h : Mr Eq r r') (hk : ∀ a S, Mr R' (k a S) (k' a S)) : Mr R' (r.bd k) (r'.bd k') := Mr.bd h fun a b S e => by subst e; exact hk a S
theorem Mr.bdNE {α β : Type} {R' : β → β → Prop} {r r' : Res α} {k k' : α → Stor → Res β} (h : Mr Eq r r') (hk : ∀ a S, Mr R' (k a S) (k' a S)) : Mr R' (r.bdN k) (r'.bdN k') := Mr.bdN h fun a b S e => by subst e; exact hk a S
theorem m_varS (i : Nat) : ME (varS i) := fun env env' S s v S' h => by
  unfold varS at h ⊢
  split at h
  · rename_i u e
    rw [s.get i u e]
    exact ⟨v, h, rfl⟩
  · cases h
theorem m_cS (v : MV) : ME (cS v) := fun _ _ _ _ => Mr.same
theorem m_binS {f : MV → MV → Stor → Res MV} {a b : SE} (ha : ME a) (hb : ME b) : ME (binS f a b) := fun env env' S s => Mr.bdE (ha env env' S s) fun x S1 => Mr.bdE (hb env env' S1 s) fun y S2 => Mr.same
theorem m_unS {f : MV → Stor → Res MV} {a : SE} (ha : ME a) : ME (unS f a) := fun env env' S s => Mr.bdE (ha env env' S s) fun x S1 => Mr.same
theorem m_nilS : ME nilS := fun _ _ _ _ => Mr.same
theorem m_consS {a : SE} {r : SA} (ha : ME a) (hr : ME r) : ME (consS a r) := fun env env' S s => Mr.bdE (ha env env' S s) fun x S1 => Mr.bdE (hr env env' S1 s) fun y S2 => Mr.same
theorem m_appS {F : List MV → Stor → Res MV} {a : SA} (ha : ME a) : ME (appS F a) := fun env env' S s => Mr.bdE (ha env env' S s) fun x S1 => Mr.same
theorem m_tupS {a : SA} (ha : ME a) : ME (tupS a) := m_appS ha
theorem m_lstS {a : SA} (ha : ME a) : ME (lstS a) := m_appS ha
theorem m_tstS {a : SE} (ha : ME a) : ME (tstS a) := fun env env' S s => Mr.bdE (ha env env' S s) fun x S1 => Mr.same
theorem m_andB {a b : SB} (ha : ME a) (hb : ME b) : ME (andB a b) := fun env env' S s => Mr.bdE (ha env env' S s) fun x S1 => by cases x; exact Mr.same; exact hb env env' S1 s
theorem m_orB {a b : SB} (ha : ME a) (hb : ME b) : ME (orB a b) := fun env env' S s => Mr.bdE (ha env env' S s) fun x S1 => by cases x; exact hb env env' S1 s; exact Mr.same
theorem m_notB {a : SB} (ha : ME a) : ME (notB a) := fun env env' S s => Mr.bdE (ha env env' S s) fun x S1 => Mr.same
theorem m_yesB : ME yesB := fun _ _ _ _ => Mr.same
theorem m_andV {a b : SE} (ha : ME a) (hb : ME b) : ME (andV a b) := fun env env' S s => Mr.bdE (ha env env' S s) fun x S1 => by
  cases x with
  | bl c => cases c; exact Mr.same; exact hb env env' S1 s
  | _ => exact Mr.bad
theorem m_orV {a b : SE} (ha : ME a) (hb : ME b) : ME (orV a b) := fun env env' S s => Mr.bdE (ha env env' S s) fun x S1 => by
  cases x with
  | bl c => cases c; exact hb env env' S1 s; exact Mr.same
  | _ => exact Mr.bad
theorem m_notV {a : SE} (ha : ME a) : ME (notV a) := fun env env' S s => Mr.bdE (ha env env' S s) fun x S1 => Mr.same
theorem m_ifE {c : SB} {a b : SE} (hc : ME c) (ha : ME a) (hb : ME b) : ME (ifE c a b) := fun env env' S s => Mr.bdE (hc env env' S s) fun x S1 => by cases x; exact hb env env' S1 s; exact ha env env' S1 s
theorem m_chS {f f' : MV → MV → Stor → Res MV} {a b c : SE} (ha : ME a) (hb : ME b) (hc : ME c) : ME (chS f f' a b c) := fun env env' S s => Mr.bdE (ha env env' S s) fun x S1 => Mr.bdE (hb env env' S1 s) fun y S2 => Mr.bdE Mr.same fun z S3 => by
  cases z with
  | bl k => cases k; exact Mr.same; exact Mr.bdE (hc env env' S3 s) fun w S4 => Mr.same
  | _ => exact Mr.bad
def MO' : Option SE → Prop
  | none => True
  | some a => ME a
theorem m_none : MO' none := trivial
theorem m_some {a : SE} (h : ME a) : MO' (some a) := h
theorem m_optS {a : Option SE} (ha : MO' a) : ME (optS a) := fun env env' S s => by
  cases a with
  | none => exact Mr.same
  | some a => exact Mr.bdE (ha env env' S s) fun x S1 => Mr.same
theorem m_slS {a : SE} {lo hi : Option SE} (ha : ME a) (hl : MO' lo) (hh : MO' hi) : ME (slS a lo hi) := fun env env' S s => Mr.bdE (ha env env' S s) fun x S1 => Mr.bdE (m_optS hl env env' S1 s) fun y S2 => Mr.bdE (m_optS hh env env' S2 s) fun z S3 => Mr.same
theorem m_methS {T : MTy} {f : MV → List MV → Stor → Res MV} {o : SE} {a : SA} (ho : ME o) (ha : ME a) : ME (methS T f o a) := fun env env' S s => Mr.bdE (ho env env' S s) fun x S1 => by
  by_cases q : tyM x S1 = some T
  · rw [if_pos q, if_pos q]; exact Mr.bdE (ha env env' S1 s) fun xs S2 => Mr.same
  · rw [if_neg q]; exact Mr.bad
theorem m_rng1S {a : SA} (ha : ME a) : ME (rng1S a) := fun env env' S s => Mr.bdE (ha env env' S s) fun x S1 => Mr.same
theorem m_rng2S {a : SA} (ha : ME a) : ME (rng2S a) := fun env env' S s => Mr.bdE (ha env env' S s) fun x S1 => Mr.same
theorem m_rng3S {a : SA} (ha : ME a) : ME (rng3S a) := fun env env' S s => Mr.bdE (ha env env' S s) fun x S1 => Mr.same
theorem m_seqI {a : SE} (ha : ME a) : ME (seqI a) := fun env env' S s => Mr.bdE (ha env env' S s) fun x S1 => Mr.same
theorem m_enmI {a : SA} (ha : ME a) : ME (enmI a) := fun env env' S s => Mr.bdE (ha env env' S s) fun x S1 => Mr.same
theorem m_zipI {a : SA} (ha : ME a) : ME (zipI a) := fun env env' S s => Mr.bdE (ha env env' S s) fun x S1 => Mr.same
theorem m_revI {a : SA} (ha : ME a) : ME (revI a) := fun env env' S s => Mr.bdE (ha env env' S s) fun x S1 => Mr.same
theorem m_rvrS {a : SI} (ha : ME a) : ME (rvrS a) := fun env env' S s => Mr.bdE (ha env env' S s) fun x S1 => Mr.same
/-! statements -/
theorem m_nextS : MS nextS := fun env env' S s => Mr.ok (a := Out.nx env) (b := Out.nx env') s
theorem m_contS : MS contS := fun env env' S s => Mr.ok (a := Out.ct env) (b := Out.ct env') s
theorem m_brkS : MS brkS := fun env env' S s => Mr.ok (a := Out.bk env) (b := Out.bk env') s
theorem m_retN : MS retN := fun env env' S s => Mr.ok (a := Out.rt .non) (b := Out.rt .non) rfl
theorem m_seqS {a b : SS} (ha : MS a) (hb : MS b) : MS (seqS a b) := fun env env' S s => Mr.bd (ha env env' S s) fun o o' S1 h => by
  cases o <;> cases o' <;> first | exact hb _ _ S1 h | exact Mr.ok h | exact h.elim
theorem m_dropS {a : SE} (ha : ME a) : MS (dropS a) := fun env env' S s => Mr.bdE (ha env env' S s) fun x S1 => Mr.ok (a := Out.nx env) (b := Out.nx env') s
theorem m_retS {a : SE} (ha : ME a) : MS (retS a) := fun env env' S s => Mr.bdE (ha env env' S s) fun x S1 => Mr.ok (a := Out.rt x) (b := Out.rt x) rfl
theorem m_ifS {c : SB} {a b : SS} (hc : ME c) (ha : MS a) (hb : MS b) : MS (ifS c a b) := fun env env' S s => Mr.bdE (hc env env' S s) fun x S1 => by cases x; exact hb env env' S1 s; exact ha env env' S1 s
theorem m_nameG (i : Nat) : MG (nameG i) := fun v env env' S s => Mr.ok (s.set i (some v))
def MGs : List SG → Prop
  | [] => True
  | x :: r => MG x ∧ MGs r
theorem m_go : ∀ {is : List SG}, MGs is → ∀ (xs : List MV) (env env' : MEnv) (S : Stor), Su env env' → Mr Su (tupG.go is xs env S) (tupG.go is xs env' S)
  | [], _, [], env, env', S, s => Mr.ok s
  | [], _, _ :: _, _, _, _, _ => Mr.bad
  | _ :: _, _, [], _, _, _, _ => Mr.bad
  | i :: is, h, x :: xs, env, env', S, s => Mr.bd (h.1 x env env' S s) fun e1 e2 S1 s1 => m_go h.2 xs e1 e2 S1 s1
theorem m_tupG {is : List SG} (h : MGs is) : MG (tupG is) := fun v env env' S s u S' e => by
  cases v with
  | ref k =>
    have e : (match tget S k with | some xs => if xs.length = is.length then tupG.go is xs env S else .bad | none => .bad) = .ok u S' := e
    show ∃ b, (match tget S k with | some xs => if xs.length = is.length then tupG.go is xs env' S else .bad | none => .bad) = .ok b S' ∧ _
    split at e
    · rename_i xs e1
      split at e
      · rename_i q
        simp only [if_pos q]
        exact m_go h xs env env' S s u S' e
      · cases e
    · cases e
  | _ => cases e
theorem m_subG {f : MV → MV → MV → Stor → Res Unit} {o i : SE} (ho : ME o) (hi : ME i) : MG (subG f o i) := fun v env env' S s => Mr.bdE (ho env env' S s) fun x S1 => Mr.bdE (hi env env' S1 s) fun y S2 => Mr.bdE Mr.same fun _ S3 => Mr.ok s
structure MY (y : YG) : Prop where
  one : MG y.one
  two : ∀ u v env env' S, Su env env' → Mr Su (y.two u v env S) (y.two u v env' S)
theorem m_nameY (i : Nat) : MY (nameY i) := ⟨m_nameG i, fun _ _ _ _ _ _ => Mr.bad⟩
theorem m_tupY {is : List SG} (h : MGs is) : MY (tupY is) := ⟨m_tupG h, fun u v env env' S s => by
  show Mr Su (if _ then _ else _) (if _ then _ else _)
  split
  · exact m_go h [u, v] env env' S s
  · exact Mr.bad⟩
theorem m_asgS {a : SE} {t : SG} (ha : ME a) (ht : MG t) : MS (asgS a t) := fun env env' S s => Mr.bdE (ha env env' S s) fun x S1 => Mr.bd (ht x env env' S1 s) fun e1 e2 S2 s2 => Mr.ok (a := Out.nx e1) (b := Out.nx e2) s2
theorem m_augS {f : MV → MV → Stor → Res MV} {i : Nat} {a : SE} (ha : ME a) : MS (augS f i a) := fun env env' S s o S' h => by
  unfold augS at h ⊢
  split at h
  · rename_i x e
    rw [s.get i x e]
    exact Mr.bdE (ha env env' S s) (fun y S1 => Mr.bdE Mr.same fun z S2 => Mr.ok (R := SuO) (a := Out.nx (env.set i (some z))) (b := Out.nx (env'.set i (some z))) (s.set i (some z))) o S' h
  · cases h
theorem m_whileS {c : SB} {b : SS} (hc : ME c) (hb : MS b) : ∀ n, MS (whileS c b n)
  | 0 => fun _ _ _ _ => Mr.bad
  | n + 1 => fun env env' S s => by
    unfold whileS
    refine Mr.bdE (hc env env' S s) fun d S1 => ?_
    cases d
    · exact Mr.ok (a := Out.nx env) (b := Out.nx env') s
    · refine Mr.bd (hb env env' S1 s) fun o o' S2 h => ?_
      cases o <;> cases o' <;> first | exact m_whileS hc hb n _ _ S2 h | exact Mr.ok h | exact h.elim
theorem m_put {y : YG} (hy : MY y) (v : Yl) (env env' : MEnv) (S : Stor) (s : Su env env') : Mr Su (y.put v env S) (y.put v env' S) := by
  cases v with
  | one v => exact hy.one v env env' S s
  | two u v => exact hy.two u v env env' S s
theorem m_forL {it : Itm} {y : YG} {b : SS} (hy : MY y) (hb : MS b) : ∀ (n i : Nat) (env env' : MEnv) (S : Stor), Su env env' → Mr SuO (forL it y b n i env S) (forL it y b n i env' S)
  | 0, i, _, _, _, _ => Mr.bad
  | n + 1, i, env, env', S, s => by
    unfold forL
    cases e : it.at S i with
    | none => exact Mr.bad
    | some v =>
      cases v with
      | none => exact Mr.ok (a := Out.nx env) (b := Out.nx env') s
      | some v =>
        refine Mr.bd (m_put hy v env env' S s) fun e1 e2 S1 s1 => Mr.bd (hb e1 e2 S1 s1) fun o o' S2 h => ?_
        cases o <;> cases o' <;> first | exact m_forL hy hb n (i + 1) _ _ S2 h | exact Mr.ok h | exact h.elim
theorem m_forS {w : SI} {y : YG} {b : SS} (hw : ME w) (hy : MY y) (hb : MS b) : MS (forS w y b) := fun env env' S s => Mr.bdE (hw env env' S s) fun it S1 => m_forL hy hb _ 0 env env' S1 s
theorem m_wipe {env env' : MEnv} (s : Su env env') : ∀ vs : List Nat, Su (wipeM env vs) (wipeM env' vs)
  | [] => s
  | v :: vs => (m_wipe s vs).set v none
theorem m_setAll : ∀ (is : List Nat) (xs : List MV) {env env' : MEnv}, Su env env' → Su (setAll env is xs) (setAll env' is xs)
  | [], _, _, _, s => s
  | _ :: _, [], _, _, s => s
  | i :: is, x :: xs, _, _, s => m_setAll is xs (s.set i (some x))
theorem m_ctput {S : Stor} {env env' env1 : MEnv} {t : CT} {v : Yl} (s : Su env env') (h : t.put env S v = some env1) : ∃ env2, t.put env' S v = some env2 ∧ Su env1 env2 := by
  cases t with
  | name i =>
    cases v with
    | one v => cases h; exact ⟨_, rfl, s.set i (some v)⟩
    | two u v => cases h
  | tup is =>
    cases v with
    | one v =>
      cases v with
      | ref k =>
        have h : (match tget S k with | some xs => if xs.length = is.length then some (setAll env is xs) else none | none => none) = some env1 := h
        show ∃ env2, (match tget S k with | some xs => if xs.length = is.length then some (setAll env' is xs) else none | none => none) = some env2 ∧ _
        split at h
        · rename_i xs e
          split at h
          · rename_i q
            cases h
            simp only [if_pos q]
            exact ⟨_, rfl, m_setAll is xs s⟩
          · cases h
        · cases h
      | _ => cases h
    | two u v =>
      have h : (if is.length = 2 then some (setAll env is [u, v]) else none) = some env1 := h
      show ∃ env2, (if is.length = 2 then some (setAll env' is [u, v]) else none) = some env2 ∧ _
      split at h
      · rename_i q
        cases h
        rw [if_pos q]
        exact ⟨_, rfl, m_setAll is [u, v] s⟩
      · cases h
theorem m_lcL {it : Itm} {t : CT} {c : SB} {el : SE} {D : Nat} {env env' : MEnv} (s : Su env env') (hc : ME c) (he : ME el) : ∀ (n i : Nat) (S : Stor), Mr Eq (lcL it t c el D env n i S) (lcL it t c el D env' n i S)
  | 0, i, S => Mr.bad
  | n + 1, i, S => fun o S' h => by
    unfold lcL at h ⊢
    cases e : it.at S i with
    | none => rw [e] at h; cases h
    | some v =>
      rw [e] at h
      cases v with
      | none => exact ⟨o, h, rfl⟩
      | some v =>
        cases e2 : t.put env S v with
        | none =>
          simp only [e2] at h
          cases h
        | some env1 =>
          obtain ⟨env2, e3, s2⟩ := m_ctput s e2
          simp only [e2] at h
          simp only [e3]
          refine Mr.bdNE (hc env1 env2 S s2) (fun b S2 => ?_) o S' h
          cases b
          · exact m_lcL s hc he n (i + 1) S2
          · refine Mr.bdNE (he env1 env2 S2 s2) fun v S3 => ?_
            intro o S' h
            split at h
            · rename_i acc e4
              split at h
              · rename_i q
                simp only [if_pos q]
                exact m_lcL s hc he n (i + 1) _ o S' h
              · cases h
            · cases h
theorem m_lcS {w : SI} {t : CT} {c : SB} {el : SE} {vs : List Nat} (hw : ME w) (hc : ME c) (he : ME el) : ME (lcS w t c el vs) := fun env env' S s => Mr.bdE (hw env env' S s) fun it S1 => m_lcL (m_wipe s vs) hc he _ 0 _
/-! ### a body by the kernel -/
def isNx (n : Nat) : Res Out → Bool
  | .ok (.nx e) _ => e.length == n
  | _ => false
def flatE (env : MEnv) : Bool := env.all fun | some (.ref _) => false | _ => true
theorem flatE_sh {P : Stor} : ∀ {env : MEnv}, flatE env = true → shEnv 0 P env = env
  | [], _ => rfl
  | o :: env, h => by
    unfold flatE at h
    rw [List.all_cons, Bool.and_eq_true] at h
    have := flatE_sh (P := P) (env := env) h.2
    unfold shEnv at this ⊢
    rw [List.map_cons, this]
    cases o with
    | none => rfl
    | some v => cases v <;> first | rfl | cases h.1
def suB : MEnv → MEnv → Bool
  | [], [] => true
  | none :: a, _ :: b => suB a b
  | some v :: a, some w :: b => decide (v = w) && suB a b
  | _, _ => false
theorem suB_cons {o : Option MV} {a b : MEnv} (h : Su a b) : Su (none :: a) (o :: b) := ⟨by simp [h.len], fun i v e => by
  cases i with
  | zero => cases e
  | succ i => exact h.get i v e⟩
theorem suB_same {v : MV} {a b : MEnv} (h : Su a b) : Su (some v :: a) (some v :: b) := ⟨by simp [h.len], fun i w e => by
  cases i with
  | zero => exact e
  | succ i => exact h.get i w e⟩
theorem suB_nil : Su [] [] := Su.refl _
theorem frame_nx {f : SS} (hn : ∀ P, NS 0 P f) (hm : MS f) {env0 env : MEnv} {n : Nat} (hf : flatE env0 = true) (e : isNx n (f env0 []) = true) (hN : env.length = n) (hs : Su env0 env) {S : Stor} {Q : Out → Stor → Prop} (q : ∀ env1 T, env1.length = env.length → Q (.nx env1) (S ++ T)) : Wp (f env S) Q := by
  with_unfolding_all
    cases r : f env0 [] with
    | ok o T =>
      rw [r] at e
      have h1 := (hn S env0 [] (Nat.zero_le _) o T r).2
      rw [show shS 0 S [] = S by simp [shS], show shS 0 S T = S ++ T.map (shO 0 S) by simp [shS], flatE_sh hf] at h1
      obtain ⟨b, h2, h3⟩ := hm env0 env S hs _ _ h1
      rw [h2]
      cases o with
      | nx env1 =>
        cases b with
        | nx env2 =>
          have h4 : Su (shEnv 0 S env1) env2 := h3
          have e : (env1.length == env.length) = true := by rw [hN]; exact e
          have h5 := h4.len
          unfold shEnv at h5
          rw [List.length_map] at h5
          exact q env2 _ (by rw [← h5]; exact eq_of_beq e)
        | _ => exact h3.elim
      | _ => cases e
    | _ => rw [r] at e; cases e
theorem len2 {α : Type} {l : List α} {n : Nat} (h : l.length = n + 1) : ∃ a t, l = a :: t ∧ t.length = n := by
  cases l with
  | nil => cases h
  | cons a t => exact ⟨a, t, rfl, by simpa using h⟩
/-- over cells: a turn ends and lets the store grow -/
theorem wp_cells {S : Stor} {env : MEnv} {j m : Nat} {cs : List Int} {body : SS} {Q : Out → Stor → Prop} (hk : lget S j = some (cs.map .int)) (hm : env.length = m)
    (st : ∀ (cell : Int) (env : MEnv) (S' : Stor), cell ∈ cs → env.length = m → Le S S' → Wp (body (env.set 1 (some (.int cell))) S') (LoopK (fun e S2 => e.length = m ∧ Le S' S2) Q))
    (q : ∀ (env : MEnv) (S' : Stor), env.length = m → Le S S' → Q (.nx env) S') : Wp (forL (.lst j) (nameY 1) body (Itm.most S (.lst j)) 0 env S) Q := by
  with_unfolding_all
    refine wp_lst (xs := cs.map .int) (fun i e S' => e.length = m ∧ Le S S') ⟨hm, Le.refl _⟩ (fun i e S' h => h.2.lget hk) (fun i e S' x hx h => ?_) (fun e S' h => q e S' h.1 h.2)
    obtain ⟨cell, hc, rfl⟩ := map_int_get hx
    refine (st cell e S' (List.mem_of_getElem? hc) h.1 h.2).mono fun o S2 r => ?_
    cases o with
    | nx e2 => exact ⟨r.1, h.2.trans r.2⟩
    | ct e2 => exact ⟨r.1, h.2.trans r.2⟩
    | bk e2 => exact r
    | rt v => exact r
end Rf

/-! Rf16: readings of methods and builtins. -/
namespace Rf
open PySem PySem.Spec PyProof.Rows L2
section
variable {S : Stor} {Q : MV → Stor → Prop} {xs ys : List MV} {k l : Nat} {env : MEnv} {ns : List Int}
theorem e_meth {T : MTy} {f : MV → List MV → Stor → Res MV} {o : SE} {a : SA} : Wp (methS T f o a env S) Q = Wp (o env S) fun x S1 => tyM x S1 = some T ∧ Wp (a env S1) fun xs S2 => Wp (f x xs S2) Q := by
  with_unfolding_all
    unfold methS
    rw [Wp_bd]
    congr 1
    funext x S1
    rw [Wp_ite, Wp_bd]
theorem tyM_l (h : lget S k = some xs) : tyM (.ref k) S = some .list := by
  show (lget S k).map (fun _ => MTy.list) = _
  rw [h]
  rfl
theorem e_append {v : MV} (h : S[k]? = some (.lst xs)) : Wp (appendM (.ref k) [v] S) Q = (xs.length < sizeLine ∧ Q .non (S.set k (.lst (xs ++ [v])))) := by
  with_unfolding_all
    simp only [appendM, h]
    exact Wp_ite
theorem e_extend (h : S[k]? = some (.lst xs)) (h2 : S[l]? = some (.lst ys)) : Wp (extendM (.ref k) [.ref l] S) Q = (xs.length + ys.length ≤ sizeLine ∧ Q .non (S.set k (.lst (xs ++ ys)))) := by
  with_unfolding_all
    simp only [extendM, h, h2]
    exact Wp_ite
theorem e_insert {i : Int} {v : MV} (h : S[k]? = some (.lst xs)) : Wp (insertM (.ref k) [.int i, v] S) Q = ((xs.length < sizeLine ∧ 0 ≤ i ∧ i < 2 ^ 63) ∧ Q .non (S.set k (.lst (xs.take i.toNat ++ [v] ++ xs.drop i.toNat)))) := by
  with_unfolding_all
    simp only [insertM, h]
    exact Wp_ite
theorem e_reverse (h : S[k]? = some (.lst xs)) : Wp (reverseM (.ref k) [] S) Q = Q .non (S.set k (.lst xs.reverse)) := by
  with_unfolding_all
    simp only [reverseM, h]
    rfl
theorem e_clear (h : S[k]? = some (.lst xs)) : Wp (clearM (.ref k) [] S) Q = Q .non (S.set k (.lst [])) := by
  with_unfolding_all
    simp only [clearM, h]
    rfl
theorem e_pop {i : Int} {j : Nat} {v : MV} (h : S[k]? = some (.lst xs)) (hj : ixN xs.length i = some j) (hv : xs[j]? = some v) : Wp (popM (.ref k) [.int i] S) Q = Q v (S.set k (.lst (xs.eraseIdx j))) := by
  with_unfolding_all
    simp only [popM, h, hj, hv]
    rfl
theorem e_setI {i : Int} {j : Nat} {v : MV} {R : Unit → Stor → Prop} (h : S[k]? = some (.lst xs)) (hj : ixN xs.length i = some j) : Wp (setI (.ref k) (.int i) v S) R = R () (S.set k (.lst (xs.set j v))) := by
  with_unfolding_all
    simp only [setI, h, hj]
    rfl
theorem e_abs {i : Int} : Wp (absS [.int i] S) Q = Q (.int (if i < 0 then -i else i)) S := by with_unfolding_all exact propext Iff.rfl
theorem e_intI {i : Int} : Wp (intS [.int i] S) Q = Q (.int i) S := by with_unfolding_all exact propext Iff.rfl
theorem e_intB {b : Bool} : Wp (intS [.bl b] S) Q = Q (.int (if b then 1 else 0)) S := by with_unfolding_all exact propext Iff.rfl
theorem e_list (h : lget S k = some xs) : Wp (listS [.ref k] S) Q = Wp (newL xs S) Q := by
  with_unfolding_all
    show Wp (match lget S k with | some xs => newL xs S | none => _) Q = _
    rw [h]
theorem e_listT (h : tget S k = some xs) : Wp (listS [.ref k] S) Q = Wp (newL xs S) Q := by
  with_unfolding_all
    show Wp (match lget S k with | some xs => newL xs S | none => match tget S k with | some xs => newL xs S | none => .bad) Q = _
    rw [tget_l h, h]
theorem e_sum (h : lget S k = some (ns.map .int)) : Wp (sumS [.ref k] S) Q = Q (.int ns.sum) S := by
  with_unfolding_all
    show Wp (match lget S k with | some xs => (match intsM xs with | some ns => Res.ok (MV.int ns.sum) S | none => .bad) | none => .bad) Q = _
    rw [h]
    show Wp (match intsM (ns.map .int) with | some ns => Res.ok (MV.int ns.sum) S | none => .bad) Q = _
    rw [intsM_map]
    rfl
theorem e_sorted (h : lget S k = some (ns.map .int)) : Wp (sortedS [.ref k] S) Q = Wp (newL ((sortI ns).map .int) S) Q := by
  with_unfolding_all
    show Wp (match lget S k with | some xs => (match intsM xs with | some ns => newL ((sortI ns).map .int) S | none => .bad) | none => .bad) Q = _
    rw [h]
    show Wp (match intsM (ns.map .int) with | some ns => newL ((sortI ns).map .int) S | none => .bad) Q = _
    rw [intsM_map]
theorem blsM_bls : ∀ bs : List Bool, blsM (bs.map .bl) = some bs
  | [] => rfl
  | b :: bs => by rw [List.map_cons, blsM_bl, blsM_bls bs]; rfl
theorem blsM_ints : ∀ ns : List Int, blsM (ns.map .int) = some (ns.map (· != 0))
  | [] => rfl
  | b :: bs => by rw [List.map_cons, blsM_int, blsM_ints bs]; rfl
theorem e_all {bs : List Bool} (h : lget S k = some xs) (hb : blsM xs = some bs) : Wp (allS [.ref k] S) Q = Q (.bl (bs.all id)) S := by
  with_unfolding_all
    show Wp (match lget S k with | some xs => (match blsM xs with | some bs => Res.ok (MV.bl (bs.all id)) S | none => .bad) | none => .bad) Q = _
    rw [h]
    simp only [hb]
    rfl
theorem e_any {bs : List Bool} (h : lget S k = some xs) (hb : blsM xs = some bs) : Wp (anyS [.ref k] S) Q = Q (.bl (bs.any id)) S := by
  with_unfolding_all
    show Wp (match lget S k with | some xs => (match blsM xs with | some bs => Res.ok (MV.bl (bs.any id)) S | none => .bad) | none => .bad) Q = _
    rw [h]
    simp only [hb]
    rfl
theorem e_max2 {i j : Int} : Wp (maxS [.int i, .int j] S) Q = Q (.int (if j > i then j else i)) S := by with_unfolding_all exact propext Iff.rfl
theorem e_min2 {i j : Int} : Wp (minS [.int i, .int j] S) Q = Q (.int (if j < i then j else i)) S := by with_unfolding_all exact propext Iff.rfl
theorem e_divmod {i j : Int} : Wp (divmodS [.int i, .int j] S) Q = (CDiv i j ∧ Wp (newT [.int (i / j), .int (i % j)] S) Q) := by with_unfolding_all exact Wp_ite
theorem e_isi {T t : String} {c : Bool} {v : MV} (h : tyN v S = some t) (h2 : kitB t T = some c) : Wp (isiV T v S) Q = Q (.bl c) S := by
  with_unfolding_all
    unfold isiV
    simp only [h, h2]
    rfl
theorem tyN_l (h : lget S k = some xs) : tyN (.ref k) S = some "list" := by
  show tyO S[k]? = _
  unfold lget at h
  split at h
  · rename_i e; rw [e]; rfl
  · rename_i e; rw [e]; rfl
  · cases h
theorem tyN_t (h : tget S k = some xs) : tyN (.ref k) S = some "tuple" := by
  show tyO S[k]? = _
  unfold tget at h
  split at h
  · rename_i e; rw [e]; rfl
  · cases h
theorem e_isiL (h : lget S k = some xs) : Wp (isiV "list" (.ref k) S) Q = Q (.bl true) S := by with_unfolding_all exact e_isi (tyN_l h) rfl
theorem e_isiT (h : tget S k = some xs) : Wp (isiV "tuple" (.ref k) S) Q = Q (.bl true) S := by with_unfolding_all exact e_isi (tyN_t h) rfl
/-! slices -/
def OptK (Q : Option Int → Stor → Prop) : MV → Stor → Prop := fun v S => match v with
  | .int i => Q (some i) S
  | _ => False
theorem OptK_i {R : Option Int → Stor → Prop} {i : Int} : OptK R (.int i) S = R (some i) S := propext Iff.rfl
theorem e_optN {R : Option Int → Stor → Prop} : Wp (optS none env S) R = R none S := by with_unfolding_all exact propext Iff.rfl
theorem e_optS {a : SE} {R : Option Int → Stor → Prop} : Wp (optS (some a) env S) R = Wp (a env S) (OptK R) := by
  with_unfolding_all
    unfold optS
    rw [Wp_bd]
    congr 1
    funext v S1
    cases v <;> rfl
theorem e_sl {a : SE} {lo hi : Option SE} : Wp (slS a lo hi env S) Q = Wp (a env S) fun x S1 => Wp (optS lo env S1) fun i S2 => Wp (optS hi env S2) fun j S3 => Wp (slcS x i j S3) Q := by
  with_unfolding_all
    unfold slS
    rw [Wp_bd]
    congr 1
    funext x S1
    rw [Wp_bd]
    congr 1
    funext y S2
    rw [Wp_bd]
theorem e_slL {lo hi : Option Int} (h : lget S k = some xs) : Wp (slcS (.ref k) lo hi S) Q = Wp (newL (cutM xs lo hi) S) Q := by
  with_unfolding_all
    show Wp (match lget S k with | some xs => newL (cutM xs lo hi) S | none => _) Q = _
    rw [h]
theorem cutM_to (n : Nat) : cutM xs none (some (n : Int)) = xs.take n := by
  unfold cutM
  rw [HT.sIx_none, HT.sIx_nat, List.drop_zero, Nat.sub_zero]
  rcases Nat.le_total n xs.length with q | q
  · rw [Nat.min_eq_left q]
  · rw [Nat.min_eq_right q, List.take_length, List.take_of_length_le q]
theorem cutM_from (n : Nat) : cutM xs (some (n : Int)) none = xs.drop n := by
  unfold cutM
  rw [HT.sIx_none, HT.sIx_nat]
  rcases Nat.le_total n xs.length with q | q
  · rw [Nat.min_eq_left q, List.take_of_length_le (by simp)]
  · rw [Nat.min_eq_right q, Nat.sub_self, List.take_zero, List.drop_eq_nil_of_le q]
theorem cutM_mid (n m : Nat) : cutM xs (some (n : Int)) (some (m : Int)) = (xs.drop n).take (m - n) := by
  unfold cutM
  rw [HT.sIx_nat, HT.sIx_nat]
  rcases Nat.le_total n xs.length with q | q
  · rw [Nat.min_eq_left q]
    rcases Nat.le_total m xs.length with r | r
    · rw [Nat.min_eq_left r]
    · rw [Nat.min_eq_right r, List.take_of_length_le (by simp), List.take_of_length_le (by simp; omega)]
  · rw [Nat.min_eq_right q, List.drop_eq_nil_of_le (Nat.le_refl _), List.drop_eq_nil_of_le q]
    simp
end
theorem atI_get {xs : List MV} {i : Nat} {v : MV} (h : xs[i]? = some v) : atI xs (i : Int) = some v := atI_nat h
theorem ixN_nat {n i : Nat} (h : i < n) : ixN n (i : Int) = some i := by
  unfold ixN
  rw [if_pos (by omega), if_pos (by omega)]
  simp
theorem Le.set {S S' : Stor} {k : Nat} {o : MO} (h : Le S S') (hk : S.length ≤ k) : Le S (S'.set k o) := by
  obtain ⟨T, rfl⟩ := h
  exact ⟨T.set (k - S.length) o, by rw [List.set_append_right _ _ hk]⟩
theorem get_set {S : Stor} {k : Nat} {o o' : MO} (h : S[k]? = some o) : (S.set k o')[k]? = some o' := List.getElem?_set_self (List.getElem?_eq_some_iff.mp h).1
theorem Le.get {S S' : Stor} {k : Nat} {o : MO} (h : Le S S') (e : S[k]? = some o) : S'[k]? = some o := by
  obtain ⟨T, rfl⟩ := h
  rw [List.getElem?_append_left (List.getElem?_eq_some_iff.mp e).1]
  exact e
theorem take_snoc {α : Type} {l : List α} {i : Nat} {a : α} (h : l[i]? = some a) : l.take (i + 1) = l.take i ++ [a] := by rw [List.take_add_one, h]; rfl
theorem lget_set_ne {S : Stor} {k l : Nat} {o : MO} {xs : List MV} (h : k ≠ l) (e : lget S l = some xs) : lget (S.set k o) l = some xs := by
  unfold lget at e ⊢
  rw [List.getElem?_set_ne h]
  exact e
section
variable {env : MEnv} {S : Stor} {r : SA} {QI : Itm → Stor → Prop} {i j c : Int}
def R3K (Q : Itm → Stor → Prop) : List MV → Stor → Prop := fun xs S => match xs with
  | [.int i, .int j, .int c] => (c ≠ 0 ∧ c.natAbs < 1073741824 ∧ Builtin.Range.small i j c = true ∧ Builtin.Range.rangeSize i j c = (rgN i j c : Nat)) ∧ Q (.rng i c (rgN i j c)) S
  | _ => False
theorem e_rng3 : Wp (rng3S r env S) QI = Wp (r env S) (R3K QI) := by
  with_unfolding_all
    unfold rng3S
    rw [Wp_bd]
    congr 1
    funext xs S1
    rcases xs with _ | ⟨v, _ | ⟨u, _ | ⟨x, _ | ⟨y, t⟩⟩⟩⟩
    · rfl
    · cases v <;> rfl
    · cases v with
      | int i => cases u <;> rfl
      | _ => rfl
    · cases v with
      | int i => cases u with
        | int j => cases x with
          | int c => exact Wp_ite
          | _ => rfl
        | _ => rfl
      | _ => rfl
    · cases v with
      | int i => cases u with
        | int j => cases x <;> rfl
        | _ => rfl
      | _ => rfl
theorem R3K_i : R3K QI [.int i, .int j, .int c] S = ((c ≠ 0 ∧ c.natAbs < 1073741824 ∧ Builtin.Range.small i j c = true ∧ Builtin.Range.rangeSize i j c = (rgN i j c : Nat)) ∧ QI (.rng i c (rgN i j c)) S) := propext Iff.rfl
def RvK (Q : Itm → Stor → Prop) : List MV → Stor → Prop := fun xs S => match xs with
  | [.ref k] => (match lget S k with
    | some xs => Q (.rev k xs.length) S
    | none => False)
  | _ => False
theorem e_revI : Wp (revI r env S) QI = Wp (r env S) (RvK QI) := by
  with_unfolding_all
    unfold revI
    rw [Wp_bd]
    congr 1
    funext xs S1
    rcases xs with _ | ⟨v, _ | ⟨u, t⟩⟩
    · rfl
    · cases v with
      | ref k =>
        show Wp (match lget S1 k with | some xs => Res.ok (Itm.rev k xs.length) S1 | none => .bad) QI = (match lget S1 k with | some xs => QI (.rev k xs.length) S1 | none => False)
        cases lget S1 k <;> rfl
      | _ => rfl
    · cases v <;> rfl
theorem RvK_l {k : Nat} {xs : List MV} (h : lget S k = some xs) : RvK QI [.ref k] S = QI (.rev k xs.length) S := by
  show (match lget S k with | some xs => QI (.rev k xs.length) S | none => False) = _
  rw [h]
end
/-- over a list from behind -/
theorem wp_rev {k : Nat} {xs : List MV} {env : MEnv} {S : Stor} {g : YG} {b : SS} {Q : Out → Stor → Prop} (I : Nat → MEnv → Stor → Prop) (h0 : I 0 env S) (hk : ∀ i env S, I i env S → lget S k = some xs)
    (st : ∀ (i : Nat) (env : MEnv) (S : Stor) (x : MV), xs.reverse[i]? = some x → I i env S → Wp (g.one x env S) fun env1 S1 => Wp (b env1 S1) (LoopK (I (i + 1)) Q))
    (fin : ∀ env S, I xs.length env S → Q (.nx env) S) : Wp (forL (.rev k xs.length) g b (Itm.most S (.rev k xs.length)) 0 env S) Q := by
  with_unfolding_all
    refine wp_forL (N := xs.length) (I := fun i env S => i ≤ xs.length ∧ I i env S) (fun i env S h => ?_) _ 0 env S (by show _ < 0 + (xs.length + 1); omega) ⟨Nat.zero_le _, h0⟩
    have e1 := hk _ _ _ h.2
    have ea : (Itm.rev k xs.length).at S i = some (if i < xs.length then xs[xs.length - 1 - i]?.map .one else none) := by
      show (match lget S k with | some ys => if ys.length = xs.length then some (if i < xs.length then ys[xs.length - 1 - i]?.map Yl.one else none) else none | none => none) = _
      rw [e1]
      exact if_pos rfl
    by_cases hi : i < xs.length
    · have hj : xs.length - 1 - i < xs.length := by omega
      have ex : xs[xs.length - 1 - i]? = some xs[xs.length - 1 - i] := List.getElem?_eq_getElem hj
      refine .inr ⟨hi, .one xs[xs.length - 1 - i], by rw [ea, if_pos hi, ex]; rfl, ?_⟩
      refine (st i env S _ (by rw [List.getElem?_reverse hi, ex]) h.2).mono fun env1 S1 q => q.mono fun o S2 q2 => ?_
      cases o with
      | nx e => exact ⟨hi, q2⟩
      | ct e => exact ⟨hi, q2⟩
      | bk e => exact q2
      | rt v => exact q2
    · have e : i = xs.length := Nat.le_antisymm h.1 (Nat.le_of_not_lt hi)
      refine .inl ⟨e, by rw [ea, if_neg hi], fin env S ?_⟩
      rw [← e]
      exact h.2
end Rf

/-! Rf17: enumerate, zip, in, texts. -/
namespace Rf
open PySem PySem.Spec PyProof.Rows L2
section
variable {env : MEnv} {S : Stor} {r : SA} {QI : Itm → Stor → Prop} {k l : Nat} {xs ys : List MV}
def EnK (Q : Itm → Stor → Prop) : List MV → Stor → Prop := fun xs S => match xs with
  | [.ref k] => (match lget S k with
    | some _ => Q (.enm k) S
    | none => False)
  | _ => False
theorem e_enmI : Wp (enmI r env S) QI = Wp (r env S) (EnK QI) := by
  with_unfolding_all
    unfold enmI
    rw [Wp_bd]
    congr 1
    funext xs S1
    rcases xs with _ | ⟨v, _ | ⟨u, t⟩⟩
    · rfl
    · cases v with
      | ref k =>
        show Wp (match lget S1 k with | some _ => Res.ok (Itm.enm k) S1 | none => .bad) QI = (match lget S1 k with | some _ => QI (.enm k) S1 | none => False)
        cases lget S1 k <;> rfl
      | _ => rfl
    · cases v <;> rfl
theorem EnK_l (h : lget S k = some xs) : EnK QI [.ref k] S = QI (.enm k) S := by
  show (match lget S k with | some _ => QI (.enm k) S | none => False) = _
  rw [h]
def ZpK (Q : Itm → Stor → Prop) : List MV → Stor → Prop := fun xs S => match xs with
  | [.ref k, .ref l] => (match lget S k, lget S l with
    | some _, some _ => Q (.zip k l) S
    | _, _ => False)
  | _ => False
theorem e_zipI : Wp (zipI r env S) QI = Wp (r env S) (ZpK QI) := by
  with_unfolding_all
    unfold zipI
    rw [Wp_bd]
    congr 1
    funext xs S1
    rcases xs with _ | ⟨v, _ | ⟨u, _ | ⟨x, t⟩⟩⟩
    · rfl
    · cases v <;> rfl
    · cases v with
      | ref k => cases u with
        | ref l =>
          show Wp (match lget S1 k, lget S1 l with | some _, some _ => Res.ok (Itm.zip k l) S1 | _, _ => .bad) QI = (match lget S1 k, lget S1 l with | some _, some _ => QI (.zip k l) S1 | _, _ => False)
          cases lget S1 k <;> cases lget S1 l <;> rfl
        | _ => rfl
      | _ => rfl
    · cases v with
      | ref k => cases u <;> rfl
      | _ => rfl
theorem ZpK_l (h : lget S k = some xs) (h2 : lget S l = some ys) : ZpK QI [.ref k, .ref l] S = QI (.zip k l) S := by
  show (match lget S k, lget S l with | some _, some _ => QI (.zip k l) S | _, _ => False) = _
  rw [h, h2]
end
section
variable {env : MEnv} {S : Stor} {Q : Out → Stor → Prop} {b : SS} {g : YG} {k l : Nat} {xs ys : List MV}
theorem wp_enm (I : Nat → MEnv → Stor → Prop) (h0 : I 0 env S) (hk : ∀ i env S, I i env S → lget S k = some xs)
    (st : ∀ (i : Nat) (env : MEnv) (S : Stor) (x : MV), xs[i]? = some x → I i env S → Wp (g.two (.int i) x env S) fun env1 S1 => Wp (b env1 S1) (LoopK (I (i + 1)) Q))
    (fin : ∀ env S, I xs.length env S → Q (.nx env) S) : Wp (forL (.enm k) g b (Itm.most S (.enm k)) 0 env S) Q := by
  with_unfolding_all
    have e0 := hk _ _ _ h0
    refine wp_forL (N := xs.length) (I := fun i env S => i ≤ xs.length ∧ I i env S) (fun i env S h => ?_) _ 0 env S (by show _ < 0 + (lget S k).elim 0 _; rw [e0]; simp) ⟨Nat.zero_le _, h0⟩
    have e1 := hk _ _ _ h.2
    have ea : (Itm.enm k).at S i = some (xs[i]?.map (.two (.int i))) := by
      show (match lget S k with | some xs => some (xs[i]?.map (Yl.two (.int i))) | none => none) = _
      rw [e1]
    by_cases hi : i < xs.length
    · have ex : xs[i]? = some xs[i] := List.getElem?_eq_getElem hi
      refine .inr ⟨hi, .two (.int i) xs[i], by rw [ea, ex]; rfl, ?_⟩
      refine (st i env S _ ex h.2).mono fun env1 S1 q => q.mono fun o S2 q2 => ?_
      cases o with
      | nx e => exact ⟨hi, q2⟩
      | ct e => exact ⟨hi, q2⟩
      | bk e => exact q2
      | rt v => exact q2
    · have e : i = xs.length := Nat.le_antisymm h.1 (Nat.le_of_not_lt hi)
      refine .inl ⟨e, by rw [ea, List.getElem?_eq_none (Nat.le_of_not_lt hi)]; rfl, fin env S ?_⟩
      rw [← e]
      exact h.2
theorem e_two {i j : Nat} {u v : MV} {R : MEnv → Stor → Prop} : Wp ((tupY [nameG i, nameG j]).two u v env S) R = R ((env.set i (some u)).set j (some v)) S := by
  with_unfolding_all
    show Wp (if ([nameG i, nameG j] : List SG).length = 2 then tupG.go [nameG i, nameG j] [u, v] env S else .bad) R = _
    rw [if_pos (show ([nameG i, nameG j] : List SG).length = 2 from rfl)]
    exact propext Iff.rfl
theorem e_twoT {i j k : Nat} {u v : MV} {R : MEnv → Stor → Prop} (h : tget S k = some [u, v]) : Wp ((tupY [nameG i, nameG j]).one (.ref k) env S) R = R ((env.set i (some u)).set j (some v)) S := by
  with_unfolding_all
    show Wp (match tget S k with | some xs => if xs.length = ([nameG i, nameG j] : List SG).length then tupG.go [nameG i, nameG j] xs env S else .bad | none => .bad) R = _
    rw [h]
    exact propext Iff.rfl
end
section
variable {S : Stor} {Q : MV → Stor → Prop} {k : Nat} {xs : List MV} {v : MV}
theorem e_inT {neg : Bool} (h : tget S k = some xs) (hv : flatM v = true) (hx : xs.all flatM = true) : Wp (inS neg v (.ref k) S) Q = Q (.bl (if neg then !inM v xs else inM v xs)) S := by
  with_unfolding_all
    have e : inS neg v (.ref k) S = inSq neg v k S := by cases v <;> rfl
    rw [e]
    unfold inSq
    rw [tget_l h, h]
    simp only [hv, hx, Bool.and_self, if_true]
    rfl
theorem e_inL {neg : Bool} (h : lget S k = some xs) (hv : flatM v = true) (hx : xs.all flatM = true) : Wp (inS neg v (.ref k) S) Q = Q (.bl (if neg then !inM v xs else inM v xs)) S := by
  with_unfolding_all
    have e : inS neg v (.ref k) S = inSq neg v k S := by cases v <;> rfl
    rw [e]
    unfold inSq
    rw [h]
    simp only [hv, hx, Bool.and_self, if_true]
    rfl
end
end Rf

/-! the defs of the law, as functions of the store semantics -/
namespace Rf
open PySem PySem.Spec PyProof.Rows L2
@[irreducible] def b__law_rest : SS :=
(seqS (whileS (tstS (binS geS (varS 0) (binS mulS (varS 1) (cS (.int 64)))))
(seqS (asgS (binS subS (varS 0) (binS mulS (varS 1) (cS (.int 64)))) (nameG 0))
nextS) fuelW)
(seqS (whileS (tstS (binS geS (varS 0) (varS 1)))
(seqS (asgS (binS subS (varS 0) (varS 1)) (nameG 0))
nextS) fuelW)
(seqS (retS (varS 0))
nextS)))
def f__law_rest : List MV → Stor → Res MV := mkFn 2 2 b__law_rest
theorem n_b__law_rest {g : Nat} {P : Stor} : NS g P b__law_rest := by
  unfold b__law_rest
  exact (n_seqS (n_whileS (n_tstS (n_binS n_ge (n_varS 0) (n_binS n_mul (n_varS 1) (n_cS rfl)))) (n_seqS (n_asgS (n_binS n_sub (n_varS 0) (n_binS n_mul (n_varS 1) (n_cS rfl))) (n_nameG 0)) n_nextS) fuelW) (n_seqS (n_whileS (n_tstS (n_binS n_ge (n_varS 0) (n_varS 1))) (n_seqS (n_asgS (n_binS n_sub (n_varS 0) (n_varS 1)) (n_nameG 0)) n_nextS) fuelW) (n_seqS (n_retS (n_varS 0)) n_nextS)))
theorem n_f__law_rest {g : Nat} {P : Stor} : NF g P f__law_rest := n_fn n_b__law_rest
theorem w__law_rest {v0 v1 : MV} {S : Stor} {Q : MV → Stor → Prop} : Wp (f__law_rest [v0, v1] S) Q = Wp (b__law_rest [some v0, some v1] S) (RetK Q) := e_fn rfl
@[irreducible] def b__law_due : SS :=
(seqS (asgS (appS lenS (consS (lcS (rng2S (consS (cS (.int 1)) (consS (cS (.int 31)) nilS))) (.name 3) (tstS (binS leS (binS mulS (cS (.int 3)) (varS 3)) (varS 0))) (varS 3) [3]) nilS)) (nameG 2))
(seqS (asgS (appS lenS (consS (lcS (rng2S (consS (cS (.int 1)) (consS (cS (.int 31)) nilS))) (.name 3) (tstS (binS leS (binS mulS (cS (.int 2)) (varS 3)) (varS 1))) (varS 3) [3]) nilS)) (nameG 4))
(seqS (asgS (lstS (consS (binS (eqS false) (appS f__law_rest (consS (varS 0) (consS (cS (.int 2)) nilS))) (cS (.int 0))) (consS (binS (eqS false) (appS f__law_rest (consS (varS 1) (consS (cS (.int 2)) nilS))) (cS (.int 0))) (consS (binS (eqS false) (appS f__law_rest (consS (binS addS (varS 0) (varS 1)) (consS (cS (.int 2)) nilS))) (cS (.int 0))) nilS)))) (nameG 5))
(seqS (asgS (binS addS (varS 5) (lstS (consS (binS (eqS false) (appS f__law_rest (consS (binS addS (binS addS (varS 0) (varS 1)) (varS 1)) (consS (cS (.int 3)) nilS))) (cS (.int 0))) (consS (binS (eqS false) (appS f__law_rest (consS (binS addS (varS 2) (varS 4)) (consS (cS (.int 2)) nilS))) (cS (.int 0))) nilS)))) (nameG 5))
(seqS (asgS (binS addS (varS 5) (lstS (consS (binS (inS false) (appS f__law_rest (consS (binS mulS (varS 0) (varS 1)) (consS (cS (.int 5)) nilS))) (tupS (consS (cS (.int 0)) (consS (cS (.int 2)) (consS (cS (.int 4)) nilS))))) (consS (binS (inS false) (appS f__law_rest (consS (binS addS (binS mulS (varS 0) (varS 0)) (varS 1)) (consS (cS (.int 4)) nilS))) (tupS (consS (cS (.int 0)) (consS (cS (.int 1)) nilS)))) nilS)))) (nameG 5))
(seqS (retS (binS addS (varS 5) (lstS (consS (binS (inS false) (appS f__law_rest (consS (binS addS (varS 0) (binS mulS (varS 1) (varS 1))) (consS (cS (.int 7)) nilS))) (tupS (consS (cS (.int 0)) (consS (cS (.int 1)) (consS (cS (.int 2)) nilS))))) nilS))))
nextS))))))
def f__law_due : List MV → Stor → Res MV := mkFn 2 6 b__law_due
theorem n_b__law_due {g : Nat} {P : Stor} : NS g P b__law_due := by
  unfold b__law_due
  exact (n_seqS (n_asgS (n_appL n_len (n_consS (n_lcS (n_rng2S (n_consS (n_cS rfl) (n_consS (n_cS rfl) n_nilS))) (n_tstS (n_binS n_le (n_binS n_mul (n_cS rfl) (n_varS 3)) (n_varS 0))) (n_varS 3)) n_nilS)) (n_nameG 2)) (n_seqS (n_asgS (n_appL n_len (n_consS (n_lcS (n_rng2S (n_consS (n_cS rfl) (n_consS (n_cS rfl) n_nilS))) (n_tstS (n_binS n_le (n_binS n_mul (n_cS rfl) (n_varS 3)) (n_varS 1))) (n_varS 3)) n_nilS)) (n_nameG 4)) (n_seqS (n_asgS (n_lstS (n_consS (n_binS (n_eq false) (n_appS n_f__law_rest (n_consS (n_varS 0) (n_consS (n_cS rfl) n_nilS))) (n_cS rfl)) (n_consS (n_binS (n_eq false) (n_appS n_f__law_rest (n_consS (n_varS 1) (n_consS (n_cS rfl) n_nilS))) (n_cS rfl)) (n_consS (n_binS (n_eq false) (n_appS n_f__law_rest (n_consS (n_binS n_add (n_varS 0) (n_varS 1)) (n_consS (n_cS rfl) n_nilS))) (n_cS rfl)) n_nilS)))) (n_nameG 5)) (n_seqS (n_asgS (n_binS n_add (n_varS 5) (n_lstS (n_consS (n_binS (n_eq false) (n_appS n_f__law_rest (n_consS (n_binS n_add (n_binS n_add (n_varS 0) (n_varS 1)) (n_varS 1)) (n_consS (n_cS rfl) n_nilS))) (n_cS rfl)) (n_consS (n_binS (n_eq false) (n_appS n_f__law_rest (n_consS (n_binS n_add (n_varS 2) (n_varS 4)) (n_consS (n_cS rfl) n_nilS))) (n_cS rfl)) n_nilS)))) (n_nameG 5)) (n_seqS (n_asgS (n_binS n_add (n_varS 5) (n_lstS (n_consS (n_binS (n_in false) (n_appS n_f__law_rest (n_consS (n_binS n_mul (n_varS 0) (n_varS 1)) (n_consS (n_cS rfl) n_nilS))) (n_tupS (n_consS (n_cS rfl) (n_consS (n_cS rfl) (n_consS (n_cS rfl) n_nilS))))) (n_consS (n_binS (n_in false) (n_appS n_f__law_rest (n_consS (n_binS n_add (n_binS n_mul (n_varS 0) (n_varS 0)) (n_varS 1)) (n_consS (n_cS rfl) n_nilS))) (n_tupS (n_consS (n_cS rfl) (n_consS (n_cS rfl) n_nilS)))) n_nilS)))) (n_nameG 5)) (n_seqS (n_retS (n_binS n_add (n_varS 5) (n_lstS (n_consS (n_binS (n_in false) (n_appS n_f__law_rest (n_consS (n_binS n_add (n_varS 0) (n_binS n_mul (n_varS 1) (n_varS 1))) (n_consS (n_cS rfl) n_nilS))) (n_tupS (n_consS (n_cS rfl) (n_consS (n_cS rfl) (n_consS (n_cS rfl) n_nilS))))) n_nilS)))) n_nextS))))))
theorem n_f__law_due {g : Nat} {P : Stor} : NF g P f__law_due := n_fn n_b__law_due
theorem w__law_due {v0 v1 : MV} {S : Stor} {Q : MV → Stor → Prop} : Wp (f__law_due [v0, v1] S) Q = Wp (b__law_due [some v0, some v1, none, none, none, none] S) (RetK Q) := e_fn rfl
@[irreducible] def b_turns_by_sums : SS :=
(seqS (ifS (tstS (binS (eqS false) (varS 0) (cS (.int 4))))
(seqS (retS (binS (eqS false) (binS modS (binS addS (binS fdivS (varS 1) (cS (.int 3))) (binS fdivS (varS 2) (cS (.int 2)))) (cS (.int 2))) (cS (.int 0))))
nextS)
nextS)
(seqS (ifS (tstS (binS (eqS false) (varS 0) (cS (.int 5))))
(seqS (retS (binS (eqS false) (binS modS (binS modS (binS mulS (varS 1) (varS 2)) (cS (.int 5))) (cS (.int 2))) (cS (.int 0))))
nextS)
nextS)
(seqS (ifS (tstS (binS (eqS false) (varS 0) (cS (.int 6))))
(seqS (retS (binS ltS (binS modS (binS addS (binS mulS (varS 1) (varS 1)) (varS 2)) (cS (.int 4))) (cS (.int 2))))
nextS)
nextS)
(seqS (retS (binS ltS (binS modS (binS addS (varS 1) (binS mulS (varS 2) (varS 2))) (cS (.int 7))) (cS (.int 3))))
nextS))))
def f_turns_by_sums : List MV → Stor → Res MV := mkFn 3 3 b_turns_by_sums
theorem n_b_turns_by_sums {g : Nat} {P : Stor} : NS g P b_turns_by_sums := by
  unfold b_turns_by_sums
  exact (n_seqS (n_ifS (n_tstS (n_binS (n_eq false) (n_varS 0) (n_cS rfl))) (n_seqS (n_retS (n_binS (n_eq false) (n_binS n_mod (n_binS n_add (n_binS n_fdiv (n_varS 1) (n_cS rfl)) (n_binS n_fdiv (n_varS 2) (n_cS rfl))) (n_cS rfl)) (n_cS rfl))) n_nextS) n_nextS) (n_seqS (n_ifS (n_tstS (n_binS (n_eq false) (n_varS 0) (n_cS rfl))) (n_seqS (n_retS (n_binS (n_eq false) (n_binS n_mod (n_binS n_mod (n_binS n_mul (n_varS 1) (n_varS 2)) (n_cS rfl)) (n_cS rfl)) (n_cS rfl))) n_nextS) n_nextS) (n_seqS (n_ifS (n_tstS (n_binS (n_eq false) (n_varS 0) (n_cS rfl))) (n_seqS (n_retS (n_binS n_lt (n_binS n_mod (n_binS n_add (n_binS n_mul (n_varS 1) (n_varS 1)) (n_varS 2)) (n_cS rfl)) (n_cS rfl))) n_nextS) n_nextS) (n_seqS (n_retS (n_binS n_lt (n_binS n_mod (n_binS n_add (n_varS 1) (n_binS n_mul (n_varS 2) (n_varS 2))) (n_cS rfl)) (n_cS rfl))) n_nextS))))
theorem n_f_turns_by_sums {g : Nat} {P : Stor} : NF g P f_turns_by_sums := n_fn n_b_turns_by_sums
theorem w_turns_by_sums {v0 v1 v2 : MV} {S : Stor} {Q : MV → Stor → Prop} : Wp (f_turns_by_sums [v0, v1, v2] S) Q = Wp (b_turns_by_sums [some v0, some v1, some v2] S) (RetK Q) := e_fn rfl
@[irreducible] def b_turns_over : SS :=
(seqS (ifS (tstS (binS (eqS false) (varS 0) (cS (.int 0))))
(seqS (retS (binS (eqS false) (binS modS (varS 1) (cS (.int 2))) (cS (.int 0))))
nextS)
nextS)
(seqS (ifS (tstS (binS (eqS false) (varS 0) (cS (.int 1))))
(seqS (retS (binS (eqS false) (binS modS (varS 2) (cS (.int 2))) (cS (.int 0))))
nextS)
nextS)
(seqS (ifS (tstS (binS (eqS false) (varS 0) (cS (.int 2))))
(seqS (retS (binS (eqS false) (binS modS (binS addS (varS 1) (varS 2)) (cS (.int 2))) (cS (.int 0))))
nextS)
nextS)
(seqS (ifS (tstS (binS (eqS false) (varS 0) (cS (.int 3))))
(seqS (retS (binS (eqS false) (binS modS (binS addS (varS 1) (binS mulS (cS (.int 2)) (varS 2))) (cS (.int 3))) (cS (.int 0))))
nextS)
nextS)
(seqS (retS (appS f_turns_by_sums (consS (varS 0) (consS (varS 1) (consS (varS 2) nilS)))))
nextS)))))
def f_turns_over : List MV → Stor → Res MV := mkFn 3 3 b_turns_over
theorem n_b_turns_over {g : Nat} {P : Stor} : NS g P b_turns_over := by
  unfold b_turns_over
  exact (n_seqS (n_ifS (n_tstS (n_binS (n_eq false) (n_varS 0) (n_cS rfl))) (n_seqS (n_retS (n_binS (n_eq false) (n_binS n_mod (n_varS 1) (n_cS rfl)) (n_cS rfl))) n_nextS) n_nextS) (n_seqS (n_ifS (n_tstS (n_binS (n_eq false) (n_varS 0) (n_cS rfl))) (n_seqS (n_retS (n_binS (n_eq false) (n_binS n_mod (n_varS 2) (n_cS rfl)) (n_cS rfl))) n_nextS) n_nextS) (n_seqS (n_ifS (n_tstS (n_binS (n_eq false) (n_varS 0) (n_cS rfl))) (n_seqS (n_retS (n_binS (n_eq false) (n_binS n_mod (n_binS n_add (n_varS 1) (n_varS 2)) (n_cS rfl)) (n_cS rfl))) n_nextS) n_nextS) (n_seqS (n_ifS (n_tstS (n_binS (n_eq false) (n_varS 0) (n_cS rfl))) (n_seqS (n_retS (n_binS (n_eq false) (n_binS n_mod (n_binS n_add (n_varS 1) (n_binS n_mul (n_cS rfl) (n_varS 2))) (n_cS rfl)) (n_cS rfl))) n_nextS) n_nextS) (n_seqS (n_retS (n_appS n_f_turns_by_sums (n_consS (n_varS 0) (n_consS (n_varS 1) (n_consS (n_varS 2) n_nilS))))) n_nextS)))))
theorem n_f_turns_over {g : Nat} {P : Stor} : NF g P f_turns_over := n_fn n_b_turns_over
theorem w_turns_over {v0 v1 v2 : MV} {S : Stor} {Q : MV → Stor → Prop} : Wp (f_turns_over [v0, v1, v2] S) Q = Wp (b_turns_over [some v0, some v1, some v2] S) (RetK Q) := e_fn rfl
@[irreducible] def b_law_2_1 : SS :=
(seqS (ifS (orB (notB (tstS (unS (isiV "bool") (varS 8)))) (tstS (binS (eqS true) (varS 8) (binS ixS (varS 6) (varS 7)))))
(seqS (retS (cS (.bl false)))
nextS)
nextS)
nextS)
theorem n_b_law_2_1 {g : Nat} {P : Stor} : NS g P b_law_2_1 := by
  unfold b_law_2_1
  exact (n_seqS (n_ifS (n_orB (n_notB (n_tstS (n_unS (n_isi "bool") (n_varS 8)))) (n_tstS (n_binS (n_eq true) (n_varS 8) (n_binS n_ix (n_varS 6) (n_varS 7))))) (n_seqS (n_retS (n_cS rfl)) n_nextS) n_nextS) n_nextS)
theorem m_b_law_2_1 : MS b_law_2_1 := by
  unfold b_law_2_1
  exact (m_seqS (m_ifS (m_orB (m_notB (m_tstS (m_unS (m_varS _)))) (m_tstS (m_binS (m_varS _) (m_binS (m_varS _) (m_varS _))))) (m_seqS (m_retS (m_cS _)) m_nextS) m_nextS) m_nextS)
@[irreducible] def b_law_2 : SS :=
(seqS (asgS (appS f_turns_over (consS (varS 7) (consS (varS 4) (consS (varS 5) nilS)))) (nameG 8))
b_law_2_1)
theorem n_b_law_2 {g : Nat} {P : Stor} : NS g P b_law_2 := by
  unfold b_law_2
  exact (n_seqS (n_asgS (n_appS n_f_turns_over (n_consS (n_varS 7) (n_consS (n_varS 4) (n_consS (n_varS 5) n_nilS)))) (n_nameG 8)) n_b_law_2_1)
theorem m_b_law_2 : MS b_law_2 := by
  unfold b_law_2
  exact (m_seqS (m_asgS (m_appS (m_consS (m_varS _) (m_consS (m_varS _) (m_consS (m_varS _) m_nilS)))) (m_nameG 8)) m_b_law_2_1)
@[irreducible] def b_law_1_4 : SS :=
(seqS (forS (rng1S (consS (cS (.int 8)) nilS)) (nameY 7)
b_law_2)
nextS)
theorem n_b_law_1_4 {g : Nat} {P : Stor} : NS g P b_law_1_4 := by
  unfold b_law_1_4
  exact (n_seqS (n_forS (n_rng1S (n_consS (n_cS rfl) n_nilS)) (n_nameY 7) n_b_law_2) n_nextS)
theorem m_b_law_1_4 : MS b_law_1_4 := by
  unfold b_law_1_4
  exact (m_seqS (m_forS (m_rng1S (m_consS (m_cS _) m_nilS)) (m_nameY 7) m_b_law_2) m_nextS)
@[irreducible] def b_law_1_3 : SS :=
(seqS (asgS (appS f__law_due (consS (varS 4) (consS (varS 5) nilS))) (nameG 6))
b_law_1_4)
theorem n_b_law_1_3 {g : Nat} {P : Stor} : NS g P b_law_1_3 := by
  unfold b_law_1_3
  exact (n_seqS (n_asgS (n_appS n_f__law_due (n_consS (n_varS 4) (n_consS (n_varS 5) n_nilS))) (n_nameG 6)) n_b_law_1_4)
theorem m_b_law_1_3 : MS b_law_1_3 := by
  unfold b_law_1_3
  exact (m_seqS (m_asgS (m_appS (m_consS (m_varS _) (m_consS (m_varS _) m_nilS))) (m_nameG 6)) m_b_law_1_4)
@[irreducible] def b_law_1_2 : SS :=
(seqS (asgS (binS modS (binS fdivS (varS 3) (cS (.int 31))) (cS (.int 31))) (nameG 5))
b_law_1_3)
theorem n_b_law_1_2 {g : Nat} {P : Stor} : NS g P b_law_1_2 := by
  unfold b_law_1_2
  exact (n_seqS (n_asgS (n_binS n_mod (n_binS n_fdiv (n_varS 3) (n_cS rfl)) (n_cS rfl)) (n_nameG 5)) n_b_law_1_3)
theorem m_b_law_1_2 : MS b_law_1_2 := by
  unfold b_law_1_2
  exact (m_seqS (m_asgS (m_binS (m_binS (m_varS _) (m_cS _)) (m_cS _)) (m_nameG 5)) m_b_law_1_3)
@[irreducible] def b_law_1_1 : SS :=
(seqS (asgS (binS modS (varS 3) (cS (.int 31))) (nameG 4))
b_law_1_2)
theorem n_b_law_1_1 {g : Nat} {P : Stor} : NS g P b_law_1_1 := by
  unfold b_law_1_1
  exact (n_seqS (n_asgS (n_binS n_mod (n_varS 3) (n_cS rfl)) (n_nameG 4)) n_b_law_1_2)
theorem m_b_law_1_1 : MS b_law_1_1 := by
  unfold b_law_1_1
  exact (m_seqS (m_asgS (m_binS (m_varS _) (m_cS _)) (m_nameG 4)) m_b_law_1_2)
@[irreducible] def b_law_1 : SS :=
(seqS (asgS (binS modS (binS addS (binS mulS (binS modS (varS 2) (cS (.int 1000000007))) (cS (.int 48271))) (binS mulS (cS (.int 31)) (varS 1))) (cS (.int 2147483647))) (nameG 3))
b_law_1_1)
theorem n_b_law_1 {g : Nat} {P : Stor} : NS g P b_law_1 := by
  unfold b_law_1
  exact (n_seqS (n_asgS (n_binS n_mod (n_binS n_add (n_binS n_mul (n_binS n_mod (n_varS 2) (n_cS rfl)) (n_cS rfl)) (n_binS n_mul (n_cS rfl) (n_varS 1))) (n_cS rfl)) (n_nameG 3)) n_b_law_1_1)
theorem m_b_law_1 : MS b_law_1 := by
  unfold b_law_1
  exact (m_seqS (m_asgS (m_binS (m_binS (m_binS (m_binS (m_varS _) (m_cS _)) (m_cS _)) (m_binS (m_cS _) (m_varS _))) (m_cS _)) (m_nameG 3)) m_b_law_1_1)
@[irreducible] def b_law : SS :=
(seqS (forS (enmI (consS (binS addS (slS (varS 0) none (some (cS (.int 63)))) (lstS (consS (cS (.int 5)) nilS))) nilS)) (tupY [nameG 1, nameG 2])
b_law_1)
(seqS (retS (cS (.bl true)))
nextS))
def f_law : List MV → Stor → Res MV := mkFn 1 9 b_law
theorem n_b_law {g : Nat} {P : Stor} : NS g P b_law := by
  unfold b_law
  exact (n_seqS (n_forS (n_enmI (n_consS (n_binS n_add (n_slS (n_varS 0) n_none (n_some (n_cS rfl))) (n_lstS (n_consS (n_cS rfl) n_nilS))) n_nilS)) (n_tupY ⟨(n_nameG 1), (n_nameG 2), trivial⟩) n_b_law_1) (n_seqS (n_retS (n_cS rfl)) n_nextS))
theorem n_f_law {g : Nat} {P : Stor} : NF g P f_law := n_fn n_b_law
theorem w_law {v0 : MV} {S : Stor} {Q : MV → Stor → Prop} : Wp (f_law [v0] S) Q = Wp (b_law [some v0, none, none, none, none, none, none, none, none] S) (RetK Q) := e_fn rfl
end Rf

namespace RfM
open PySem PySem.Spec L2 Rf
theorem rest_eq {n b : Nat} {S : Stor} {Q : MV → Stor → Prop} (hn : n < 5000) (hb : 0 < b) (hb2 : b < 100) (q : Q (.int (n % b : Nat)) S) : Wp (f__law_rest [.int n, .int b] S) Q := by
  rw [w__law_rest]
  unfold b__law_rest
  simp only [e_seq, SeqK_nx, SeqK_rt, SeqK_ct, SeqK_bk, RetK_nx, RetK_rt, LoopK_nx, LoopK_ct, LoopK_bk, LoopK_rt, e_next, e_cont, e_brk, e_retN, e_ret, e_drop, e_if, IfK_t, IfK_f, e_asg, e_aug, e_var, VarK_s, e_c, e_bin, e_un, e_nil, e_cons, e_app, e_tst, TstK_bl, e_andB, e_orB, e_notB, e_yes, BlK_bl, e_andV, e_orV, e_notV, e_ifE, e_ch, e_neg, e_add, e_sub, e_mul, e_fdiv, e_mod, e_pow, e_shl, e_shr, e_and, e_or, e_xor, e_iadd, e_lt, e_le, e_gt, e_ge, e_eq, e_ne, e_isNon, e_isnNon, e_isiInt, e_isiBool, e_for, e_rng1, R1K_i, e_rng2, R2K_i, e_seqI, Wp_ok, nameY, nameG, List.getElem?_cons_zero, List.getElem?_cons_succ, List.set_cons_zero, List.set_cons_succ, List.map_cons, List.map_nil, List.replicate_zero, List.replicate_succ, List.cons_append, List.nil_append, List.append_nil, Bool.not_true, Bool.not_false, if_true, if_false, Bool.false_eq_true, Bool.true_eq_false, reduceCtorEq, decide_true, decide_false, CMul, CDiv, CPow, okI, Int.reduceNeg, Int.reduceLT, Int.reduceLE, Int.reducePow, Int.reduceToNat, Nat.reduceSub, Nat.reduceAdd, Nat.reducePow, Nat.reduceLT, Nat.reduceLeDiff, Int.reduceMul, Int.reduceAdd, Int.reduceSub, Int.reduceEq, and_true, true_and, or_true, true_or, and_self, Nat.sub_self, Int.zero_le_ofNat]
  refine wp_while (fun m env S' => S' = S ∧ ∃ n' : Nat, env = [some (.int n'), some (.int b)] ∧ n' = m ∧ n' < 5000 ∧ n' % b = n % b) n ?_ ?_ ?_
  · omega
  · exact ⟨rfl, n, rfl, rfl, hn, rfl⟩
  intro m env S' h
  obtain ⟨rfl, n', rfl, rfl, hn', e⟩ := h
  simp only [e_seq, SeqK_nx, SeqK_rt, SeqK_ct, SeqK_bk, RetK_nx, RetK_rt, LoopK_nx, LoopK_ct, LoopK_bk, LoopK_rt, e_next, e_cont, e_brk, e_retN, e_ret, e_drop, e_if, IfK_t, IfK_f, e_asg, e_aug, e_var, VarK_s, e_c, e_bin, e_un, e_nil, e_cons, e_app, e_tst, TstK_bl, e_andB, e_orB, e_notB, e_yes, BlK_bl, e_andV, e_orV, e_notV, e_ifE, e_ch, e_neg, e_add, e_sub, e_mul, e_fdiv, e_mod, e_pow, e_shl, e_shr, e_and, e_or, e_xor, e_iadd, e_lt, e_le, e_gt, e_ge, e_eq, e_ne, e_isNon, e_isnNon, e_isiInt, e_isiBool, e_for, e_rng1, R1K_i, e_rng2, R2K_i, e_seqI, Wp_ok, nameY, nameG, List.getElem?_cons_zero, List.getElem?_cons_succ, List.set_cons_zero, List.set_cons_succ, List.map_cons, List.map_nil, List.replicate_zero, List.replicate_succ, List.cons_append, List.nil_append, List.append_nil, Bool.not_true, Bool.not_false, if_true, if_false, Bool.false_eq_true, Bool.true_eq_false, reduceCtorEq, decide_true, decide_false, CMul, CDiv, CPow, okI, Int.reduceNeg, Int.reduceLT, Int.reduceLE, Int.reducePow, Int.reduceToNat, Nat.reduceSub, Nat.reduceAdd, Nat.reducePow, Nat.reduceLT, Nat.reduceLeDiff, Int.reduceMul, Int.reduceAdd, Int.reduceSub, Int.reduceEq, and_true, true_and, or_true, true_or, and_self, Nat.sub_self, Int.zero_le_ofNat]
  by_cases h1 : (b : Int) * 64 ≤ (n' : Int)
  · have e1 : (n' : Int) - (b : Int) * 64 = ((n' - b * 64 : Nat) : Int) := by omega
    simp only [h1, e_seq, SeqK_nx, SeqK_rt, SeqK_ct, SeqK_bk, RetK_nx, RetK_rt, LoopK_nx, LoopK_ct, LoopK_bk, LoopK_rt, e_next, e_cont, e_brk, e_retN, e_ret, e_drop, e_if, IfK_t, IfK_f, e_asg, e_aug, e_var, VarK_s, e_c, e_bin, e_un, e_nil, e_cons, e_app, e_tst, TstK_bl, e_andB, e_orB, e_notB, e_yes, BlK_bl, e_andV, e_orV, e_notV, e_ifE, e_ch, e_neg, e_add, e_sub, e_mul, e_fdiv, e_mod, e_pow, e_shl, e_shr, e_and, e_or, e_xor, e_iadd, e_lt, e_le, e_gt, e_ge, e_eq, e_ne, e_isNon, e_isnNon, e_isiInt, e_isiBool, e_for, e_rng1, R1K_i, e_rng2, R2K_i, e_seqI, Wp_ok, nameY, nameG, List.getElem?_cons_zero, List.getElem?_cons_succ, List.set_cons_zero, List.set_cons_succ, List.map_cons, List.map_nil, List.replicate_zero, List.replicate_succ, List.cons_append, List.nil_append, List.append_nil, Bool.not_true, Bool.not_false, if_true, if_false, Bool.false_eq_true, Bool.true_eq_false, reduceCtorEq, decide_true, decide_false, CMul, CDiv, CPow, okI, Int.reduceNeg, Int.reduceLT, Int.reduceLE, Int.reducePow, Int.reduceToNat, Nat.reduceSub, Nat.reduceAdd, Nat.reducePow, Nat.reduceLT, Nat.reduceLeDiff, Int.reduceMul, Int.reduceAdd, Int.reduceSub, Int.reduceEq, and_true, true_and, or_true, true_or, and_self, Nat.sub_self, Int.zero_le_ofNat, e1]
    refine ⟨n' - b * 64, by omega, _, rfl, rfl, by omega, ?_⟩
    rw [← e]
    have : n' = (n' - b * 64) + b * 64 := by omega
    conv => rhs; rw [this, Nat.add_mul_mod_self_left]
  · simp only [h1, e_seq, SeqK_nx, SeqK_rt, SeqK_ct, SeqK_bk, RetK_nx, RetK_rt, LoopK_nx, LoopK_ct, LoopK_bk, LoopK_rt, e_next, e_cont, e_brk, e_retN, e_ret, e_drop, e_if, IfK_t, IfK_f, e_asg, e_aug, e_var, VarK_s, e_c, e_bin, e_un, e_nil, e_cons, e_app, e_tst, TstK_bl, e_andB, e_orB, e_notB, e_yes, BlK_bl, e_andV, e_orV, e_notV, e_ifE, e_ch, e_neg, e_add, e_sub, e_mul, e_fdiv, e_mod, e_pow, e_shl, e_shr, e_and, e_or, e_xor, e_iadd, e_lt, e_le, e_gt, e_ge, e_eq, e_ne, e_isNon, e_isnNon, e_isiInt, e_isiBool, e_for, e_rng1, R1K_i, e_rng2, R2K_i, e_seqI, Wp_ok, nameY, nameG, List.getElem?_cons_zero, List.getElem?_cons_succ, List.set_cons_zero, List.set_cons_succ, List.map_cons, List.map_nil, List.replicate_zero, List.replicate_succ, List.cons_append, List.nil_append, List.append_nil, Bool.not_true, Bool.not_false, if_true, if_false, Bool.false_eq_true, Bool.true_eq_false, reduceCtorEq, decide_true, decide_false, CMul, CDiv, CPow, okI, Int.reduceNeg, Int.reduceLT, Int.reduceLE, Int.reducePow, Int.reduceToNat, Nat.reduceSub, Nat.reduceAdd, Nat.reducePow, Nat.reduceLT, Nat.reduceLeDiff, Int.reduceMul, Int.reduceAdd, Int.reduceSub, Int.reduceEq, and_true, true_and, or_true, true_or, and_self, Nat.sub_self, Int.zero_le_ofNat]
    refine wp_while (fun m env S'' => S'' = S' ∧ ∃ n' : Nat, env = [some (.int n'), some (.int b)] ∧ n' = m ∧ n' < 5000 ∧ n' % b = n % b) n' ?_ ?_ ?_
    · omega
    · exact ⟨rfl, n', rfl, rfl, hn', e⟩
    intro m env S'' h
    obtain ⟨rfl, n2, rfl, rfl, hn2, e2⟩ := h
    simp only [e_seq, SeqK_nx, SeqK_rt, SeqK_ct, SeqK_bk, RetK_nx, RetK_rt, LoopK_nx, LoopK_ct, LoopK_bk, LoopK_rt, e_next, e_cont, e_brk, e_retN, e_ret, e_drop, e_if, IfK_t, IfK_f, e_asg, e_aug, e_var, VarK_s, e_c, e_bin, e_un, e_nil, e_cons, e_app, e_tst, TstK_bl, e_andB, e_orB, e_notB, e_yes, BlK_bl, e_andV, e_orV, e_notV, e_ifE, e_ch, e_neg, e_add, e_sub, e_mul, e_fdiv, e_mod, e_pow, e_shl, e_shr, e_and, e_or, e_xor, e_iadd, e_lt, e_le, e_gt, e_ge, e_eq, e_ne, e_isNon, e_isnNon, e_isiInt, e_isiBool, e_for, e_rng1, R1K_i, e_rng2, R2K_i, e_seqI, Wp_ok, nameY, nameG, List.getElem?_cons_zero, List.getElem?_cons_succ, List.set_cons_zero, List.set_cons_succ, List.map_cons, List.map_nil, List.replicate_zero, List.replicate_succ, List.cons_append, List.nil_append, List.append_nil, Bool.not_true, Bool.not_false, if_true, if_false, Bool.false_eq_true, Bool.true_eq_false, reduceCtorEq, decide_true, decide_false, CMul, CDiv, CPow, okI, Int.reduceNeg, Int.reduceLT, Int.reduceLE, Int.reducePow, Int.reduceToNat, Nat.reduceSub, Nat.reduceAdd, Nat.reducePow, Nat.reduceLT, Nat.reduceLeDiff, Int.reduceMul, Int.reduceAdd, Int.reduceSub, Int.reduceEq, and_true, true_and, or_true, true_or, and_self, Nat.sub_self, Int.zero_le_ofNat]
    by_cases h2 : (b : Int) ≤ (n2 : Int)
    · have e1 : (n2 : Int) - (b : Int) = ((n2 - b : Nat) : Int) := by omega
      simp only [h2, e_seq, SeqK_nx, SeqK_rt, SeqK_ct, SeqK_bk, RetK_nx, RetK_rt, LoopK_nx, LoopK_ct, LoopK_bk, LoopK_rt, e_next, e_cont, e_brk, e_retN, e_ret, e_drop, e_if, IfK_t, IfK_f, e_asg, e_aug, e_var, VarK_s, e_c, e_bin, e_un, e_nil, e_cons, e_app, e_tst, TstK_bl, e_andB, e_orB, e_notB, e_yes, BlK_bl, e_andV, e_orV, e_notV, e_ifE, e_ch, e_neg, e_add, e_sub, e_mul, e_fdiv, e_mod, e_pow, e_shl, e_shr, e_and, e_or, e_xor, e_iadd, e_lt, e_le, e_gt, e_ge, e_eq, e_ne, e_isNon, e_isnNon, e_isiInt, e_isiBool, e_for, e_rng1, R1K_i, e_rng2, R2K_i, e_seqI, Wp_ok, nameY, nameG, List.getElem?_cons_zero, List.getElem?_cons_succ, List.set_cons_zero, List.set_cons_succ, List.map_cons, List.map_nil, List.replicate_zero, List.replicate_succ, List.cons_append, List.nil_append, List.append_nil, Bool.not_true, Bool.not_false, if_true, if_false, Bool.false_eq_true, Bool.true_eq_false, reduceCtorEq, decide_true, decide_false, CMul, CDiv, CPow, okI, Int.reduceNeg, Int.reduceLT, Int.reduceLE, Int.reducePow, Int.reduceToNat, Nat.reduceSub, Nat.reduceAdd, Nat.reducePow, Nat.reduceLT, Nat.reduceLeDiff, Int.reduceMul, Int.reduceAdd, Int.reduceSub, Int.reduceEq, and_true, true_and, or_true, true_or, and_self, Nat.sub_self, Int.zero_le_ofNat, e1]
      refine ⟨n2 - b, by omega, _, rfl, rfl, by omega, ?_⟩
      rw [← e2]
      exact (Nat.mod_eq_sub_mod (by omega)).symm
    · simp only [h2, e_seq, SeqK_nx, SeqK_rt, SeqK_ct, SeqK_bk, RetK_nx, RetK_rt, LoopK_nx, LoopK_ct, LoopK_bk, LoopK_rt, e_next, e_cont, e_brk, e_retN, e_ret, e_drop, e_if, IfK_t, IfK_f, e_asg, e_aug, e_var, VarK_s, e_c, e_bin, e_un, e_nil, e_cons, e_app, e_tst, TstK_bl, e_andB, e_orB, e_notB, e_yes, BlK_bl, e_andV, e_orV, e_notV, e_ifE, e_ch, e_neg, e_add, e_sub, e_mul, e_fdiv, e_mod, e_pow, e_shl, e_shr, e_and, e_or, e_xor, e_iadd, e_lt, e_le, e_gt, e_ge, e_eq, e_ne, e_isNon, e_isnNon, e_isiInt, e_isiBool, e_for, e_rng1, R1K_i, e_rng2, R2K_i, e_seqI, Wp_ok, nameY, nameG, List.getElem?_cons_zero, List.getElem?_cons_succ, List.set_cons_zero, List.set_cons_succ, List.map_cons, List.map_nil, List.replicate_zero, List.replicate_succ, List.cons_append, List.nil_append, List.append_nil, Bool.not_true, Bool.not_false, if_true, if_false, Bool.false_eq_true, Bool.true_eq_false, reduceCtorEq, decide_true, decide_false, CMul, CDiv, CPow, okI, Int.reduceNeg, Int.reduceLT, Int.reduceLE, Int.reducePow, Int.reduceToNat, Nat.reduceSub, Nat.reduceAdd, Nat.reducePow, Nat.reduceLT, Nat.reduceLeDiff, Int.reduceMul, Int.reduceAdd, Int.reduceSub, Int.reduceEq, and_true, true_and, or_true, true_or, and_self, Nat.sub_self, Int.zero_le_ofNat]
      rw [← e2, Nat.mod_eq_of_lt (by omega)] at q
      exact q
def tv (m r c : Nat) : Bool := match m with
  | 0 => decide (r % 2 = 0)
  | 1 => decide (c % 2 = 0)
  | 2 => decide ((r + c) % 2 = 0)
  | 3 => decide ((r + 2 * c) % 3 = 0)
  | 4 => decide ((r / 3 + c / 2) % 2 = 0)
  | 5 => decide (r * c % 5 % 2 = 0)
  | 6 => decide ((r * r + c) % 4 < 2)
  | _ => decide ((r + c * c) % 7 < 3)
theorem dec_cast {a b : Nat} : decide ((a : Int) = (b : Int)) = decide (a = b) := by
  by_cases h : a = b
  · subst h; simp
  · have : ¬ (a : Int) = b := by omega
    simp [h, this]
theorem dec_lt {a b : Nat} : decide ((a : Int) < (b : Int)) = decide (a < b) := by
  by_cases h : a < b
  · have : (a : Int) < b := by omega
    simp [h, this]
  · have : ¬ (a : Int) < b := by omega
    simp [h, this]
theorem turns_eq {m r c : Nat} {S : Stor} {Q : MV → Stor → Prop} (hm : m < 8) (hr : r < 31) (hc : c < 31) (q : Q (.bl (tv m r c)) S) : Wp (f_turns_over [.int m, .int r, .int c] S) Q := by
  have c1 : (r : Int) % 2 = ((r % 2 : Nat) : Int) := by simp
  have c2 : (c : Int) % 2 = ((c % 2 : Nat) : Int) := by simp
  have c3 : ((r : Int) + c) % 2 = (((r + c) % 2 : Nat) : Int) := by simp
  have c4 : ((r : Int) + 2 * c) % 3 = (((r + 2 * c) % 3 : Nat) : Int) := by simp
  have c5 : ((r : Int) / 3 + c / 2) % 2 = (((r / 3 + c / 2) % 2 : Nat) : Int) := by simp
  have c6 : ((r : Int) * c) % 5 % 2 = ((r * c % 5 % 2 : Nat) : Int) := by simp
  have c7 : ((r : Int) * r + c) % 4 = (((r * r + c) % 4 : Nat) : Int) := by simp
  have c8 : ((r : Int) + c * c) % 7 = (((r + c * c) % 7 : Nat) : Int) := by simp
  have d1 := @dec_cast (r % 2) 0
  have d2 := @dec_cast (c % 2) 0
  have d3 := @dec_cast ((r + c) % 2) 0
  have d4 := @dec_cast ((r + 2 * c) % 3) 0
  have d5 := @dec_cast ((r / 3 + c / 2) % 2) 0
  have d6 := @dec_cast (r * c % 5 % 2) 0
  have d7 := @dec_lt ((r * r + c) % 4) 2
  have d8 := @dec_lt ((r + c * c) % 7) 3
  rw [castL] at d1 d2 d3 d4 d5 d6 d7 d8
  rw [w_turns_over]
  unfold b_turns_over
  match m, hm with
  | 0, _ => simp only [castL, e_seq, SeqK_nx, SeqK_rt, SeqK_ct, SeqK_bk, RetK_nx, RetK_rt, LoopK_nx, LoopK_ct, LoopK_bk, LoopK_rt, e_next, e_cont, e_brk, e_retN, e_ret, e_drop, e_if, IfK_t, IfK_f, e_asg, e_aug, e_var, VarK_s, e_c, e_bin, e_un, e_nil, e_cons, e_app, e_tst, TstK_bl, e_andB, e_orB, e_notB, e_yes, BlK_bl, e_andV, e_orV, e_notV, e_ifE, e_ch, e_neg, e_add, e_sub, e_mul, e_fdiv, e_mod, e_pow, e_shl, e_shr, e_and, e_or, e_xor, e_iadd, e_lt, e_le, e_gt, e_ge, e_eq, e_ne, e_isNon, e_isnNon, e_isiInt, e_isiBool, e_for, e_rng1, R1K_i, e_rng2, R2K_i, e_seqI, Wp_ok, nameY, nameG, List.getElem?_cons_zero, List.getElem?_cons_succ, List.set_cons_zero, List.set_cons_succ, List.map_cons, List.map_nil, List.replicate_zero, List.replicate_succ, List.cons_append, List.nil_append, List.append_nil, Bool.not_true, Bool.not_false, if_true, if_false, Bool.false_eq_true, Bool.true_eq_false, reduceCtorEq, decide_true, decide_false, CMul, CDiv, CPow, okI, Int.reduceNeg, Int.reduceLT, Int.reduceLE, Int.reducePow, Int.reduceToNat, Nat.reduceSub, Nat.reduceAdd, Nat.reducePow, Nat.reduceLT, Nat.reduceLeDiff, Int.reduceMul, Int.reduceAdd, Int.reduceSub, Int.reduceEq, and_true, true_and, or_true, true_or, and_self, Nat.sub_self, Int.zero_le_ofNat, c1, d1]; exact q
  | 1, _ => simp only [castL, e_seq, SeqK_nx, SeqK_rt, SeqK_ct, SeqK_bk, RetK_nx, RetK_rt, LoopK_nx, LoopK_ct, LoopK_bk, LoopK_rt, e_next, e_cont, e_brk, e_retN, e_ret, e_drop, e_if, IfK_t, IfK_f, e_asg, e_aug, e_var, VarK_s, e_c, e_bin, e_un, e_nil, e_cons, e_app, e_tst, TstK_bl, e_andB, e_orB, e_notB, e_yes, BlK_bl, e_andV, e_orV, e_notV, e_ifE, e_ch, e_neg, e_add, e_sub, e_mul, e_fdiv, e_mod, e_pow, e_shl, e_shr, e_and, e_or, e_xor, e_iadd, e_lt, e_le, e_gt, e_ge, e_eq, e_ne, e_isNon, e_isnNon, e_isiInt, e_isiBool, e_for, e_rng1, R1K_i, e_rng2, R2K_i, e_seqI, Wp_ok, nameY, nameG, List.getElem?_cons_zero, List.getElem?_cons_succ, List.set_cons_zero, List.set_cons_succ, List.map_cons, List.map_nil, List.replicate_zero, List.replicate_succ, List.cons_append, List.nil_append, List.append_nil, Bool.not_true, Bool.not_false, if_true, if_false, Bool.false_eq_true, Bool.true_eq_false, reduceCtorEq, decide_true, decide_false, CMul, CDiv, CPow, okI, Int.reduceNeg, Int.reduceLT, Int.reduceLE, Int.reducePow, Int.reduceToNat, Nat.reduceSub, Nat.reduceAdd, Nat.reducePow, Nat.reduceLT, Nat.reduceLeDiff, Int.reduceMul, Int.reduceAdd, Int.reduceSub, Int.reduceEq, and_true, true_and, or_true, true_or, and_self, Nat.sub_self, Int.zero_le_ofNat, c2, d2]; exact q
  | 2, _ => simp only [castL, e_seq, SeqK_nx, SeqK_rt, SeqK_ct, SeqK_bk, RetK_nx, RetK_rt, LoopK_nx, LoopK_ct, LoopK_bk, LoopK_rt, e_next, e_cont, e_brk, e_retN, e_ret, e_drop, e_if, IfK_t, IfK_f, e_asg, e_aug, e_var, VarK_s, e_c, e_bin, e_un, e_nil, e_cons, e_app, e_tst, TstK_bl, e_andB, e_orB, e_notB, e_yes, BlK_bl, e_andV, e_orV, e_notV, e_ifE, e_ch, e_neg, e_add, e_sub, e_mul, e_fdiv, e_mod, e_pow, e_shl, e_shr, e_and, e_or, e_xor, e_iadd, e_lt, e_le, e_gt, e_ge, e_eq, e_ne, e_isNon, e_isnNon, e_isiInt, e_isiBool, e_for, e_rng1, R1K_i, e_rng2, R2K_i, e_seqI, Wp_ok, nameY, nameG, List.getElem?_cons_zero, List.getElem?_cons_succ, List.set_cons_zero, List.set_cons_succ, List.map_cons, List.map_nil, List.replicate_zero, List.replicate_succ, List.cons_append, List.nil_append, List.append_nil, Bool.not_true, Bool.not_false, if_true, if_false, Bool.false_eq_true, Bool.true_eq_false, reduceCtorEq, decide_true, decide_false, CMul, CDiv, CPow, okI, Int.reduceNeg, Int.reduceLT, Int.reduceLE, Int.reducePow, Int.reduceToNat, Nat.reduceSub, Nat.reduceAdd, Nat.reducePow, Nat.reduceLT, Nat.reduceLeDiff, Int.reduceMul, Int.reduceAdd, Int.reduceSub, Int.reduceEq, and_true, true_and, or_true, true_or, and_self, Nat.sub_self, Int.zero_le_ofNat, c3, d3]; exact q
  | 3, _ => simp only [castL, e_seq, SeqK_nx, SeqK_rt, SeqK_ct, SeqK_bk, RetK_nx, RetK_rt, LoopK_nx, LoopK_ct, LoopK_bk, LoopK_rt, e_next, e_cont, e_brk, e_retN, e_ret, e_drop, e_if, IfK_t, IfK_f, e_asg, e_aug, e_var, VarK_s, e_c, e_bin, e_un, e_nil, e_cons, e_app, e_tst, TstK_bl, e_andB, e_orB, e_notB, e_yes, BlK_bl, e_andV, e_orV, e_notV, e_ifE, e_ch, e_neg, e_add, e_sub, e_mul, e_fdiv, e_mod, e_pow, e_shl, e_shr, e_and, e_or, e_xor, e_iadd, e_lt, e_le, e_gt, e_ge, e_eq, e_ne, e_isNon, e_isnNon, e_isiInt, e_isiBool, e_for, e_rng1, R1K_i, e_rng2, R2K_i, e_seqI, Wp_ok, nameY, nameG, List.getElem?_cons_zero, List.getElem?_cons_succ, List.set_cons_zero, List.set_cons_succ, List.map_cons, List.map_nil, List.replicate_zero, List.replicate_succ, List.cons_append, List.nil_append, List.append_nil, Bool.not_true, Bool.not_false, if_true, if_false, Bool.false_eq_true, Bool.true_eq_false, reduceCtorEq, decide_true, decide_false, CMul, CDiv, CPow, okI, Int.reduceNeg, Int.reduceLT, Int.reduceLE, Int.reducePow, Int.reduceToNat, Nat.reduceSub, Nat.reduceAdd, Nat.reducePow, Nat.reduceLT, Nat.reduceLeDiff, Int.reduceMul, Int.reduceAdd, Int.reduceSub, Int.reduceEq, and_true, true_and, or_true, true_or, and_self, Nat.sub_self, Int.zero_le_ofNat, c4, d4]; exact q
  | 4, _ => simp only [castL, e_seq, SeqK_nx, SeqK_rt, SeqK_ct, SeqK_bk, RetK_nx, RetK_rt, LoopK_nx, LoopK_ct, LoopK_bk, LoopK_rt, e_next, e_cont, e_brk, e_retN, e_ret, e_drop, e_if, IfK_t, IfK_f, e_asg, e_aug, e_var, VarK_s, e_c, e_bin, e_un, e_nil, e_cons, e_app, e_tst, TstK_bl, e_andB, e_orB, e_notB, e_yes, BlK_bl, e_andV, e_orV, e_notV, e_ifE, e_ch, e_neg, e_add, e_sub, e_mul, e_fdiv, e_mod, e_pow, e_shl, e_shr, e_and, e_or, e_xor, e_iadd, e_lt, e_le, e_gt, e_ge, e_eq, e_ne, e_isNon, e_isnNon, e_isiInt, e_isiBool, e_for, e_rng1, R1K_i, e_rng2, R2K_i, e_seqI, Wp_ok, nameY, nameG, List.getElem?_cons_zero, List.getElem?_cons_succ, List.set_cons_zero, List.set_cons_succ, List.map_cons, List.map_nil, List.replicate_zero, List.replicate_succ, List.cons_append, List.nil_append, List.append_nil, Bool.not_true, Bool.not_false, if_true, if_false, Bool.false_eq_true, Bool.true_eq_false, reduceCtorEq, decide_true, decide_false, CMul, CDiv, CPow, okI, Int.reduceNeg, Int.reduceLT, Int.reduceLE, Int.reducePow, Int.reduceToNat, Nat.reduceSub, Nat.reduceAdd, Nat.reducePow, Nat.reduceLT, Nat.reduceLeDiff, Int.reduceMul, Int.reduceAdd, Int.reduceSub, Int.reduceEq, and_true, true_and, or_true, true_or, and_self, Nat.sub_self, Int.zero_le_ofNat, w_turns_by_sums, b_turns_by_sums, c5, d5]; exact q
  | 5, _ => simp only [castL, e_seq, SeqK_nx, SeqK_rt, SeqK_ct, SeqK_bk, RetK_nx, RetK_rt, LoopK_nx, LoopK_ct, LoopK_bk, LoopK_rt, e_next, e_cont, e_brk, e_retN, e_ret, e_drop, e_if, IfK_t, IfK_f, e_asg, e_aug, e_var, VarK_s, e_c, e_bin, e_un, e_nil, e_cons, e_app, e_tst, TstK_bl, e_andB, e_orB, e_notB, e_yes, BlK_bl, e_andV, e_orV, e_notV, e_ifE, e_ch, e_neg, e_add, e_sub, e_mul, e_fdiv, e_mod, e_pow, e_shl, e_shr, e_and, e_or, e_xor, e_iadd, e_lt, e_le, e_gt, e_ge, e_eq, e_ne, e_isNon, e_isnNon, e_isiInt, e_isiBool, e_for, e_rng1, R1K_i, e_rng2, R2K_i, e_seqI, Wp_ok, nameY, nameG, List.getElem?_cons_zero, List.getElem?_cons_succ, List.set_cons_zero, List.set_cons_succ, List.map_cons, List.map_nil, List.replicate_zero, List.replicate_succ, List.cons_append, List.nil_append, List.append_nil, Bool.not_true, Bool.not_false, if_true, if_false, Bool.false_eq_true, Bool.true_eq_false, reduceCtorEq, decide_true, decide_false, CMul, CDiv, CPow, okI, Int.reduceNeg, Int.reduceLT, Int.reduceLE, Int.reducePow, Int.reduceToNat, Nat.reduceSub, Nat.reduceAdd, Nat.reducePow, Nat.reduceLT, Nat.reduceLeDiff, Int.reduceMul, Int.reduceAdd, Int.reduceSub, Int.reduceEq, and_true, true_and, or_true, true_or, and_self, Nat.sub_self, Int.zero_le_ofNat, w_turns_by_sums, b_turns_by_sums, c6, d6]; exact ⟨.inl (by omega), q⟩
  | 6, _ => simp only [castL, e_seq, SeqK_nx, SeqK_rt, SeqK_ct, SeqK_bk, RetK_nx, RetK_rt, LoopK_nx, LoopK_ct, LoopK_bk, LoopK_rt, e_next, e_cont, e_brk, e_retN, e_ret, e_drop, e_if, IfK_t, IfK_f, e_asg, e_aug, e_var, VarK_s, e_c, e_bin, e_un, e_nil, e_cons, e_app, e_tst, TstK_bl, e_andB, e_orB, e_notB, e_yes, BlK_bl, e_andV, e_orV, e_notV, e_ifE, e_ch, e_neg, e_add, e_sub, e_mul, e_fdiv, e_mod, e_pow, e_shl, e_shr, e_and, e_or, e_xor, e_iadd, e_lt, e_le, e_gt, e_ge, e_eq, e_ne, e_isNon, e_isnNon, e_isiInt, e_isiBool, e_for, e_rng1, R1K_i, e_rng2, R2K_i, e_seqI, Wp_ok, nameY, nameG, List.getElem?_cons_zero, List.getElem?_cons_succ, List.set_cons_zero, List.set_cons_succ, List.map_cons, List.map_nil, List.replicate_zero, List.replicate_succ, List.cons_append, List.nil_append, List.append_nil, Bool.not_true, Bool.not_false, if_true, if_false, Bool.false_eq_true, Bool.true_eq_false, reduceCtorEq, decide_true, decide_false, CMul, CDiv, CPow, okI, Int.reduceNeg, Int.reduceLT, Int.reduceLE, Int.reducePow, Int.reduceToNat, Nat.reduceSub, Nat.reduceAdd, Nat.reducePow, Nat.reduceLT, Nat.reduceLeDiff, Int.reduceMul, Int.reduceAdd, Int.reduceSub, Int.reduceEq, and_true, true_and, or_true, true_or, and_self, Nat.sub_self, Int.zero_le_ofNat, w_turns_by_sums, b_turns_by_sums, c7, d7]; exact ⟨.inl (by omega), q⟩
  | 7, _ => simp only [castL, e_seq, SeqK_nx, SeqK_rt, SeqK_ct, SeqK_bk, RetK_nx, RetK_rt, LoopK_nx, LoopK_ct, LoopK_bk, LoopK_rt, e_next, e_cont, e_brk, e_retN, e_ret, e_drop, e_if, IfK_t, IfK_f, e_asg, e_aug, e_var, VarK_s, e_c, e_bin, e_un, e_nil, e_cons, e_app, e_tst, TstK_bl, e_andB, e_orB, e_notB, e_yes, BlK_bl, e_andV, e_orV, e_notV, e_ifE, e_ch, e_neg, e_add, e_sub, e_mul, e_fdiv, e_mod, e_pow, e_shl, e_shr, e_and, e_or, e_xor, e_iadd, e_lt, e_le, e_gt, e_ge, e_eq, e_ne, e_isNon, e_isnNon, e_isiInt, e_isiBool, e_for, e_rng1, R1K_i, e_rng2, R2K_i, e_seqI, Wp_ok, nameY, nameG, List.getElem?_cons_zero, List.getElem?_cons_succ, List.set_cons_zero, List.set_cons_succ, List.map_cons, List.map_nil, List.replicate_zero, List.replicate_succ, List.cons_append, List.nil_append, List.append_nil, Bool.not_true, Bool.not_false, if_true, if_false, Bool.false_eq_true, Bool.true_eq_false, reduceCtorEq, decide_true, decide_false, CMul, CDiv, CPow, okI, Int.reduceNeg, Int.reduceLT, Int.reduceLE, Int.reducePow, Int.reduceToNat, Nat.reduceSub, Nat.reduceAdd, Nat.reducePow, Nat.reduceLT, Nat.reduceLeDiff, Int.reduceMul, Int.reduceAdd, Int.reduceSub, Int.reduceEq, and_true, true_and, or_true, true_or, and_self, Nat.sub_self, Int.zero_le_ofNat, w_turns_by_sums, b_turns_by_sums, c8, d8]; exact ⟨.inl (by omega), q⟩
theorem third : ∀ r : Fin 31, ((List.range 30).filter fun i => decide (3 * (1 + i) ≤ r.val)).length = r.val / 3 := by decide +kernel
theorem half : ∀ r : Fin 31, ((List.range 30).filter fun i => decide (2 * (1 + i) ≤ r.val)).length = r.val / 2 := by decide +kernel
theorem in5 : ∀ x : Fin 5, inM (.int (x.val : Int)) [.int 0, .int 2, .int 4] = decide (x.val % 2 = 0) := by decide +kernel
theorem in4 : ∀ x : Fin 4, inM (.int (x.val : Int)) [.int 0, .int 1] = decide (x.val < 2) := by decide +kernel
theorem in7 : ∀ x : Fin 7, inM (.int (x.val : Int)) [.int 0, .int 1, .int 2] = decide (x.val < 3) := by decide +kernel
theorem due_eq {r c : Nat} {S : Stor} {Q : MV → Stor → Prop} (hr : r < 31) (hc : c < 31) (q : ∀ k S', Le S S' → lget S' k = some ((List.range 8).map fun m => MV.bl (tv m r c)) → Q (.ref k) S') : Wp (f__law_due [.int r, .int c] S) Q := by
  have d0 : ∀ x : Nat, decide ((x : Int) = 0) = decide (x = 0) := fun x => @dec_cast x 0
  rw [w__law_due]
  unfold b__law_due
  simp only [e_seq, SeqK_nx, SeqK_rt, SeqK_ct, SeqK_bk, RetK_nx, RetK_rt, LoopK_nx, LoopK_ct, LoopK_bk, LoopK_rt, e_next, e_cont, e_brk, e_retN, e_ret, e_drop, e_if, IfK_t, IfK_f, e_asg, e_aug, e_var, VarK_s, e_c, e_bin, e_un, e_nil, e_cons, e_app, e_tst, TstK_bl, e_andB, e_orB, e_notB, e_yes, BlK_bl, e_andV, e_orV, e_notV, e_ifE, e_ch, e_neg, e_add, e_sub, e_mul, e_fdiv, e_mod, e_pow, e_shl, e_shr, e_and, e_or, e_xor, e_iadd, e_lt, e_le, e_gt, e_ge, e_eq, e_ne, e_isNon, e_isnNon, e_isiInt, e_isiBool, e_for, e_rng1, R1K_i, e_rng2, R2K_i, e_seqI, Wp_ok, nameY, nameG, List.getElem?_cons_zero, List.getElem?_cons_succ, List.set_cons_zero, List.set_cons_succ, List.map_cons, List.map_nil, List.replicate_zero, List.replicate_succ, List.cons_append, List.nil_append, List.append_nil, Bool.not_true, Bool.not_false, if_true, if_false, Bool.false_eq_true, Bool.true_eq_false, reduceCtorEq, decide_true, decide_false, CMul, CDiv, CPow, okI, Int.reduceNeg, Int.reduceLT, Int.reduceLE, Int.reducePow, Int.reduceToNat, Nat.reduceSub, Nat.reduceAdd, Nat.reducePow, Nat.reduceLT, Nat.reduceLeDiff, Int.reduceMul, Int.reduceAdd, Int.reduceSub, Int.reduceEq, and_true, true_and, or_true, true_or, and_self, Nat.sub_self, Int.zero_le_ofNat, e_lc, wipeM]
  refine ⟨rfl, ?_⟩
  refine wp_lcR (n := 30) (fun i => decide (3 * (1 + i) ≤ r)) (fun i => .int (1 + (i : Int) * 1)) (by decide) (fun i acc hi => ?_) (fun i acc hi _ => ?_) ?_
  · simp only [e_seq, SeqK_nx, SeqK_rt, SeqK_ct, SeqK_bk, RetK_nx, RetK_rt, LoopK_nx, LoopK_ct, LoopK_bk, LoopK_rt, e_next, e_cont, e_brk, e_retN, e_ret, e_drop, e_if, IfK_t, IfK_f, e_asg, e_aug, e_var, VarK_s, e_c, e_bin, e_un, e_nil, e_cons, e_app, e_tst, TstK_bl, e_andB, e_orB, e_notB, e_yes, BlK_bl, e_andV, e_orV, e_notV, e_ifE, e_ch, e_neg, e_add, e_sub, e_mul, e_fdiv, e_mod, e_pow, e_shl, e_shr, e_and, e_or, e_xor, e_iadd, e_lt, e_le, e_gt, e_ge, e_eq, e_ne, e_isNon, e_isnNon, e_isiInt, e_isiBool, e_for, e_rng1, R1K_i, e_rng2, R2K_i, e_seqI, Wp_ok, nameY, nameG, List.getElem?_cons_zero, List.getElem?_cons_succ, List.set_cons_zero, List.set_cons_succ, List.map_cons, List.map_nil, List.replicate_zero, List.replicate_succ, List.cons_append, List.nil_append, List.append_nil, Bool.not_true, Bool.not_false, if_true, if_false, Bool.false_eq_true, Bool.true_eq_false, reduceCtorEq, decide_true, decide_false, CMul, CDiv, CPow, okI, Int.reduceNeg, Int.reduceLT, Int.reduceLE, Int.reducePow, Int.reduceToNat, Nat.reduceSub, Nat.reduceAdd, Nat.reducePow, Nat.reduceLT, Nat.reduceLeDiff, Int.reduceMul, Int.reduceAdd, Int.reduceSub, Int.reduceEq, and_true, true_and, or_true, true_or, and_self, Nat.sub_self, Int.zero_le_ofNat]
    by_cases h : 3 * (1 + i) ≤ r
    · simp [h]
      omega
    · simp [h]
      omega
  · simp only [e_seq, SeqK_nx, SeqK_rt, SeqK_ct, SeqK_bk, RetK_nx, RetK_rt, LoopK_nx, LoopK_ct, LoopK_bk, LoopK_rt, e_next, e_cont, e_brk, e_retN, e_ret, e_drop, e_if, IfK_t, IfK_f, e_asg, e_aug, e_var, VarK_s, e_c, e_bin, e_un, e_nil, e_cons, e_app, e_tst, TstK_bl, e_andB, e_orB, e_notB, e_yes, BlK_bl, e_andV, e_orV, e_notV, e_ifE, e_ch, e_neg, e_add, e_sub, e_mul, e_fdiv, e_mod, e_pow, e_shl, e_shr, e_and, e_or, e_xor, e_iadd, e_lt, e_le, e_gt, e_ge, e_eq, e_ne, e_isNon, e_isnNon, e_isiInt, e_isiBool, e_for, e_rng1, R1K_i, e_rng2, R2K_i, e_seqI, Wp_ok, nameY, nameG, List.getElem?_cons_zero, List.getElem?_cons_succ, List.set_cons_zero, List.set_cons_succ, List.map_cons, List.map_nil, List.replicate_zero, List.replicate_succ, List.cons_append, List.nil_append, List.append_nil, Bool.not_true, Bool.not_false, if_true, if_false, Bool.false_eq_true, Bool.true_eq_false, reduceCtorEq, decide_true, decide_false, CMul, CDiv, CPow, okI, Int.reduceNeg, Int.reduceLT, Int.reduceLE, Int.reducePow, Int.reduceToNat, Nat.reduceSub, Nat.reduceAdd, Nat.reducePow, Nat.reduceLT, Nat.reduceLeDiff, Int.reduceMul, Int.reduceAdd, Int.reduceSub, Int.reduceEq, and_true, true_and, or_true, true_or, and_self, Nat.sub_self, Int.zero_le_ofNat]
  rw [e_len lget_new, List.length_map, third ⟨r, hr⟩]
  generalize hS1 : S ++ [MO.lst _] = S1
  have le1 : Le S S1 := by rw [← hS1]; exact Le.app _ _
  clear hS1
  try simp only [e_seq, SeqK_nx, SeqK_rt, SeqK_ct, SeqK_bk, RetK_nx, RetK_rt, LoopK_nx, LoopK_ct, LoopK_bk, LoopK_rt, e_next, e_cont, e_brk, e_retN, e_ret, e_drop, e_if, IfK_t, IfK_f, e_asg, e_aug, e_var, VarK_s, e_c, e_bin, e_un, e_nil, e_cons, e_app, e_tst, TstK_bl, e_andB, e_orB, e_notB, e_yes, BlK_bl, e_andV, e_orV, e_notV, e_ifE, e_ch, e_neg, e_add, e_sub, e_mul, e_fdiv, e_mod, e_pow, e_shl, e_shr, e_and, e_or, e_xor, e_iadd, e_lt, e_le, e_gt, e_ge, e_eq, e_ne, e_isNon, e_isnNon, e_isiInt, e_isiBool, e_for, e_rng1, R1K_i, e_rng2, R2K_i, e_seqI, Wp_ok, nameY, nameG, List.getElem?_cons_zero, List.getElem?_cons_succ, List.set_cons_zero, List.set_cons_succ, List.map_cons, List.map_nil, List.replicate_zero, List.replicate_succ, List.cons_append, List.nil_append, List.append_nil, Bool.not_true, Bool.not_false, if_true, if_false, Bool.false_eq_true, Bool.true_eq_false, reduceCtorEq, decide_true, decide_false, CMul, CDiv, CPow, okI, Int.reduceNeg, Int.reduceLT, Int.reduceLE, Int.reducePow, Int.reduceToNat, Nat.reduceSub, Nat.reduceAdd, Nat.reducePow, Nat.reduceLT, Nat.reduceLeDiff, Int.reduceMul, Int.reduceAdd, Int.reduceSub, Int.reduceEq, and_true, true_and, or_true, true_or, and_self, Nat.sub_self, Int.zero_le_ofNat, e_lc, wipeM]
  refine ⟨rfl, ?_⟩
  refine wp_lcR (n := 30) (fun i => decide (2 * (1 + i) ≤ c)) (fun i => .int (1 + (i : Int) * 1)) (by decide) (fun i acc hi => ?_) (fun i acc hi _ => ?_) ?_
  · simp only [e_seq, SeqK_nx, SeqK_rt, SeqK_ct, SeqK_bk, RetK_nx, RetK_rt, LoopK_nx, LoopK_ct, LoopK_bk, LoopK_rt, e_next, e_cont, e_brk, e_retN, e_ret, e_drop, e_if, IfK_t, IfK_f, e_asg, e_aug, e_var, VarK_s, e_c, e_bin, e_un, e_nil, e_cons, e_app, e_tst, TstK_bl, e_andB, e_orB, e_notB, e_yes, BlK_bl, e_andV, e_orV, e_notV, e_ifE, e_ch, e_neg, e_add, e_sub, e_mul, e_fdiv, e_mod, e_pow, e_shl, e_shr, e_and, e_or, e_xor, e_iadd, e_lt, e_le, e_gt, e_ge, e_eq, e_ne, e_isNon, e_isnNon, e_isiInt, e_isiBool, e_for, e_rng1, R1K_i, e_rng2, R2K_i, e_seqI, Wp_ok, nameY, nameG, List.getElem?_cons_zero, List.getElem?_cons_succ, List.set_cons_zero, List.set_cons_succ, List.map_cons, List.map_nil, List.replicate_zero, List.replicate_succ, List.cons_append, List.nil_append, List.append_nil, Bool.not_true, Bool.not_false, if_true, if_false, Bool.false_eq_true, Bool.true_eq_false, reduceCtorEq, decide_true, decide_false, CMul, CDiv, CPow, okI, Int.reduceNeg, Int.reduceLT, Int.reduceLE, Int.reducePow, Int.reduceToNat, Nat.reduceSub, Nat.reduceAdd, Nat.reducePow, Nat.reduceLT, Nat.reduceLeDiff, Int.reduceMul, Int.reduceAdd, Int.reduceSub, Int.reduceEq, and_true, true_and, or_true, true_or, and_self, Nat.sub_self, Int.zero_le_ofNat]
    by_cases h : 2 * (1 + i) ≤ c
    · simp [h]
      omega
    · simp [h]
      omega
  · simp only [e_seq, SeqK_nx, SeqK_rt, SeqK_ct, SeqK_bk, RetK_nx, RetK_rt, LoopK_nx, LoopK_ct, LoopK_bk, LoopK_rt, e_next, e_cont, e_brk, e_retN, e_ret, e_drop, e_if, IfK_t, IfK_f, e_asg, e_aug, e_var, VarK_s, e_c, e_bin, e_un, e_nil, e_cons, e_app, e_tst, TstK_bl, e_andB, e_orB, e_notB, e_yes, BlK_bl, e_andV, e_orV, e_notV, e_ifE, e_ch, e_neg, e_add, e_sub, e_mul, e_fdiv, e_mod, e_pow, e_shl, e_shr, e_and, e_or, e_xor, e_iadd, e_lt, e_le, e_gt, e_ge, e_eq, e_ne, e_isNon, e_isnNon, e_isiInt, e_isiBool, e_for, e_rng1, R1K_i, e_rng2, R2K_i, e_seqI, Wp_ok, nameY, nameG, List.getElem?_cons_zero, List.getElem?_cons_succ, List.set_cons_zero, List.set_cons_succ, List.map_cons, List.map_nil, List.replicate_zero, List.replicate_succ, List.cons_append, List.nil_append, List.append_nil, Bool.not_true, Bool.not_false, if_true, if_false, Bool.false_eq_true, Bool.true_eq_false, reduceCtorEq, decide_true, decide_false, CMul, CDiv, CPow, okI, Int.reduceNeg, Int.reduceLT, Int.reduceLE, Int.reducePow, Int.reduceToNat, Nat.reduceSub, Nat.reduceAdd, Nat.reducePow, Nat.reduceLT, Nat.reduceLeDiff, Int.reduceMul, Int.reduceAdd, Int.reduceSub, Int.reduceEq, and_true, true_and, or_true, true_or, and_self, Nat.sub_self, Int.zero_le_ofNat]
  rw [e_len lget_new, List.length_map, half ⟨c, hc⟩]
  generalize hS2 : S1 ++ [MO.lst _] = S2
  have le2 : Le S S2 := by rw [← hS2]; exact le1.trans (Le.app _ _)
  clear hS2
  have s1 : (r : Int) + (c : Int) = ((r + c : Nat) : Int) := by simp
  have s2 : ((r + c : Nat) : Int) + (c : Int) = ((r + c + c : Nat) : Int) := by simp
  have s3 : ((r / 3 : Nat) : Int) + ((c / 2 : Nat) : Int) = ((r / 3 + c / 2 : Nat) : Int) := by simp
  have s4 : (r : Int) * (c : Int) = ((r * c : Nat) : Int) := by simp
  have s5 : (r : Int) * (r : Int) + (c : Int) = ((r * r + c : Nat) : Int) := by simp
  have s6 : (r : Int) + (c : Int) * (c : Int) = ((r + c * c : Nat) : Int) := by simp
  have b1 : r * c ≤ 30 * 30 := Nat.mul_le_mul (by omega) (by omega)
  have b2 : r * r ≤ 30 * 30 := Nat.mul_le_mul (by omega) (by omega)
  have b3 : c * c ≤ 30 * 30 := Nat.mul_le_mul (by omega) (by omega)
  simp only [e_seq, SeqK_nx, SeqK_rt, SeqK_ct, SeqK_bk, RetK_nx, RetK_rt, LoopK_nx, LoopK_ct, LoopK_bk, LoopK_rt, e_next, e_cont, e_brk, e_retN, e_ret, e_drop, e_if, IfK_t, IfK_f, e_asg, e_aug, e_var, VarK_s, e_c, e_bin, e_un, e_nil, e_cons, e_app, e_tst, TstK_bl, e_andB, e_orB, e_notB, e_yes, BlK_bl, e_andV, e_orV, e_notV, e_ifE, e_ch, e_neg, e_add, e_sub, e_mul, e_fdiv, e_mod, e_pow, e_shl, e_shr, e_and, e_or, e_xor, e_iadd, e_lt, e_le, e_gt, e_ge, e_eq, e_ne, e_isNon, e_isnNon, e_isiInt, e_isiBool, e_for, e_rng1, R1K_i, e_rng2, R2K_i, e_seqI, Wp_ok, nameY, nameG, List.getElem?_cons_zero, List.getElem?_cons_succ, List.set_cons_zero, List.set_cons_succ, List.map_cons, List.map_nil, List.replicate_zero, List.replicate_succ, List.cons_append, List.nil_append, List.append_nil, Bool.not_true, Bool.not_false, if_true, if_false, Bool.false_eq_true, Bool.true_eq_false, reduceCtorEq, decide_true, decide_false, CMul, CDiv, CPow, okI, Int.reduceNeg, Int.reduceLT, Int.reduceLE, Int.reducePow, Int.reduceToNat, Nat.reduceSub, Nat.reduceAdd, Nat.reducePow, Nat.reduceLT, Nat.reduceLeDiff, Int.reduceMul, Int.reduceAdd, Int.reduceSub, Int.reduceEq, and_true, true_and, or_true, true_or, and_self, Nat.sub_self, Int.zero_le_ofNat]
  refine rest_eq (b := 2) ?_ ?_ ?_ ?_
  · omega
  · omega
  · omega
  simp only [e_seq, SeqK_nx, SeqK_rt, SeqK_ct, SeqK_bk, RetK_nx, RetK_rt, LoopK_nx, LoopK_ct, LoopK_bk, LoopK_rt, e_next, e_cont, e_brk, e_retN, e_ret, e_drop, e_if, IfK_t, IfK_f, e_asg, e_aug, e_var, VarK_s, e_c, e_bin, e_un, e_nil, e_cons, e_app, e_tst, TstK_bl, e_andB, e_orB, e_notB, e_yes, BlK_bl, e_andV, e_orV, e_notV, e_ifE, e_ch, e_neg, e_add, e_sub, e_mul, e_fdiv, e_mod, e_pow, e_shl, e_shr, e_and, e_or, e_xor, e_iadd, e_lt, e_le, e_gt, e_ge, e_eq, e_ne, e_isNon, e_isnNon, e_isiInt, e_isiBool, e_for, e_rng1, R1K_i, e_rng2, R2K_i, e_seqI, Wp_ok, nameY, nameG, List.getElem?_cons_zero, List.getElem?_cons_succ, List.set_cons_zero, List.set_cons_succ, List.map_cons, List.map_nil, List.replicate_zero, List.replicate_succ, List.cons_append, List.nil_append, List.append_nil, Bool.not_true, Bool.not_false, if_true, if_false, Bool.false_eq_true, Bool.true_eq_false, reduceCtorEq, decide_true, decide_false, CMul, CDiv, CPow, okI, Int.reduceNeg, Int.reduceLT, Int.reduceLE, Int.reducePow, Int.reduceToNat, Nat.reduceSub, Nat.reduceAdd, Nat.reducePow, Nat.reduceLT, Nat.reduceLeDiff, Int.reduceMul, Int.reduceAdd, Int.reduceSub, Int.reduceEq, and_true, true_and, or_true, true_or, and_self, Nat.sub_self, Int.zero_le_ofNat, d0]
  refine rest_eq (b := 2) ?_ ?_ ?_ ?_
  · omega
  · omega
  · omega
  simp only [e_seq, SeqK_nx, SeqK_rt, SeqK_ct, SeqK_bk, RetK_nx, RetK_rt, LoopK_nx, LoopK_ct, LoopK_bk, LoopK_rt, e_next, e_cont, e_brk, e_retN, e_ret, e_drop, e_if, IfK_t, IfK_f, e_asg, e_aug, e_var, VarK_s, e_c, e_bin, e_un, e_nil, e_cons, e_app, e_tst, TstK_bl, e_andB, e_orB, e_notB, e_yes, BlK_bl, e_andV, e_orV, e_notV, e_ifE, e_ch, e_neg, e_add, e_sub, e_mul, e_fdiv, e_mod, e_pow, e_shl, e_shr, e_and, e_or, e_xor, e_iadd, e_lt, e_le, e_gt, e_ge, e_eq, e_ne, e_isNon, e_isnNon, e_isiInt, e_isiBool, e_for, e_rng1, R1K_i, e_rng2, R2K_i, e_seqI, Wp_ok, nameY, nameG, List.getElem?_cons_zero, List.getElem?_cons_succ, List.set_cons_zero, List.set_cons_succ, List.map_cons, List.map_nil, List.replicate_zero, List.replicate_succ, List.cons_append, List.nil_append, List.append_nil, Bool.not_true, Bool.not_false, if_true, if_false, Bool.false_eq_true, Bool.true_eq_false, reduceCtorEq, decide_true, decide_false, CMul, CDiv, CPow, okI, Int.reduceNeg, Int.reduceLT, Int.reduceLE, Int.reducePow, Int.reduceToNat, Nat.reduceSub, Nat.reduceAdd, Nat.reducePow, Nat.reduceLT, Nat.reduceLeDiff, Int.reduceMul, Int.reduceAdd, Int.reduceSub, Int.reduceEq, and_true, true_and, or_true, true_or, and_self, Nat.sub_self, Int.zero_le_ofNat, d0, s1]
  refine rest_eq (b := 2) ?_ ?_ ?_ ?_
  · omega
  · omega
  · omega
  simp only [e_seq, SeqK_nx, SeqK_rt, SeqK_ct, SeqK_bk, RetK_nx, RetK_rt, LoopK_nx, LoopK_ct, LoopK_bk, LoopK_rt, e_next, e_cont, e_brk, e_retN, e_ret, e_drop, e_if, IfK_t, IfK_f, e_asg, e_aug, e_var, VarK_s, e_c, e_bin, e_un, e_nil, e_cons, e_app, e_tst, TstK_bl, e_andB, e_orB, e_notB, e_yes, BlK_bl, e_andV, e_orV, e_notV, e_ifE, e_ch, e_neg, e_add, e_sub, e_mul, e_fdiv, e_mod, e_pow, e_shl, e_shr, e_and, e_or, e_xor, e_iadd, e_lt, e_le, e_gt, e_ge, e_eq, e_ne, e_isNon, e_isnNon, e_isiInt, e_isiBool, e_for, e_rng1, R1K_i, e_rng2, R2K_i, e_seqI, Wp_ok, nameY, nameG, List.getElem?_cons_zero, List.getElem?_cons_succ, List.set_cons_zero, List.set_cons_succ, List.map_cons, List.map_nil, List.replicate_zero, List.replicate_succ, List.cons_append, List.nil_append, List.append_nil, Bool.not_true, Bool.not_false, if_true, if_false, Bool.false_eq_true, Bool.true_eq_false, reduceCtorEq, decide_true, decide_false, CMul, CDiv, CPow, okI, Int.reduceNeg, Int.reduceLT, Int.reduceLE, Int.reducePow, Int.reduceToNat, Nat.reduceSub, Nat.reduceAdd, Nat.reducePow, Nat.reduceLT, Nat.reduceLeDiff, Int.reduceMul, Int.reduceAdd, Int.reduceSub, Int.reduceEq, and_true, true_and, or_true, true_or, and_self, Nat.sub_self, Int.zero_le_ofNat, d0]
  refine wp_newL (by simp [sizeLine]) fun k1 S3 le3 g1 _ => ?_
  simp only [e_seq, SeqK_nx, SeqK_rt, SeqK_ct, SeqK_bk, RetK_nx, RetK_rt, LoopK_nx, LoopK_ct, LoopK_bk, LoopK_rt, e_next, e_cont, e_brk, e_retN, e_ret, e_drop, e_if, IfK_t, IfK_f, e_asg, e_aug, e_var, VarK_s, e_c, e_bin, e_un, e_nil, e_cons, e_app, e_tst, TstK_bl, e_andB, e_orB, e_notB, e_yes, BlK_bl, e_andV, e_orV, e_notV, e_ifE, e_ch, e_neg, e_add, e_sub, e_mul, e_fdiv, e_mod, e_pow, e_shl, e_shr, e_and, e_or, e_xor, e_iadd, e_lt, e_le, e_gt, e_ge, e_eq, e_ne, e_isNon, e_isnNon, e_isiInt, e_isiBool, e_for, e_rng1, R1K_i, e_rng2, R2K_i, e_seqI, Wp_ok, nameY, nameG, List.getElem?_cons_zero, List.getElem?_cons_succ, List.set_cons_zero, List.set_cons_succ, List.map_cons, List.map_nil, List.replicate_zero, List.replicate_succ, List.cons_append, List.nil_append, List.append_nil, Bool.not_true, Bool.not_false, if_true, if_false, Bool.false_eq_true, Bool.true_eq_false, reduceCtorEq, decide_true, decide_false, CMul, CDiv, CPow, okI, Int.reduceNeg, Int.reduceLT, Int.reduceLE, Int.reducePow, Int.reduceToNat, Nat.reduceSub, Nat.reduceAdd, Nat.reducePow, Nat.reduceLT, Nat.reduceLeDiff, Int.reduceMul, Int.reduceAdd, Int.reduceSub, Int.reduceEq, and_true, true_and, or_true, true_or, and_self, Nat.sub_self, Int.zero_le_ofNat, s1, s2]
  refine rest_eq (b := 3) ?_ ?_ ?_ ?_
  · omega
  · omega
  · omega
  simp only [e_seq, SeqK_nx, SeqK_rt, SeqK_ct, SeqK_bk, RetK_nx, RetK_rt, LoopK_nx, LoopK_ct, LoopK_bk, LoopK_rt, e_next, e_cont, e_brk, e_retN, e_ret, e_drop, e_if, IfK_t, IfK_f, e_asg, e_aug, e_var, VarK_s, e_c, e_bin, e_un, e_nil, e_cons, e_app, e_tst, TstK_bl, e_andB, e_orB, e_notB, e_yes, BlK_bl, e_andV, e_orV, e_notV, e_ifE, e_ch, e_neg, e_add, e_sub, e_mul, e_fdiv, e_mod, e_pow, e_shl, e_shr, e_and, e_or, e_xor, e_iadd, e_lt, e_le, e_gt, e_ge, e_eq, e_ne, e_isNon, e_isnNon, e_isiInt, e_isiBool, e_for, e_rng1, R1K_i, e_rng2, R2K_i, e_seqI, Wp_ok, nameY, nameG, List.getElem?_cons_zero, List.getElem?_cons_succ, List.set_cons_zero, List.set_cons_succ, List.map_cons, List.map_nil, List.replicate_zero, List.replicate_succ, List.cons_append, List.nil_append, List.append_nil, Bool.not_true, Bool.not_false, if_true, if_false, Bool.false_eq_true, Bool.true_eq_false, reduceCtorEq, decide_true, decide_false, CMul, CDiv, CPow, okI, Int.reduceNeg, Int.reduceLT, Int.reduceLE, Int.reducePow, Int.reduceToNat, Nat.reduceSub, Nat.reduceAdd, Nat.reducePow, Nat.reduceLT, Nat.reduceLeDiff, Int.reduceMul, Int.reduceAdd, Int.reduceSub, Int.reduceEq, and_true, true_and, or_true, true_or, and_self, Nat.sub_self, Int.zero_le_ofNat, d0, s3]
  refine rest_eq (b := 2) ?_ ?_ ?_ ?_
  · omega
  · omega
  · omega
  simp only [e_seq, SeqK_nx, SeqK_rt, SeqK_ct, SeqK_bk, RetK_nx, RetK_rt, LoopK_nx, LoopK_ct, LoopK_bk, LoopK_rt, e_next, e_cont, e_brk, e_retN, e_ret, e_drop, e_if, IfK_t, IfK_f, e_asg, e_aug, e_var, VarK_s, e_c, e_bin, e_un, e_nil, e_cons, e_app, e_tst, TstK_bl, e_andB, e_orB, e_notB, e_yes, BlK_bl, e_andV, e_orV, e_notV, e_ifE, e_ch, e_neg, e_add, e_sub, e_mul, e_fdiv, e_mod, e_pow, e_shl, e_shr, e_and, e_or, e_xor, e_iadd, e_lt, e_le, e_gt, e_ge, e_eq, e_ne, e_isNon, e_isnNon, e_isiInt, e_isiBool, e_for, e_rng1, R1K_i, e_rng2, R2K_i, e_seqI, Wp_ok, nameY, nameG, List.getElem?_cons_zero, List.getElem?_cons_succ, List.set_cons_zero, List.set_cons_succ, List.map_cons, List.map_nil, List.replicate_zero, List.replicate_succ, List.cons_append, List.nil_append, List.append_nil, Bool.not_true, Bool.not_false, if_true, if_false, Bool.false_eq_true, Bool.true_eq_false, reduceCtorEq, decide_true, decide_false, CMul, CDiv, CPow, okI, Int.reduceNeg, Int.reduceLT, Int.reduceLE, Int.reducePow, Int.reduceToNat, Nat.reduceSub, Nat.reduceAdd, Nat.reducePow, Nat.reduceLT, Nat.reduceLeDiff, Int.reduceMul, Int.reduceAdd, Int.reduceSub, Int.reduceEq, and_true, true_and, or_true, true_or, and_self, Nat.sub_self, Int.zero_le_ofNat, d0]
  refine wp_newL (by simp [sizeLine]) fun k2 S4 le4 g2 _ => ?_
  refine wp_cat (le4.lget (lget_of g1)) (lget_of g2) (by simp [sizeLine]) fun k3 S5 le5 g3 _ => ?_
  simp only [e_seq, SeqK_nx, SeqK_rt, SeqK_ct, SeqK_bk, RetK_nx, RetK_rt, LoopK_nx, LoopK_ct, LoopK_bk, LoopK_rt, e_next, e_cont, e_brk, e_retN, e_ret, e_drop, e_if, IfK_t, IfK_f, e_asg, e_aug, e_var, VarK_s, e_c, e_bin, e_un, e_nil, e_cons, e_app, e_tst, TstK_bl, e_andB, e_orB, e_notB, e_yes, BlK_bl, e_andV, e_orV, e_notV, e_ifE, e_ch, e_neg, e_add, e_sub, e_mul, e_fdiv, e_mod, e_pow, e_shl, e_shr, e_and, e_or, e_xor, e_iadd, e_lt, e_le, e_gt, e_ge, e_eq, e_ne, e_isNon, e_isnNon, e_isiInt, e_isiBool, e_for, e_rng1, R1K_i, e_rng2, R2K_i, e_seqI, Wp_ok, nameY, nameG, List.getElem?_cons_zero, List.getElem?_cons_succ, List.set_cons_zero, List.set_cons_succ, List.map_cons, List.map_nil, List.replicate_zero, List.replicate_succ, List.cons_append, List.nil_append, List.append_nil, Bool.not_true, Bool.not_false, if_true, if_false, Bool.false_eq_true, Bool.true_eq_false, reduceCtorEq, decide_true, decide_false, CMul, CDiv, CPow, okI, Int.reduceNeg, Int.reduceLT, Int.reduceLE, Int.reducePow, Int.reduceToNat, Nat.reduceSub, Nat.reduceAdd, Nat.reducePow, Nat.reduceLT, Nat.reduceLeDiff, Int.reduceMul, Int.reduceAdd, Int.reduceSub, Int.reduceEq, and_true, true_and, or_true, true_or, and_self, Nat.sub_self, Int.zero_le_ofNat, s4]
  refine ⟨.inl (by omega), ?_⟩
  refine rest_eq (b := 5) ?_ ?_ ?_ ?_
  · omega
  · omega
  · omega
  refine wp_newT (by simp [sizeLine]) fun t1 S6 le6 g4 => ?_
  rw [e_inT g4 rfl rfl, show (if false = true then !inM (.int ((r * c % 5 : Nat) : Int)) [.int 0, .int 2, .int 4] else inM (.int ((r * c % 5 : Nat) : Int)) [.int 0, .int 2, .int 4]) = decide (r * c % 5 % 2 = 0) from in5 ⟨r * c % 5, by omega⟩]
  refine ⟨.inl (by omega), ?_⟩
  simp only [e_seq, SeqK_nx, SeqK_rt, SeqK_ct, SeqK_bk, RetK_nx, RetK_rt, LoopK_nx, LoopK_ct, LoopK_bk, LoopK_rt, e_next, e_cont, e_brk, e_retN, e_ret, e_drop, e_if, IfK_t, IfK_f, e_asg, e_aug, e_var, VarK_s, e_c, e_bin, e_un, e_nil, e_cons, e_app, e_tst, TstK_bl, e_andB, e_orB, e_notB, e_yes, BlK_bl, e_andV, e_orV, e_notV, e_ifE, e_ch, e_neg, e_add, e_sub, e_mul, e_fdiv, e_mod, e_pow, e_shl, e_shr, e_and, e_or, e_xor, e_iadd, e_lt, e_le, e_gt, e_ge, e_eq, e_ne, e_isNon, e_isnNon, e_isiInt, e_isiBool, e_for, e_rng1, R1K_i, e_rng2, R2K_i, e_seqI, Wp_ok, nameY, nameG, List.getElem?_cons_zero, List.getElem?_cons_succ, List.set_cons_zero, List.set_cons_succ, List.map_cons, List.map_nil, List.replicate_zero, List.replicate_succ, List.cons_append, List.nil_append, List.append_nil, Bool.not_true, Bool.not_false, if_true, if_false, Bool.false_eq_true, Bool.true_eq_false, reduceCtorEq, decide_true, decide_false, CMul, CDiv, CPow, okI, Int.reduceNeg, Int.reduceLT, Int.reduceLE, Int.reducePow, Int.reduceToNat, Nat.reduceSub, Nat.reduceAdd, Nat.reducePow, Nat.reduceLT, Nat.reduceLeDiff, Int.reduceMul, Int.reduceAdd, Int.reduceSub, Int.reduceEq, and_true, true_and, or_true, true_or, and_self, Nat.sub_self, Int.zero_le_ofNat, s5]
  refine rest_eq (b := 4) ?_ ?_ ?_ ?_
  · omega
  · omega
  · omega
  refine wp_newT (by simp [sizeLine]) fun t2 S7 le7 g5 => ?_
  rw [e_inT g5 rfl rfl, show (if false = true then !inM (.int (((r * r + c) % 4 : Nat) : Int)) [.int 0, .int 1] else inM (.int (((r * r + c) % 4 : Nat) : Int)) [.int 0, .int 1]) = decide ((r * r + c) % 4 < 2) from in4 ⟨(r * r + c) % 4, by omega⟩]
  refine wp_newL (by simp [sizeLine]) fun k4 S8 le8 g6 _ => ?_
  have le58 := (le6.trans le7).trans le8
  refine wp_cat (le58.lget (lget_of g3)) (lget_of g6) (by simp [sizeLine]) fun k5 S9 le9 g7 _ => ?_
  simp only [e_seq, SeqK_nx, SeqK_rt, SeqK_ct, SeqK_bk, RetK_nx, RetK_rt, LoopK_nx, LoopK_ct, LoopK_bk, LoopK_rt, e_next, e_cont, e_brk, e_retN, e_ret, e_drop, e_if, IfK_t, IfK_f, e_asg, e_aug, e_var, VarK_s, e_c, e_bin, e_un, e_nil, e_cons, e_app, e_tst, TstK_bl, e_andB, e_orB, e_notB, e_yes, BlK_bl, e_andV, e_orV, e_notV, e_ifE, e_ch, e_neg, e_add, e_sub, e_mul, e_fdiv, e_mod, e_pow, e_shl, e_shr, e_and, e_or, e_xor, e_iadd, e_lt, e_le, e_gt, e_ge, e_eq, e_ne, e_isNon, e_isnNon, e_isiInt, e_isiBool, e_for, e_rng1, R1K_i, e_rng2, R2K_i, e_seqI, Wp_ok, nameY, nameG, List.getElem?_cons_zero, List.getElem?_cons_succ, List.set_cons_zero, List.set_cons_succ, List.map_cons, List.map_nil, List.replicate_zero, List.replicate_succ, List.cons_append, List.nil_append, List.append_nil, Bool.not_true, Bool.not_false, if_true, if_false, Bool.false_eq_true, Bool.true_eq_false, reduceCtorEq, decide_true, decide_false, CMul, CDiv, CPow, okI, Int.reduceNeg, Int.reduceLT, Int.reduceLE, Int.reducePow, Int.reduceToNat, Nat.reduceSub, Nat.reduceAdd, Nat.reducePow, Nat.reduceLT, Nat.reduceLeDiff, Int.reduceMul, Int.reduceAdd, Int.reduceSub, Int.reduceEq, and_true, true_and, or_true, true_or, and_self, Nat.sub_self, Int.zero_le_ofNat, s6]
  refine ⟨.inl (by omega), ?_⟩
  refine rest_eq (b := 7) ?_ ?_ ?_ ?_
  · omega
  · omega
  · omega
  refine wp_newT (by simp [sizeLine]) fun t3 S10 le10 g8 => ?_
  rw [e_inT g8 rfl rfl, show (if false = true then !inM (.int (((r + c * c) % 7 : Nat) : Int)) [.int 0, .int 1, .int 2] else inM (.int (((r + c * c) % 7 : Nat) : Int)) [.int 0, .int 1, .int 2]) = decide ((r + c * c) % 7 < 3) from in7 ⟨(r + c * c) % 7, by omega⟩]
  refine wp_newL (by simp [sizeLine]) fun k6 S11 le11 g9 _ => ?_
  refine wp_cat ((le10.trans le11).lget (lget_of g7)) (lget_of g9) (by simp [sizeLine]) fun k7 S12 le12 g10 _ => ?_
  try simp only [e_seq, SeqK_nx, SeqK_rt, SeqK_ct, SeqK_bk, RetK_nx, RetK_rt, LoopK_nx, LoopK_ct, LoopK_bk, LoopK_rt, e_next, e_cont, e_brk, e_retN, e_ret, e_drop, e_if, IfK_t, IfK_f, e_asg, e_aug, e_var, VarK_s, e_c, e_bin, e_un, e_nil, e_cons, e_app, e_tst, TstK_bl, e_andB, e_orB, e_notB, e_yes, BlK_bl, e_andV, e_orV, e_notV, e_ifE, e_ch, e_neg, e_add, e_sub, e_mul, e_fdiv, e_mod, e_pow, e_shl, e_shr, e_and, e_or, e_xor, e_iadd, e_lt, e_le, e_gt, e_ge, e_eq, e_ne, e_isNon, e_isnNon, e_isiInt, e_isiBool, e_for, e_rng1, R1K_i, e_rng2, R2K_i, e_seqI, Wp_ok, nameY, nameG, List.getElem?_cons_zero, List.getElem?_cons_succ, List.set_cons_zero, List.set_cons_succ, List.map_cons, List.map_nil, List.replicate_zero, List.replicate_succ, List.cons_append, List.nil_append, List.append_nil, Bool.not_true, Bool.not_false, if_true, if_false, Bool.false_eq_true, Bool.true_eq_false, reduceCtorEq, decide_true, decide_false, CMul, CDiv, CPow, okI, Int.reduceNeg, Int.reduceLT, Int.reduceLE, Int.reducePow, Int.reduceToNat, Nat.reduceSub, Nat.reduceAdd, Nat.reducePow, Nat.reduceLT, Nat.reduceLeDiff, Int.reduceMul, Int.reduceAdd, Int.reduceSub, Int.reduceEq, and_true, true_and, or_true, true_or, and_self, Nat.sub_self, Int.zero_le_ofNat]
  refine q k7 S12 (((((((le2.trans le3).trans le4).trans le5).trans le58).trans le9).trans (le10.trans le11)).trans le12) ?_
  rw [lget_of g10]
  have e3 : r + c + c = r + 2 * c := by omega
  rw [e3]
  rfl
theorem e_neB {a : Bool} {S : Stor} {Q : MV → Stor → Prop} : Wp (eqS true (.bl a) (.bl a) S) Q = Q (.bl false) S := by
  have e : PyData.eqv (.bool a) (.bool a) = true := by
    rw [PyData.eqv]
    exact beq_self_eq_true a
  with_unfolding_all show Q (.bl (!PyData.eqv (.bool a) (.bool a))) S = _
  rw [e]
  rfl
theorem law_wp (ns : List Int) (hn : ns.length ≤ 63) : Wp (f_law [.ref 0] [.flst (ns.map .int)]) fun v _ => v = .bl true := by
  rw [w_law]
  unfold b_law
  simp only [e_seq, SeqK_nx, SeqK_rt, SeqK_ct, SeqK_bk, RetK_nx, RetK_rt, LoopK_nx, LoopK_ct, LoopK_bk, LoopK_rt, e_next, e_cont, e_brk, e_retN, e_ret, e_drop, e_if, IfK_t, IfK_f, e_asg, e_aug, e_var, VarK_s, e_c, e_bin, e_un, e_nil, e_cons, e_app, e_tst, TstK_bl, e_andB, e_orB, e_notB, e_yes, BlK_bl, e_andV, e_orV, e_notV, e_ifE, e_ch, e_neg, e_add, e_sub, e_mul, e_fdiv, e_mod, e_pow, e_shl, e_shr, e_and, e_or, e_xor, e_iadd, e_lt, e_le, e_gt, e_ge, e_eq, e_ne, e_isNon, e_isnNon, e_isiInt, e_isiBool, e_for, e_rng1, R1K_i, e_rng2, R2K_i, e_seqI, Wp_ok, nameY, nameG, List.getElem?_cons_zero, List.getElem?_cons_succ, List.set_cons_zero, List.set_cons_succ, List.map_cons, List.map_nil, List.replicate_zero, List.replicate_succ, List.cons_append, List.nil_append, List.append_nil, Bool.not_true, Bool.not_false, if_true, if_false, Bool.false_eq_true, Bool.true_eq_false, reduceCtorEq, decide_true, decide_false, CMul, CDiv, CPow, okI, Int.reduceNeg, Int.reduceLT, Int.reduceLE, Int.reducePow, Int.reduceToNat, Nat.reduceSub, Nat.reduceAdd, Nat.reducePow, Nat.reduceLT, Nat.reduceLeDiff, Int.reduceMul, Int.reduceAdd, Int.reduceSub, Int.reduceEq, and_true, true_and, or_true, true_or, and_self, Nat.sub_self, Int.zero_le_ofNat, e_enmI, e_sl, e_optN, e_optS, OptK_i]
  rw [e_slL (xs := ns.map .int) rfl]
  refine wp_newL (by simp [cutM, sizeLine]; omega) fun j0 S0 le0 g0 _ => ?_
  try simp only [e_seq, SeqK_nx, SeqK_rt, SeqK_ct, SeqK_bk, RetK_nx, RetK_rt, LoopK_nx, LoopK_ct, LoopK_bk, LoopK_rt, e_next, e_cont, e_brk, e_retN, e_ret, e_drop, e_if, IfK_t, IfK_f, e_asg, e_aug, e_var, VarK_s, e_c, e_bin, e_un, e_nil, e_cons, e_app, e_tst, TstK_bl, e_andB, e_orB, e_notB, e_yes, BlK_bl, e_andV, e_orV, e_notV, e_ifE, e_ch, e_neg, e_add, e_sub, e_mul, e_fdiv, e_mod, e_pow, e_shl, e_shr, e_and, e_or, e_xor, e_iadd, e_lt, e_le, e_gt, e_ge, e_eq, e_ne, e_isNon, e_isnNon, e_isiInt, e_isiBool, e_for, e_rng1, R1K_i, e_rng2, R2K_i, e_seqI, Wp_ok, nameY, nameG, List.getElem?_cons_zero, List.getElem?_cons_succ, List.set_cons_zero, List.set_cons_succ, List.map_cons, List.map_nil, List.replicate_zero, List.replicate_succ, List.cons_append, List.nil_append, List.append_nil, Bool.not_true, Bool.not_false, if_true, if_false, Bool.false_eq_true, Bool.true_eq_false, reduceCtorEq, decide_true, decide_false, CMul, CDiv, CPow, okI, Int.reduceNeg, Int.reduceLT, Int.reduceLE, Int.reducePow, Int.reduceToNat, Nat.reduceSub, Nat.reduceAdd, Nat.reducePow, Nat.reduceLT, Nat.reduceLeDiff, Int.reduceMul, Int.reduceAdd, Int.reduceSub, Int.reduceEq, and_true, true_and, or_true, true_or, and_self, Nat.sub_self, Int.zero_le_ofNat]
  rw [show ((63 : Int)) = ((63 : Nat) : Int) from rfl, cutM_to, List.take_of_length_le (by rw [List.length_map]; exact hn)] at g0
  refine wp_more (ns := ns) (lget_of g0) (by omega) fun j S2 le1 hg _ => ?_
  try simp only [e_seq, SeqK_nx, SeqK_rt, SeqK_ct, SeqK_bk, RetK_nx, RetK_rt, LoopK_nx, LoopK_ct, LoopK_bk, LoopK_rt, e_next, e_cont, e_brk, e_retN, e_ret, e_drop, e_if, IfK_t, IfK_f, e_asg, e_aug, e_var, VarK_s, e_c, e_bin, e_un, e_nil, e_cons, e_app, e_tst, TstK_bl, e_andB, e_orB, e_notB, e_yes, BlK_bl, e_andV, e_orV, e_notV, e_ifE, e_ch, e_neg, e_add, e_sub, e_mul, e_fdiv, e_mod, e_pow, e_shl, e_shr, e_and, e_or, e_xor, e_iadd, e_lt, e_le, e_gt, e_ge, e_eq, e_ne, e_isNon, e_isnNon, e_isiInt, e_isiBool, e_for, e_rng1, R1K_i, e_rng2, R2K_i, e_seqI, Wp_ok, nameY, nameG, List.getElem?_cons_zero, List.getElem?_cons_succ, List.set_cons_zero, List.set_cons_succ, List.map_cons, List.map_nil, List.replicate_zero, List.replicate_succ, List.cons_append, List.nil_append, List.append_nil, Bool.not_true, Bool.not_false, if_true, if_false, Bool.false_eq_true, Bool.true_eq_false, reduceCtorEq, decide_true, decide_false, CMul, CDiv, CPow, okI, Int.reduceNeg, Int.reduceLT, Int.reduceLE, Int.reducePow, Int.reduceToNat, Nat.reduceSub, Nat.reduceAdd, Nat.reducePow, Nat.reduceLT, Nat.reduceLeDiff, Int.reduceMul, Int.reduceAdd, Int.reduceSub, Int.reduceEq, and_true, true_and, or_true, true_or, and_self, Nat.sub_self, Int.zero_le_ofNat]
  rw [EnK_l hg]
  have hcl : (ns ++ [5]).length ≤ 64 := by simp; omega
  refine wp_enm (xs := (ns ++ [5]).map .int) (fun i env S' => Le S2 S' ∧ ∃ o1 o2 o3 o4 o5 o6 o7 o8, env = [some (.ref 0), o1, o2, o3, o4, o5, o6, o7, o8]) ⟨Le.refl _, _, _, _, _, _, _, _, _, rfl⟩ (fun i env S' h => h.1.lget hg) (fun i env S' x hx h => ?_) (fun env S' h => ?_)
  · obtain ⟨le, o1, o2, o3, o4, o5, o6, o7, o8, rfl⟩ := h
    have hi : i < 64 := by
      have := (List.getElem?_eq_some_iff.mp hx).1
      rw [List.length_map] at this
      omega
    obtain ⟨cell, hc, rfl⟩ := map_int_get hx
    rw [e_two]
    simp only [e_seq, SeqK_nx, SeqK_rt, SeqK_ct, SeqK_bk, RetK_nx, RetK_rt, LoopK_nx, LoopK_ct, LoopK_bk, LoopK_rt, e_next, e_cont, e_brk, e_retN, e_ret, e_drop, e_if, IfK_t, IfK_f, e_asg, e_aug, e_var, VarK_s, e_c, e_bin, e_un, e_nil, e_cons, e_app, e_tst, TstK_bl, e_andB, e_orB, e_notB, e_yes, BlK_bl, e_andV, e_orV, e_notV, e_ifE, e_ch, e_neg, e_add, e_sub, e_mul, e_fdiv, e_mod, e_pow, e_shl, e_shr, e_and, e_or, e_xor, e_iadd, e_lt, e_le, e_gt, e_ge, e_eq, e_ne, e_isNon, e_isnNon, e_isiInt, e_isiBool, e_for, e_rng1, R1K_i, e_rng2, R2K_i, e_seqI, Wp_ok, nameY, nameG, List.getElem?_cons_zero, List.getElem?_cons_succ, List.set_cons_zero, List.set_cons_succ, List.map_cons, List.map_nil, List.replicate_zero, List.replicate_succ, List.cons_append, List.nil_append, List.append_nil, Bool.not_true, Bool.not_false, if_true, if_false, Bool.false_eq_true, Bool.true_eq_false, reduceCtorEq, decide_true, decide_false, CMul, CDiv, CPow, okI, Int.reduceNeg, Int.reduceLT, Int.reduceLE, Int.reducePow, Int.reduceToNat, Nat.reduceSub, Nat.reduceAdd, Nat.reducePow, Nat.reduceLT, Nat.reduceLeDiff, Int.reduceMul, Int.reduceAdd, Int.reduceSub, Int.reduceEq, and_true, true_and, or_true, true_or, and_self, Nat.sub_self, Int.zero_le_ofNat, b_law_1, b_law_1_1, b_law_1_2, b_law_1_3]
    obtain ⟨d, hd⟩ := Int.eq_ofNat_of_zero_le (show 0 ≤ (cell % 1000000007 * 48271 + 31 * (i : Int)) % 2147483647 from Int.emod_nonneg _ (by decide))
    have e1 : (d : Int) % 31 = ((d % 31 : Nat) : Int) := by simp
    have e2 : (d : Int) / 31 % 31 = ((d / 31 % 31 : Nat) : Int) := by simp
    simp only [e_seq, SeqK_nx, SeqK_rt, SeqK_ct, SeqK_bk, RetK_nx, RetK_rt, LoopK_nx, LoopK_ct, LoopK_bk, LoopK_rt, e_next, e_cont, e_brk, e_retN, e_ret, e_drop, e_if, IfK_t, IfK_f, e_asg, e_aug, e_var, VarK_s, e_c, e_bin, e_un, e_nil, e_cons, e_app, e_tst, TstK_bl, e_andB, e_orB, e_notB, e_yes, BlK_bl, e_andV, e_orV, e_notV, e_ifE, e_ch, e_neg, e_add, e_sub, e_mul, e_fdiv, e_mod, e_pow, e_shl, e_shr, e_and, e_or, e_xor, e_iadd, e_lt, e_le, e_gt, e_ge, e_eq, e_ne, e_isNon, e_isnNon, e_isiInt, e_isiBool, e_for, e_rng1, R1K_i, e_rng2, R2K_i, e_seqI, Wp_ok, nameY, nameG, List.getElem?_cons_zero, List.getElem?_cons_succ, List.set_cons_zero, List.set_cons_succ, List.map_cons, List.map_nil, List.replicate_zero, List.replicate_succ, List.cons_append, List.nil_append, List.append_nil, Bool.not_true, Bool.not_false, if_true, if_false, Bool.false_eq_true, Bool.true_eq_false, reduceCtorEq, decide_true, decide_false, CMul, CDiv, CPow, okI, Int.reduceNeg, Int.reduceLT, Int.reduceLE, Int.reducePow, Int.reduceToNat, Nat.reduceSub, Nat.reduceAdd, Nat.reducePow, Nat.reduceLT, Nat.reduceLeDiff, Int.reduceMul, Int.reduceAdd, Int.reduceSub, Int.reduceEq, and_true, true_and, or_true, true_or, and_self, Nat.sub_self, Int.zero_le_ofNat, hd, e1, e2]
    have hr : d % 31 < 31 := by omega
    have hcc : d / 31 % 31 < 31 := by omega
    generalize d % 31 = r at hr ⊢
    generalize d / 31 % 31 = c at hcc ⊢
    refine due_eq hr hcc fun k S3 le3 g3 => ?_
    simp only [e_seq, SeqK_nx, SeqK_rt, SeqK_ct, SeqK_bk, RetK_nx, RetK_rt, LoopK_nx, LoopK_ct, LoopK_bk, LoopK_rt, e_next, e_cont, e_brk, e_retN, e_ret, e_drop, e_if, IfK_t, IfK_f, e_asg, e_aug, e_var, VarK_s, e_c, e_bin, e_un, e_nil, e_cons, e_app, e_tst, TstK_bl, e_andB, e_orB, e_notB, e_yes, BlK_bl, e_andV, e_orV, e_notV, e_ifE, e_ch, e_neg, e_add, e_sub, e_mul, e_fdiv, e_mod, e_pow, e_shl, e_shr, e_and, e_or, e_xor, e_iadd, e_lt, e_le, e_gt, e_ge, e_eq, e_ne, e_isNon, e_isnNon, e_isiInt, e_isiBool, e_for, e_rng1, R1K_i, e_rng2, R2K_i, e_seqI, Wp_ok, nameY, nameG, List.getElem?_cons_zero, List.getElem?_cons_succ, List.set_cons_zero, List.set_cons_succ, List.map_cons, List.map_nil, List.replicate_zero, List.replicate_succ, List.cons_append, List.nil_append, List.append_nil, Bool.not_true, Bool.not_false, if_true, if_false, Bool.false_eq_true, Bool.true_eq_false, reduceCtorEq, decide_true, decide_false, CMul, CDiv, CPow, okI, Int.reduceNeg, Int.reduceLT, Int.reduceLE, Int.reducePow, Int.reduceToNat, Nat.reduceSub, Nat.reduceAdd, Nat.reducePow, Nat.reduceLT, Nat.reduceLeDiff, Int.reduceMul, Int.reduceAdd, Int.reduceSub, Int.reduceEq, and_true, true_and, or_true, true_or, and_self, Nat.sub_self, Int.zero_le_ofNat, b_law_1_4]
    refine wp_rng (fun i env S' => Le S3 S' ∧ ∃ o1 o2 o3 o7 o8, env = [some (.ref 0), o1, o2, o3, some (.int (r : Nat)), some (.int (c : Nat)), some (.ref k), o7, o8]) ⟨Le.refl _, _, _, _, _, _, rfl⟩ (fun m env S' hm h => ?_) (fun env S' h => ?_)
    · obtain ⟨le4, o1, o2, o3, o7, o8, rfl⟩ := h
      have hm : m < 8 := hm
      have em : (0 : Int) + (m : Int) * 1 = (m : Nat) := by simp
      simp only [e_seq, SeqK_nx, SeqK_rt, SeqK_ct, SeqK_bk, RetK_nx, RetK_rt, LoopK_nx, LoopK_ct, LoopK_bk, LoopK_rt, e_next, e_cont, e_brk, e_retN, e_ret, e_drop, e_if, IfK_t, IfK_f, e_asg, e_aug, e_var, VarK_s, e_c, e_bin, e_un, e_nil, e_cons, e_app, e_tst, TstK_bl, e_andB, e_orB, e_notB, e_yes, BlK_bl, e_andV, e_orV, e_notV, e_ifE, e_ch, e_neg, e_add, e_sub, e_mul, e_fdiv, e_mod, e_pow, e_shl, e_shr, e_and, e_or, e_xor, e_iadd, e_lt, e_le, e_gt, e_ge, e_eq, e_ne, e_isNon, e_isnNon, e_isiInt, e_isiBool, e_for, e_rng1, R1K_i, e_rng2, R2K_i, e_seqI, Wp_ok, nameY, nameG, List.getElem?_cons_zero, List.getElem?_cons_succ, List.set_cons_zero, List.set_cons_succ, List.map_cons, List.map_nil, List.replicate_zero, List.replicate_succ, List.cons_append, List.nil_append, List.append_nil, Bool.not_true, Bool.not_false, if_true, if_false, Bool.false_eq_true, Bool.true_eq_false, reduceCtorEq, decide_true, decide_false, CMul, CDiv, CPow, okI, Int.reduceNeg, Int.reduceLT, Int.reduceLE, Int.reducePow, Int.reduceToNat, Nat.reduceSub, Nat.reduceAdd, Nat.reducePow, Nat.reduceLT, Nat.reduceLeDiff, Int.reduceMul, Int.reduceAdd, Int.reduceSub, Int.reduceEq, and_true, true_and, or_true, true_or, and_self, Nat.sub_self, Int.zero_le_ofNat, em, b_law_2]
      refine turns_eq hm hr hcc ?_
      simp only [e_seq, SeqK_nx, SeqK_rt, SeqK_ct, SeqK_bk, RetK_nx, RetK_rt, LoopK_nx, LoopK_ct, LoopK_bk, LoopK_rt, e_next, e_cont, e_brk, e_retN, e_ret, e_drop, e_if, IfK_t, IfK_f, e_asg, e_aug, e_var, VarK_s, e_c, e_bin, e_un, e_nil, e_cons, e_app, e_tst, TstK_bl, e_andB, e_orB, e_notB, e_yes, BlK_bl, e_andV, e_orV, e_notV, e_ifE, e_ch, e_neg, e_add, e_sub, e_mul, e_fdiv, e_mod, e_pow, e_shl, e_shr, e_and, e_or, e_xor, e_iadd, e_lt, e_le, e_gt, e_ge, e_eq, e_ne, e_isNon, e_isnNon, e_isiInt, e_isiBool, e_for, e_rng1, R1K_i, e_rng2, R2K_i, e_seqI, Wp_ok, nameY, nameG, List.getElem?_cons_zero, List.getElem?_cons_succ, List.set_cons_zero, List.set_cons_succ, List.map_cons, List.map_nil, List.replicate_zero, List.replicate_succ, List.cons_append, List.nil_append, List.append_nil, Bool.not_true, Bool.not_false, if_true, if_false, Bool.false_eq_true, Bool.true_eq_false, reduceCtorEq, decide_true, decide_false, CMul, CDiv, CPow, okI, Int.reduceNeg, Int.reduceLT, Int.reduceLE, Int.reducePow, Int.reduceToNat, Nat.reduceSub, Nat.reduceAdd, Nat.reducePow, Nat.reduceLT, Nat.reduceLeDiff, Int.reduceMul, Int.reduceAdd, Int.reduceSub, Int.reduceEq, and_true, true_and, or_true, true_or, and_self, Nat.sub_self, Int.zero_le_ofNat, b_law_2_1]
      rw [e_isi (t := "bool") (c := true) rfl rfl]
      have hx : atI ((List.range 8).map fun m => MV.bl (tv m r c)) (m : Int) = some (.bl (tv m r c)) := atI_get (by rw [List.getElem?_map, List.getElem?_range hm]; rfl)
      simp only [e_seq, SeqK_nx, SeqK_rt, SeqK_ct, SeqK_bk, RetK_nx, RetK_rt, LoopK_nx, LoopK_ct, LoopK_bk, LoopK_rt, e_next, e_cont, e_brk, e_retN, e_ret, e_drop, e_if, IfK_t, IfK_f, e_asg, e_aug, e_var, VarK_s, e_c, e_bin, e_un, e_nil, e_cons, e_app, e_tst, TstK_bl, e_andB, e_orB, e_notB, e_yes, BlK_bl, e_andV, e_orV, e_notV, e_ifE, e_ch, e_neg, e_add, e_sub, e_mul, e_fdiv, e_mod, e_pow, e_shl, e_shr, e_and, e_or, e_xor, e_iadd, e_lt, e_le, e_gt, e_ge, e_eq, e_ne, e_isNon, e_isnNon, e_isiInt, e_isiBool, e_for, e_rng1, R1K_i, e_rng2, R2K_i, e_seqI, Wp_ok, nameY, nameG, List.getElem?_cons_zero, List.getElem?_cons_succ, List.set_cons_zero, List.set_cons_succ, List.map_cons, List.map_nil, List.replicate_zero, List.replicate_succ, List.cons_append, List.nil_append, List.append_nil, Bool.not_true, Bool.not_false, if_true, if_false, Bool.false_eq_true, Bool.true_eq_false, reduceCtorEq, decide_true, decide_false, CMul, CDiv, CPow, okI, Int.reduceNeg, Int.reduceLT, Int.reduceLE, Int.reducePow, Int.reduceToNat, Nat.reduceSub, Nat.reduceAdd, Nat.reducePow, Nat.reduceLT, Nat.reduceLeDiff, Int.reduceMul, Int.reduceAdd, Int.reduceSub, Int.reduceEq, and_true, true_and, or_true, true_or, and_self, Nat.sub_self, Int.zero_le_ofNat, e_ixL (le4.lget g3) hx]
      simp only [e_seq, SeqK_nx, SeqK_rt, SeqK_ct, SeqK_bk, RetK_nx, RetK_rt, LoopK_nx, LoopK_ct, LoopK_bk, LoopK_rt, e_next, e_cont, e_brk, e_retN, e_ret, e_drop, e_if, IfK_t, IfK_f, e_asg, e_aug, e_var, VarK_s, e_c, e_bin, e_un, e_nil, e_cons, e_app, e_tst, TstK_bl, e_andB, e_orB, e_notB, e_yes, BlK_bl, e_andV, e_orV, e_notV, e_ifE, e_ch, e_neg, e_add, e_sub, e_mul, e_fdiv, e_mod, e_pow, e_shl, e_shr, e_and, e_or, e_xor, e_iadd, e_lt, e_le, e_gt, e_ge, e_eq, e_ne, e_isNon, e_isnNon, e_isiInt, e_isiBool, e_for, e_rng1, R1K_i, e_rng2, R2K_i, e_seqI, Wp_ok, nameY, nameG, List.getElem?_cons_zero, List.getElem?_cons_succ, List.set_cons_zero, List.set_cons_succ, List.map_cons, List.map_nil, List.replicate_zero, List.replicate_succ, List.cons_append, List.nil_append, List.append_nil, Bool.not_true, Bool.not_false, if_true, if_false, Bool.false_eq_true, Bool.true_eq_false, reduceCtorEq, decide_true, decide_false, CMul, CDiv, CPow, okI, Int.reduceNeg, Int.reduceLT, Int.reduceLE, Int.reducePow, Int.reduceToNat, Nat.reduceSub, Nat.reduceAdd, Nat.reducePow, Nat.reduceLT, Nat.reduceLeDiff, Int.reduceMul, Int.reduceAdd, Int.reduceSub, Int.reduceEq, and_true, true_and, or_true, true_or, and_self, Nat.sub_self, Int.zero_le_ofNat, e_neB]
      exact ⟨le4, _, _, _, _, _, rfl⟩
    · obtain ⟨le4, o1, o2, o3, o7, o8, rfl⟩ := h
      try simp only [e_seq, SeqK_nx, SeqK_rt, SeqK_ct, SeqK_bk, RetK_nx, RetK_rt, LoopK_nx, LoopK_ct, LoopK_bk, LoopK_rt, e_next, e_cont, e_brk, e_retN, e_ret, e_drop, e_if, IfK_t, IfK_f, e_asg, e_aug, e_var, VarK_s, e_c, e_bin, e_un, e_nil, e_cons, e_app, e_tst, TstK_bl, e_andB, e_orB, e_notB, e_yes, BlK_bl, e_andV, e_orV, e_notV, e_ifE, e_ch, e_neg, e_add, e_sub, e_mul, e_fdiv, e_mod, e_pow, e_shl, e_shr, e_and, e_or, e_xor, e_iadd, e_lt, e_le, e_gt, e_ge, e_eq, e_ne, e_isNon, e_isnNon, e_isiInt, e_isiBool, e_for, e_rng1, R1K_i, e_rng2, R2K_i, e_seqI, Wp_ok, nameY, nameG, List.getElem?_cons_zero, List.getElem?_cons_succ, List.set_cons_zero, List.set_cons_succ, List.map_cons, List.map_nil, List.replicate_zero, List.replicate_succ, List.cons_append, List.nil_append, List.append_nil, Bool.not_true, Bool.not_false, if_true, if_false, Bool.false_eq_true, Bool.true_eq_false, reduceCtorEq, decide_true, decide_false, CMul, CDiv, CPow, okI, Int.reduceNeg, Int.reduceLT, Int.reduceLE, Int.reducePow, Int.reduceToNat, Nat.reduceSub, Nat.reduceAdd, Nat.reducePow, Nat.reduceLT, Nat.reduceLeDiff, Int.reduceMul, Int.reduceAdd, Int.reduceSub, Int.reduceEq, and_true, true_and, or_true, true_or, and_self, Nat.sub_self, Int.zero_le_ofNat]
      exact ⟨(le.trans le3).trans le4, _, _, _, _, _, _, _, _, rfl⟩
  · obtain ⟨le, o1, o2, o3, o4, o5, o6, o7, o8, rfl⟩ := h
    simp only [e_seq, SeqK_nx, SeqK_rt, SeqK_ct, SeqK_bk, RetK_nx, RetK_rt, LoopK_nx, LoopK_ct, LoopK_bk, LoopK_rt, e_next, e_cont, e_brk, e_retN, e_ret, e_drop, e_if, IfK_t, IfK_f, e_asg, e_aug, e_var, VarK_s, e_c, e_bin, e_un, e_nil, e_cons, e_app, e_tst, TstK_bl, e_andB, e_orB, e_notB, e_yes, BlK_bl, e_andV, e_orV, e_notV, e_ifE, e_ch, e_neg, e_add, e_sub, e_mul, e_fdiv, e_mod, e_pow, e_shl, e_shr, e_and, e_or, e_xor, e_iadd, e_lt, e_le, e_gt, e_ge, e_eq, e_ne, e_isNon, e_isnNon, e_isiInt, e_isiBool, e_for, e_rng1, R1K_i, e_rng2, R2K_i, e_seqI, Wp_ok, nameY, nameG, List.getElem?_cons_zero, List.getElem?_cons_succ, List.set_cons_zero, List.set_cons_succ, List.map_cons, List.map_nil, List.replicate_zero, List.replicate_succ, List.cons_append, List.nil_append, List.append_nil, Bool.not_true, Bool.not_false, if_true, if_false, Bool.false_eq_true, Bool.true_eq_false, reduceCtorEq, decide_true, decide_false, CMul, CDiv, CPow, okI, Int.reduceNeg, Int.reduceLT, Int.reduceLE, Int.reducePow, Int.reduceToNat, Nat.reduceSub, Nat.reduceAdd, Nat.reducePow, Nat.reduceLT, Nat.reduceLeDiff, Int.reduceMul, Int.reduceAdd, Int.reduceSub, Int.reduceEq, and_true, true_and, or_true, true_or, and_self, Nat.sub_self, Int.zero_le_ofNat]
theorem law_true (ns : List Int) (hn : ns.length ≤ 63) : ∃ S', f_law [.ref ([] : List MO).length] ([] ++ [.flst (ns.map .int)]) = .ok (.bl true) S' := law_of_wp (law_wp ns hn)
end RfM

namespace RfT
open PySem PySem.Spec PyProof.Rows L2 Rf
def topS (i : Nat) : Stmt := PySem.Challenge.pw_patchsquare_k31_masks_by_their_sums.main.body.getD i (.Pass ⟨0, 0, 0, 0⟩)
def g0 : GT := ⟨[], []⟩
abbrev s_0 : Stmt := topS 4
theorem sc_0 : FnScope ["_law_number", "_law_by"] ["_law_number", "_law_by"] (defScope s_0) := ⟨rfl, rfl, rfl, by decide +kernel, rfl, by decide +kernel, by decide +kernel⟩
theorem ck_0 : compSs g0 ["_law_number", "_law_by"] 300 (defScope s_0) (defBody s_0) = some b__law_rest := by kernel_rfl
def g1 : GT := ⟨("_law_rest", 2, f__law_rest) :: g0.fns, g0.cons⟩
abbrev s_1 : Stmt := topS 5
theorem sc_1 : FnScope ["_law_row", "_law_column", "_law_third", "_law_k", "_law_half", "_law_due_here"] ["_law_row", "_law_column"] (defScope s_1) := ⟨rfl, rfl, rfl, by decide +kernel, rfl, by decide +kernel, by decide +kernel⟩
theorem ck_1 : compSs g1 ["_law_row", "_law_column", "_law_third", "_law_k", "_law_half", "_law_due_here"] 300 (defScope s_1) (defBody s_1) = some b__law_due := by kernel_rfl
def g2 : GT := ⟨("_law_due", 2, f__law_due) :: g1.fns, g1.cons⟩
abbrev s_2 : Stmt := topS 1
theorem sc_2 : FnScope ["mask", "row", "column"] ["mask", "row", "column"] (defScope s_2) := ⟨rfl, rfl, rfl, by decide +kernel, rfl, by decide +kernel, by decide +kernel⟩
theorem ck_2 : compSs g2 ["mask", "row", "column"] 300 (defScope s_2) (defBody s_2) = some b_turns_by_sums := by kernel_rfl
def g3 : GT := ⟨("turns_by_sums", 3, f_turns_by_sums) :: g2.fns, g2.cons⟩
abbrev s_3 : Stmt := topS 2
theorem sc_3 : FnScope ["mask", "row", "column"] ["mask", "row", "column"] (defScope s_3) := ⟨rfl, rfl, rfl, by decide +kernel, rfl, by decide +kernel, by decide +kernel⟩
theorem ck_3 : compSs g3 ["mask", "row", "column"] 300 (defScope s_3) (defBody s_3) = some b_turns_over := by kernel_rfl
def g4 : GT := ⟨("turns_over", 3, f_turns_over) :: g3.fns, g3.cons⟩
abbrev s_4 : Stmt := topS 6
theorem sc_4 : FnScope ["_law_script", "_law_k", "_law_cell", "_law_d", "_law_row", "_law_column", "_law_due_here", "_law_mask", "_law_found"] ["_law_script"] (defScope s_4) := ⟨rfl, rfl, rfl, by decide +kernel, rfl, by decide +kernel, by decide +kernel⟩
theorem ck_4 : compSs g4 ["_law_script", "_law_k", "_law_cell", "_law_d", "_law_row", "_law_column", "_law_due_here", "_law_mask", "_law_found"] 300 (defScope s_4) (defBody s_4) = some b_law := by kernel_rfl
def g5 : GT := ⟨("law", 1, f_law) :: g4.fns, g4.cons⟩
theorem all_mk {w : World} {K : PySem.W.Frag} {h : Heap} {mg : Str → Option Value} {fa : Addr} (X : K.In h) (G : h.Ns mainGlobals mg) (hfa : mg "law" = some (.ref fa))
    {f0 : Addr} {od0 an0 : Option Addr} {sl0 : Array (Option Value)} {oc0 kV0 dc0 pm0 cd0 ct0 : Value}
    (a0 : PySem.W.nsIn K mainGlobals "_law_rest" = some (some (.ref f0))) (l0 : K.lookup f0 = some ⟨oc0, od0, .func (PySem.W.fnOf "_law_rest" "_law_rest" (defArgs s_0) (defBody s_0) (defScope s_0) .none kV0 dc0 pm0 an0 cd0 ct0), sl0⟩) (c0 : PySem.W.codeIn K cd0 "_law_rest" = true) (k0 : PySem.W.keepIn K (.ref f0) = true)
    {f1 : Addr} {od1 an1 : Option Addr} {sl1 : Array (Option Value)} {oc1 kV1 dc1 pm1 cd1 ct1 : Value}
    (a1 : PySem.W.nsIn K mainGlobals "_law_due" = some (some (.ref f1))) (l1 : K.lookup f1 = some ⟨oc1, od1, .func (PySem.W.fnOf "_law_due" "_law_due" (defArgs s_1) (defBody s_1) (defScope s_1) .none kV1 dc1 pm1 an1 cd1 ct1), sl1⟩) (c1 : PySem.W.codeIn K cd1 "_law_due" = true) (k1 : PySem.W.keepIn K (.ref f1) = true)
    {f2 : Addr} {od2 an2 : Option Addr} {sl2 : Array (Option Value)} {oc2 kV2 dc2 pm2 cd2 ct2 : Value}
    (a2 : PySem.W.nsIn K mainGlobals "turns_by_sums" = some (some (.ref f2))) (l2 : K.lookup f2 = some ⟨oc2, od2, .func (PySem.W.fnOf "turns_by_sums" "turns_by_sums" (defArgs s_2) (defBody s_2) (defScope s_2) .none kV2 dc2 pm2 an2 cd2 ct2), sl2⟩) (c2 : PySem.W.codeIn K cd2 "turns_by_sums" = true) (k2 : PySem.W.keepIn K (.ref f2) = true)
    {f3 : Addr} {od3 an3 : Option Addr} {sl3 : Array (Option Value)} {oc3 kV3 dc3 pm3 cd3 ct3 : Value}
    (a3 : PySem.W.nsIn K mainGlobals "turns_over" = some (some (.ref f3))) (l3 : K.lookup f3 = some ⟨oc3, od3, .func (PySem.W.fnOf "turns_over" "turns_over" (defArgs s_3) (defBody s_3) (defScope s_3) .none kV3 dc3 pm3 an3 cd3 ct3), sl3⟩) (c3 : PySem.W.codeIn K cd3 "turns_over" = true) (k3 : PySem.W.keepIn K (.ref f3) = true)
    {f4 : Addr} {od4 an4 : Option Addr} {sl4 : Array (Option Value)} {oc4 kV4 dc4 pm4 cd4 ct4 : Value}
    (a4 : PySem.W.nsIn K mainGlobals "law" = some (some (.ref f4))) (l4 : K.lookup f4 = some ⟨oc4, od4, .func (PySem.W.fnOf "law" "law" (defArgs s_4) (defBody s_4) (defScope s_4) .none kV4 dc4 pm4 an4 cd4 ct4), sl4⟩) (c4 : PySem.W.codeIn K cd4 "law" = true) (k4 : PySem.W.keepIn K (.ref f4) = true)
    (zz : ∀ x ∈ bltL, PySem.W.nsIn K mainGlobals x = some none)
    : ∃ fd : FuncData, (∀ (s : Shared) (v : Value), BindsTo s fd ⟨[v], []⟩ [("_law_script", v)]) ∧ ∀ base : Heap, K.In base → base.Ns mainGlobals mg → FnOk PySem.Challenge.pw_patchsquare_k31_masks_by_their_sums w K mg base (L2.CX PySem.Challenge.pw_patchsquare_k31_masks_by_their_sums w) 5 fa fd ["_law_script"] (spScr K) := by
  have e := hfa.symm.trans (PySem.W.mg_of X G a4)
  cases e
  have F0 := fun_mk (st := s_0) l0 c0 k0
  have B0 := F0.binds (ps := ["_law_number", "_law_by"]) fun _ _ _ _ _ _ us hl => match us, hl with | [_, _], _ => rfl
  have F1 := fun_mk (st := s_1) l1 c1 k1
  have B1 := F1.binds (ps := ["_law_row", "_law_column"]) fun _ _ _ _ _ _ us hl => match us, hl with | [_, _], _ => rfl
  have F2 := fun_mk (st := s_2) l2 c2 k2
  have B2 := F2.binds (ps := ["mask", "row", "column"]) fun _ _ _ _ _ _ us hl => match us, hl with | [_, _, _], _ => rfl
  have F3 := fun_mk (st := s_3) l3 c3 k3
  have B3 := F3.binds (ps := ["mask", "row", "column"]) fun _ _ _ _ _ _ us hl => match us, hl with | [_, _, _], _ => rfl
  have F4 := fun_mk (st := s_4) l4 c4 k4
  refine ⟨PySem.W.fnOf "law" "law" (defArgs s_4) (defBody s_4) (defScope s_4) .none kV4 dc4 pm4 an4 cd4 ct4, fun s v => .of_eq rfl, fun base _ _ => ?_⟩
  obtain ⟨W, hW, hg⟩ : ∃ W : WR, W.K = K ∧ W.gl = [] := ⟨⟨K, [], fun _ => none⟩, rfl, rfl⟩
  subst hW
  have q0 : GOk PySem.Challenge.pw_patchsquare_k31_masks_by_their_sums w W.K mg base W g0 0 := GOk.nil (G := g0) ?_ (fun x hx => PySem.W.mg_none_of X G (zz x hx))
  · have d0 := def_ok rfl F0 sc_0 q0 ck_0
    have q1 : GOk PySem.Challenge.pw_patchsquare_k31_masks_by_their_sums w W.K mg base W g1 1 := q0.add d0 (PySem.W.mg_of X G a0) k0 B0 (fun as S h => mkFn_len as S h)
    have d1 := def_ok rfl F1 sc_1 q1 ck_1
    have q2 : GOk PySem.Challenge.pw_patchsquare_k31_masks_by_their_sums w W.K mg base W g2 2 := q1.add d1 (PySem.W.mg_of X G a1) k1 B1 (fun as S h => mkFn_len as S h)
    have d2 := def_ok rfl F2 sc_2 q2 ck_2
    have q3 : GOk PySem.Challenge.pw_patchsquare_k31_masks_by_their_sums w W.K mg base W g3 3 := q2.add d2 (PySem.W.mg_of X G a2) k2 B2 (fun as S h => mkFn_len as S h)
    have d3 := def_ok rfl F3 sc_3 q3 ck_3
    have q4 : GOk PySem.Challenge.pw_patchsquare_k31_masks_by_their_sums w W.K mg base W g4 4 := q3.add d3 (PySem.W.mg_of X G a3) k3 B3 (fun as S h => mkFn_len as S h)
    have d4 := def_ok rfl F4 sc_4 q4 ck_4
    exact d4.imp (spScr_by rfl (Glo.nil hg) RfM.law_true)
  · exact ConOk.nil
end RfT

open PySem PySem.W PyProof.Rows
set_option maxHeartbeats 0 in
theorem PySem.Challenge.cw_patchsquare_k31_masks_by_their_sums_holds : PySem.Challenge.rw_patchsquare_k31_masks_by_their_sums.Holds := by
  w_on; o_law; k_head; (case hw => w_witness2)
  k_fill
  refine L2.walk_of (l := PySem.Challenge.rw_patchsquare_k31_masks_by_their_sums) (n := 63) (k := 5) (x := "_law_script") (CX := fun w => L2.CX PySem.Challenge.pw_patchsquare_k31_masks_by_their_sums w) (sp := fun w => Rf.spScr _) rfl (by decide) rfl ⟨rfl, by decide, by decide⟩ (fun w h Y => PySem.W.kIn_of Y) ?F (fun w H a ns hl hO hS => ⟨a, ns, rfl, hl, hO, hS, fun _ => rfl⟩) (fun w H s e s' h => Rf.noCX h)
  case F =>
    intro w mg fa h KX G hmg
    refine' RfT.all_mk KX G hmg ?a0 ?l0 ?c0 ?k0 ?a1 ?l1 ?c1 ?k1 ?a2 ?l2 ?c2 ?k2 ?a3 ?l3 ?c3 ?k3 ?a4 ?l4 ?c4 ?k4 ?zz
    (case a0 => k_is); (case l0 => k_is); (case c0 => k_is); (case k0 => k_is); (case a1 => k_is); (case l1 => k_is); (case c1 => k_is); (case k1 => k_is); (case a2 => k_is); (case l2 => k_is); (case c2 => k_is); (case k2 => k_is); (case a3 => k_is); (case l3 => k_is); (case c3 => k_is); (case k3 => k_is); (case a4 => k_is); (case l4 => k_is); (case c4 => k_is); (case k4 => k_is); (case zz => (intro x hx; simp only [Rf.bltL, List.mem_cons, List.not_mem_nil, or_false] at hx; rcases hx with rfl|rfl|rfl|rfl|rfl|rfl|rfl|rfl|rfl|rfl|rfl|rfl|rfl|rfl|rfl|rfl|rfl|rfl|rfl|rfl|rfl <;> k_is))
