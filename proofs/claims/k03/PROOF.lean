import PyProof.Rows.All
import Wide.All
import OpenK.AllK
import Wide.FinOn
import HandS.Base
import HandS.Call
import HandS.List
import HandS.Comp
import HandS.Iter
import HandS.Dict
import HandS.Text
import HandS.Exc
import HandS.IsInst
import HandS.TupAny
import HandS.Style
import HandS.Deep
import HandS.NoneIn
import HandS.WordsExc
import KE.GoesEnum
import HandS.Zip
import HandS.Ends
import HandS.TupMul
import HandS.Small
import HandS.SetBool
import HandS.SetKeys
import KE.KUnpackStar
import HandS.ExcValue
import HandS.ExcOwn
import HandS.SetTxt0
import HandS.TupSets
import HandS.SetFor
import PyProof.StrLawsRepr
import PySem.Challenge.RW_showshigh_k03_where_conditions_hold
set_option Elab.async false
set_option linter.all false
set_option maxRecDepth 120000
set_option maxHeartbeats 2400000
namespace VL
open PyProof.Rows PySem L2 PySem.Spec

/-! ### deep values, outcomes, slots -/
inductive D where
  | non | bl (b : Bool) | int (i : Int) | str (x : Str) | lst (xs : List D) | tup (xs : List D) | dic (kvs : List (D × D)) | obj (c : Str) (fs : List (Str × D))
  deriving Inhabited
/-- can be changed in place -/
def D.mut : D → Bool
  | .lst _ => true
  | .dic _ => true
  | .obj _ _ => true
  | _ => false
inductive R (α : Type) where
  | ok (a : α) | ex (c : Str) (fs : List (Str × D)) | bad
def R.bind {α β : Type} (x : R α) (f : α → R β) : R β := match x with
  | .ok a => f a
  | .ex c fs => .ex c fs
  | .bad => .bad
instance : Monad R where
  pure := R.ok
  bind := R.bind
inductive Sl where
  | no | sh (d : D) | ow (d : D)
abbrev Lo := List Sl

/-! ### what represents a value -/
abbrev Fro := Addr → Prop
/-- a list that may be read: tracked, known whole, or the module's own -/
def LsV (K : PySem.W.Frag) (H : Hp) (a : Addr) (xs : List V) : Prop :=
  H a = some (.lst xs) ∨ (∃ (its : Array Value) (n : Nat), H a = some (.frz { cls := .type "list", data := .seq its n } (.lst xs))) ∨
    ∃ (its : Array Value) (n : Nat), K.lookup a = some { cls := .type "list", data := .seq its n } ∧ its.size ≤ sizeLine ∧ Vals xs its.toList
def FzL (K : PySem.W.Frag) (H : Hp) (F : Fro) (a : Addr) (xs : List V) : Prop :=
  (F a ∧ H a = some (.lst xs)) ∨ (∃ (its : Array Value) (n : Nat), H a = some (.frz { cls := .type "list", data := .seq its n } (.lst xs))) ∨
    ∃ (its : Array Value) (n : Nat), K.lookup a = some { cls := .type "list", data := .seq its n } ∧ its.size ≤ sizeLine ∧ Vals xs its.toList
def kD : Key → D
  | .inl i => .int i
  | .inr x => .str x
mutual
inductive Sh (K : PySem.W.Frag) (H : Hp) (F : Fro) : V → D → Prop
  | non : Sh K H F .non .non
  | bl (b : Bool) : Sh K H F (.bl b) (.bl b)
  | int (i : Int) : Sh K H F (.int i) (.int i)
  | str (x : Str) : Sh K H F (.str x) (.str x)
  | lst {a : Addr} {xs : List V} {ds : List D} : FzL K H F a xs → ShL K H F xs ds → Sh K H F (.ref a) (.lst ds)
  | tup {a : Addr} {xs : List V} {ds : List D} : SqT K H a xs → ShL K H F xs ds → Sh K H F (.ref a) (.tup ds)
  | dic {a : Addr} {o : Obj} {kvs : List (Key × V)} {ds : List D} : H a = some (.frz o (.dK kvs)) → ShL K H F (kvs.map (·.2)) ds → Sh K H F (.ref a) (.dic ((kvs.map fun p => kD p.1).zip ds))
inductive ShL (K : PySem.W.Frag) (H : Hp) (F : Fro) : List V → List D → Prop
  | nil : ShL K H F [] []
  | cons {v : V} {vs : List V} {d : D} {ds : List D} : Sh K H F v d → ShL K H F vs ds → ShL K H F (v :: vs) (d :: ds)
end
/-- an object of one's own, at a: nobody else knows it -/
inductive Ow (K : PySem.W.Frag) (H : Hp) (F : Fro) : Addr → D → Prop
  | lst {a : Addr} {xs : List V} {ds : List D} : H a = some (.lst xs) → ShL K H F xs ds → Ow K H F a (.lst ds)
  | dic {a : Addr} {kvs : List (Key × V)} {ds : List D} : H a = some (.dK kvs) → ShL K H F (kvs.map (·.2)) ds → Ow K H F a (.dic ((kvs.map fun p => kD p.1).zip ds))

/-- what is frozen, or can't be changed, stands -/
def Kp (F : Fro) (H H' : Hp) : Prop := ∀ a o, H a = some o → (F a ∨ ¬ Mut (some o)) → H' a = some o
def The (F : Fro) (H : Hp) : Prop := ∀ a, F a → H a ≠ none
/-- a step that changes nothing that stood -/
structure Le (H : Hp) (F : Fro) (H' : Hp) (F' : Fro) : Prop where
  keep : ∀ a o, H a = some o → H' a = some o
  sub : ∀ a, F a → F' a
  new : ∀ a, F' a → F a ∨ H a = none
  the : The F' H'
theorem Le.kp {H H' : Hp} {F F' : Fro} (l : Le H F H' F') : Kp F H H' := fun a o e _ => l.keep a o e
theorem Le.refl {H : Hp} {F : Fro} (t : The F H) : Le H F H F := ⟨fun _ _ e => e, fun _ h => h, fun _ h => .inl h, t⟩
theorem none_of_keep {H H' : Hp} (k : ∀ a o, H a = some o → H' a = some o) {a : Addr} (h : H' a = none) : H a = none := by
  cases q : H a with
  | none => rfl
  | some o => rw [k a o q] at h; cases h
theorem Le.trans {H H1 H2 : Hp} {F F1 F2 : Fro} (a : Le H F H1 F1) (b : Le H1 F1 H2 F2) : Le H F H2 F2 :=
  ⟨fun x o e => b.keep x o (a.keep x o e), fun x h => b.sub x (a.sub x h), fun x h => by
    rcases b.new x h with q | q
    · exact a.new x q
    · exact .inr (none_of_keep a.keep q), b.the⟩
section
variable {K : PySem.W.Frag} {H H' : Hp} {F F' : Fro} {a : Addr}
theorem LsV.sql {xs : List V} (h : LsV K H a xs) : SqL K H a xs := by
  rcases h with h | ⟨its, n, h⟩ | ⟨its, n, h, z, r⟩
  · exact .inl (.inl h)
  · exact .inl (.inr ⟨_, h⟩)
  · exact .inr ⟨_, its, n, h, rfl, rfl, rfl, z, r⟩
theorem FzL.ls {xs : List V} (h : FzL K H F a xs) : LsV K H a xs := by
  rcases h with ⟨_, h⟩ | h | h
  · exact .inl h
  · exact .inr (.inl h)
  · exact .inr (.inr h)
theorem FzL.sql {xs : List V} (h : FzL K H F a xs) : SqL K H a xs := h.ls.sql
theorem FzL.mono {xs : List V} (h : FzL K H F a xs) (k : Kp F H H') (s : ∀ a, F a → F' a) : FzL K H' F' a xs := by
  rcases h with ⟨f, h⟩ | ⟨its, n, h⟩ | h
  · exact .inl ⟨s a f, k a _ h (.inl f)⟩
  · exact .inr (.inl ⟨its, n, k a _ h (.inr fun z => z)⟩)
  · exact .inr (.inr h)
theorem sqt_mono {xs : List V} (h : SqT K H a xs) (k : Kp F H H') : SqT K H' a xs := by
  rcases h with (h | ⟨o, h⟩) | h
  · exact .inl (.inl (k a _ h (.inr fun z => z)))
  · exact .inl (.inr ⟨o, k a _ h (.inr fun z => z)⟩)
  · exact .inr h
mutual
theorem Sh.mono (k : Kp F H H') (s : ∀ a, F a → F' a) : ∀ {v : V} {d : D}, Sh K H F v d → Sh K H' F' v d
  | _, _, .non => .non
  | _, _, .bl b => .bl b
  | _, _, .int i => .int i
  | _, _, .str x => .str x
  | _, _, .lst h r => .lst (h.mono k s) (ShL.mono k s r)
  | _, _, .tup h r => .tup (sqt_mono h k) (ShL.mono k s r)
  | _, _, .dic h r => .dic (k _ _ h (.inr fun z => z)) (ShL.mono k s r)
theorem ShL.mono (k : Kp F H H') (s : ∀ a, F a → F' a) : ∀ {vs : List V} {ds : List D}, ShL K H F vs ds → ShL K H' F' vs ds
  | _, _, .nil => .nil
  | _, _, .cons h r => .cons (Sh.mono k s h) (ShL.mono k s r)
end
theorem Sh.le {v : V} {d : D} (h : Sh K H F v d) (l : Le H F H' F') : Sh K H' F' v d := h.mono l.kp l.sub
theorem ShL.le {vs : List V} {ds : List D} (h : ShL K H F vs ds) (l : Le H F H' F') : ShL K H' F' vs ds := h.mono l.kp l.sub
theorem ShL.length : ∀ {vs : List V} {ds : List D}, ShL K H F vs ds → vs.length = ds.length
  | _, _, .nil => rfl
  | _, _, .cons _ r => congrArg (· + 1) r.length
theorem ShL.get : ∀ {vs : List V} {ds : List D}, ShL K H F vs ds → ∀ {i : Nat} {v : V}, vs[i]? = some v → ∃ d, ds[i]? = some d ∧ Sh K H F v d
  | _, _, .nil, _, _, e => by simp at e
  | _, _, .cons h r, 0, v, e => ⟨_, rfl, by simp at e; subst e; exact h⟩
  | _, _, .cons h r, i + 1, v, e => by
    obtain ⟨d, q, z⟩ := ShL.get r (i := i) (v := v) (by simpa using e)
    exact ⟨d, by simpa using q, z⟩
theorem ShL.getD : ∀ {vs : List V} {ds : List D}, ShL K H F vs ds → ∀ {i : Nat} {d : D}, ds[i]? = some d → ∃ v, vs[i]? = some v ∧ Sh K H F v d
  | _, _, .nil, _, _, e => by simp at e
  | _, _, .cons h r, 0, v, e => ⟨_, rfl, by simp at e; subst e; exact h⟩
  | _, _, .cons h r, i + 1, v, e => by
    obtain ⟨d, q, z⟩ := ShL.getD r (i := i) (d := v) (by simpa using e)
    exact ⟨d, by simpa using q, z⟩
theorem ShL.append : ∀ {vs ws : List V} {ds es : List D}, ShL K H F vs ds → ShL K H F ws es → ShL K H F (vs ++ ws) (ds ++ es)
  | _, _, _, _, .nil, s => s
  | _, _, _, _, .cons h r, s => .cons h (ShL.append r s)
theorem ShL.take : ∀ {vs : List V} {ds : List D} (n : Nat), ShL K H F vs ds → ShL K H F (vs.take n) (ds.take n)
  | _, _, 0, _ => .nil
  | _, _, _ + 1, .nil => .nil
  | _, _, n + 1, .cons h r => .cons h (ShL.take n r)
theorem ShL.drop : ∀ {vs : List V} {ds : List D} (n : Nat), ShL K H F vs ds → ShL K H F (vs.drop n) (ds.drop n)
  | _, _, 0, r => r
  | _, _, _ + 1, .nil => .nil
  | _, _, n + 1, .cons h r => ShL.drop n r
theorem ShL.set {v : V} {d : D} (q : Sh K H F v d) : ∀ {vs : List V} {ds : List D} (i : Nat), ShL K H F vs ds → ShL K H F (vs.set i v) (ds.set i d)
  | _, _, _, .nil => .nil
  | _, _, 0, .cons _ r => .cons q r
  | _, _, i + 1, .cons h r => .cons h (ShL.set q i r)
theorem Ow.mono (k : Kp F H H') (s : ∀ a, F a → F' a) {d : D} (o : Ow K H F a d) (e : ∀ u, H a = some u → H' a = some u) : Ow K H' F' a d := by
  cases o with
  | lst h r => exact .lst (e _ h) (r.mono k s)
  | dic h r => exact .dic (e _ h) (r.mono k s)
theorem Ow.there {d : D} (o : Ow K H F a d) : H a ≠ none := by
  cases o with
  | lst h r => rw [h]; simp
  | dic h r => rw [h]; simp
theorem Ow.freeze {ds : List D} (o : Ow K H F a (.lst ds)) (f : F a) : Sh K H F (.ref a) (.lst ds) := by
  cases o with
  | lst h r => exact .lst (.inl ⟨f, h⟩) r
theorem kp_own {u u' : HO} (nf : ¬ F a) (h : H a = some u) (mu : Mut (some u)) : Kp F H (upd H a u') := fun b w e z => by
  have nb : b ≠ a := fun q => by
    subst q
    rcases z with z | z
    · exact nf z
    · rw [h] at e; cases e; exact z mu
  rw [upd_ne nb]; exact e
/-- an own dict is locked for good -/
theorem Ow.freezeD {es : List (D × D)} (o : Ow K H F a (.dic es)) (nf : ¬ F a) : ∃ kvs, H a = some (.dK kvs) ∧ ∀ od, Sh K (upd H a (.frz od (.dK kvs))) F (.ref a) (.dic es) := by
  cases o with
  | @dic kvs ds h r => exact ⟨kvs, h, fun od => .dic (o := od) upd_same (r.mono (kp_own nf h trivial) fun _ z => z)⟩
theorem Ow.mut {d : D} (o : Ow K H F a d) : d.mut = true := by cases o <;> rfl
/-- one more frozen object -/
def Fro.add (F : Fro) (a : Addr) : Fro := fun b => F b ∨ b = a
theorem le_add {H0 : Hp} {F0 : Fro} (l : Le H0 F0 H F) (n : H0 a = none) (t : H a ≠ none) : Le H0 F0 H (F.add a) :=
  ⟨l.keep, fun b h => .inl (l.sub b h), fun b h => by
    rcases h with h | rfl
    · exact l.new b h
    · exact .inr n, fun b h => by
    rcases h with h | rfl
    · exact l.the b h
    · exact t⟩
end

/-! ### the state of a body -/
structure VG where
  K : PySem.W.Frag
  mg : Str → Option Value
  H0 : Hp
  F0 : Fro
  W : WX
/-- a slot -/
def RSl (G : VG) (H : Hp) (F : Fro) (x : Option V) : Sl → Prop
  | .no => True
  | .sh d => ∃ v, x = some v ∧ Sh G.K H F v d
  | .ow d => ∃ a, x = some (.ref a) ∧ G.H0 a = none ∧ ¬ F a ∧ Ow G.K H F a d
structure Rel (G : VG) (σ : L2.St) (H : Hp) (ρ : Lo) (F : Fro) : Prop where
  len : σ.length = ρ.length
  sl : ∀ (i : Nat) (x : Option V) (s : Sl), σ[i]? = some x → ρ[i]? = some s → RSl G H F x s
  apart : ∀ (i j : Nat) (a : Addr) (d d' : D), σ[i]? = some (some (.ref a)) → ρ[i]? = some (.ow d) → σ[j]? = some (some (.ref a)) → ρ[j]? = some (.ow d') → i = j
  le : Le G.H0 G.F0 H F
section
variable {G : VG} {σ : L2.St} {H H' : Hp} {ρ : Lo} {F F' : Fro}
theorem Rel.step (r : Rel G σ H ρ F) (l : Le H F H' F') : Rel G σ H' ρ F' := by
  refine ⟨r.len, fun i x s h1 h2 => ?_, r.apart, r.le.trans l⟩
  have q := r.sl i x s h1 h2
  cases s with
  | no => trivial
  | sh d => obtain ⟨v, e, z⟩ := q; exact ⟨v, e, z.le l⟩
  | ow d =>
    obtain ⟨a, e, n, nf, o⟩ := q
    refine ⟨a, e, n, fun f => ?_, o.mono l.kp l.sub fun u e => l.keep _ u e⟩
    rcases l.new a f with z | z
    · exact nf z
    · exact o.there z
/-- a slot is forgotten -/
theorem Rel.wipe1 (r : Rel G σ H ρ F) (i : Nat) (x : Option V) : Rel G (σ.set i x) H (ρ.set i .no) F := by
  refine ⟨by simpa using r.len, fun j y s h1 h2 => ?_, fun j k a d d' h1 h2 h3 h4 => ?_, r.le⟩
  · by_cases hj : i = j
    · subst hj
      rw [List.getElem?_set] at h2
      simp only [if_true] at h2
      split at h2
      · cases h2; trivial
      · cases h2
    · rw [List.getElem?_set_ne hj] at h1 h2
      exact r.sl j y s h1 h2
  · have e1 : i ≠ j := fun z => by
      subst z
      rw [List.getElem?_set] at h2
      simp only [if_true] at h2
      split at h2 <;> cases h2
    have e2 : i ≠ k := fun z => by
      subst z
      rw [List.getElem?_set] at h4
      simp only [if_true] at h4
      split at h4 <;> cases h4
    rw [List.getElem?_set_ne e1] at h1 h2
    rw [List.getElem?_set_ne e2] at h3 h4
    exact r.apart j k a d d' h1 h2 h3 h4
/-- a slot is given a shared value -/
theorem Rel.setSh (r : Rel G σ H ρ F) (i : Nat) {v : V} {d : D} (h : Sh G.K H F v d) : Rel G (σ.set i (some v)) H (ρ.set i (.sh d)) F := by
  have w := r.wipe1 i (some v)
  refine ⟨by simpa using r.len, fun j y s h1 h2 => ?_, fun j k a d1 d' h1 h2 h3 h4 => ?_, r.le⟩
  · by_cases hj : i = j
    · subst hj
      rw [List.getElem?_set] at h1 h2
      simp only [if_true] at h1 h2
      split at h2
      · split at h1
        · cases h2; cases h1; exact ⟨v, rfl, h⟩
        · cases h1
      · cases h2
    · rw [List.getElem?_set_ne hj] at h1 h2
      exact r.sl j y s h1 h2
  · have e1 : i ≠ j := fun z => by
      subst z
      rw [List.getElem?_set] at h2
      simp only [if_true] at h2
      split at h2 <;> cases h2
    have e2 : i ≠ k := fun z => by
      subst z
      rw [List.getElem?_set] at h4
      simp only [if_true] at h4
      split at h4 <;> cases h4
    rw [List.getElem?_set_ne e1] at h1 h2
    rw [List.getElem?_set_ne e2] at h3 h4
    exact r.apart j k a d1 d' h1 h2 h3 h4
/-- a slot is given an object of one's own that no slot holds -/
theorem Rel.setOw (r : Rel G σ H ρ F) (i : Nat) {a : Addr} {d : D} (n : G.H0 a = none) (nf : ¬ F a) (o : Ow G.K H F a d)
    (no : ∀ (j : Nat) (d' : D), j ≠ i → σ[j]? = some (some (.ref a)) → ρ[j]? = some (.ow d') → False) : Rel G (σ.set i (some (.ref a))) H (ρ.set i (.ow d)) F := by
  refine ⟨by simpa using r.len, fun j y s h1 h2 => ?_, fun j k b d1 d' h1 h2 h3 h4 => ?_, r.le⟩
  · by_cases hj : i = j
    · subst hj
      rw [List.getElem?_set] at h1 h2
      simp only [if_true] at h1 h2
      split at h2
      · split at h1
        · cases h2; cases h1; exact ⟨a, rfl, n, nf, o⟩
        · cases h1
      · cases h2
    · rw [List.getElem?_set_ne hj] at h1 h2
      exact r.sl j y s h1 h2
  · by_cases e1 : i = j
    · by_cases e2 : i = k
      · omega
      · subst e1
        rw [List.getElem?_set_ne e2] at h3 h4
        rw [List.getElem?_set] at h1
        simp only [if_true] at h1
        split at h1
        · cases h1; exact (no k d' (Ne.symm e2) h3 h4).elim
        · cases h1
    · by_cases e2 : i = k
      · subst e2
        rw [List.getElem?_set_ne e1] at h1 h2
        rw [List.getElem?_set] at h3
        simp only [if_true] at h3
        split at h3
        · cases h3; exact (no j d1 (Ne.symm e1) h1 h2).elim
        · cases h3
      · rw [List.getElem?_set_ne e1] at h1 h2
        rw [List.getElem?_set_ne e2] at h3 h4
        exact r.apart j k b d1 d' h1 h2 h3 h4
/-- an object of one's own is changed -/
theorem Rel.write (r : Rel G σ H ρ F) {i : Nat} {a : Addr} {d d' : D} (hσ : σ[i]? = some (some (.ref a))) (hρ : ρ[i]? = some (.ow d)) {u : HO} (hm : ∀ o, H a = some o → Mut (some o))
    (o : Ow G.K (upd H a u) F a d') : Rel G σ (upd H a u) (ρ.set i (.ow d')) F := by
  obtain ⟨b, e, n, nf, ob⟩ := r.sl i _ _ hσ hρ
  cases e
  have kp : Kp F H (upd H a u) := fun b w e h => by
    have nb : b ≠ a := fun z => by
      subst z
      rcases h with h | h
      · exact nf h
      · exact h (hm w e)
    rw [upd_ne nb]; exact e
  refine ⟨by simpa using r.len, fun j y s h1 h2 => ?_, fun j k c d1 d2 h1 h2 h3 h4 => ?_, ⟨fun b w e => ?_, r.le.sub, r.le.new, fun b f => ?_⟩⟩
  · by_cases hj : i = j
    · subst hj
      rw [hσ] at h1
      rw [List.getElem?_set] at h2
      simp only [if_true] at h2
      split at h2
      · cases h2; cases h1; exact ⟨a, rfl, n, nf, o⟩
      · cases h2
    · rw [List.getElem?_set_ne hj] at h2
      have q := r.sl j y s h1 h2
      cases s with
      | no => trivial
      | sh d => obtain ⟨v, e, z⟩ := q; exact ⟨v, e, z.mono kp fun _ h => h⟩
      | ow d2 =>
        obtain ⟨b, e, n', nf', o'⟩ := q
        subst e
        have nb : b ≠ a := fun z => by
          subst z
          exact hj (r.apart i j b d d2 hσ hρ h1 h2)
        exact ⟨b, rfl, n', nf', o'.mono kp (fun _ h => h) fun w e => by rw [upd_ne nb]; exact e⟩
  · have fix : ∀ {k : Nat} {d3 : D}, (ρ.set i (Sl.ow d'))[k]? = some (Sl.ow d3) → ∃ d4, ρ[k]? = some (Sl.ow d4) := fun {k d3} h => by
      by_cases hk : i = k
      · subst hk; exact ⟨d, hρ⟩
      · rw [List.getElem?_set_ne hk] at h; exact ⟨d3, h⟩
    obtain ⟨x1, q1⟩ := fix h2
    obtain ⟨x2, q2⟩ := fix h4
    exact r.apart j k c x1 x2 h1 q1 h3 q2
  · have nb : b ≠ a := fun z => by subst z; rw [n] at e; cases e
    rw [upd_ne nb]; exact r.le.keep b w e
  · by_cases hb : b = a
    · subst hb; exact absurd f nf
    · rw [upd_ne hb]; exact r.le.the b f
/-- an object of one's own is shared from here on -/
theorem Rel.freeze (r : Rel G σ H ρ F) {i : Nat} {d0 : List D} (hρ : ρ[i]? = some (.ow (.lst d0))) : ∃ F', Rel G σ H (ρ.set i (.sh (.lst d0))) F' ∧ ∀ b, F b → F' b := by
  have hi : i < σ.length := by rw [r.len]; exact (List.getElem?_eq_some_iff.mp hρ).1
  obtain ⟨a, e, n, nf, o⟩ := r.sl i _ _ (List.getElem?_eq_getElem hi) hρ
  have hσ : σ[i]? = some (some (.ref a)) := by rw [List.getElem?_eq_getElem hi, e]
  have kp : Kp F H H := fun _ _ e _ => e
  refine ⟨F.add a, ⟨by simpa using r.len, fun j y s h1 h2 => ?_, fun j k c d1 d2 h1 h2 h3 h4 => ?_, le_add r.le n o.there⟩, fun _ h => .inl h⟩
  · by_cases hj : i = j
    · subst hj
      rw [hσ] at h1
      rw [List.getElem?_set] at h2
      simp only [if_true] at h2
      split at h2
      · cases h2; cases h1
        exact ⟨_, rfl, (o.mono kp (fun _ h => Or.inl h) fun _ e => e).freeze (.inr rfl)⟩
      · cases h2
    · rw [List.getElem?_set_ne hj] at h2
      have q := r.sl j y s h1 h2
      cases s with
      | no => trivial
      | sh d => obtain ⟨v, e, z⟩ := q; exact ⟨v, e, z.mono kp fun _ h => .inl h⟩
      | ow d2 =>
        obtain ⟨b, e, n', nf', o'⟩ := q
        subst e
        refine ⟨b, rfl, n', fun z => ?_, o'.mono kp (fun _ h => .inl h) fun _ e => e⟩
        rcases z with z | z
        · exact nf' z
        · subst z; exact hj (r.apart i j b _ d2 hσ hρ h1 h2)
  · have e1 : i ≠ j := fun z => by
      subst z
      rw [List.getElem?_set] at h2
      simp only [if_true] at h2
      split at h2 <;> cases h2
    have e2 : i ≠ k := fun z => by
      subst z
      rw [List.getElem?_set] at h4
      simp only [if_true] at h4
      split at h4 <;> cases h4
    rw [List.getElem?_set_ne e1] at h2
    rw [List.getElem?_set_ne e2] at h4
    exact r.apart j k c d1 d2 h1 h2 h3 h4
theorem Rel.freezeD (r : Rel G σ H ρ F) {i : Nat} {es : List (D × D)} (hρ : ρ[i]? = some (.ow (.dic es))) : ∃ a kvs, H a = some (.dK kvs) ∧ ¬ F a ∧ ∀ od, Rel G σ (upd H a (.frz od (.dK kvs))) (ρ.set i (.sh (.dic es))) F := by
  have hi : i < σ.length := by rw [r.len]; exact (List.getElem?_eq_some_iff.mp hρ).1
  obtain ⟨a, e, n, nf, o⟩ := r.sl i _ _ (List.getElem?_eq_getElem hi) hρ
  have hσ : σ[i]? = some (some (.ref a)) := by rw [List.getElem?_eq_getElem hi, e]
  obtain ⟨kvs, ha, z⟩ := o.freezeD nf
  refine ⟨a, kvs, ha, nf, fun od => ?_⟩
  have kp : Kp F H (upd H a (.frz od (.dK kvs))) := kp_own nf ha trivial
  refine ⟨by simpa using r.len, fun j y s h1 h2 => ?_, fun j k c d1 d2 h1 h2 h3 h4 => ?_, ⟨fun b w e9 => ?_, r.le.sub, r.le.new, fun b f => ?_⟩⟩
  · by_cases hj : i = j
    · subst hj
      rw [hσ] at h1
      rw [List.getElem?_set] at h2
      simp only [if_true] at h2
      split at h2
      · cases h2; cases h1
        exact ⟨_, rfl, z od⟩
      · cases h2
    · rw [List.getElem?_set_ne hj] at h2
      have q := r.sl j y s h1 h2
      cases s with
      | no => trivial
      | sh d => obtain ⟨v, e, z⟩ := q; exact ⟨v, e, z.mono kp fun _ h => h⟩
      | ow d2 =>
        obtain ⟨b, e, n', nf', o'⟩ := q
        subst e
        have nb : b ≠ a := fun z => by
          subst z
          exact hj (r.apart i j b _ d2 hσ hρ h1 h2)
        exact ⟨b, rfl, n', nf', o'.mono kp (fun _ h => h) fun w e => by rw [upd_ne nb]; exact e⟩
  · have e1 : i ≠ j := fun z => by
      subst z
      rw [List.getElem?_set] at h2
      simp only [if_true] at h2
      split at h2 <;> cases h2
    have e2 : i ≠ k := fun z => by
      subst z
      rw [List.getElem?_set] at h4
      simp only [if_true] at h4
      split at h4 <;> cases h4
    rw [List.getElem?_set_ne e1] at h2
    rw [List.getElem?_set_ne e2] at h4
    exact r.apart j k c d1 d2 h1 h2 h3 h4
  · have nb : b ≠ a := fun z => by subst z; rw [n] at e9; cases e9
    rw [upd_ne nb]; exact r.le.keep b w e9
  · have nb : b ≠ a := fun z => nf (z ▸ f)
    rw [upd_ne nb]; exact r.le.the b f
end
end VL

namespace VL
open PyProof.Rows PySem L2 PySem.Spec

/-! ### outcomes -/
inductive Md where
  | sh | fr | bw
/-- borrowed: shared, or an object of one's own -/
def RB (K : PySem.W.Frag) (H : Hp) (F : Fro) (v : V) (d : D) : Prop := (∃ a, v = .ref a ∧ ¬ F a ∧ Ow K H F a d) ∨ Sh K H F v d
def Rp (K : PySem.W.Frag) (m : Md) (H H' : Hp) (F' : Fro) (v : V) (d : D) : Prop := match m with
  | .sh => Sh K H' F' v d
  | .fr => (∃ a, v = .ref a ∧ H a = none ∧ ¬ F' a ∧ Ow K H' F' a d) ∨ (d.mut = false ∧ Sh K H' F' v d)
  | .bw => RB K H' F' v d
/-- how an exception stands for a class's name and its fields -/
def Xr (G : VG) (H : Hp) (F : Fro) (cls : Value) (dd : Option Addr) (c : Str) (fs : List (Str × D)) : Prop :=
  G.mg c = some cls ∧ ∃ vs, ShL G.K H F vs (fs.map (·.2)) ∧ ((fs = [] ∧ dd = none) ∨ ∃ a, dd = some a ∧ H a = some (.xd ((fs.map (·.1)).zip vs)))
def Out {α β : Type} (G : VG) (σ : L2.St) (H : Hp) (F : Fro) (r : R α) (S : α → β → Hp → Fro → Prop) (Q : β → Hp → Prop) : Prop := match r with
  | .ok a => ∀ b H' F', Le H F H' F' → S a b H' F' → Q b H'
  | .ex c fs => ∀ cls dd H' F', Le H F H' F' → Xr G H' F' cls dd c fs → G.W cls dd σ H'
  | .bad => False
def tV (G : VG) (m : Md) (f : Lo → R D) : TE := fun σ H Q => ∃ ρ F, Rel G σ H ρ F ∧ Out G σ H F (f ρ) (fun d v H' F' => Rp G.K m H H' F' v d) Q
def tT (G : VG) (f : Lo → R Bool) : TT := fun σ H Q => ∃ ρ F, Rel G σ H ρ F ∧ Out G σ H F (f ρ) (fun a b _ _ => b = a) Q
def tA (G : VG) (f : Lo → R (List D)) : TA := fun σ H Q => ∃ ρ F, Rel G σ H ρ F ∧ Out G σ H F (f ρ) (fun ds vs H' F' => ShL G.K H' F' vs ds) Q
/-- the judgements -/
structure VE (X : Cx) (G : VG) (m : Md) (e : Expr) (f : Lo → R D) : Prop where
  pe : PE X e (tV G m f)
structure VT (X : Cx) (G : VG) (e : Expr) (f : Lo → R Bool) : Prop where
  pt : PT X e (tT G f)
structure VW (X : Cx) (G : VG) (e : Expr) (f : Lo → R Bool) : Prop where
  pw : PW X e (tT G f)
structure VA (X : Cx) (G : VG) (es : List Expr) (f : Lo → R (List D)) : Prop where
  pa : PA X es (tA G f)

section
variable {K : PySem.W.Frag} {G : VG} {σ : L2.St} {H H' H1 : Hp} {F F' F1 : Fro} {ρ : Lo} {m m1 m2 : Md} {v : V} {d : D}
theorem rb_of (h : Rp K m H H' F' v d) : RB K H' F' v d := by
  cases m with
  | sh => exact .inr h
  | fr =>
    rcases h with ⟨a, e, _, nf, o⟩ | ⟨_, h⟩
    · exact .inl ⟨a, e, nf, o⟩
    · exact .inr h
  | bw => exact h
theorem RB.le (h : RB K H F v d) (l : Le H F H' F') : RB K H' F' v d := by
  rcases h with ⟨a, e, nf, o⟩ | h
  · refine .inl ⟨a, e, fun f => ?_, o.mono l.kp l.sub fun u e => l.keep _ u e⟩
    rcases l.new a f with z | z
    · exact nf z
    · exact o.there z
  · exact .inr (h.le l)
theorem Rp.back (h : Rp K m H1 H' F' v d) (k : ∀ a o, H a = some o → H1 a = some o) : Rp K m H H' F' v d := by
  cases m with
  | sh => exact h
  | fr =>
    rcases h with ⟨a, e, n, nf, o⟩ | h
    · exact .inl ⟨a, e, none_of_keep k n, nf, o⟩
    · exact .inr h
  | bw => exact h
theorem Rp.le (h : Rp K m H H1 F1 v d) (l : Le H1 F1 H' F') : Rp K m H H' F' v d := by
  cases m with
  | sh => exact Sh.le h l
  | fr =>
    rcases h with ⟨a, e, n, nf, o⟩ | ⟨hm, h⟩
    · refine .inl ⟨a, e, n, fun f => ?_, o.mono l.kp l.sub fun u e => l.keep _ u e⟩
      rcases l.new a f with z | z
      · exact nf z
      · exact o.there z
    · exact .inr ⟨hm, h.le l⟩
  | bw => exact RB.le h l
/-- a new thing is shared: as it is, or locked -/
theorem fr_sh (h : Rp K .fr H H1 F1 v d) (l : Le H F H1 F1) : (∃ F2, Le H F H1 F2 ∧ Sh K H1 F2 v d ∧ ∀ a, F1 a → F2 a) ∨
    ∃ a kvs, H1 a = some (.dK kvs) ∧ ∀ od, Le H F (upd H1 a (.frz od (.dK kvs))) F1 ∧ Sh K (upd H1 a (.frz od (.dK kvs))) F1 v d := by
  rcases h with ⟨a, e, n, nf, o⟩ | ⟨_, h⟩
  · subst e
    cases d with
    | lst ds => exact .inl ⟨F1.add a, le_add l n o.there, (o.mono (fun _ _ e _ => e) (fun _ h => Or.inl h) fun _ e => e).freeze (.inr rfl), fun _ h => .inl h⟩
    | dic es =>
      obtain ⟨kvs, ha, z⟩ := o.freezeD nf
      refine .inr ⟨a, kvs, ha, fun od => ⟨⟨fun b w e => ?_, l.sub, l.new, fun b f => ?_⟩, z od⟩⟩
      · rw [upd_ne (ne_of_none e n)]; exact l.keep b w e
      · rw [upd_ne (fun z => nf (by rw [← z]; exact f))]; exact l.the b f
    | _ => cases o
  · exact .inl ⟨F1, l, h, fun _ h => h⟩
variable {α β : Type} {r : R α} {S S' : α → β → Hp → Fro → Prop} {Q Q' : β → Hp → Prop}
theorem Out.le (o : Out G σ H F r S Q) (l : Le H F H1 F1) (hS : ∀ a b H' F', S' a b H' F' → S a b H' F') : Out G σ H1 F1 r S' Q := by
  cases r with
  | ok a => exact fun b H' F' l' s => o b H' F' (l.trans l') (hS _ _ _ _ s)
  | ex c fs => exact fun cls dd H' F' l' x => o cls dd H' F' (l.trans l') x
  | bad => exact o
theorem Out.mono (o : Out G σ H F r S Q) (hq : ∀ b H', Q b H' → Q' b H') : Out G σ H F r S Q' := by
  cases r with
  | ok a => exact fun b H' F' l' s => hq _ _ (o b H' F' l' s)
  | ex c fs => exact o
  | bad => exact o
/-- the first part of a computation, and how it goes on -/
theorem Out.bind {γ δ : Type} {f : R γ} {k : γ → R α} {S1 : γ → δ → Hp → Fro → Prop} {Q1 : δ → Hp → Prop} (o : Out G σ H F (f.bind k) S Q) (hS : ∀ H1 F1, Le H F H1 F1 → ∀ a b H' F', S' a b H' F' → S a b H' F')
    (h : ∀ c x H1 F1, f = .ok c → Le H F H1 F1 → S1 c x H1 F1 → (∀ {S'' : α → β → Hp → Fro → Prop}, (∀ a b H' F', S'' a b H' F' → S a b H' F') → Out G σ H1 F1 (k c) S'' Q) → Q1 x H1) : Out G σ H F f S1 Q1 := by
  cases f with
  | ok c => exact fun x H1 F1 l s => h c x H1 F1 rfl l s fun {S''} hs => Out.le (r := k c) o l hs
  | ex c fs => exact o
  | bad => exact o
end

/-! ### weaker readings -/
section
variable {X : Cx} {e : Expr} {st : Stmt} {sts : List Stmt}
theorem pe_imp {t t' : TE} (h : PE X e t) (i : ∀ σ H Q, t' σ H Q → t σ H Q) : PE X e t' := ⟨fun pins s σ H Q I q => h.run pins s σ H Q I (i σ H Q q)⟩
theorem pt_imp {t t' : TT} (h : PT X e t) (i : ∀ σ H Q, t' σ H Q → t σ H Q) : PT X e t' := ⟨fun pins s σ H Q I q => h.run pins s σ H Q I (i σ H Q q)⟩
theorem pw_imp {t t' : TT} (h : PW X e t) (i : ∀ σ H Q, t' σ H Q → t σ H Q) : PW X e t' := ⟨fun w pins s σ H Q I q => h.run w pins s σ H Q I (i σ H Q q)⟩
theorem pa_imp {es : List Expr} {t t' : TA} (h : PA X es t) (i : ∀ σ H Q, t' σ H Q → t σ H Q) : PA X es t' := ⟨fun pos pins s σ H Q I q => h.run pos pins s σ H Q I (i σ H Q q)⟩
theorem ps_imp {t t' : TS} (h : PS X st t) (i : ∀ D σ H, t' D σ H → t D σ H) : PS X st t' := ⟨fun pins s σ H D I q => h.run pins s σ H D I (i D σ H q)⟩
theorem pss_imp {t t' : TS} (h : PSs X sts t) (i : ∀ D σ H, t' D σ H → t D σ H) : PSs X sts t' := ⟨fun pins s σ H D I q => h.run pins s σ H D I (i D σ H q)⟩
end

/-! ### operations by values -/
def R.opt {α : Type} : Option α → R α
  | some a => .ok a
  | none => .bad
/-- what is wanted of an operation's answer -/
def Ans (G : VG) (m : Md) (H : Hp) (F : Fro) (o : Option D) (Q : VK) : Prop := ∃ e, o = some e ∧ ∀ v H' F', Le H F H' F' → Rp G.K m H H' F' v e → Q v H'
def Op1 (G : VG) (m : Md) (r : V → Hp → VK → Prop) (op : D → Option D) : Prop :=
  ∀ (H : Hp) (F : Fro) (x : V) (a : D) (Q : VK), The F H → RB G.K H F x a → Ans G m H F (op a) Q → r x H Q
def Op2 (G : VG) (m : Md) (r : R2) (op : D → D → Option D) : Prop :=
  ∀ (H : Hp) (F : Fro) (x y : V) (a b : D) (Q : VK), The F H → RB G.K H F x a → RB G.K H F y b → Ans G m H F (op a b) Q → r x y H Q
section
variable {X : Cx} {G : VG} {m m1 m2 m3 : Md} {a b c : Expr} {fa fb fc : Lo → R D} {pos : Pos} {σ : L2.St} {H : Hp} {Q : VK}
def b1 (fa : Lo → R D) (op : D → Option D) : Lo → R D := fun ρ => (fa ρ).bind fun x => R.opt (op x)
def b2 (fa fb : Lo → R D) (op : D → D → Option D) : Lo → R D := fun ρ => (fa ρ).bind fun x => (fb ρ).bind fun y => R.opt (op x y)
theorem ans_of {F : Fro} {o : Option D} {r : R D} (e : r = R.opt o) (h : Out G σ H F r (fun d v H' F' => Rp G.K m H H' F' v d) Q) : Ans G m H F o Q := by
  subst e
  cases o with
  | some d => exact ⟨d, rfl, h⟩
  | none => exact h.elim
theorem t1_of {r : V → Hp → VK → Prop} {op : D → Option D} (ho : Op1 G m r op) (h : tV G m (b1 fa op) σ H Q) : tUn r (tV G m1 fa) σ H Q := by
  obtain ⟨ρ, F, rl, o⟩ := h
  refine ⟨ρ, F, rl, Out.bind (S' := fun d v H' F' => Rp G.K m H H' F' v d) o (fun _ _ _ _ _ _ _ h => h) fun d x H1 F1 _ l s k => ?_⟩
  exact ho H1 F1 x d Q l.the (rb_of s) (ans_of rfl (k fun d v H' F' h => h.back l.keep))
theorem t2_of {r : R2} {op : D → D → Option D} (ho : Op2 G m r op) (h : tV G m (b2 fa fb op) σ H Q) : tOp r (tV G m1 fa) (tV G m2 fb) σ H Q := by
  obtain ⟨ρ, F, rl, o⟩ := h
  refine ⟨ρ, F, rl, Out.bind (S' := fun d v H' F' => Rp G.K m H H' F' v d) o (fun _ _ _ _ _ _ _ h => h) fun d x H1 F1 _ l s k => ?_⟩
  have o1 := k (S'' := fun d v H' F' => Rp G.K m H1 H' F' v d) fun d v H' F' h => h.back l.keep
  refine ⟨ρ, F1, rl.step l, Out.bind (S' := fun d v H' F' => Rp G.K m H1 H' F' v d) o1 (fun _ _ _ _ _ _ _ h => h) fun d2 y H2 F2 _ l2 s2 k2 => ?_⟩
  exact ho H2 F2 x y d d2 Q l2.the ((rb_of s).le l2) (rb_of s2) (ans_of rfl (k2 fun d v H' F' h => h.back l2.keep))
theorem ve_op {op : Operator} {r : R2} {f : D → D → Option D} (hp : OpR X (binaryOp op) r) (ho : Op2 G m r f) (ha : VE X G m1 a fa) (hb : VE X G m2 b fb) : VE X G m (.BinOp a op b pos) (b2 fa fb f) :=
  ⟨pe_imp (pe_op hp ha.pe hb.pe) fun _ _ _ h => t2_of ho h⟩
theorem ve_un {op : UnaryOp} {r : V → Hp → VK → Prop} {f : D → Option D} (hp : UnR X (unaryOp op) r) (ho : Op1 G m r f) (ha : VE X G m1 a fa) : VE X G m (.UnaryOp op a pos) (b1 fa f) :=
  ⟨pe_imp (pe_un hp ha.pe) fun _ _ _ h => t1_of ho h⟩
theorem ve_cmp {op : CmpOp} {r : R2} {f : D → D → Option D} (hp : OpR X (compareOp op) r) (ho : Op2 G m r f) (ha : VE X G m1 a fa) (hb : VE X G m2 b fb) (hm : behindInMarks op b = false) : VE X G m (.Compare a [op] [b] pos) (b2 fa fb f) :=
  ⟨pe_imp (pe_cmpR hp ha.pe hb.pe hm) fun _ _ _ h => t2_of ho h⟩
/-- a truth told by a value -/
def tb (f : Lo → R D) : Lo → R Bool := fun ρ => (f ρ).bind fun d => match d with
  | .bl b => .ok b
  | _ => .bad
theorem tb_of {f : Lo → R D} {Q : Bool → Hp → Prop} (h : tT G (tb f) σ H Q) : tV G m f σ H (fun x H' => ∃ k, x = .bl k ∧ Q k H') := by
  obtain ⟨ρ, F, rl, o⟩ := h
  refine ⟨ρ, F, rl, Out.bind (S' := fun a b _ _ => b = a) o (fun _ _ _ _ _ _ _ h => h) fun d x H1 F1 _ l s k => ?_⟩
  have q := k (S'' := fun a b _ _ => b = a) fun _ _ _ _ h => h
  cases d with
  | bl b =>
    have e : x = .bl b := by
      rcases rb_of s with ⟨a, _, _, o⟩ | s
      · cases o
      · cases s; rfl
    exact ⟨b, e, q b H1 F1 (Le.refl l.the) rfl⟩
  | _ => exact q.elim
theorem vt_cmp {op : CmpOp} {r : R2} {f : D → D → Option D} (hp : OpR X (compareOp op) r) (ho : Op2 G .sh r f) (ha : VE X G m1 a fa) (hb : VE X G m2 b fb) (hm : behindInMarks op b = false) : VT X G (.Compare a [op] [b] pos) (tb (b2 fa fb f)) :=
  ⟨pt_imp (pt_cmpR hp ha.pe hb.pe hm) fun _ _ _ h => t2_of ho (tb_of h)⟩
theorem vt_val (ha : VE X G m a fa) (he : ∀ whole, isTrue a X.env whole = (do let v ← whole; standAt a.pos; holding [v] (truthy v)) := by intro _; rfl) : VT X G a (tb fa) :=
  ⟨pt_imp (pt_val ha.pe he) fun _ _ _ h => tb_of h⟩
end
end VL

namespace VL
open PyProof.Rows PySem L2 PySem.Spec

/-! ### names, constants -/
section
variable {X : Cx} {G : VG} {m : Md} {pos : Pos} {σ : L2.St} {H : Hp} {Q : VK}
/-- a slot that is shared -/
def eV (i : Nat) : Lo → R D := fun ρ => match ρ[i]? with
  | some (.sh d) => .ok d
  | _ => .bad
/-- .. or one's own, borrowed -/
def eB (i : Nat) : Lo → R D := fun ρ => match ρ[i]? with
  | some (.sh d) => .ok d
  | some (.ow d) => .ok d
  | _ => .bad
def eC (d : D) : Lo → R D := fun _ => .ok d
theorem Rel.at {ρ : Lo} {F : Fro} (r : Rel G σ H ρ F) {i : Nat} {s : Sl} (e : ρ[i]? = some s) : ∃ x, σ[i]? = some x ∧ RSl G H F x s := by
  have hi : i < σ.length := by rw [r.len]; exact (List.getElem?_eq_some_iff.mp e).1
  exact ⟨σ[i], List.getElem?_eq_getElem hi, r.sl i _ s (List.getElem?_eq_getElem hi) e⟩
theorem eV_of {i : Nat} (h : tV G .sh (eV i) σ H Q) : tVar i σ H Q := by
  obtain ⟨ρ, F, rl, o⟩ := h
  unfold eV at o
  split at o
  · rename_i d e
    obtain ⟨x, ex, v, ev, s⟩ := rl.at e
    subst ev
    exact ⟨v, ex, o v H F (Le.refl rl.le.the) s⟩
  · exact o.elim
theorem eB_of {i : Nat} (h : tV G .bw (eB i) σ H Q) : tVar i σ H Q := by
  obtain ⟨ρ, F, rl, o⟩ := h
  unfold eB at o
  split at o
  · rename_i d e
    obtain ⟨x, ex, v, ev, s⟩ := rl.at e
    subst ev
    exact ⟨v, ex, o v H F (Le.refl rl.le.the) (.inr s)⟩
  · rename_i d e
    obtain ⟨x, ex, a, ea, _, nf, w⟩ := rl.at e
    subst ea
    exact ⟨.ref a, ex, o (.ref a) H F (Le.refl rl.le.the) (.inl ⟨a, rfl, nf, w⟩)⟩
  · exact o.elim
theorem vv (i : Nat) {x : Str} (hN : X.N[i]? = some x := by rfl) (hv : Vis X.env.scope x := by first | exact Or.inl rfl | exact Or.inr (Or.inl rfl) | exact Or.inr (Or.inr rfl)) (hd : (x == ("__debug__" : Str)) = false := by decide)
    (hcd : (x == ("__classdict__" : Str)) = false := by decide) : VE X G .sh (.Name x pos) (eV i) := ⟨pe_imp (pe_var hN hv hd hcd) fun _ _ _ h => eV_of h⟩
theorem vb (i : Nat) {x : Str} (hN : X.N[i]? = some x := by rfl) (hv : Vis X.env.scope x := by first | exact Or.inl rfl | exact Or.inr (Or.inl rfl) | exact Or.inr (Or.inr rfl)) (hd : (x == ("__debug__" : Str)) = false := by decide)
    (hcd : (x == ("__classdict__" : Str)) = false := by decide) : VE X G .bw (.Name x pos) (eB i) := ⟨pe_imp (pe_var hN hv hd hcd) fun _ _ _ h => eB_of h⟩
theorem eC_of {d : D} {v : V} (hs : ∀ H F, Sh G.K H F v d) (hm : d.mut = false) (h : tV G m (eC d) σ H Q) : tC v σ H Q := by
  obtain ⟨ρ, F, rl, o⟩ := h
  refine o v H F (Le.refl rl.le.the) ?_
  cases m with
  | sh => exact hs _ _
  | fr => exact .inr ⟨hm, hs _ _⟩
  | bw => exact .inr (hs _ _)
theorem vi {i j} : VE X G m (.Constant (.int i) j pos) (eC (.int i)) := ⟨pe_imp pe_int fun _ _ _ h => eC_of (fun _ _ => .int i) rfl h⟩
theorem vbl {b j} : VE X G m (.Constant (.bool b) j pos) (eC (.bl b)) := ⟨pe_imp pe_bl fun _ _ _ h => eC_of (fun _ _ => .bl b) rfl h⟩
theorem vn {j} : VE X G m (.Constant .none j pos) (eC .non) := ⟨pe_imp pe_non fun _ _ _ h => eC_of (fun _ _ => .non) rfl h⟩
theorem vs {x j} : VE X G m (.Constant (.str x) j pos) (eC (.str x)) := ⟨pe_imp pe_str fun _ _ _ h => eC_of (fun _ _ => .str x) rfl h⟩
/-- a constant of the module -/
theorem vg {x : Str} {v : V} {u : Value} {d : D} (hg : Gl X x) (hm : X.mg x = some u) (r : RelV v u) (hs : ∀ H F, Sh G.K H F v d) (hmu : d.mut = false) (hd : (x == ("__debug__" : Str)) = false := by decide) : VE X G m (.Name x pos) (eC d) :=
  ⟨pe_imp (pe_glob hg hm r hd) fun _ _ _ h => eC_of hs hmu h⟩
end

/-! ### from new to shared, from both to borrowed -/
section
variable {X : Cx} {G : VG} {m : Md} {e : Expr} {f : Lo → R D}
theorem ve_fs (h : VE X G .fr e f) : VE X G .sh e f := ⟨⟨fun pins s σ H Q I ⟨ρ, F, rl, o⟩ => by
  revert o
  cases ef : f ρ with
  | ok d =>
    intro o
    refine thn (h.pe.run pins s σ H (fun v H' => ∃ F', Le H F H' F' ∧ Rp G.K .fr H H' F' v d) I ⟨ρ, F, rl, by rw [ef]; exact fun v H' F' l r => ⟨F', l, r⟩⟩) fun u s1 ⟨v, H1, I1, rv, F1, l, r⟩ => ?_
    rcases fr_sh r l with ⟨F2, l2, s2, _⟩ | ⟨a, kvs, ha, z⟩
    · exact ⟨v, H1, I1, rv, o v H1 F2 l2 s2⟩
    · obtain ⟨od, I2⟩ := I1.lock ha trivial
      obtain ⟨l2, s2⟩ := z od
      exact ⟨v, _, I2, rv, o v _ F1 l2 s2⟩
  | ex c fs => exact fun o => h.pe.run pins s σ H Q I ⟨ρ, F, rl, by rw [ef]; exact o⟩
  | bad => exact fun o => o.elim⟩⟩
end

/-! ### and, or, not, if else -/
section
variable {X : Cx} {G : VG} {m m1 m2 : Md} {a b c : Expr} {rest : List Expr} {fa fb : Lo → R D} {ga gb gc : Lo → R Bool} {pos : Pos} {σ : L2.St} {H : Hp}
def tAndB (f g : Lo → R Bool) : Lo → R Bool := fun ρ => (f ρ).bind fun b => if b = true then g ρ else .ok false
def tOrB (f g : Lo → R Bool) : Lo → R Bool := fun ρ => (f ρ).bind fun b => if b = true then .ok true else g ρ
def tNotB (f : Lo → R Bool) : Lo → R Bool := fun ρ => (f ρ).bind fun b => .ok (!b)
theorem vw_and1 (h : VT X G a ga) : VW X G (.BoolOp .And [a] pos) ga := ⟨pw_and1 h.pt⟩
theorem vw_or1 (h : VT X G a ga) : VW X G (.BoolOp .Or [a] pos) ga := ⟨pw_or1 h.pt⟩
theorem VW.vt (h : VW X G a ga) : VT X G a ga := ⟨h.pw.pt⟩
theorem vw_and (ha : VT X G a ga) (hb : VW X G (.BoolOp .And (b :: rest) pos) gb) : VW X G (.BoolOp .And (a :: b :: rest) pos) (tAndB ga gb) := ⟨pw_imp (pw_and ha.pt hb.pw) fun σ H Q ⟨ρ, F, rl, o⟩ => by
  refine ⟨ρ, F, rl, Out.bind (S' := fun a b _ _ => b = a) o (fun _ _ _ _ _ _ _ h => h) fun d x H1 F1 _ l s k => ?_⟩
  subst s
  have q := k (S'' := fun a b _ _ => b = a) fun _ _ _ _ h => h
  cases x with
  | true => exact ⟨ρ, F1, rl.step l, q⟩
  | false => exact q false H1 F1 (Le.refl l.the) rfl⟩
theorem vw_or (ha : VT X G a ga) (hb : VW X G (.BoolOp .Or (b :: rest) pos) gb) : VW X G (.BoolOp .Or (a :: b :: rest) pos) (tOrB ga gb) := ⟨pw_imp (pw_or ha.pt hb.pw) fun σ H Q ⟨ρ, F, rl, o⟩ => by
  refine ⟨ρ, F, rl, Out.bind (S' := fun a b _ _ => b = a) o (fun _ _ _ _ _ _ _ h => h) fun d x H1 F1 _ l s k => ?_⟩
  subst s
  have q := k (S'' := fun a b _ _ => b = a) fun _ _ _ _ h => h
  cases x with
  | true => exact q true H1 F1 (Le.refl l.the) rfl
  | false => exact ⟨ρ, F1, rl.step l, q⟩⟩
theorem vt_not (ha : VT X G a ga) : VT X G (.UnaryOp .Not a pos) (tNotB ga) := ⟨pt_imp (pt_not ha.pt) fun σ H Q ⟨ρ, F, rl, o⟩ => by
  refine ⟨ρ, F, rl, Out.bind (S' := fun a b _ _ => b = a) o (fun _ _ _ _ _ _ _ h => h) fun d x H1 F1 _ l s k => ?_⟩
  subst s
  exact k (S'' := fun a b _ _ => b = a) (fun _ _ _ _ h => h) (!x) H1 F1 (Le.refl l.the) rfl⟩
/-- .. as values, all but the last a truth -/
def eAnd (f g : Lo → R D) : Lo → R D := fun ρ => (tb f ρ).bind fun b => if b = true then g ρ else .ok (.bl false)
def eOr (f g : Lo → R D) : Lo → R D := fun ρ => (tb f ρ).bind fun b => if b = true then .ok (.bl true) else g ρ
def eNot (f : Lo → R D) : Lo → R D := fun ρ => (tb f ρ).bind fun b => .ok (.bl !b)
theorem rp_bl {K : PySem.W.Frag} {H H' : Hp} {F' : Fro} (b : Bool) : Rp K m H H' F' (.bl b) (.bl b) := by
  cases m with
  | sh => exact .bl b
  | fr => exact .inr ⟨rfl, .bl b⟩
  | bw => exact .inr (.bl b)
theorem ve_one {op} (h : VE X G m a fa) : VE X G m (.BoolOp op [a] pos) fa := ⟨pe_one h.pe⟩
theorem tV_tb {f : Lo → R D} {g : Bool → R D} {σ : L2.St} {H : Hp} {Q1 : VK} {F : Fro} {ρ : Lo} {α β : Type} {S : α → β → Hp → Fro → Prop} {Q : β → Hp → Prop} {k : Bool → R α} (rl : Rel G σ H ρ F) (o : Out G σ H F ((tb f ρ).bind k) S Q)
    (h : ∀ b H1 F1, tb f ρ = .ok b → Le H F H1 F1 → (∀ {S'' : α → β → Hp → Fro → Prop}, (∀ a b H' F', S'' a b H' F' → S a b H' F') → Out G σ H1 F1 (k b) S'' Q) → Q1 (.bl b) H1) : tV G m1 f σ H Q1 := by
  refine ⟨ρ, F, rl, ?_⟩
  have e : (tb f ρ).bind k = (f ρ).bind fun d => (match d with
    | .bl b => R.ok b
    | _ => R.bad).bind k := by
    unfold tb; cases f ρ <;> rfl
  rw [e] at o
  refine Out.bind (S' := S) o (fun _ _ _ _ _ _ _ h => h) fun d x H1 F1 ed l s kk => ?_
  cases d with
  | bl b =>
    have e : x = .bl b := by
      rcases rb_of s with ⟨a, _, _, o⟩ | s
      · cases o
      · cases s; rfl
    subst e
    exact h b H1 F1 (by unfold tb; rw [ed]; rfl) l fun {S''} hs => kk hs
  | _ => exact (kk (S'' := S) fun _ _ _ _ h => h).elim
theorem ve_and (ha : VE X G m1 a fa) (hb : VE X G m (.BoolOp .And (b :: rest) pos) fb) : VE X G m (.BoolOp .And (a :: b :: rest) pos) (eAnd fa fb) := ⟨pe_imp (pe_and ha.pe hb.pe) fun σ H Q ⟨ρ, F, rl, o⟩ => by
  refine tV_tb (g := fun _ => .bad) rl o fun b H1 F1 _ l k => ⟨b, rfl, ?_⟩
  have q := k (S'' := fun d v H' F' => Rp G.K m H1 H' F' v d) fun d v H' F' h => h.back l.keep
  cases b with
  | true => exact ⟨ρ, F1, rl.step l, q⟩
  | false => exact q _ H1 F1 (Le.refl l.the) (rp_bl false)⟩
theorem ve_or (ha : VE X G m1 a fa) (hb : VE X G m (.BoolOp .Or (b :: rest) pos) fb) : VE X G m (.BoolOp .Or (a :: b :: rest) pos) (eOr fa fb) := ⟨pe_imp (pe_or ha.pe hb.pe) fun σ H Q ⟨ρ, F, rl, o⟩ => by
  refine tV_tb (g := fun _ => .bad) rl o fun b H1 F1 _ l k => ⟨b, rfl, ?_⟩
  have q := k (S'' := fun d v H' F' => Rp G.K m H1 H' F' v d) fun d v H' F' h => h.back l.keep
  cases b with
  | true => exact q _ H1 F1 (Le.refl l.the) (rp_bl true)
  | false => exact ⟨ρ, F1, rl.step l, q⟩⟩
theorem ve_not (ha : VE X G m1 a fa) : VE X G m (.UnaryOp .Not a pos) (eNot fa) := ⟨pe_imp (pe_not ha.pe) fun σ H Q ⟨ρ, F, rl, o⟩ => by
  refine tV_tb (g := fun _ => .bad) rl o fun b H1 F1 _ l k => ⟨b, rfl, ?_⟩
  exact k (S'' := fun d v H' F' => Rp G.K m H1 H' F' v d) (fun d v H' F' h => h.back l.keep) _ H1 F1 (Le.refl l.the) (rp_bl (!b))⟩
def eIf (c : Lo → R Bool) (f g : Lo → R D) : Lo → R D := fun ρ => (c ρ).bind fun b => if b = true then f ρ else g ρ
theorem ve_ifExp (hc : VT X G c gc) (ha : VE X G m a fa) (hb : VE X G m b fb) : VE X G m (.IfExp c a b pos) (eIf gc fa fb) := ⟨pe_imp (pe_ifExp hc.pt ha.pe hb.pe) fun σ H Q ⟨ρ, F, rl, o⟩ => by
  refine ⟨ρ, F, rl, Out.bind (S' := fun d v H' F' => Rp G.K m H H' F' v d) o (fun _ _ _ _ _ _ _ h => h) fun d x H1 F1 _ l s k => ?_⟩
  subst s
  have q := k (S'' := fun d v H' F' => Rp G.K m H1 H' F' v d) fun d v H' F' h => h.back l.keep
  cases x with
  | true => exact ⟨ρ, F1, rl.step l, q⟩
  | false => exact ⟨ρ, F1, rl.step l, q⟩⟩
end

/-! ### argument lists, displays -/
section
variable {X : Cx} {G : VG} {m m1 m2 : Md} {e : Expr} {es : List Expr} {fa : Lo → R D} {ft : Lo → R (List D)} {pos : Pos}
def aNil : Lo → R (List D) := fun _ => .ok []
def aCons (f : Lo → R D) (g : Lo → R (List D)) : Lo → R (List D) := fun ρ => (f ρ).bind fun d => (g ρ).bind fun ds => .ok (d :: ds)
theorem va_nil : VA X G [] aNil := ⟨pa_imp pa_nil fun σ H Q ⟨ρ, F, rl, o⟩ => o [] H F (Le.refl rl.le.the) .nil⟩
theorem va_cons (ha : VE X G .sh e fa) (hr : VA X G es ft) (hs : starEach (e :: es) X.env = (false, eval e X.env) :: starEach es X.env := by rfl) : VA X G (e :: es) (aCons fa ft) := ⟨pa_imp (pa_cons ha.pe hr.pa hs) fun σ H Q ⟨ρ, F, rl, o⟩ => by
  refine ⟨ρ, F, rl, Out.bind (S' := fun ds vs H' F' => ShL G.K H' F' vs ds) o (fun _ _ _ _ _ _ _ h => h) fun d x H1 F1 _ l s k => ?_⟩
  have o1 := k (S'' := fun ds vs H' F' => ShL G.K H' F' vs ds) fun _ _ _ _ h => h
  refine ⟨ρ, F1, rl.step l, Out.bind (S' := fun ds vs H' F' => ShL G.K H' F' vs ds) o1 (fun _ _ _ _ _ _ _ h => h) fun ds xs H2 F2 _ l2 s2 k2 => ?_⟩
  exact k2 (S'' := fun ds vs H' F' => ShL G.K H' F' vs ds) (fun _ _ _ _ h => h) _ H2 F2 (Le.refl l2.the) (.cons (Sh.le s l2) s2)⟩
/-- small enough for a list or tuple -/
def fits (n : Nat) : Bool := decide (n ≤ 16777216)
theorem fits_line {n : Nat} (h : fits n = true) : n ≤ sizeLine := by
  have := of_decide_eq_true h
  have e : sizeLine = 16777216 := sizeLine_eq
  omega
def eTup (f : Lo → R (List D)) : Lo → R D := fun ρ => (f ρ).bind fun ds => if fits ds.length = true then .ok (.tup ds) else .bad
def eLst (f : Lo → R (List D)) : Lo → R D := fun ρ => (f ρ).bind fun ds => if fits ds.length = true then .ok (.lst ds) else .bad
theorem le_new {H : Hp} {F : Fro} {p : Addr} {o : HO} (t : The F H) (h : H p = none) : Le H F (upd H p o) F :=
  ⟨fun a u e => by rw [upd_ne (ne_of_none e h)]; exact e, fun _ h => h, fun _ h => .inl h, fun a f => by
    by_cases ha : a = p
    · subst ha; rw [upd_same]; simp
    · rw [upd_ne ha]; exact t a f⟩
theorem rp_tup {K : PySem.W.Frag} {H H' : Hp} {F' : Fro} {v : V} {ds : List D} (h : Sh K H' F' v (.tup ds)) : Rp K m H H' F' v (.tup ds) := by
  cases m with
  | sh => exact h
  | fr => exact .inr ⟨rfl, h⟩
  | bw => exact .inr h
/-- a new list -/
theorem ans_lst {G : VG} {m : Md} {H : Hp} {F : Fro} {vs : List V} {ds : List D} {p : Addr} (t : The F H) (h : H p = none) (s : ShL G.K H F vs ds) :
    ∃ F', Le H F (upd H p (.lst vs)) F' ∧ Rp G.K m H (upd H p (.lst vs)) F' (.ref p) (.lst ds) ∧ ∀ a, F a → F' a := by
  have l := le_new (o := .lst vs) t h
  have np : ¬ F p := fun z => t p z h
  have w : Ow G.K (upd H p (.lst vs)) F p (.lst ds) := .lst upd_same (s.le l)
  cases m with
  | fr => exact ⟨F, l, .inl ⟨p, rfl, h, np, w⟩, fun _ h => h⟩
  | bw => exact ⟨F, l, .inl ⟨p, rfl, np, w⟩, fun _ h => h⟩
  | sh => exact ⟨F.add p, le_add l h w.there, (w.mono (fun _ _ e _ => e) (fun _ h => Or.inl h) fun _ e => e).freeze (.inr rfl), fun _ h => .inl h⟩
theorem ve_tup {x1} (ha : VA X G es ft) : VE X G m (.Tuple es x1 pos) (eTup ft) := ⟨pe_imp (pe_tup ha.pa) fun σ H Q ⟨ρ, F, rl, o⟩ => by
  refine ⟨ρ, F, rl, Out.bind (S' := fun d v H' F' => Rp G.K m H H' F' v d) o (fun _ _ _ _ _ _ _ h => h) fun ds vs H1 F1 _ l s k => ?_⟩
  have q := k (S'' := fun d v H' F' => Rp G.K m H1 H' F' v d) fun d v H' F' h => h.back l.keep
  by_cases hf : fits ds.length = true
  · rw [if_pos hf] at q
    refine ⟨by rw [s.length]; exact fits_line hf, fun p hp => ?_⟩
    have l2 := le_new (o := .tup vs) l.the hp
    exact q (.ref p) _ F1 l2 (rp_tup (.tup (.inl (.inl upd_same)) (s.le l2)))
  · rw [if_neg hf] at q; exact q.elim⟩
theorem ve_lst (ha : VA X G es ft) : VE X G m (.List es pos) (eLst ft) := ⟨pe_imp (pe_lst ha.pa) fun σ H Q ⟨ρ, F, rl, o⟩ => by
  refine ⟨ρ, F, rl, Out.bind (S' := fun d v H' F' => Rp G.K m H H' F' v d) o (fun _ _ _ _ _ _ _ h => h) fun ds vs H1 F1 _ l s k => ?_⟩
  have q := k (S'' := fun d v H' F' => Rp G.K m H1 H' F' v d) fun d v H' F' h => h.back l.keep
  by_cases hf : fits ds.length = true
  · rw [if_pos hf] at q
    refine ⟨by rw [s.length]; exact fits_line hf, fun p hp => ?_⟩
    obtain ⟨F2, l2, r2, _⟩ := ans_lst (m := m) l.the hp s
    exact q (.ref p) _ F2 l2 r2
  · rw [if_neg hf] at q; exact q.elim⟩
/-- built-ins by values: one, two arguments -/
theorem ve_b1 {x : Str} {p : Pos} {id : String} {r : List V → Hp → VK → Prop} {f : D → Option D} (hc : CallR X (.builtin id) r) (ho : Op1 G m (fun x => r [x]) f) (hg : Gl X x) (hm : X.mg x = none) (hv : bootBuiltins x = some (.builtin id)) (ha : VE X G m1 e fa)
    (hn : x ≠ "__name__" := by decide) (hdb : (x == ("__debug__" : Str)) = false := by decide)
    (he : starEach [e] X.env = (false, eval e X.env) :: starEach [] X.env := by rfl) : VE X G m (.Call (.Name x p) [e] [] pos) (b1 fa f) :=
  ⟨pe_imp (pe_callB hc hg hm hv (pa_cons ha.pe pa_nil he) hn hdb he rfl) fun _ _ _ h => t1_of (m1 := m1) ho h⟩
theorem ve_ty1 {x : Str} {p : Pos} {T : String} {r : List V → Hp → VK → Prop} {f : D → Option D} (hc : CallR X (.type T) r) (ho : Op1 G m (fun x => r [x]) f) (hg : Gl X x) (hm : X.mg x = none) (hv : bootBuiltins x = some (.type T)) (ha : VE X G m1 e fa)
    (hn : x ≠ "__name__" := by decide) (hdb : (x == ("__debug__" : Str)) = false := by decide)
    (he : starEach [e] X.env = (false, eval e X.env) :: starEach [] X.env := by rfl) : VE X G m (.Call (.Name x p) [e] [] pos) (b1 fa f) :=
  ⟨pe_imp (pe_callTy hc hg hm hv (pa_cons ha.pe pa_nil he) hn hdb he rfl) fun _ _ _ h => t1_of (m1 := m1) ho h⟩
theorem ve_b2 {x : Str} {p : Pos} {id : String} {e2 : Expr} {fb : Lo → R D} {r : List V → Hp → VK → Prop} {f : D → D → Option D} (hc : CallR X (.builtin id) r) (ho : Op2 G m (fun x y => r [x, y]) f) (hg : Gl X x) (hm : X.mg x = none) (hv : bootBuiltins x = some (.builtin id))
    (ha : VE X G m1 e fa) (hb : VE X G m2 e2 fb)
    (hn : x ≠ "__name__" := by decide) (hdb : (x == ("__debug__" : Str)) = false := by decide)
    (he : starEach [e, e2] X.env = (false, eval e X.env) :: starEach [e2] X.env := by rfl) (he2 : starEach [e2] X.env = (false, eval e2 X.env) :: starEach [] X.env := by rfl) (hpl : (backTo pos (starEach [e2] X.env)).any (·.1) = false := by rfl) :
    VE X G m (.Call (.Name x p) [e, e2] [] pos) (b2 fa fb f) :=
  ⟨pe_imp (pe_callB hc hg hm hv (pa_cons ha.pe (pa_cons hb.pe pa_nil he2) he) hn hdb he hpl) fun _ _ _ h => t2_of (m1 := m1) (m2 := m2) ho h⟩
end
end VL

namespace VL
open PyProof.Rows PySem L2 PySem.Spec

/-! ### what a represented value looks like -/
def isNon : D → Bool
  | .non => true
  | _ => false
section
variable {K : PySem.W.Frag} {H H' : Hp} {F F' : Fro} {v : V} {m : Md}
theorem rb_int {i : Int} (h : RB K H F v (.int i)) : v = .int i := by
  rcases h with ⟨a, _, _, o⟩ | h
  · cases o
  · cases h; rfl
theorem rb_bl {i : Bool} (h : RB K H F v (.bl i)) : v = .bl i := by
  rcases h with ⟨a, _, _, o⟩ | h
  · cases o
  · cases h; rfl
theorem rb_str {i : Str} (h : RB K H F v (.str i)) : v = .str i := by
  rcases h with ⟨a, _, _, o⟩ | h
  · cases o
  · cases h; rfl
theorem rb_non (h : RB K H F v .non) : v = .non := by
  rcases h with ⟨a, _, _, o⟩ | h
  · cases o
  · cases h; rfl
theorem rb_lst {ds : List D} (h : RB K H F v (.lst ds)) : ∃ a xs, v = .ref a ∧ LsV K H a xs ∧ ShL K H F xs ds := by
  rcases h with ⟨a, e, _, o⟩ | h
  · cases o with
    | lst h r => exact ⟨a, _, e, .inl h, r⟩
  · cases h with
    | lst h r => exact ⟨_, _, rfl, h.ls, r⟩
theorem rb_tup {ds : List D} (h : RB K H F v (.tup ds)) : ∃ a xs, v = .ref a ∧ SqT K H a xs ∧ ShL K H F xs ds := by
  rcases h with ⟨a, e, _, o⟩ | h
  · cases o
  · cases h with
    | tup h r => exact ⟨_, _, rfl, h, r⟩
theorem rb_dic {es : List (D × D)} (h : RB K H F v (.dic es)) : ∃ a kvs ds, v = .ref a ∧ Rd H a (.dK kvs) ∧ ShL K H F (kvs.map (·.2)) ds ∧ es = (kvs.map fun p => kD p.1).zip ds := by
  rcases h with ⟨a, e, _, o⟩ | h
  · cases o with
    | dic h r => exact ⟨a, _, _, e, .inl h, r, rfl⟩
  · cases h with
    | dic h r => exact ⟨_, _, _, rfl, .inr ⟨_, h⟩, r, rfl⟩
/-- whether it is None -/
theorem rb_isNon {d : D} (h : RB K H F v d) : decide (v = .non) = isNon d := by
  cases d with
  | non => rw [rb_non h]; rfl
  | bl b => rw [rb_bl h]; rfl
  | int b => rw [rb_int h]; rfl
  | str b => rw [rb_str h]; rfl
  | lst ds => obtain ⟨a, _, e, _⟩ := rb_lst h; rw [e]; rfl
  | tup ds => obtain ⟨a, _, e, _⟩ := rb_tup h; rw [e]; rfl
  | dic ds => obtain ⟨a, _, _, e, _⟩ := rb_dic h; rw [e]; rfl
  | obj c fs =>
    rcases h with ⟨a, _, _, o⟩ | h
    · cases o
    · cases h
theorem rp_int (i : Int) : Rp K m H H' F' (.int i) (.int i) := by
  cases m with
  | sh => exact .int i
  | fr => exact .inr ⟨rfl, .int i⟩
  | bw => exact .inr (.int i)
theorem rp_str (i : Str) : Rp K m H H' F' (.str i) (.str i) := by
  cases m with
  | sh => exact .str i
  | fr => exact .inr ⟨rfl, .str i⟩
  | bw => exact .inr (.str i)
end

/-! ### the data of Python that == and repr speak of -/
mutual
def py : D → PyData
  | .non => .none
  | .bl b => .bool b
  | .int i => .int i
  | .str x => .str x
  | .lst xs => .list (pyL xs)
  | .tup xs => .tuple (pyL xs)
  | .dic _ => .dict []
  | .obj _ _ => .dict []
def pyL : List D → List PyData
  | [] => []
  | d :: ds => py d :: pyL ds
end
theorem pyL_map : ∀ ds : List D, pyL ds = ds.map py
  | [] => rfl
  | d :: ds => by rw [pyL, pyL_map ds]; rfl
/-- nothing but None, truths, ints, texts, lists, tuples -/
def D.sha (d : D) : Bool := SeqAt.shaped (py d)
section
variable {K : PySem.W.Frag} {H : Hp} {F : Fro}
mutual
theorem Sh.dp : ∀ {v : V} {d : D}, Sh K H F v d → (py d).canLay0 = true → Dp K H v (py d)
  | _, _, .non, _ => .non
  | _, _, .bl b, _ => .bl b
  | _, _, .int i, _ => .int i
  | _, _, .str x, _ => .str x
  | _, _, .lst h r, c => .lst h.sql (ShL.dp r (by simpa [py, PyData.canLay0] using c))
  | _, _, .tup h r, c => .tup h (ShL.dp r (by simpa [py, PyData.canLay0] using c))
  | _, _, .dic _ _, c => by simp [py, PyData.canLay0] at c
theorem ShL.dp : ∀ {vs : List V} {ds : List D}, ShL K H F vs ds → PyData.canLayAll0 (pyL ds) = true → DpAll K H vs (pyL ds)
  | _, _, .nil, _ => .nil
  | _, _, .cons h r, c => by
    rw [pyL, PyData.canLayAll0, Bool.and_eq_true] at c
    exact .cons (Sh.dp h c.1) (ShL.dp r c.2)
end
theorem RB.dp {v : V} {d : D} (h : RB K H F v d) (c : d.sha = true) : Dp K H v (py d) := by
  have c0 : (py d).canLay0 = true := SeqAt.canLay_of_shaped c
  rcases h with ⟨a, e, _, o⟩ | h
  · subst e
    cases o with
    | lst h r => exact .lst (.inl (.inl h)) (ShL.dp r (by simpa [py, PyData.canLay0] using c0))
    | dic h r => simp [py, PyData.canLay0] at c0
  · exact h.dp c0
end
def D.eqv (a b : D) : Bool := PyData.eqv (py a) (py b)

/-! ### operators -/
def opAdd : D → D → Option D
  | .int i, .int j => some (.int (i + j))
  | .str x, .str y => if fits (x.length + y.length) = true then some (.str (x ++ y)) else none
  | .lst xs, .lst ys => if fits (xs.length + ys.length) = true then some (.lst (xs ++ ys)) else none
  | .tup xs, .tup ys => if fits (xs.length + ys.length) = true then some (.tup (xs ++ ys)) else none
  | _, _ => none
def opSub : D → D → Option D
  | .int i, .int j => some (.int (i - j))
  | _, _ => none
def small64 (i : Int) : Bool := decide (-(2 ^ 64) < i ∧ i < 2 ^ 64)
def opMul : D → D → Option D
  | .int i, .int j => if (small64 i || small64 j) = true then some (.int (i * j)) else none
  | _, _ => none
def opDiv : D → D → Option D
  | .int i, .int j => if decide (0 < j ∧ j < 1073741824) = true then some (.int (i / j)) else none
  | _, _ => none
def opMod : D → D → Option D
  | .int i, .int j => if decide (0 < j) = true then some (.int (i % j)) else none
  | _, _ => none
def opPow : D → D → Option D
  | .int i, .int j => if decide (0 ≤ j ∧ j ≤ 1000000 ∧ i.natAbs < 2 ^ 64) = true then some (.int (i ^ j.toNat)) else none
  | _, _ => none
def opNeg : D → Option D
  | .int i => some (.int (-i))
  | _ => none
def twoS : D → D → Bool
  | .str _, .str _ => true
  | _, _ => false
/-- two tuples, one of them empty -/
def emT : D → D → Bool
  | .tup xs, .tup ys => xs.isEmpty || ys.isEmpty
  | _, _ => false
/-- two lists, one of them empty -/
def emL : D → D → Bool
  | .lst xs, .lst ys => xs.isEmpty || ys.isEmpty
  | _, _ => false
def opEq (a b : D) : Option D := if ((((a.sha && b.sha) || twoS a b) || emT a b) || emL a b) = true then some (.bl (a.eqv b)) else none
def opNe (a b : D) : Option D := if ((a.sha && b.sha) || twoS a b) = true then some (.bl (!a.eqv b)) else none
def opLt : D → D → Option D
  | .int i, .int j => some (.bl (decide (i < j)))
  | _, _ => none
def opLe : D → D → Option D
  | .int i, .int j => some (.bl (decide (i ≤ j)))
  | _, _ => none
def opGt : D → D → Option D
  | .int i, .int j => some (.bl (decide (j < i)))
  | _, _ => none
def opGe : D → D → Option D
  | .int i, .int j => some (.bl (decide (j ≤ i)))
  | _, _ => none
def oneSign (x : Str) : Option Nat := match x.cps.toList with
  | [c] => some c
  | _ => none
def isIn (a : D) : D → Option Bool
  | .str z => match a with
    | .str x => (oneSign x).map fun c => decide (c ∈ z.cps.toList)
    | _ => none
  | .lst ds => if (a.sha && (D.lst ds).sha) = true then some (ds.any fun z => z.eqv a) else none
  | .tup ds => if (a.sha && (D.tup ds).sha) = true then some (ds.any fun z => z.eqv a) else none
  | _ => none
def opIn (a b : D) : Option D := (isIn a b).map D.bl
def opNotIn (a b : D) : Option D := (isIn a b).map fun k => D.bl !k
def opIs : D → D → Option D
  | .bl a, .bl b => some (.bl (decide (a = b)))
  | a, .non => some (.bl (isNon a))
  | _, _ => none
def opIsNot : D → D → Option D
  | .bl a, .bl b => some (.bl (!decide (a = b)))
  | a, .non => some (.bl (!isNon a))
  | _, _ => none

/-! ### lists joined: any two lists that may be read -/
section
variable {X : Cx} {pins : List (Addr × Obj)} {σ : L2.St} {H : Hp} {s : Shared} {a : Addr} {xs : List V}
theorem inv_ls (I : Inv X pins σ H s) (h : LsV X.K H a xs) : xs.length ≤ sizeLine ∧ ∃ (its : List Value) (n : Nat), Vals xs its ∧ s.heap.get? a = some { cls := .type "list", data := .seq its.toArray n } := by
  rcases h with h | ⟨its, n, h⟩ | ⟨its, n, h, z, r⟩
  · obtain ⟨z, its, n, r, e⟩ := I.hok a _ h
    exact ⟨z, its, n, r, e⟩
  · obtain ⟨e, z, js, k, r, e2⟩ := I.hok a _ h
    rw [e] at e2
    have e3 := Option.some.inj e2
    injection e3 with _ _ e4 _
    injection e4 with e5 _
    exact ⟨z, js, n, r, by rw [← e5]; exact e⟩
  · refine ⟨?_, its.toList, n, r, ?_⟩
    · have q := r.length
      simp only [Array.length_toList] at q
      omega
    · exact I.kIn a _ h
def rCatL (K : PySem.W.Frag) : R2 := fun x y H Q => ∃ a b xs ys, x = .ref a ∧ y = .ref b ∧ LsV K H a xs ∧ LsV K H b ys ∧ xs.length + ys.length ≤ sizeLine ∧ ∀ p, H p = none → Q (.ref p) (upd H p (.lst (xs ++ ys)))
theorem op_catL : OpR X (binaryOp .Add) (rCatL X.K) := by
  intro pins s σ H x y v u Q I r1 r2 ⟨a, b, xs, ys, e1, e2, h1, h2, hz, q⟩
  subst e1 e2
  cases r1
  cases r2
  obtain ⟨z1, i1, n1, v1, g1⟩ := inv_ls I h1
  obtain ⟨z2, i2, n2, v2, g2⟩ := inv_ls I h2
  have k1 := v1.length
  have k2 := v2.length
  refine PySem.P.add_list g1 g2 ?_ (by simp only [List.size_toArray]; omega)
  rw [show i1.toArray ++ i2.toArray = (i1 ++ i2).toArray from List.append_toArray _ _]
  exact ⟨.ref _, _, I.lnew (t' := s.toks) (v1.append v2) (by simp only [List.length_append]; omega), rfl, q _ I.fresh⟩
/-- x in a tuple of data of any depth -/
def rInT (K : PySem.W.Frag) (neg : Bool) : R2 := fun x y H Q => ∃ d ds, Dp K H x d ∧ Dp K H y (.tuple ds) ∧ SeqAt.shaped d = true ∧ SeqAt.shaped (.tuple ds) = true ∧ Q (.bl (if neg then !ds.any fun z => PyData.eqv z d else ds.any fun z => PyData.eqv z d)) H
theorem op_inT (hu : X.A.units + 65 < cLine) : OpR X (compareOp .In) (rInT X.K false) := by
  intro pins s σ H x y v u Q I r1 r2 ⟨d, ds, hd, he, sd, se, q⟩
  obtain ⟨a1, q1⟩ := Dp.reads I d x v hd r1
  obtain ⟨a2, q2⟩ := Dp.reads I (.tuple ds) y u he r2
  exact SeqAt.in_tuple_reads q2 q1 (SeqAt.canLay_of_shaped se) (SeqAt.canLay_of_shaped sd) (room_in_shaped sd hu) ⟨.bl _, H, I, rfl, q⟩
theorem op_notInT (hu : X.A.units + 65 < cLine) : OpR X (compareOp .NotIn) (rInT X.K true) := by
  intro pins s σ H x y v u Q I r1 r2 ⟨d, ds, hd, he, sd, se, q⟩
  obtain ⟨a1, q1⟩ := Dp.reads I d x v hd r1
  obtain ⟨a2, q2⟩ := Dp.reads I (.tuple ds) y u he r2
  exact SeqAt.notIn_tuple_reads q2 q1 (SeqAt.canLay_of_shaped se) (SeqAt.canLay_of_shaped sd) (room_in_shaped sd hu) ⟨.bl _, H, I, rfl, q⟩
end
/-! ### the operators' rules -/
section
variable {G : VG} {H : Hp} {F : Fro} {m : Md} {Q : VK}
theorem ans_ok {H : Hp} {F : Fro} {e : D} {v : V} (t : The F H) (h : Ans G m H F (some e) Q) (r : Rp G.K m H H F v e) : Q v H := by
  obtain ⟨e', h1, h2⟩ := h
  cases h1
  exact h2 v H F (Le.refl t) r
theorem ans_no (h : Ans G m H F none Q) : False := by
  obtain ⟨_, h1, _⟩ := h
  cases h1
theorem ans_if {c : Bool} {e : D} (h : Ans G m H F (if c = true then some e else none) Q) : c = true ∧ Ans G m H F (some e) Q := by
  cases c with
  | true => exact ⟨rfl, h⟩
  | false => exact (ans_no h).elim
theorem ans_new {e : List D} {xs : List V} (t : The F H) (s : ShL G.K H F xs e) (h : Ans G m H F (some (.lst e)) Q) : ∀ p, H p = none → Q (.ref p) (upd H p (.lst xs)) := fun p hp => by
  obtain ⟨e', h1, h2⟩ := h
  cases h1
  obtain ⟨F', l, r, _⟩ := ans_lst (m := m) t hp s
  exact h2 _ _ F' l r
theorem ans_newT {e : List D} {xs : List V} (t : The F H) (s : ShL G.K H F xs e) (h : Ans G m H F (some (.tup e)) Q) : ∀ p, H p = none → Q (.ref p) (upd H p (.tup xs)) := fun p hp => by
  obtain ⟨e', h1, h2⟩ := h
  cases h1
  have l := le_new (o := .tup xs) t hp
  exact h2 _ _ F l (rp_tup (.tup (.inl (.inl upd_same)) (s.le l)))
def rAdd2 (K : PySem.W.Frag) : R2 := fun x y H Q => (rI0 (fun i j => .int (i + j)) x y H Q ∨ (∃ i j, x = .str i ∧ y = .str j ∧ i.length + j.length ≤ sizeLine ∧ Q (.str (i ++ j)) H)) ∨ (rCatL K x y H Q ∨ rCatA K x y H Q)
theorem or_add {X : Cx} : OpR X (binaryOp .Add) (rAdd2 X.K) := (op_add.or op_add_str).or (op_catL.or op_catA)
theorem o2_add : Op2 G m (rAdd2 G.K) opAdd := by
  intro H F x y a b Q t ra rb h
  cases a <;> cases b <;> first
    | exact (ans_no h).elim
    | skip
  · exact .inl (.inl ⟨_, _, rb_int ra, rb_int rb, ans_ok t h (rp_int _)⟩)
  · obtain ⟨hf, h⟩ := ans_if h
    exact .inl (.inr ⟨_, _, rb_str ra, rb_str rb, fits_line hf, ans_ok t h (rp_str _)⟩)
  · obtain ⟨hf, h⟩ := ans_if h
    obtain ⟨a, xs, ea, la, sa⟩ := rb_lst ra
    obtain ⟨b, ys, eb, lb, sb⟩ := rb_lst rb
    exact .inr (.inl ⟨a, b, xs, ys, ea, eb, la, lb, by rw [sa.length, sb.length]; exact fits_line hf, ans_new t (sa.append sb) h⟩)
  · obtain ⟨hf, h⟩ := ans_if h
    obtain ⟨a, xs, ea, la, sa⟩ := rb_tup ra
    obtain ⟨b, ys, eb, lb, sb⟩ := rb_tup rb
    subst ea eb
    refine .inr (.inr ⟨a, b, xs, ys, rfl, rfl, la, lb, by rw [sa.length, sb.length]; exact fits_line hf, fun e => ?_, fun n e => ?_, fun _ _ => ans_newT t (sa.append sb) h⟩)
    · subst e
      cases sa
      exact ans_ok t h (rp_tup (.tup lb sb))
    · subst e
      cases sb
      exact ans_ok t h (rp_tup (.tup la (by rw [List.append_nil]; exact sa)))
theorem o2_sub : Op2 G m (rI0 fun i j => .int (i - j)) opSub := by
  intro H F x y a b Q t ra rb h
  cases a <;> cases b <;> first
    | exact (ans_no h).elim
    | exact ⟨_, _, rb_int ra, rb_int rb, ans_ok t h (rp_int _)⟩
theorem o2_mul : Op2 G m (rI CMul fun i j => .int (i * j)) opMul := by
  intro H F x y a b Q t ra rb h
  cases a <;> cases b <;> first
    | exact (ans_no h).elim
    | skip
  obtain ⟨hf, h⟩ := ans_if h
  rw [Bool.or_eq_true] at hf
  exact ⟨_, _, rb_int ra, rb_int rb, hf.elim (fun z => .inl (of_decide_eq_true z)) fun z => .inr (of_decide_eq_true z), ans_ok t h (rp_int _)⟩
theorem o2_div : Op2 G m (rI CDiv fun i j => .int (i / j)) opDiv := by
  intro H F x y a b Q t ra rb h
  cases a <;> cases b <;> first
    | exact (ans_no h).elim
    | skip
  obtain ⟨hf, h⟩ := ans_if h
  have hz := of_decide_eq_true hf
  exact ⟨_, _, rb_int ra, rb_int rb, hz, ans_ok t h (rp_int _)⟩
theorem o2_mod : Op2 G m (rI (fun _ j => 0 < j) fun i j => .int (i % j)) opMod := by
  intro H F x y a b Q t ra rb h
  cases a <;> cases b <;> first
    | exact (ans_no h).elim
    | skip
  obtain ⟨hf, h⟩ := ans_if h
  have hz := of_decide_eq_true hf
  exact ⟨_, _, rb_int ra, rb_int rb, hz, ans_ok t h (rp_int _)⟩
theorem o2_pow : Op2 G m (rI CPow fun i j => .int (i ^ j.toNat)) opPow := by
  intro H F x y a b Q t ra rb h
  cases a <;> cases b <;> first
    | exact (ans_no h).elim
    | skip
  obtain ⟨hf, h⟩ := ans_if h
  have hz := of_decide_eq_true hf
  exact ⟨_, _, rb_int ra, rb_int rb, hz, ans_ok t h (rp_int _)⟩
theorem o1_neg : Op1 G m (rU fun i => .int (-i)) opNeg := by
  intro H F x a Q t ra h
  cases a <;> first
    | exact (ans_no h).elim
    | exact ⟨_, rb_int ra, ans_ok t h (rp_int _)⟩
theorem o2_cmp {p : Int → Int → Bool} {f : D → D → Option D} (h1 : ∀ i j, f (.int i) (.int j) = some (.bl (p i j))) (h2 : ∀ a b, f a b ≠ none → ∃ i j, a = .int i ∧ b = .int j) : Op2 G m (rI0 fun i j => .bl (p i j)) f := by
  intro H F x y a b Q t ra rb h
  have hn : f a b ≠ none := fun z => by rw [z] at h; exact ans_no h
  obtain ⟨i, j, rfl, rfl⟩ := h2 a b hn
  rw [h1] at h
  exact ⟨_, _, rb_int ra, rb_int rb, ans_ok t h (rp_bl _)⟩
theorem o2_lt : Op2 G m (rI0 fun i j => .bl (decide (i < j))) opLt := o2_cmp (fun _ _ => rfl) fun a b h => by cases a <;> cases b <;> first | exact absurd rfl h | exact ⟨_, _, rfl, rfl⟩
theorem o2_le : Op2 G m (rI0 fun i j => .bl (decide (i ≤ j))) opLe := o2_cmp (fun _ _ => rfl) fun a b h => by cases a <;> cases b <;> first | exact absurd rfl h | exact ⟨_, _, rfl, rfl⟩
theorem o2_gt : Op2 G m (rI0 fun i j => .bl (decide (j < i))) opGt := o2_cmp (fun _ _ => rfl) fun a b h => by cases a <;> cases b <;> first | exact absurd rfl h | exact ⟨_, _, rfl, rfl⟩
theorem o2_ge : Op2 G m (rI0 fun i j => .bl (decide (j ≤ i))) opGe := o2_cmp (fun _ _ => rfl) fun a b h => by cases a <;> cases b <;> first | exact absurd rfl h | exact ⟨_, _, rfl, rfl⟩
def rEmT (K : PySem.W.Frag) : R2 := fun x y H Q => ∃ a b xs ys, x = .ref a ∧ y = .ref b ∧ SqT K H a xs ∧ SqT K H b ys ∧ (xs = [] ∨ ys = []) ∧ Q (.bl (xs.isEmpty && ys.isEmpty)) H
theorem op_emT {X : Cx} (hu : X.A.units < cLine) : OpR X (compareOp .Eq) (rEmT X.K) := by
  intro pins s σ H x y v u Q I r1 r2 ⟨a, b, xs, ys, e1, e2, h1, h2, hz, q⟩
  subst e1 e2
  cases r1
  cases r2
  obtain ⟨i1, v1, g1, _⟩ := I.tuple h1
  obtain ⟨i2, v2, g2, _⟩ := I.tuple h2
  have l1 := v1.length
  have l2 := v2.length
  refine SeqAt.eq_tupleAt (e := fun _ => true) g1 g2 hu (fun j k1 k2 => ?_) ⟨.bl _, H, I, ?_, q⟩
  · rw [List.size_toArray] at k1 k2
    rcases hz with rfl | rfl
    · simp at l1; omega
    · simp at l2; omega
  · show Value.bool _ = Value.bool _
    congr 1
    rw [List.size_toArray, List.size_toArray, ← l1, ← l2]
    rcases hz with rfl | rfl
    · cases ys <;> rfl
    · cases xs <;> rfl
def rEmL (K : PySem.W.Frag) : R2 := fun x y H Q => ∃ a b xs ys, x = .ref a ∧ y = .ref b ∧ SqL K H a xs ∧ SqL K H b ys ∧ (xs = [] ∨ ys = []) ∧ Q (.bl (xs.isEmpty && ys.isEmpty)) H
theorem op_emL {X : Cx} (hu : X.A.units < cLine) : OpR X (compareOp .Eq) (rEmL X.K) := by
  intro pins s σ H x y v u Q I r1 r2 ⟨a, b, xs, ys, e1, e2, h1, h2, hz, q⟩
  subst e1 e2
  cases r1
  cases r2
  obtain ⟨i1, v1, g1, _⟩ := I.list h1
  obtain ⟨i2, v2, g2, _⟩ := I.list h2
  have l1 := v1.length
  have l2 := v2.length
  by_cases hs : i1.length = i2.length
  · refine SeqAt.eq_listAt (e := fun _ => true) g1.isList g2.isList (by simpa using hs) hu (fun j k1 k2 => ?_) ⟨.bl _, H, I, ?_, q⟩
    · rw [List.size_toArray] at k1 k2
      rcases hz with rfl | rfl
      · simp at l1; omega
      · simp at l2; omega
    · show Value.bool _ = Value.bool _
      congr 1
      have e1 : xs = [] := by
        rcases hz with rfl | rfl
        · rfl
        · exact List.length_eq_zero_iff.mp (by simp at l2; omega)
      have e2 : ys = [] := by
        rcases hz with rfl | rfl
        · exact List.length_eq_zero_iff.mp (by simp at l1; omega)
        · rfl
      subst e1 e2
      exact List.all_eq_true.mpr fun _ _ => rfl
  · refine SeqAt.eq_list_lengthsAt g1.isList g2.isList (by simpa using hs) hu ⟨.bl _, H, I, ?_, q⟩
    show Value.bool _ = Value.bool _
    congr 1
    cases xs with
    | nil =>
      cases ys with
      | nil => simp at l1 l2; exact absurd (by omega) hs
      | cons => rfl
    | cons => rfl
def rEq3 (K : PySem.W.Frag) : R2 := fun x y H Q => ((rEqD K x y H Q ∨ rEq x y H Q) ∨ rEmT K x y H Q) ∨ rEmL K x y H Q
def rNe3 (K : PySem.W.Frag) : R2 := fun x y H Q => rNeD K x y H Q ∨ rNe x y H Q
theorem or_eq3 {X : Cx} (hu : X.A.units + 64 < cLine) : OpR X (compareOp .Eq) (rEq3 X.K) := (((op_eqD hu).or op_eq).or (op_emT (by omega))).or (op_emL (by omega))
theorem or_ne3 {X : Cx} (hu : X.A.units + 64 < cLine) : OpR X (compareOp .NotEq) (rNe3 X.K) := (op_neD hu).or op_ne
theorem two_s {a b : D} (h : twoS a b = true) : ∃ x y, a = .str x ∧ b = .str y := by
  cases a <;> cases b <;> first | exact ⟨_, _, rfl, rfl⟩ | cases h
theorem em_t {a b : D} (h : emT a b = true) : ∃ xs ys, a = .tup xs ∧ b = .tup ys ∧ (xs = [] ∨ ys = []) ∧ a.eqv b = (xs.isEmpty && ys.isEmpty) := by
  cases a <;> cases b <;> first
    | (cases h; done)
    | skip
  rename_i xs ys
  have h : (xs.isEmpty || ys.isEmpty) = true := h
  rw [Bool.or_eq_true, List.isEmpty_iff, List.isEmpty_iff] at h
  refine ⟨xs, ys, rfl, rfl, h, ?_⟩
  rcases h with rfl | rfl
  · cases ys <;> simp [D.eqv, py, pyL, PyData.eqv, PyData.eqvAll]
  · cases xs <;> simp [D.eqv, py, pyL, PyData.eqv, PyData.eqvAll]
theorem em_l {a b : D} (h : emL a b = true) : ∃ xs ys, a = .lst xs ∧ b = .lst ys ∧ (xs = [] ∨ ys = []) ∧ a.eqv b = (xs.isEmpty && ys.isEmpty) := by
  cases a <;> cases b <;> first
    | (cases h; done)
    | skip
  rename_i xs ys
  have h : (xs.isEmpty || ys.isEmpty) = true := h
  rw [Bool.or_eq_true, List.isEmpty_iff, List.isEmpty_iff] at h
  refine ⟨xs, ys, rfl, rfl, h, ?_⟩
  rcases h with rfl | rfl
  · cases ys <;> simp [D.eqv, py, pyL, PyData.eqv, PyData.eqvAll]
  · cases xs <;> simp [D.eqv, py, pyL, PyData.eqv, PyData.eqvAll]
theorem o2_eq : Op2 G m (rEq3 G.K) opEq := by
  intro H F x y a b Q t ra rb h
  obtain ⟨hf, h0⟩ := ans_if h
  clear h
  have h := h0
  clear h0
  rw [Bool.or_eq_true, Bool.or_eq_true, Bool.or_eq_true, Bool.and_eq_true] at hf
  rcases hf with ((hf | hf) | hf) | hf
  · exact .inl (.inl (.inl ⟨_, _, ra.dp hf.1, rb.dp hf.2, hf.1, hf.2, ans_ok t h (rp_bl _)⟩))
  · obtain ⟨s, z, e1, e2⟩ := two_s hf
    subst e1 e2
    rw [rb_str ra, rb_str rb]
    exact .inl (.inl (.inr ⟨rfl, by rw [dec_str]; exact ans_ok t h (rp_bl _)⟩))
  · obtain ⟨xs, ys, e1, e2, hz, e3⟩ := em_t hf
    rw [e3] at h
    subst e1 e2
    obtain ⟨p, vs, e1, l1, s1⟩ := rb_tup ra
    obtain ⟨q, ws, e2, l2, s2⟩ := rb_tup rb
    subst e1 e2
    have k1 : vs.isEmpty = xs.isEmpty := by cases s1 <;> rfl
    have k2 : ws.isEmpty = ys.isEmpty := by cases s2 <;> rfl
    refine .inl (.inr ⟨p, q, vs, ws, rfl, rfl, l1, l2, ?_, by rw [k1, k2]; exact ans_ok t h (rp_bl _)⟩)
    rcases hz with rfl | rfl
    · cases s1; exact .inl rfl
    · cases s2; exact .inr rfl
  · obtain ⟨xs, ys, e1, e2, hz, e3⟩ := em_l hf
    rw [e3] at h
    subst e1 e2
    obtain ⟨p, vs, e1, l1, s1⟩ := rb_lst ra
    obtain ⟨q, ws, e2, l2, s2⟩ := rb_lst rb
    subst e1 e2
    have k1 : vs.isEmpty = xs.isEmpty := by cases s1 <;> rfl
    have k2 : ws.isEmpty = ys.isEmpty := by cases s2 <;> rfl
    refine .inr ⟨p, q, vs, ws, rfl, rfl, l1.sql, l2.sql, ?_, by rw [k1, k2]; exact ans_ok t h (rp_bl _)⟩
    rcases hz with rfl | rfl
    · cases s1; exact .inl rfl
    · cases s2; exact .inr rfl
theorem o2_ne : Op2 G m (rNe3 G.K) opNe := by
  intro H F x y a b Q t ra rb h
  obtain ⟨hf, h⟩ := ans_if h
  rw [Bool.or_eq_true, Bool.and_eq_true] at hf
  rcases hf with hf | hf
  · exact .inl ⟨_, _, ra.dp hf.1, rb.dp hf.2, hf.1, hf.2, ans_ok t h (rp_bl _)⟩
  · obtain ⟨s, z, e1, e2⟩ := two_s hf
    subst e1 e2
    rw [rb_str ra, rb_str rb]
    exact .inr ⟨rfl, by rw [dec_str]; exact ans_ok t h (rp_bl _)⟩
theorem any_py (a : D) : ∀ ds : List D, (ds.any fun z => z.eqv a) = (pyL ds).any fun z => PyData.eqv z (py a)
  | [] => rfl
  | d :: ds => by
    rw [List.any_cons, pyL, List.any_cons, any_py a ds]
    rfl
def rIn2 (K : PySem.W.Frag) : R2 := fun x y H Q => (∃ (c : Nat) (z : Str), x = .str ⟨#[c]⟩ ∧ y = .str z ∧ Q (.bl (decide (c ∈ z.cps.toList))) H) ∨ (rInD K x y H Q ∨ rInT K false x y H Q)
theorem or_in {X : Cx} (hu : X.A.units + 65 < cLine) : OpR X (compareOp .In) (rIn2 X.K) := op_in_sign.or ((op_inD hu).or (op_inT hu))
def rNotIn2 (K : PySem.W.Frag) : R2 := fun x y H Q => (∃ (c : Nat) (z : Str), x = .str ⟨#[c]⟩ ∧ y = .str z ∧ Q (.bl (!decide (c ∈ z.cps.toList))) H) ∨ (rNotInD K x y H Q ∨ rInT K true x y H Q)
theorem or_notIn {X : Cx} (hu : X.A.units + 65 < cLine) : OpR X (compareOp .NotIn) (rNotIn2 X.K) := op_notIn_sign.or ((op_notInD hu).or (op_notInT hu))
theorem one_sign {x : Str} {c : Nat} (h : oneSign x = some c) : x = ⟨#[c]⟩ := by
  unfold oneSign at h
  split at h
  · rename_i d e
    cases h
    have e2 : x.cps = #[c] := by
      have e3 := congrArg List.toArray e
      simpa using e3
    cases x
    cases e2
    rfl
  · cases h
theorem in_cases {a b : D} {k : Bool} (h : isIn a b = some k) :
    (∃ x z c, a = .str x ∧ b = .str z ∧ x = ⟨#[c]⟩ ∧ k = decide (c ∈ z.cps.toList)) ∨ (∃ ds, b = .lst ds ∧ a.sha = true ∧ (D.lst ds).sha = true ∧ k = ds.any fun z => z.eqv a) ∨
      ∃ ds, b = .tup ds ∧ a.sha = true ∧ (D.tup ds).sha = true ∧ k = ds.any fun z => z.eqv a := by
  cases b with
  | str z =>
    cases a with
    | str x =>
      have h' : (oneSign x).map (fun c => decide (c ∈ z.cps.toList)) = some k := h
      cases e : oneSign x with
      | none => rw [e] at h'; cases h'
      | some c =>
        rw [e] at h'
        exact .inl ⟨x, z, c, rfl, rfl, one_sign e, (Option.some.inj h').symm⟩
    | _ => cases h
  | lst ds =>
    have h' : (if (a.sha && (D.lst ds).sha) = true then some (ds.any fun z => z.eqv a) else none) = some k := h
    split at h'
    · rename_i q
      rw [Bool.and_eq_true] at q
      exact .inr (.inl ⟨ds, rfl, q.1, q.2, (Option.some.inj h').symm⟩)
    · cases h'
  | tup ds =>
    have h' : (if (a.sha && (D.tup ds).sha) = true then some (ds.any fun z => z.eqv a) else none) = some k := h
    split at h'
    · rename_i q
      rw [Bool.and_eq_true] at q
      exact .inr (.inr ⟨ds, rfl, q.1, q.2, (Option.some.inj h').symm⟩)
    · cases h'
  | _ => cases h
theorem o2_in : Op2 G m (rIn2 G.K) opIn := by
  intro H F x y a b Q t ra rb h
  unfold opIn at h
  cases e : isIn a b with
  | none => rw [e] at h; exact (ans_no h).elim
  | some k =>
    rw [e] at h
    have q : Q (.bl k) H := ans_ok t h (rp_bl k)
    rcases in_cases e with ⟨x', z, c, rfl, rfl, rfl, hk⟩ | ⟨ds, rfl, h1, h2, hk⟩ | ⟨ds, rfl, h1, h2, hk⟩
    · exact .inl ⟨c, z, rb_str ra, rb_str rb, hk ▸ q⟩
    · exact .inr (.inl ⟨_, _, ra.dp h1, rb.dp h2, h1, h2, by rw [← any_py, ← hk]; exact q⟩)
    · exact .inr (.inr ⟨_, _, ra.dp h1, rb.dp h2, h1, h2, by rw [← any_py, ← hk]; exact q⟩)
theorem o2_notIn : Op2 G m (rNotIn2 G.K) opNotIn := by
  intro H F x y a b Q t ra rb h
  unfold opNotIn at h
  cases e : isIn a b with
  | none => rw [e] at h; exact (ans_no h).elim
  | some k =>
    rw [e] at h
    have q : Q (.bl (!k)) H := ans_ok t h (rp_bl (!k))
    rcases in_cases e with ⟨x', z, c, rfl, rfl, rfl, hk⟩ | ⟨ds, rfl, h1, h2, hk⟩ | ⟨ds, rfl, h1, h2, hk⟩
    · exact .inl ⟨c, z, rb_str ra, rb_str rb, hk ▸ q⟩
    · exact .inr (.inl ⟨_, _, ra.dp h1, rb.dp h2, h1, h2, by rw [← any_py, ← hk]; exact q⟩)
    · exact .inr (.inr ⟨_, _, ra.dp h1, rb.dp h2, h1, h2, by show Q (.bl (!_)) H; rw [← any_py, ← hk]; exact q⟩)
def rIs2 : R2 := fun x y H Q => rIsB x y H Q ∨ (y = .non ∧ Q (.bl (decide (x = .non))) H)
theorem or_is {X : Cx} : OpR X (compareOp .Is) rIs2 := op_isBl.or op_isN
def rNot2 : R2 := fun x y H Q => rNotB x y H Q ∨ (y = .non ∧ Q (.bl (!decide (x = .non))) H)
theorem or_isNot {X : Cx} : OpR X (compareOp .IsNot) rNot2 := op_notBl.or op_notN
theorem o2_is : Op2 G m rIs2 opIs := by
  intro H F x y a b Q t ra rb h
  cases b with
  | non =>
    have h' : Ans G m H F (some (.bl (isNon a))) Q := by cases a <;> exact h
    exact .inr ⟨rb_non rb, by rw [rb_isNon ra]; exact ans_ok t h' (rp_bl _)⟩
  | bl j =>
    cases a with
    | bl i => exact .inl ⟨i, j, rb_bl ra, rb_bl rb, ans_ok t h (rp_bl _)⟩
    | _ => exact (ans_no h).elim
  | _ => cases a <;> exact (ans_no h).elim
theorem o2_isNot : Op2 G m rNot2 opIsNot := by
  intro H F x y a b Q t ra rb h
  cases b with
  | non =>
    have h' : Ans G m H F (some (.bl (!isNon a))) Q := by cases a <;> exact h
    exact .inr ⟨rb_non rb, by rw [rb_isNon ra]; exact ans_ok t h' (rp_bl _)⟩
  | bl j =>
    cases a with
    | bl i => exact .inl ⟨i, j, rb_bl ra, rb_bl rb, ans_ok t h (rp_bl _)⟩
    | _ => exact (ans_no h).elim
  | _ => cases a <;> exact (ans_no h).elim
end
end VL

namespace VL
open PyProof.Rows PySem L2 PySem.Spec

/-! ### what holds of the code around -/
structure VX (X : Cx) (G : VG) (k : Nat) : Prop where
  K : X.K = G.K
  mg : X.mg = G.mg
  room : Room k X.A
  calm : X.calm = true
  gds : X.A.guards = some []
  sysm : ∃ o es ep, X.base.get? sysModules = some o ∧ o.data = .dict es ep
  nd : X.N.Nodup
  tk : Takes X G.W
theorem VX.u65 {X : Cx} {G : VG} {k : Nat} (x : VX X G k) : X.A.units + 65 < cLine := by have := x.room.un; omega

section
variable {X : Cx} {G : VG} {k : Nat} {m m1 m2 : Md} {a b : Expr} {fa fb : Lo → R D} {pos : Pos}
theorem ve_add (x : VX X G k) (ha : VE X G m1 a fa) (hb : VE X G m2 b fb) : VE X G m (.BinOp a .Add b pos) (b2 fa fb opAdd) := ve_op (x.K ▸ or_add) o2_add ha hb
theorem ve_sub (ha : VE X G m1 a fa) (hb : VE X G m2 b fb) : VE X G m (.BinOp a .Sub b pos) (b2 fa fb opSub) := ve_op op_sub o2_sub ha hb
theorem ve_mul (ha : VE X G m1 a fa) (hb : VE X G m2 b fb) : VE X G m (.BinOp a .Mult b pos) (b2 fa fb opMul) := ve_op op_mul o2_mul ha hb
theorem ve_div (ha : VE X G m1 a fa) (hb : VE X G m2 b fb) : VE X G m (.BinOp a .FloorDiv b pos) (b2 fa fb opDiv) := ve_op op_fdiv o2_div ha hb
theorem ve_mod (ha : VE X G m1 a fa) (hb : VE X G m2 b fb) : VE X G m (.BinOp a .Mod b pos) (b2 fa fb opMod) := ve_op op_mod o2_mod ha hb
theorem ve_pow (ha : VE X G m1 a fa) (hb : VE X G m2 b fb) : VE X G m (.BinOp a .Pow b pos) (b2 fa fb opPow) := ve_op op_pow o2_pow ha hb
theorem ve_neg (ha : VE X G m1 a fa) : VE X G m (.UnaryOp .USub a pos) (b1 fa opNeg) := ve_un un_neg o1_neg ha
theorem ve_eq (x : VX X G k) (ha : VE X G m1 a fa) (hb : VE X G m2 b fb) : VE X G m (.Compare a [.Eq] [b] pos) (b2 fa fb opEq) := ve_cmp (x.K ▸ or_eq3 x.room.units) o2_eq ha hb (nomark _)
theorem ve_ne (x : VX X G k) (ha : VE X G m1 a fa) (hb : VE X G m2 b fb) : VE X G m (.Compare a [.NotEq] [b] pos) (b2 fa fb opNe) := ve_cmp (x.K ▸ or_ne3 x.room.units) o2_ne ha hb (nomark _)
theorem ve_lt (ha : VE X G m1 a fa) (hb : VE X G m2 b fb) : VE X G m (.Compare a [.Lt] [b] pos) (b2 fa fb opLt) := ve_cmp op_lt o2_lt ha hb (nomark _)
theorem ve_le (ha : VE X G m1 a fa) (hb : VE X G m2 b fb) : VE X G m (.Compare a [.LtE] [b] pos) (b2 fa fb opLe) := ve_cmp op_le o2_le ha hb (nomark _)
theorem ve_gt (ha : VE X G m1 a fa) (hb : VE X G m2 b fb) : VE X G m (.Compare a [.Gt] [b] pos) (b2 fa fb opGt) := ve_cmp op_gt o2_gt ha hb (nomark _)
theorem ve_ge (ha : VE X G m1 a fa) (hb : VE X G m2 b fb) : VE X G m (.Compare a [.GtE] [b] pos) (b2 fa fb opGe) := ve_cmp op_ge o2_ge ha hb (nomark _)
theorem ve_in (x : VX X G k) (ha : VE X G m1 a fa) (hb : VE X G m2 b fb) (hm : behindInMarks .In b = false := by rfl) : VE X G m (.Compare a [.In] [b] pos) (b2 fa fb opIn) := ve_cmp (x.K ▸ or_in x.u65) o2_in ha hb hm
theorem ve_notIn (x : VX X G k) (ha : VE X G m1 a fa) (hb : VE X G m2 b fb) (hm : behindInMarks .NotIn b = false := by rfl) : VE X G m (.Compare a [.NotIn] [b] pos) (b2 fa fb opNotIn) := ve_cmp (x.K ▸ or_notIn x.u65) o2_notIn ha hb hm
theorem ve_is (ha : VE X G m1 a fa) (hb : VE X G m2 b fb) : VE X G m (.Compare a [.Is] [b] pos) (b2 fa fb opIs) := ve_cmp or_is o2_is ha hb (nomark _)
theorem ve_isNot (ha : VE X G m1 a fa) (hb : VE X G m2 b fb) : VE X G m (.Compare a [.IsNot] [b] pos) (b2 fa fb opIsNot) := ve_cmp or_isNot o2_isNot ha hb (nomark _)
theorem vt_eq (x : VX X G k) (ha : VE X G m1 a fa) (hb : VE X G m2 b fb) : VT X G (.Compare a [.Eq] [b] pos) (tb (b2 fa fb opEq)) := vt_cmp (x.K ▸ or_eq3 x.room.units) o2_eq ha hb (nomark _)
theorem vt_ne (x : VX X G k) (ha : VE X G m1 a fa) (hb : VE X G m2 b fb) : VT X G (.Compare a [.NotEq] [b] pos) (tb (b2 fa fb opNe)) := vt_cmp (x.K ▸ or_ne3 x.room.units) o2_ne ha hb (nomark _)
theorem vt_lt (ha : VE X G m1 a fa) (hb : VE X G m2 b fb) : VT X G (.Compare a [.Lt] [b] pos) (tb (b2 fa fb opLt)) := vt_cmp op_lt o2_lt ha hb (nomark _)
theorem vt_le (ha : VE X G m1 a fa) (hb : VE X G m2 b fb) : VT X G (.Compare a [.LtE] [b] pos) (tb (b2 fa fb opLe)) := vt_cmp op_le o2_le ha hb (nomark _)
theorem vt_gt (ha : VE X G m1 a fa) (hb : VE X G m2 b fb) : VT X G (.Compare a [.Gt] [b] pos) (tb (b2 fa fb opGt)) := vt_cmp op_gt o2_gt ha hb (nomark _)
theorem vt_ge (ha : VE X G m1 a fa) (hb : VE X G m2 b fb) : VT X G (.Compare a [.GtE] [b] pos) (tb (b2 fa fb opGe)) := vt_cmp op_ge o2_ge ha hb (nomark _)
theorem vt_in (x : VX X G k) (ha : VE X G m1 a fa) (hb : VE X G m2 b fb) (hm : behindInMarks .In b = false := by rfl) : VT X G (.Compare a [.In] [b] pos) (tb (b2 fa fb opIn)) := vt_cmp (x.K ▸ or_in x.u65) o2_in ha hb hm
theorem vt_notIn (x : VX X G k) (ha : VE X G m1 a fa) (hb : VE X G m2 b fb) (hm : behindInMarks .NotIn b = false := by rfl) : VT X G (.Compare a [.NotIn] [b] pos) (tb (b2 fa fb opNotIn)) := vt_cmp (x.K ▸ or_notIn x.u65) o2_notIn ha hb hm
theorem vt_is (ha : VE X G m1 a fa) (hb : VE X G m2 b fb) : VT X G (.Compare a [.Is] [b] pos) (tb (b2 fa fb opIs)) := vt_cmp or_is o2_is ha hb (nomark _)
theorem vt_isNot (ha : VE X G m1 a fa) (hb : VE X G m2 b fb) : VT X G (.Compare a [.IsNot] [b] pos) (tb (b2 fa fb opIsNot)) := vt_cmp or_isNot o2_isNot ha hb (nomark _)
end

/-! ### chains: a < b < c -/
section
variable {X : Cx} {G : VG} {m m1 m2 m3 : Md} {a b c : Expr} {fa fb fc : Lo → R D} {pos : Pos} {σ : L2.St} {H : Hp} {Q : VK}
def b3 (fa fb fc : Lo → R D) (op op' : D → D → Option D) : Lo → R D := fun ρ => (fa ρ).bind fun x => (fb ρ).bind fun y => match op x y with
  | some (.bl true) => (fc ρ).bind fun z => R.opt (op' y z)
  | some (.bl false) => .ok (.bl false)
  | _ => .bad
theorem t3_of {r r' : R2} {op op' : D → D → Option D} (ho : Op2 G .sh r op) (ho' : Op2 G m r' op') (h : tV G m (b3 fa fb fc op op') σ H Q) : tChain r r' (tV G m1 fa) (tV G m2 fb) (tV G m3 fc) σ H Q := by
  obtain ⟨ρ, F, rl, o⟩ := h
  refine ⟨ρ, F, rl, Out.bind (S' := fun d v H' F' => Rp G.K m H H' F' v d) o (fun _ _ _ _ _ _ _ h => h) fun d x H1 F1 _ l s k => ?_⟩
  have o1 := k (S'' := fun d v H' F' => Rp G.K m H1 H' F' v d) fun d v H' F' h => h.back l.keep
  refine ⟨ρ, F1, rl.step l, Out.bind (S' := fun d v H' F' => Rp G.K m H1 H' F' v d) o1 (fun _ _ _ _ _ _ _ h => h) fun d2 y H2 F2 _ l2 s2 k2 => ?_⟩
  have o2 := k2 (S'' := fun d v H' F' => Rp G.K m H2 H' F' v d) fun d v H' F' h => h.back l2.keep
  have rx : RB G.K H2 F2 x d := (rb_of s).le l2
  have ry : RB G.K H2 F2 y d2 := rb_of s2
  refine ho H2 F2 x y d d2 _ l2.the rx ry ?_
  cases e : op d d2 with
  | none => rw [e] at o2; exact o2.elim
  | some t =>
    rw [e] at o2
    refine ⟨t, rfl, fun v H3 F3 l3 s3 => ?_⟩
    cases t with
    | bl t =>
      cases s3
      refine ⟨t, rfl, ?_⟩
      cases t with
      | false => exact o2 _ H3 F3 l3 (rp_bl false)
      | true =>
        have o3 : Out G σ H3 F3 ((fc ρ).bind fun z => R.opt (op' d2 z)) (fun d v H' F' => Rp G.K m H3 H' F' v d) Q := Out.le o2 l3 fun d v H' F' h => h.back l3.keep
        refine ⟨ρ, F3, ((rl.step l).step l2).step l3, Out.bind (S' := fun d v H' F' => Rp G.K m H3 H' F' v d) o3 (fun _ _ _ _ _ _ _ h => h) fun d3 z H4 F4 _ l4 s4 k4 => ?_⟩
        exact ho' H4 F4 y z d2 d3 Q l4.the ((ry.le l3).le l4) (rb_of s4) (ans_of rfl (k4 fun d v H' F' h => h.back l4.keep))
    | _ => exact o2.elim
theorem ve_chain {op1 op2 : CmpOp} {r r' : R2} {op op' : D → D → Option D} (p : OpR X (compareOp op1) r) (p' : OpR X (compareOp op2) r') (ho : Op2 G .sh r op) (ho' : Op2 G m r' op') (ha : VE X G m1 a fa) (hb : VE X G m2 b fb) (hc : VE X G m3 c fc)
    (hm : lastMarks [op1, op2] [b, c] = false := by with_unfolding_all rfl) : VE X G m (.Compare a [op1, op2] [b, c] pos) (b3 fa fb fc op op') :=
  ⟨pe_imp (pe_chain p p' ha.pe hb.pe hc.pe hm) fun _ _ _ h => t3_of ho ho' h⟩
theorem vt_chain {op1 op2 : CmpOp} {r r' : R2} {op op' : D → D → Option D} (p : OpR X (compareOp op1) r) (p' : OpR X (compareOp op2) r') (ho : Op2 G .sh r op) (ho' : Op2 G .sh r' op') (ha : VE X G m1 a fa) (hb : VE X G m2 b fb) (hc : VE X G m3 c fc)
    (hm : lastMarks [op1, op2] [b, c] = false := by with_unfolding_all rfl) : VT X G (.Compare a [op1, op2] [b, c] pos) (tb (b3 fa fb fc op op')) :=
  ⟨pt_imp (pt_chain p p' ha.pe hb.pe hc.pe hm) fun _ _ _ h => t3_of ho ho' (tb_of h)⟩
theorem ve_lele (ha : VE X G m1 a fa) (hb : VE X G m2 b fb) (hc : VE X G m3 c fc) (hm : lastMarks [.LtE, .LtE] [b, c] = false := by with_unfolding_all rfl) : VE X G m (.Compare a [.LtE, .LtE] [b, c] pos) (b3 fa fb fc opLe opLe) := ve_chain op_le op_le o2_le o2_le ha hb hc hm
theorem vt_lele (ha : VE X G m1 a fa) (hb : VE X G m2 b fb) (hc : VE X G m3 c fc) (hm : lastMarks [.LtE, .LtE] [b, c] = false := by with_unfolding_all rfl) : VT X G (.Compare a [.LtE, .LtE] [b, c] pos) (tb (b3 fa fb fc opLe opLe)) := vt_chain op_le op_le o2_le o2_le ha hb hc hm
end

/-! ### built-ins -/
section
variable {G : VG} {m : Md}
def opLen : D → Option D
  | .str x => if fits x.length = true then some (.int x.length) else none
  | .lst ds => some (.int ds.length)
  | .tup ds => some (.int ds.length)
  | _ => none
theorem o1_len : Op1 G m (fun y => (fun xs H Q => ∃ x n, xs = [x] ∧ LenV G.K x H n ∧ Q (.int (n : Nat)) H) [y]) opLen := by
  intro H F x a Q t ra h
  cases a with
  | str z =>
    obtain ⟨hf, h⟩ := ans_if h
    rw [rb_str ra]
    exact ⟨_, z.length, rfl, ⟨fits_line hf, rfl⟩, ans_ok t h (rp_int _)⟩
  | lst ds =>
    obtain ⟨p, xs, e, l, s⟩ := rb_lst ra
    subst e
    exact ⟨_, xs.length, rfl, .inl ⟨xs, l.sql, rfl⟩, by rw [s.length]; exact ans_ok t h (rp_int _)⟩
  | tup ds =>
    obtain ⟨p, xs, e, l, s⟩ := rb_tup ra
    subst e
    exact ⟨_, xs.length, rfl, .inr ⟨xs, l, rfl⟩, by rw [s.length]; exact ans_ok t h (rp_int _)⟩
  | _ => exact (ans_no h).elim
def bls : List D → Option (List Bool)
  | [] => some []
  | .bl b :: r => (bls r).map (b :: ·)
  | _ => none
theorem bls_sh {K : PySem.W.Frag} {H : Hp} {F : Fro} : ∀ {vs : List V} {ds : List D} {bs : List Bool}, ShL K H F vs ds → bls ds = some bs → vs = bs.map V.bl
  | _, _, _, .nil, e => by cases e; rfl
  | _, d :: ds, bs, .cons h r, e => by
    cases d with
    | bl b =>
      have e' : (bls ds).map (b :: ·) = some bs := e
      cases q : bls ds with
      | none => rw [q] at e'; cases e'
      | some cs =>
        rw [q] at e'
        cases e'
        cases h
        rw [bls_sh r q]; rfl
    | _ => cases e
def opAll : D → Option D
  | .lst ds => (bls ds).map fun bs => .bl (bs.all id)
  | _ => none
def opAny : D → Option D
  | .lst ds => (bls ds).map fun bs => .bl (bs.any id)
  | _ => none
theorem o1_all : Op1 G m (fun y => rAll G.K [y]) opAll := by
  intro H F x a Q t ra h
  cases a with
  | lst ds =>
    obtain ⟨p, xs, e, l, s⟩ := rb_lst ra
    subst e
    have h' : Ans G m H F ((bls ds).map fun bs => .bl (bs.all id)) Q := h
    cases q : bls ds with
    | none => rw [q] at h'; exact (ans_no h').elim
    | some bs =>
      rw [q] at h'
      exact ⟨p, bs, rfl, by rw [← bls_sh s q]; exact l.sql, ans_ok t h' (rp_bl _)⟩
  | _ => exact (ans_no h).elim
theorem o1_any : Op1 G m (fun y => rAny G.K [y]) opAny := by
  intro H F x a Q t ra h
  cases a with
  | lst ds =>
    obtain ⟨p, xs, e, l, s⟩ := rb_lst ra
    subst e
    have h' : Ans G m H F ((bls ds).map fun bs => .bl (bs.any id)) Q := h
    cases q : bls ds with
    | none => rw [q] at h'; exact (ans_no h').elim
    | some bs =>
      rw [q] at h'
      exact ⟨p, bs, rfl, by rw [← bls_sh s q]; exact l.sql, ans_ok t h' (rp_bl _)⟩
  | _ => exact (ans_no h).elim
def opList : D → Option D
  | .lst ds => some (.lst ds)
  | .tup ds => some (.lst ds)
  | _ => none
theorem o1_list : Op1 G m (fun y => (fun xs H Q => ∃ p ys, xs = [.ref p] ∧ (SqL G.K H p ys ∨ SqT G.K H p ys) ∧ ∀ l, H l = none → Q (.ref l) (upd H l (.lst ys))) [y]) opList := by
  intro H F x a Q t ra h
  cases a with
  | lst ds =>
    obtain ⟨p, xs, e, l, s⟩ := rb_lst ra
    subst e
    exact ⟨p, xs, rfl, .inl l.sql, ans_new t s h⟩
  | tup ds =>
    obtain ⟨p, xs, e, l, s⟩ := rb_tup ra
    subst e
    exact ⟨p, xs, rfl, .inr l, ans_new t s h⟩
  | _ => exact (ans_no h).elim
def opTuple : D → Option D
  | .lst ds => some (.tup ds)
  | .tup ds => some (.tup ds)
  | _ => none
theorem o1_tuple : Op1 G m (fun y => (fun xs H Q => ∃ p ys, xs = [.ref p] ∧ ((SqL G.K H p ys ∧ ∀ l, H l = none → Q (.ref l) (upd H l (.tup ys))) ∨ (SqT G.K H p ys ∧ Q (.ref p) H))) [y]) opTuple := by
  intro H F x a Q t ra h
  cases a with
  | lst ds =>
    obtain ⟨p, xs, e, l, s⟩ := rb_lst ra
    subst e
    exact ⟨p, xs, rfl, .inl ⟨l.sql, ans_newT t s h⟩⟩
  | tup ds =>
    obtain ⟨p, xs, e, l, s⟩ := rb_tup ra
    subst e
    exact ⟨p, xs, rfl, .inr ⟨l, ans_ok t h (rp_tup (.tup l s))⟩⟩
  | _ => exact (ans_no h).elim
def opMax : D → D → Option D
  | .int i, .int j => some (.int (if j > i then j else i))
  | _, _ => none
def opMin : D → D → Option D
  | .int i, .int j => some (.int (if j < i then j else i))
  | _, _ => none
theorem o2_max : Op2 G m (fun x y => (fun xs H Q => ∃ i j, xs = [V.int i, .int j] ∧ Q (.int (if j > i then j else i)) H) [x, y]) opMax := by
  intro H F x y a b Q t ra rb h
  cases a <;> cases b <;> first
    | exact (ans_no h).elim
    | (rw [rb_int ra, rb_int rb]; exact ⟨_, _, rfl, ans_ok t h (rp_int _)⟩)
theorem o2_min : Op2 G m (fun x y => (fun xs H Q => ∃ i j, xs = [V.int i, .int j] ∧ Q (.int (if j < i then j else i)) H) [x, y]) opMin := by
  intro H F x y a b Q t ra rb h
  cases a <;> cases b <;> first
    | exact (ans_no h).elim
    | (rw [rb_int ra, rb_int rb]; exact ⟨_, _, rfl, ans_ok t h (rp_int _)⟩)
def opInt : D → Option D
  | .int i => some (.int i)
  | .bl k => some (.int (if k then 1 else 0))
  | _ => none
theorem o1_int : Op1 G m (fun y => (fun xs H Q => (∃ i, xs = [V.int i] ∧ Q (.int i) H) ∨ ∃ k, xs = [V.bl k] ∧ Q (.int (if k then 1 else 0)) H) [y]) opInt := by
  intro H F x a Q t ra h
  cases a <;> first
    | exact (ans_no h).elim
    | skip
  · rw [rb_bl ra]; exact .inr ⟨_, rfl, ans_ok t h (rp_int _)⟩
  · rw [rb_int ra]; exact .inl ⟨_, rfl, ans_ok t h (rp_int _)⟩
end
section
variable {X : Cx} {G : VG} {k : Nat} {m m1 m2 : Md} {a b : Expr} {fa fb : Lo → R D} {p pos : Pos}
theorem ve_len (x : VX X G k) (hm : X.mg "len" = none) (ha : VE X G m1 a fa) (hg : Gl X "len" := by rfl) (he : starEach [a] X.env = (false, eval a X.env) :: starEach [] X.env := by rfl) : VE X G m (.Call (.Name "len" p) [a] [] pos) (b1 fa opLen) :=
  ve_b1 (call_len (X := X)) (x.K ▸ o1_len) hg hm PySem.boot_len ha (by decide) (by decide) he
theorem ve_all (x : VX X G k) (hm : X.mg "all" = none) (ha : VE X G m1 a fa) (hg : Gl X "all" := by rfl) (he : starEach [a] X.env = (false, eval a X.env) :: starEach [] X.env := by rfl) : VE X G m (.Call (.Name "all" p) [a] [] pos) (b1 fa opAll) :=
  ve_b1 (cr_all x.calm) (x.K ▸ o1_all) hg hm (by decide +kernel) ha (by decide) (by decide) he
theorem ve_any (x : VX X G k) (hm : X.mg "any" = none) (ha : VE X G m1 a fa) (hg : Gl X "any" := by rfl) (he : starEach [a] X.env = (false, eval a X.env) :: starEach [] X.env := by rfl) : VE X G m (.Call (.Name "any" p) [a] [] pos) (b1 fa opAny) :=
  ve_b1 (cr_any x.calm) (x.K ▸ o1_any) hg hm (by decide +kernel) ha (by decide) (by decide) he
theorem ve_list (x : VX X G k) (hm : X.mg "list" = none) (ha : VE X G m1 a fa) (hg : Gl X "list" := by rfl) (he : starEach [a] X.env = (false, eval a X.env) :: starEach [] X.env := by rfl) : VE X G m (.Call (.Name "list" p) [a] [] pos) (b1 fa opList) :=
  ve_ty1 (call_list_of (X := X)) (x.K ▸ o1_list) hg hm (by decide +kernel) ha (by decide) (by decide) he
theorem ve_tuple (x : VX X G k) (hm : X.mg "tuple" = none) (ha : VE X G m1 a fa) (hg : Gl X "tuple" := by rfl) (he : starEach [a] X.env = (false, eval a X.env) :: starEach [] X.env := by rfl) : VE X G m (.Call (.Name "tuple" p) [a] [] pos) (b1 fa opTuple) :=
  ve_ty1 (call_tuple_of (X := X)) (x.K ▸ o1_tuple) hg hm (by decide +kernel) ha (by decide) (by decide) he
theorem ve_max (x : VX X G k) (hm : X.mg "max" = none) (ha : VE X G m1 a fa) (hb : VE X G m2 b fb) (hg : Gl X "max" := by rfl)
    (he : starEach [a, b] X.env = (false, eval a X.env) :: starEach [b] X.env := by rfl) (he2 : starEach [b] X.env = (false, eval b X.env) :: starEach [] X.env := by rfl) (hpl : (backTo pos (starEach [b] X.env)).any (·.1) = false := by rfl) : VE X G m (.Call (.Name "max" p) [a, b] [] pos) (b2 fa fb opMax) :=
  ve_b2 (call_max2 x.calm) o2_max hg hm (by decide +kernel) ha hb (by decide) (by decide) he he2 hpl
theorem ve_min (x : VX X G k) (hm : X.mg "min" = none) (ha : VE X G m1 a fa) (hb : VE X G m2 b fb) (hg : Gl X "min" := by rfl)
    (he : starEach [a, b] X.env = (false, eval a X.env) :: starEach [b] X.env := by rfl) (he2 : starEach [b] X.env = (false, eval b X.env) :: starEach [] X.env := by rfl) (hpl : (backTo pos (starEach [b] X.env)).any (·.1) = false := by rfl) : VE X G m (.Call (.Name "min" p) [a, b] [] pos) (b2 fa fb opMin) :=
  ve_b2 (call_min2 x.calm) o2_min hg hm (by decide +kernel) ha hb (by decide) (by decide) he he2 hpl
theorem ve_int (hm : X.mg "int" = none) (ha : VE X G m1 a fa) (hg : Gl X "int" := by rfl) (he : starEach [a] X.env = (false, eval a X.env) :: starEach [] X.env := by rfl) : VE X G m (.Call (.Name "int" p) [a] [] pos) (b1 fa opInt) :=
  ve_ty1 call_int1 o1_int hg hm (by decide +kernel) ha (by decide) (by decide) he
end

/-! ### isinstance(x, T) of the built-in classes -/
section
variable {X : Cx} {G : VG} {k : Nat} {m m1 : Md} {a : Expr} {fa : Lo → R D} {p q pos : Pos}
def tyName : D → Option String
  | .non => some "NoneType"
  | .bl _ => some "bool"
  | .int _ => some "int"
  | .str _ => some "str"
  | .lst _ => some "list"
  | .tup _ => some "tuple"
  | .dic _ => some "dict"
  | .obj _ _ => none
def isInt : D → Bool
  | .bl _ => true
  | .int _ => true
  | _ => false
def isBool : D → Bool
  | .bl _ => true
  | _ => false
def isStr : D → Bool
  | .str _ => true
  | _ => false
def isList : D → Bool
  | .lst _ => true
  | _ => false
def isTup : D → Bool
  | .tup _ => true
  | _ => false
def isDict : D → Bool
  | .dic _ => true
  | _ => false
def plainD : D → Bool
  | .obj _ _ => false
  | _ => true
def opIsi (f : D → Bool) : D → Option D := fun d => if plainD d = true then some (.bl (f d)) else none
theorem rb_ty {K : PySem.W.Frag} {H : Hp} {F : Fro} {v : V} {d : D} (h : RB K H F v d) (hp : plainD d = true) : ∃ n, tyName d = some n ∧ TyX K H v (.type n) := by
  cases d with
  | non => rw [rb_non h]; exact ⟨_, rfl, .base .non⟩
  | bl b => rw [rb_bl h]; exact ⟨_, rfl, .base (.bl b)⟩
  | int i => rw [rb_int h]; exact ⟨_, rfl, .base (.int i)⟩
  | str i => rw [rb_str h]; exact ⟨_, rfl, .base (.str i)⟩
  | lst ds =>
    obtain ⟨a, xs, e, l, _⟩ := rb_lst h
    subst e
    refine ⟨_, rfl, ?_⟩
    rcases l with l | ⟨_, _, l⟩ | ⟨_, _, l, _⟩
    · exact .base (.lst l)
    · exact .base (.frz l)
    · exact .kList l rfl
  | tup ds =>
    obtain ⟨a, xs, e, l, _⟩ := rb_tup h
    subst e
    refine ⟨_, rfl, ?_⟩
    rcases l with (l | ⟨o, l⟩) | ⟨o, _, _, l, c, _⟩
    · exact .base (.tup l)
    · exact .fTuple l
    · exact .kTuple l c
  | dic ds =>
    obtain ⟨a, kvs, _, e, l, _⟩ := rb_dic h
    subst e
    rcases l with l | ⟨o, l⟩
    · exact ⟨_, rfl, .base (.dK l)⟩
    · exact ⟨_, rfl, .fDict l⟩
  | obj _ _ => cases hp
theorem ve_isi {T : Str} {n : String} {f : D → Bool} (x : VX X G k) (hk : ∀ d c, tyName d = some c → kitB c n = some (f d)) (hm : X.mg "isinstance" = none) (hT : X.mg T = none) (hv : bootBuiltins T = some (.type n)) (ha : VE X G m1 a fa) (hg : Gl X "isinstance" := by rfl) (hgT : Gl X T := by rfl)
    (hnT : T ≠ "__name__" := by decide) (hdT : (T == ("__debug__" : Str)) = false := by decide)
    (he : starEach [a, .Name T q] X.env = (false, eval a X.env) :: starEach [.Name T q] X.env := by rfl) (he2 : starEach [.Name T q] X.env = (false, eval (.Name T q) X.env) :: starEach [] X.env := by rfl) (hpl : (backTo pos (starEach [.Name T q] X.env)).any (·.1) = false := by rfl) :
    VE X G m (.Call (.Name "isinstance" p) [a, .Name T q] [] pos) (b1 fa (opIsi f)) := by
  refine ⟨pe_imp (pe_callB call_isi hg hm (by decide +kernel) (pa_cons ha.pe (pa_cons (pe_bltn (v := .ty n) hgT hT hv rfl hnT hdT) pa_nil he2) he) (by decide) (by decide) he hpl) fun σ H Q h => ?_⟩
  refine t1_of (r := fun x H Q => rIsi X.K [x, .ty n] H Q) (fun H F y a Q t ra h => ?_) h
  obtain ⟨hp, h⟩ := ans_if h
  obtain ⟨c, ec, ty⟩ := rb_ty ra hp
  exact ⟨y, .ty n, .type c, .type n, f a, rfl, .ty n, x.K ▸ ty, kit_ty (hk a c ec), ans_ok t h (rp_bl _)⟩
theorem kit_all {n : String} {f : D → Bool} (h : ∀ c b, (c, b) ∈ [("NoneType", f .non), ("bool", f (.bl true)), ("int", f (.int 0)), ("str", f (.str "")), ("list", f (.lst [])), ("tuple", f (.tup [])), ("dict", f (.dic []))] → kitB c n = some b)
    (h1 : ∀ b, f (.bl b) = f (.bl true)) (h2 : ∀ b, f (.int b) = f (.int 0)) (h3 : ∀ b, f (.str b) = f (.str "")) (h4 : ∀ b, f (.lst b) = f (.lst [])) (h5 : ∀ b, f (.tup b) = f (.tup [])) (h6 : ∀ b, f (.dic b) = f (.dic [])) : ∀ d c, tyName d = some c → kitB c n = some (f d) := by
  intro d c e
  cases d with
  | non => cases e; exact h _ _ (by simp)
  | bl b => cases e; rw [h1]; exact h _ _ (by simp)
  | int b => cases e; rw [h2]; exact h _ _ (by simp)
  | str b => cases e; rw [h3]; exact h _ _ (by simp)
  | lst b => cases e; rw [h4]; exact h _ _ (by simp)
  | tup b => cases e; rw [h5]; exact h _ _ (by simp)
  | dic b => cases e; rw [h6]; exact h _ _ (by simp)
  | obj _ _ => cases e
theorem of_all {l : List (String × Bool)} {n : String} (h : (l.all fun p => kitB p.1 n == some p.2) = true) : ∀ c b, (c, b) ∈ l → kitB c n = some b := fun c b hm => by
  have := List.all_eq_true.mp h (c, b) hm
  simpa using this
theorem kit_int : ∀ d c, tyName d = some c → kitB c "int" = some (isInt d) := kit_all (of_all (by decide +kernel)) (fun _ => rfl) (fun _ => rfl) (fun _ => rfl) (fun _ => rfl) (fun _ => rfl) fun _ => rfl
theorem kit_bool : ∀ d c, tyName d = some c → kitB c "bool" = some (isBool d) := kit_all (of_all (by decide +kernel)) (fun _ => rfl) (fun _ => rfl) (fun _ => rfl) (fun _ => rfl) (fun _ => rfl) fun _ => rfl
theorem kit_str : ∀ d c, tyName d = some c → kitB c "str" = some (isStr d) := kit_all (of_all (by decide +kernel)) (fun _ => rfl) (fun _ => rfl) (fun _ => rfl) (fun _ => rfl) (fun _ => rfl) fun _ => rfl
theorem kit_list : ∀ d c, tyName d = some c → kitB c "list" = some (isList d) := kit_all (of_all (by decide +kernel)) (fun _ => rfl) (fun _ => rfl) (fun _ => rfl) (fun _ => rfl) (fun _ => rfl) fun _ => rfl
theorem kit_tuple : ∀ d c, tyName d = some c → kitB c "tuple" = some (isTup d) := kit_all (of_all (by decide +kernel)) (fun _ => rfl) (fun _ => rfl) (fun _ => rfl) (fun _ => rfl) (fun _ => rfl) fun _ => rfl
theorem kit_dict : ∀ d c, tyName d = some c → kitB c "dict" = some (isDict d) := kit_all (of_all (by decide +kernel)) (fun _ => rfl) (fun _ => rfl) (fun _ => rfl) (fun _ => rfl) (fun _ => rfl) fun _ => rfl
end
end VL

namespace VL
open PyProof.Rows PySem L2 PySem.Spec

/-! ### x[i], x[a:b] -/
section
variable {K : PySem.W.Frag} {H : Hp} {F : Fro}
theorem shl_at {vs : List V} {ds : List D} (s : ShL K H F vs ds) {i : Int} {d : D} (h : atI ds i = some d) : ∃ v, atI vs i = some v ∧ Sh K H F v d := by
  unfold atI at h ⊢
  rw [s.length]
  cases e : ixN ds.length i with
  | none => rw [e] at h; cases h
  | some j =>
    rw [e] at h
    exact s.getD h
end
section
variable {G : VG} {m : Md}
def opIx : D → D → Option D
  | .lst ds, .int i => atI ds i
  | .tup ds, .int i => atI ds i
  | .str z, .int i => if fits z.length = true then (atI z.cps.toList i).map fun c => .str ⟨#[c]⟩ else none
  | _, _ => none
theorem o2_ix : Op2 G .sh (rIx G.K) opIx := by
  intro H F x y a b Q t ra rb h
  cases b with
  | int i =>
    cases a with
    | lst ds =>
      obtain ⟨p, xs, e, l, s⟩ := rb_lst ra
      have h' : Ans G .sh H F (atI ds i) Q := h
      cases q : atI ds i with
      | none => rw [q] at h'; exact (ans_no h').elim
      | some d =>
        rw [q] at h'
        obtain ⟨v, ev, sv⟩ := shl_at s q
        exact .inl ⟨p, xs, i, v, e, rb_int rb, l.sql, ev, ans_ok t h' sv⟩
    | tup ds =>
      obtain ⟨p, xs, e, l, s⟩ := rb_tup ra
      have h' : Ans G .sh H F (atI ds i) Q := h
      cases q : atI ds i with
      | none => rw [q] at h'; exact (ans_no h').elim
      | some d =>
        rw [q] at h'
        obtain ⟨v, ev, sv⟩ := shl_at s q
        exact .inr (.inl ⟨p, xs, i, v, e, rb_int rb, l, ev, ans_ok t h' sv⟩)
    | str z =>
      obtain ⟨hf, h'⟩ : fits z.length = true ∧ Ans G .sh H F ((atI z.cps.toList i).map fun c => D.str ⟨#[c]⟩) Q := by
        cases hf : fits z.length with
        | true => exact ⟨rfl, by have h2 : Ans G .sh H F (if fits z.length = true then (atI z.cps.toList i).map fun c => D.str ⟨#[c]⟩ else none) Q := h; rw [hf] at h2; exact h2⟩
        | false =>
          have h2 : Ans G .sh H F (if fits z.length = true then (atI z.cps.toList i).map fun c => D.str ⟨#[c]⟩ else none) Q := h
          rw [hf] at h2
          exact (ans_no h2).elim
      cases q : atI z.cps.toList i with
      | none => rw [q] at h'; exact (ans_no h').elim
      | some c =>
        rw [q] at h'
        exact .inr (.inr ⟨z, i, c, rb_str ra, rb_int rb, fits_line hf, q, ans_ok t h' (.str _)⟩)
    | _ => exact (ans_no h).elim
  | _ => cases a <;> exact (ans_no h).elim
def cutD (ds : List D) (lo hi : Option Int) : List D := (ds.drop (HT.sIx ds.length 0 lo)).take (HT.sIx ds.length ds.length hi - HT.sIx ds.length 0 lo)
theorem shl_cut {K : PySem.W.Frag} {H : Hp} {F : Fro} {vs : List V} {ds : List D} (s : ShL K H F vs ds) (lo hi : Option Int) : ShL K H F (cutV vs lo hi) (cutD ds lo hi) := by
  unfold cutV cutD
  rw [s.length]
  exact (s.drop _).take _
def opCut (lo hi : Option Int) : D → Option D
  | .lst ds => some (.lst (cutD ds lo hi))
  | .tup ds => some (.tup (cutD ds lo hi))
  | .str z => if fits z.length = true then some (.str (cutS z lo hi)) else none
  | _ => none
def rCut (K : PySem.W.Frag) : V → Option Int → Option Int → Hp → VK → Prop := fun x lo hi H Q => rSlL K x lo hi H Q ∨ (rSlA K x lo hi H Q ∨ rSlS x lo hi H Q)
theorem sl_cut {X : Cx} : SlR X (rCut X.K) := sl_list.or (sl_tupA.or sl_str)
end
section
variable {X : Cx} {G : VG} {k : Nat} {m m1 m2 : Md} {a b : Expr} {fa fb : Lo → R D} {pos p2 : Pos}
theorem ve_ix (x : VX X G k) (ha : VE X G m1 a fa) (hb : VE X G m2 b fb) (hs : PlainIx b := by exact fun _ _ => rfl) : VE X G .sh (.Subscript a b pos) (b2 fa fb opIx) :=
  ⟨pe_imp (pe_ix (x.K ▸ ix_seq) ha.pe hb.pe hs) fun _ _ _ h => t2_of o2_ix h⟩
/-- a part of a slice -/
structure VO (X : Cx) (G : VG) (o : Option Expr) (f : Lo → R (Option Int)) : Prop where
  po : PO X o (fun σ H Q => ∃ ρ F, Rel G σ H ρ F ∧ Out G σ H F (f ρ) (fun a b _ _ => b = a) Q)
def oN : Lo → R (Option Int) := fun _ => .ok none
def oS (f : Lo → R D) : Lo → R (Option Int) := fun ρ => (f ρ).bind fun d => match d with
  | .int i => .ok (some i)
  | _ => .bad
theorem po_imp {o : Option Expr} {t t' : TO} (h : PO X o t) (i : ∀ σ H Q, t' σ H Q → t σ H Q) : PO X o t' := ⟨fun pins s σ H Q I q => h.run pins s σ H Q I (i σ H Q q)⟩
theorem vo_none : VO X G none oN := ⟨po_imp po_none fun σ H Q ⟨ρ, F, rl, o⟩ => o none H F (Le.refl rl.le.the) rfl⟩
theorem vo_some (ha : VE X G m1 a fa) : VO X G (some a) (oS fa) := ⟨po_imp (po_some ha.pe) fun σ H Q ⟨ρ, F, rl, o⟩ => by
  refine ⟨ρ, F, rl, Out.bind (S' := fun a b _ _ => b = a) o (fun _ _ _ _ _ _ _ h => h) fun d x H1 F1 _ l s k => ?_⟩
  have q := k (S'' := fun a b _ _ => b = a) fun _ _ _ _ h => h
  cases d with
  | int i => exact ⟨i, rb_int (rb_of s), q _ H1 F1 (Le.refl l.the) rfl⟩
  | _ => exact q.elim⟩
def eSl (fa : Lo → R D) (fl fh : Lo → R (Option Int)) : Lo → R D := fun ρ => (fa ρ).bind fun x => (fl ρ).bind fun lo => (fh ρ).bind fun hi => R.opt (opCut lo hi x)
/-- a slice of a list is new; of a tuple or a text what it is matters to none -/
theorem ve_sl {lo hi : Option Expr} {fl fh : Lo → R (Option Int)} (x : VX X G k) (ha : VE X G m1 a fa) (hl : VO X G lo fl) (hh : VO X G hi fh) : VE X G m (.Subscript a (.Slice lo hi none p2) pos) (eSl fa fl fh) :=
  ⟨pe_imp (pe_slice (x.K ▸ sl_cut) ha.pe hl.po hh.po) fun σ H Q ⟨ρ, F, rl, o⟩ => by
    refine ⟨ρ, F, rl, Out.bind (S' := fun d v H' F' => Rp G.K m H H' F' v d) o (fun _ _ _ _ _ _ _ h => h) fun d v H1 F1 _ l s k => ?_⟩
    have o1 := k (S'' := fun d v H' F' => Rp G.K m H1 H' F' v d) fun d v H' F' h => h.back l.keep
    refine ⟨ρ, F1, rl.step l, Out.bind (S' := fun d v H' F' => Rp G.K m H1 H' F' v d) o1 (fun _ _ _ _ _ _ _ h => h) fun lo y H2 F2 _ l2 s2 k2 => ?_⟩
    subst s2
    have o2 := k2 (S'' := fun d v H' F' => Rp G.K m H2 H' F' v d) fun d v H' F' h => h.back l2.keep
    refine ⟨ρ, F2, (rl.step l).step l2, Out.bind (S' := fun d v H' F' => Rp G.K m H2 H' F' v d) o2 (fun _ _ _ _ _ _ _ h => h) fun hi z H3 F3 _ l3 s3 k3 => ?_⟩
    subst s3
    have o3 := ans_of rfl (k3 (S'' := fun d v H' F' => Rp G.K m H3 H' F' v d) fun d v H' F' h => h.back l3.keep)
    have r := ((rb_of s).le l2).le l3
    cases d with
    | lst ds =>
      obtain ⟨p, xs, e, ll, sl⟩ := rb_lst r
      exact .inl ⟨p, xs, e, ll.sql, ans_new l3.the (shl_cut sl y z) o3⟩
    | tup ds =>
      obtain ⟨p, xs, e, ll, sl⟩ := rb_tup r
      subst e
      refine .inr (.inl ⟨p, xs, rfl, ll, fun hw => ?_, fun _ => ans_newT l3.the (shl_cut sl y z) o3⟩)
      have ed : cutD ds y z = ds := by
        unfold cutD
        rw [sl.length] at hw
        rw [hw.1, hw.2]
        simp
      have o4 : Ans G m H3 F3 (some (.tup (cutD ds y z))) Q := o3
      rw [ed] at o4
      exact ans_ok l3.the o4 (rp_tup (.tup ll sl))
    | str c =>
      obtain ⟨hf, o4⟩ := ans_if o3
      exact .inr (.inr ⟨c, rb_str r, fits_line hf, ans_ok l3.the o4 (rp_str _)⟩)
    | _ => exact (ans_no o3).elim⟩
end

/-! ### what is walked -/
/-- at turn i it gives the i-th of ds, while what was frozen at H1 stands -/
structure Wk (G : VG) (J : It) (ds : List D) (H1 : Hp) (F1 : Fro) : Prop where
  goes : ∀ i H, i < ds.length → Kp F1 H1 H → J.go i H
  stops : ∀ H, Kp F1 H1 H → J.stop ds.length H
  few : ds.length ≤ sizeLine
  yields : ∀ i H F x H', i < ds.length → Kp F1 H1 H → (∀ a, F1 a → F a) → The F H → J.yld i H x H' → ∃ d F', ds[i]? = some d ∧ Le H F H' F' ∧ Sh G.K H' F' x d
structure VI (X : Cx) (G : VG) (tg iter : Expr) (f : Lo → R (List D)) : Prop where
  pi : PI X tg iter (fun σ H R => ∃ ρ F, Rel G σ H ρ F ∧ Out G σ H F (f ρ) (fun ds J H' F' => Wk G J ds H' F') R)
section
variable {X : Cx} {G : VG} {k : Nat} {m m1 m2 : Md} {tg a b : Expr} {fa fb : Lo → R D} {pos p : Pos}
theorem wk_at {G : VG} {J : It} {ds : List D} {vs : List V} {H1 : Hp} {F1 : Fro} (s : ShL G.K H1 F1 vs ds) (few : vs.length ≤ sizeLine) (hg : ∀ i H, i < vs.length → Kp F1 H1 H → J.go i H) (hs : ∀ H, Kp F1 H1 H → J.stop vs.length H)
    (hy : ∀ i H x H', i < vs.length → Kp F1 H1 H → J.yld i H x H' → H' = H ∧ vs[i]? = some x) : Wk G J ds H1 F1 := by
  have hl := s.length
  refine ⟨fun i H hi k => hg i H (by omega) k, fun H k => by rw [← hl]; exact hs H k, by omega, fun i H F x H' hi k sb t y => ?_⟩
  obtain ⟨e, ex⟩ := hy i H x H' (by omega) k y
  subst e
  obtain ⟨d, ed, sd⟩ := s.get ex
  exact ⟨d, F, ed, Le.refl t, sd.mono k sb⟩
theorem fz_keep {xs : List V} {H H' : Hp} {F : Fro} {q : Addr} (h : FzL G.K H F q xs) (k : Kp F H H') : SqL G.K H' q xs := (h.mono k fun _ h => h).sql
def items : D → R (List D)
  | .lst ds => .ok ds
  | .tup ds => .ok ds
  | .str z => if fits z.length = true then .ok (z.cps.toList.map fun c => .str ⟨#[c]⟩) else .bad
  | .dic kvs => if fits kvs.length = true then .ok (kvs.map (·.1)) else .bad
  | _ => .bad
def iS (f : Lo → R D) : Lo → R (List D) := fun ρ => (f ρ).bind items
/-- over a list, a tuple, a text -/
theorem vi_seq (x : VX X G k) (ha : VE X G .sh a fa) : VI X G tg a (iS fa) := by
  refine ⟨⟨fun pins s σ H Rr I h => ?_⟩⟩
  obtain ⟨ρ, F, rl, o⟩ := h
  have o : Out G σ H F ((fa ρ).bind items) (fun ds J H' F' => Wk G J ds H' F') Rr := o
  have eK := x.K
  cases ef : fa ρ with
  | bad => rw [ef] at o; exact o.elim
  | ex c fs =>
    rw [ef] at o
    refine thn (ha.pe.run pins s σ H (fun _ _ => False) I ⟨ρ, F, rl, by rw [ef]; exact o⟩) fun v s1 ⟨_, _, _, _, z⟩ => z.elim
  | ok d =>
    rw [ef] at o
    cases d with
    | lst ds =>
      -- the length of what is read is told by the state
      have hv : wpAny (model X.prog X.w) X.A (eval a X.env) (EP X pins σ fun v H' => ∃ F' q xs, Le H F H' F' ∧ v = .ref q ∧ FzL G.K H' F' q xs ∧ ShL G.K H' F' xs ds) X.xe s :=
        ha.pe.run pins s σ H _ I ⟨ρ, F, rl, by
          rw [ef]
          intro v H' F' l sv
          cases sv with
          | lst h r => exact ⟨F', _, _, l, rfl, h, r⟩⟩
      refine thn hv fun v s1 ⟨y, H1, I1, r1, F1, q, xs, l1, e1, fz, sd⟩ => ?_
      subst e1
      cases r1
      obtain ⟨its, rv, pl, hz⟩ := I1.list (eK ▸ fz.sql)
      refine wpAny_pyIter_list pl.isList ?_
      refine ⟨s1.heap.objs.size, [s1.heap.objs.size], _, _, H1, rfl, I1.kept (t' := s1.toks) fun b o e => Heap.get?_push_of_some _ e, turn_list q _, ⟨_, Heap.get?_push_size _ rfl, rfl, rfl⟩, fun b hb => ?_, ?_⟩
      · have e : b = s1.heap.objs.size := by simpa using hb
        subst e
        exact I1.fpOk (Nat.le_refl _) (I1.hok.fresh (Nat.le_refl _))
      · refine o _ H1 F1 l1 (wk_at sd hz (fun i H2 hi k => ⟨xs, xs[i], eK ▸ fz_keep fz k, by simp [hi]⟩) (fun H2 k => ⟨xs, eK ▸ fz_keep fz k, Nat.le_refl _⟩) fun i H2 x H' hi k y => ⟨y.1, y.2 xs (eK ▸ fz_keep fz k)⟩)
    | tup ds =>
      have hv : wpAny (model X.prog X.w) X.A (eval a X.env) (EP X pins σ fun v H' => ∃ F' q xs, Le H F H' F' ∧ v = .ref q ∧ SqT G.K H' q xs ∧ ShL G.K H' F' xs ds) X.xe s :=
        ha.pe.run pins s σ H _ I ⟨ρ, F, rl, by
          rw [ef]
          intro v H' F' l sv
          cases sv with
          | tup h r => exact ⟨F', _, _, l, rfl, h, r⟩⟩
      refine thn hv fun v s1 ⟨y, H1, I1, r1, F1, q, xs, l1, e1, fz, sd⟩ => ?_
      subst e1
      cases r1
      obtain ⟨its, rv, pl, hz⟩ := I1.tuple (eK ▸ fz)
      refine wpAny_pyIter_tuple (show s1.heap.IsTuple q its.toArray from pl) ?_
      refine ⟨s1.heap.objs.size, [s1.heap.objs.size], _, _, H1, rfl, I1.kept (t' := s1.toks) fun b o e => Heap.get?_push_of_some _ e, turn_tuple q _, ⟨_, Heap.get?_push_size _ rfl, rfl, rfl⟩, fun b hb => ?_, ?_⟩
      · have e : b = s1.heap.objs.size := by simpa using hb
        subst e
        exact I1.fpOk (Nat.le_refl _) (I1.hok.fresh (Nat.le_refl _))
      · refine o _ H1 F1 l1 (wk_at sd hz (fun i H2 hi k => ⟨xs, xs[i], eK ▸ sqt_mono fz k, by simp [hi]⟩) (fun H2 k => ⟨xs, eK ▸ sqt_mono fz k, Nat.le_refl _⟩) fun i H2 x H' hi k y => ⟨y.1, y.2 xs (eK ▸ sqt_mono fz k)⟩)
    | str z =>
      have o : Out G σ H F (if fits z.length = true then R.ok (z.cps.toList.map fun c => D.str ⟨#[c]⟩) else R.bad) (fun ds J H' F' => Wk G J ds H' F') Rr := o
      cases hf : fits z.length with
      | false => rw [hf] at o; exact o.elim
      | true =>
        rw [hf] at o
        refine (pi_str (X := X) (tg := tg) ha.pe).run pins s σ H Rr I ⟨ρ, F, rl, ?_⟩
        rw [ef]
        intro v H' F' l sv
        cases sv
        refine ⟨z, rfl, o _ H' F' l ⟨fun i H2 hi k => ?_, fun H2 k => ?_, ?_, fun i H2 F2 x H3 hi k sb t y => ?_⟩⟩
        · show i < z.cps.size
          simpa using hi
        · show z.cps.size ≤ _
          simp
        · rw [List.length_map, Array.length_toList]
          exact fits_line hf
        · obtain ⟨e, c, ec, ex⟩ := y
          subst e ex
          refine ⟨.str ⟨#[c]⟩, F2, ?_, Le.refl t, .str _⟩
          rw [List.getElem?_map, Array.getElem?_toList, ec]
          rfl
    | dic es =>
      have o : Out G σ H F (if fits es.length = true then R.ok (es.map (·.1)) else R.bad) (fun ds J H' F' => Wk G J ds H' F') Rr := o
      cases hf : fits es.length with
      | false => rw [hf] at o; exact o.elim
      | true =>
        rw [hf] at o
        refine (pi_keys (X := X) (tg := tg) ha.pe).run pins s σ H Rr I ⟨ρ, F, rl, ?_⟩
        rw [ef]
        intro v H' F' l sv
        cases sv with
        | @dic a od kvs ds hd hl =>
          have e1 : ((kvs.map fun p => kD p.1).zip ds).map (·.1) = kvs.map fun p => kD p.1 := by
            rw [List.map_fst_zip]
            have := hl.length
            simp only [List.length_map] at this ⊢
            omega
          have e2 : ((kvs.map fun p => kD p.1).zip ds).length = kvs.length := by
            rw [← List.length_map (f := (·.1)), e1, List.length_map]
          have kk : ∀ H2, Kp F' H' H2 → H2 a = some (.frz od (.dK kvs)) := fun H2 k => k a _ hd (.inr fun z => z)
          refine ⟨a, od, rfl, .inl ⟨kvs, hd, o _ H' F' l ⟨fun i H2 hi k => ⟨kk H2 k, ?_⟩, fun H2 k => ⟨kk H2 k, ?_⟩, ?_, fun i H2 F2 x H3 hi k sb t y => ?_⟩⟩⟩
          · rw [e1, List.length_map] at hi; exact hi
          · rw [e1, List.length_map]; exact Nat.le_refl _
          · rw [e1, List.length_map, ← e2]; exact fits_line hf
          · obtain ⟨e, kx, v2, hv2, ex⟩ := y
            subst e ex
            refine ⟨kD kx, F2, ?_, Le.refl t, ?_⟩
            · rw [e1, List.getElem?_map, hv2]; rfl
            · cases kx with
              | inl i => exact .int i
              | inr x => exact .str x
    | _ => exact o.elim
/-- range(n), range(a, b) -/
def rng (a b : Int) : List D := (List.range (b - a).toNat).map fun i => .int (a + (i : Nat))
def fits62 (i : Int) : Bool := decide (-(2 ^ 62) ≤ i ∧ i < 2 ^ 62)
def iR1 (f : Lo → R D) : Lo → R (List D) := fun ρ => (f ρ).bind fun d => match d with
  | .int j => if (fits62 j && fits j.toNat) = true then .ok (rng 0 j) else .bad
  | _ => .bad
def iR2 (f g : Lo → R D) : Lo → R (List D) := fun ρ => (f ρ).bind fun d => (g ρ).bind fun e => match d, e with
  | .int i, .int j => if ((fits62 i && fits62 j) && fits (j - i).toNat) = true then .ok (rng i j) else .bad
  | _, _ => .bad
theorem wk_rng {H1 : Hp} {F1 : Fro} {lo : Int} {n : Nat} (hn : n ≤ sizeLine) : Wk G (Itr lo n) ((List.range n).map fun i => .int (lo + (i : Nat))) H1 F1 := by
  refine ⟨fun i H2 hi k => show i < n by simpa using hi, fun H2 k => by show n ≤ _; simp, by simpa using hn, fun i H2 F2 x H3 hi k sb t y => ?_⟩
  obtain ⟨e, ex⟩ := y
  subst e ex
  have hi' : i < n := by simpa using hi
  exact ⟨.int (lo + i), F2, by rw [List.getElem?_map, List.getElem?_range hi']; rfl, Le.refl t, .int _⟩
theorem vi_range1 (hm : X.mg "range" = none) (ha : VE X G m1 a fa) (hg : Gl X "range" := by rfl) (hs : starEach [a] X.env = [(false, eval a X.env)] := by rfl) : VI X G tg (.Call (.Name "range" p) [a] [] pos) (iR1 fa) := by
  have h0 := pi_range1 (X := X) (tg := tg) (p := p) (pos := pos) hg hm (pa_cons ha.pe pa_nil (by rw [hs]; rfl)) hs
  refine ⟨⟨fun pins s σ H Rr I ⟨ρ, F, rl, o⟩ => h0.run pins s σ H Rr I ⟨ρ, F, rl, Out.bind (S' := fun ds J H' F' => Wk G J ds H' F') o (fun _ _ _ _ _ _ _ h => h) fun d v H1 F1 _ l s k => ?_⟩⟩⟩
  have q := k (S'' := fun ds J H' F' => Wk G J ds H' F') fun _ _ _ _ h => h
  cases d with
  | int j =>
    by_cases hf : (fits62 j && fits j.toNat) = true
    · have q' : Out G σ H1 F1 (if (fits62 j && fits j.toNat) = true then R.ok (rng 0 j) else R.bad) (fun ds J H' F' => Wk G J ds H' F') Rr := q
      rw [if_pos hf] at q'
      rw [Bool.and_eq_true] at hf
      have h62 := of_decide_eq_true hf.1
      refine ⟨j, by rw [rb_int (rb_of s)], h62.1, h62.2, q' _ H1 F1 (Le.refl l.the) ?_⟩
      have e : rng 0 j = (List.range j.toNat).map fun i => .int (0 + (i : Nat)) := by unfold rng; rw [Int.sub_zero]
      rw [e]
      exact wk_rng (fits_line hf.2)
    · have q' : Out G σ H1 F1 (if (fits62 j && fits j.toNat) = true then R.ok (rng 0 j) else R.bad) (fun ds J H' F' => Wk G J ds H' F') Rr := q
      rw [if_neg hf] at q'
      exact q'.elim
  | _ => exact q.elim
theorem vi_range2 (hm : X.mg "range" = none) (ha : VE X G m1 a fa) (hb : VE X G m2 b fb) (hg : Gl X "range" := by rfl) (hs : starEach [a, b] X.env = [(false, eval a X.env), (false, eval b X.env)] := by rfl) (hs2 : starEach [b] X.env = [(false, eval b X.env)] := by rfl) :
    VI X G tg (.Call (.Name "range" p) [a, b] [] pos) (iR2 fa fb) := by
  have h0 := pi_range2 (X := X) (tg := tg) (p := p) (pos := pos) hg hm (pa_cons ha.pe (pa_cons hb.pe pa_nil (by rw [hs2]; rfl)) (by rw [hs, hs2])) hs hs2
  refine ⟨⟨fun pins s σ H Rr I ⟨ρ, F, rl, o⟩ => h0.run pins s σ H Rr I ⟨ρ, F, rl, Out.bind (S' := fun ds J H' F' => Wk G J ds H' F') o (fun _ _ _ _ _ _ _ h => h) fun d v H1 F1 _ l s k => ?_⟩⟩⟩
  have o1 := k (S'' := fun ds J H' F' => Wk G J ds H' F') fun _ _ _ _ h => h
  refine ⟨ρ, F1, rl.step l, Out.bind (S' := fun ds J H' F' => Wk G J ds H' F') o1 (fun _ _ _ _ _ _ _ h => h) fun e w H2 F2 _ l2 s2 k2 => ?_⟩
  have q := k2 (S'' := fun ds J H' F' => Wk G J ds H' F') fun _ _ _ _ h => h
  cases d with
  | int i =>
    cases e with
    | int j =>
      by_cases hf : ((fits62 i && fits62 j) && fits (j - i).toNat) = true
      · have q' : Out G σ H2 F2 (if ((fits62 i && fits62 j) && fits (j - i).toNat) = true then R.ok (rng i j) else R.bad) (fun ds J H' F' => Wk G J ds H' F') Rr := q
        rw [if_pos hf] at q'
        rw [Bool.and_eq_true, Bool.and_eq_true] at hf
        have h1 := of_decide_eq_true hf.1.1
        have h2 := of_decide_eq_true hf.1.2
        exact ⟨i, j, by rw [rb_int (rb_of s), rb_int (rb_of s2)], ⟨h1.1, h1.2, h2.1, h2.2⟩, q' _ H2 F2 (Le.refl l2.the) (wk_rng (fits_line hf.2))⟩
      · have q' : Out G σ H2 F2 (if ((fits62 i && fits62 j) && fits (j - i).toNat) = true then R.ok (rng i j) else R.bad) (fun ds J H' F' => Wk G J ds H' F') Rr := q
        rw [if_neg hf] at q'
        exact q'.elim
    | _ => exact q.elim
  | _ => cases e <;> exact q.elim
end
end VL

namespace VL
open PyProof.Rows PySem L2 PySem.Spec

/-! ### targets -/
/-- a target that stores into the slots ws -/
structure VP (X : Cx) (G : VG) (tg : Expr) (ws : List Nat) (g : D → Lo → R Lo) : Prop where
  pg : PG X tg (fun v σ H Q => ∃ ρ F d, Rel G σ H ρ F ∧ Sh G.K H F v d ∧ match g d ρ with
    | .ok ρ' => ∀ σ', Rel G σ' H ρ' F → σ'.length = σ.length → (∀ i, i ∉ ws → σ'[i]? = σ[i]?) → Q σ' H
    | _ => False)
structure VPs (X : Cx) (G : VG) (tgs : List Expr) (ws : List Nat) (g : List D → Lo → R Lo) : Prop where
  pgs : PGs X tgs (fun vs σ H Q => ∃ ρ F ds, Rel G σ H ρ F ∧ ShL G.K H F vs ds ∧ match g ds ρ with
    | .ok ρ' => ∀ σ', Rel G σ' H ρ' F → σ'.length = σ.length → (∀ i, i ∉ ws → σ'[i]? = σ[i]?) → Q σ' H
    | _ => False)
section
variable {X : Cx} {G : VG} {k : Nat} {e : Expr} {es : List Expr} {pos : Pos}
theorem pg_imp {t t' : TG} (h : PG X e t) (i : ∀ v σ H Q, t' v σ H Q → t v σ H Q) : PG X e t' := ⟨fun pins s σ H v u Q I r q => h.run pins s σ H v u Q I r (i v σ H Q q)⟩
theorem pgs_imp {t t' : TGs} (h : PGs X es t) (i : ∀ v σ H Q, t' v σ H Q → t v σ H Q) : PGs X es t' := ⟨fun pins s σ H v u Q I r q => h.run pins s σ H v u Q I r (i v σ H Q q)⟩
def gS (i : Nat) : D → Lo → R Lo := fun d ρ => .ok (ρ.set i (.sh d))
theorem vp_name (i : Nat) {x : Str} (xx : VX X G k) (hN : X.N[i]? = some x := by rfl) (hx : Loc X.env.scope x := by first | exact Or.inl rfl | exact Or.inr rfl) (hf : X.fn x = true ∨ X.env.scope.names.lookup x = some .local := by first | exact .inl rfl | exact .inr rfl) : VP X G (.Name x pos) [i] (gS i) :=
  ⟨pg_imp (pg_name (i := i) xx.nd hN hx hf) fun v σ H Q ⟨ρ, F, d, rl, s, q⟩ => q _ (rl.setSh i s) (by simp) fun j hj => List.getElem?_set_ne (by simpa using (fun e => hj (by simp [e])))⟩
def gNil2 : List D → Lo → R Lo := fun ds ρ => match ds with
  | [] => .ok ρ
  | _ => .bad
def gCons2 (g : D → Lo → R Lo) (gr : List D → Lo → R Lo) : List D → Lo → R Lo := fun ds ρ => match ds with
  | d :: r => (g d ρ).bind fun ρ' => gr r ρ'
  | [] => .bad
def gT2 (n : Nat) (g : List D → Lo → R Lo) : D → Lo → R Lo := fun d ρ => match d with
  | .tup ds => if ds.length = n then g ds ρ else .bad
  | .lst ds => if ds.length = n then g ds ρ else .bad
  | _ => .bad
theorem pg_or {t t' : TG} (h : PG X e t) (h' : PG X e t') : PG X e (fun v σ H Q => t v σ H Q ∨ t' v σ H Q) := ⟨fun pins s σ H v u Q I r q => q.elim (h.run pins s σ H v u Q I r) (h'.run pins s σ H v u Q I r)⟩
theorem vps_nil : VPs X G [] [] gNil2 := ⟨pgs_imp pgs_nil fun vs σ H Q ⟨ρ, F, ds, rl, s, q⟩ => by
  cases s with
  | nil => exact ⟨rfl, q σ rl rfl fun _ _ => rfl⟩
  | cons _ _ => exact q.elim⟩
theorem vps_cons {ws ws' : List Nat} {g : D → Lo → R Lo} {gr : List D → Lo → R Lo} (h : VP X G e ws g) (hr : VPs X G es ws' gr) (hs : (assignEach (e :: es) X.env).map (·.2) = assign e X.env :: (assignEach es X.env).map (·.2) := by rfl) : VPs X G (e :: es) (ws ++ ws') (gCons2 g gr) :=
  ⟨pgs_imp (pgs_cons h.pg hr.pgs hs) fun vs σ H Q ⟨ρ, F, ds, rl, s, q⟩ => by
    cases s with
    | nil => exact q.elim
    | @cons v vr d dr s1 s2 =>
      refine ⟨v, vr, rfl, ρ, F, d, rl, s1, ?_⟩
      have q : match (g d ρ).bind fun ρ' => gr dr ρ' with
        | .ok ρ' => ∀ σ', Rel G σ' H ρ' F → σ'.length = σ.length → (∀ i, i ∉ ws ++ ws' → σ'[i]? = σ[i]?) → Q σ' H
        | _ => False := q
      cases e1 : g d ρ with
      | ok ρ1 =>
        rw [e1] at q
        intro σ1 r1 l1 k1
        refine ⟨ρ1, F, dr, r1, s2, ?_⟩
        have q : match gr dr ρ1 with
          | .ok ρ' => ∀ σ', Rel G σ' H ρ' F → σ'.length = σ.length → (∀ i, i ∉ ws ++ ws' → σ'[i]? = σ[i]?) → Q σ' H
          | _ => False := q
        cases e2 : gr dr ρ1 with
        | ok ρ2 =>
          rw [e2] at q
          intro σ2 r2 l2 k2
          exact q σ2 r2 (l2.trans l1) fun i hi => (k2 i fun z => hi (List.mem_append_right _ z)).trans (k1 i fun z => hi (List.mem_append_left _ z))
        | ex c fs => rw [e2] at q; exact q.elim
        | bad => rw [e2] at q; exact q.elim
      | ex c fs => rw [e1] at q; exact q.elim
      | bad => rw [e1] at q; exact q.elim⟩
theorem vp_tup {ws : List Nat} {g : List D → Lo → R Lo} {n kk : Nat} (x : VX X G k) (h : VPs X G es ws g) (hn : (assignEach es X.env).length = n := by rfl) (hst : (assignEach es X.env).findIdx? (·.1) = none := by rfl) : VP X G (.Tuple es kk pos) ws (gT2 n g) :=
  ⟨pg_imp (pg_or (pg_tup (n := n) x.calm h.pgs hn hst) (pg_unl (n := n) x.calm h.pgs hn hst)) fun v σ H Q ⟨ρ, F, d, rl, s, q⟩ => by
    cases d with
    | tup ds =>
      have q : match (if ds.length = n then g ds ρ else R.bad) with
        | .ok ρ' => ∀ σ', Rel G σ' H ρ' F → σ'.length = σ.length → (∀ i, i ∉ ws → σ'[i]? = σ[i]?) → Q σ' H
        | _ => False := q
      by_cases hl : ds.length = n
      · rw [if_pos hl] at q
        cases s with
        | tup hq r => exact .inl ⟨_, _, rfl, x.K ▸ hq, r.length.trans hl, ρ, F, ds, rl, r, q⟩
      · rw [if_neg hl] at q; exact q.elim
    | lst ds =>
      have q : match (if ds.length = n then g ds ρ else R.bad) with
        | .ok ρ' => ∀ σ', Rel G σ' H ρ' F → σ'.length = σ.length → (∀ i, i ∉ ws → σ'[i]? = σ[i]?) → Q σ' H
        | _ => False := q
      by_cases hl : ds.length = n
      · rw [if_pos hl] at q
        cases s with
        | lst hq r => exact .inr ⟨_, _, rfl, x.K ▸ hq.sql, r.length.trans hl, ρ, F, ds, rl, r, q⟩
      · rw [if_neg hl] at q; exact q.elim
    | _ => exact q.elim⟩
end

/-! ### outcomes of statements -/
inductive Fl where
  | nx (ρ : Lo) | bk (ρ : Lo) | ct (ρ : Lo) | rt (d : D) | ex (c : Str) (fs : List (Str × D)) (ρ : Lo) | bad
theorem Kp.trans {F F1 : Fro} {H H1 H2 : Hp} (a : Kp F H H1) (s : ∀ a, F a → F1 a) (b : Kp F1 H1 H2) : Kp F H H2 := fun x o e h => b x o (a x o e h) (h.elim (fun z => .inl (s x z)) .inr)
theorem Kp.refl {F : Fro} {H : Hp} : Kp F H H := fun _ _ e _ => e
def SO (G : VG) (m : Md) (H : Hp) (F : Fro) (Dn : Ends) : Fl → Prop
  | .nx ρ => ∀ σ' H' F', Rel G σ' H' ρ F' → Kp F H H' → (∀ a, F a → F' a) → Dn.nx σ' H'
  | .bk ρ => ∀ σ' H' F', Rel G σ' H' ρ F' → Kp F H H' → (∀ a, F a → F' a) → Dn.bk σ' H'
  | .ct ρ => ∀ σ' H' F', Rel G σ' H' ρ F' → Kp F H H' → (∀ a, F a → F' a) → Dn.ct σ' H'
  | .rt d => ∀ v H' F', Le G.H0 G.F0 H' F' → Rp G.K m G.H0 H' F' v d → Dn.rt v H'
  | .ex c fs ρ => ∀ cls dd σ' H' F', Rel G σ' H' ρ F' → Kp F H H' → (∀ a, F a → F' a) → Xr G H' F' cls dd c fs → G.W cls dd σ' H'
  | .bad => False
def tS (G : VG) (m : Md) (f : Lo → Fl) : TS := fun Dn σ H => ∃ ρ F, Rel G σ H ρ F ∧ SO G m H F Dn (f ρ)
structure VS (X : Cx) (G : VG) (m : Md) (st : Stmt) (f : Lo → Fl) : Prop where
  ps : PS X st (tS G m f)
structure VB (X : Cx) (G : VG) (m : Md) (sts : List Stmt) (f : Lo → Fl) : Prop where
  pss : PSs X sts (tS G m f)
def fb {α : Type} (r : R α) (ρ : Lo) (k : α → Fl) : Fl := match r with
  | .ok a => k a
  | .ex c fs => .ex c fs ρ
  | .bad => .bad
section
variable {G : VG} {m m1 : Md} {H H1 : Hp} {F F1 : Fro} {Dn Dn' : Ends} {σ : L2.St} {ρ : Lo}
theorem SO.move {r : Fl} (h : SO G m H F Dn r) (k : Kp F H H1) (s : ∀ a, F a → F1 a) : SO G m H1 F1 Dn r := by
  cases r with
  | nx ρ => exact fun σ' H' F' rl k' s' => h σ' H' F' rl (k.trans s k') fun a z => s' a (s a z)
  | bk ρ => exact fun σ' H' F' rl k' s' => h σ' H' F' rl (k.trans s k') fun a z => s' a (s a z)
  | ct ρ => exact fun σ' H' F' rl k' s' => h σ' H' F' rl (k.trans s k') fun a z => s' a (s a z)
  | rt d => exact h
  | ex c fs ρ => exact fun cls dd σ' H' F' rl k' s' x => h cls dd σ' H' F' rl (k.trans s k') (fun a z => s' a (s a z)) x
  | bad => exact h
theorem SO.le {r : Fl} (h : SO G m H F Dn r) (l : Le H F H1 F1) : SO G m H1 F1 Dn r := h.move l.kp l.sub
/-- an expression ahead of what a statement does with its value -/
theorem out_s {α β : Type} {S : α → β → Hp → Fro → Prop} {Q : β → Hp → Prop} {f : R α} {kk : α → Fl} (rl : Rel G σ H ρ F) (o : SO G m H F Dn (fb f ρ kk)) (h : ∀ a b H1 F1, f = .ok a → Le H F H1 F1 → S a b H1 F1 → SO G m H1 F1 Dn (kk a) → Q b H1) : Out G σ H F f S Q := by
  cases f with
  | ok a => exact fun b H' F' l s => h a b H' F' rfl l s (SO.le o l)
  | ex c fs => exact fun cls dd H' F' l x => o cls dd σ H' F' (rl.step l) l.kp l.sub x
  | bad => exact o
end

section
variable {X : Cx} {G : VG} {k : Nat} {m m1 : Md} {e : Expr} {st : Stmt} {sts rest : List Stmt} {f : Lo → R D} {c : Lo → R Bool} {g u : Lo → Fl} {pos pos' : Pos}
def sq (f g : Lo → Fl) : Lo → Fl := fun ρ => match f ρ with
  | .nx ρ' => g ρ'
  | r => r
def sNx : Lo → Fl := fun ρ => .nx ρ
theorem vb_nil : VB X G m [] sNx := ⟨pss_imp pss_nil fun Dn σ H ⟨ρ, F, rl, o⟩ => o σ H F rl Kp.refl fun _ z => z⟩
theorem so_seq {f g : Lo → Fl} {Dn : Ends} {H : Hp} {F : Fro} {ρ : Lo} (o : SO G m H F Dn (sq f g ρ)) : SO G m H F { Dn with nx := tS G m g Dn } (f ρ) := by
  unfold sq at o
  cases e : f ρ with
  | nx ρ' =>
    rw [e] at o
    exact fun σ' H' F' rl k s => ⟨ρ', F', rl, SO.move (r := g ρ') o k s⟩
  | bk ρ' => rw [e] at o; exact o
  | ct ρ' => rw [e] at o; exact o
  | rt d => rw [e] at o; exact o
  | ex c fs ρ' => rw [e] at o; exact o
  | bad => rw [e] at o; exact o
theorem vb_cons (h1 : VS X G m st g) (h2 : VB X G m rest u) : VB X G m (st :: rest) (sq g u) :=
  ⟨pss_imp (pss_cons h1.ps h2.pss) fun Dn σ H ⟨ρ, F, rl, o⟩ => ⟨ρ, F, rl, so_seq o⟩⟩
theorem vb_one (h1 : VS X G m st g) : VB X G m [st] g := ⟨pss_one h1.ps⟩
theorem vs_pass : VS X G m (.Pass pos) sNx := ⟨ps_imp ps_pass fun Dn σ H ⟨ρ, F, rl, o⟩ => o σ H F rl Kp.refl fun _ z => z⟩
def sBk : Lo → Fl := fun ρ => .bk ρ
def sCt : Lo → Fl := fun ρ => .ct ρ
theorem vs_break : VS X G m (.Break pos) sBk := ⟨ps_imp ps_break fun Dn σ H ⟨ρ, F, rl, o⟩ => o σ H F rl Kp.refl fun _ z => z⟩
theorem vs_continue : VS X G m (.Continue pos) sCt := ⟨ps_imp ps_continue fun Dn σ H ⟨ρ, F, rl, o⟩ => o σ H F rl Kp.refl fun _ z => z⟩
/-- slot i is shared from here on -/
def fz (i : Nat) : Lo → Lo := fun ρ => match ρ[i]? with
  | some (.ow d) => ρ.set i (.sh d)
  | _ => ρ
theorem rel_fz {σ : L2.St} {H : Hp} {ρ : Lo} {F : Fro} (r : Rel G σ H ρ F) (i : Nat) : (∃ F', Rel G σ H (fz i ρ) F' ∧ ∀ a, F a → F' a) ∨
    ∃ a kvs, H a = some (.dK kvs) ∧ ¬ F a ∧ ∀ od, Rel G σ (upd H a (.frz od (.dK kvs))) (fz i ρ) F := by
  unfold fz
  split
  · rename_i d e
    cases d with
    | lst ds => exact .inl (r.freeze e)
    | dic es => exact .inr (r.freezeD e)
    | _ =>
      obtain ⟨x, ex, a, ea, _, _, w⟩ := r.at e
      cases w
  · exact .inl ⟨F, r, fun _ z => z⟩
theorem vs_fz (i : Nat) (h : VS X G m st g) : VS X G m st (fun ρ => g (fz i ρ)) := ⟨⟨fun pins s σ H Dn I ⟨ρ, F, rl, o⟩ => by
  rcases rel_fz rl i with ⟨F', r', s'⟩ | ⟨a, kvs, ha, nf, z⟩
  · exact h.ps.run pins s σ H Dn I ⟨fz i ρ, F', r', SO.move o (fun a u e z => e) s'⟩
  · obtain ⟨od, I2⟩ := I.lock ha trivial
    exact h.ps.run pins s σ _ Dn I2 ⟨fz i ρ, F, z od, SO.move o (kp_own nf ha trivial) fun _ z => z⟩⟩⟩
theorem vb_fz (i : Nat) (h : VB X G m sts g) : VB X G m sts (fun ρ => g (fz i ρ)) := ⟨⟨fun pins s σ H Dn I ⟨ρ, F, rl, o⟩ => by
  rcases rel_fz rl i with ⟨F', r', s'⟩ | ⟨a, kvs, ha, nf, z⟩
  · exact h.pss.run pins s σ H Dn I ⟨fz i ρ, F', r', SO.move o (fun a u e z => e) s'⟩
  · obtain ⟨od, I2⟩ := I.lock ha trivial
    exact h.pss.run pins s σ _ Dn I2 ⟨fz i ρ, F, z od, SO.move o (kp_own nf ha trivial) fun _ z => z⟩⟩⟩
/-- name = e -/
def sSet (i : Nat) (f : Lo → R D) : Lo → Fl := fun ρ => fb (f ρ) ρ fun d => .nx (ρ.set i (.sh d))
theorem vs_set (i : Nat) {x : Str} (xx : VX X G k) (h : VE X G .sh e f) (hi : X.N[i]? = some x := by rfl) (hx : Loc X.env.scope x := by first | exact Or.inl rfl | exact Or.inr rfl) (hs : swapsWith e (some (.Name x pos')) pos.line X.env = pure false := by rfl)
    (hf : X.fn x = true ∨ X.env.scope.names.lookup x = some .local := by first | exact .inl rfl | exact .inr rfl) : VS X G m (.Assign [.Name x pos'] e pos) (sSet i f) :=
  ⟨ps_imp (ps_set (i := i) xx.nd hi hx h.pe hs hf) fun Dn σ H ⟨ρ, F, rl, o⟩ => ⟨ρ, F, rl, out_s rl o fun d v H1 F1 _ l s o1 => o1 _ H1 F1 ((rl.step l).setSh i s) Kp.refl fun _ z => z⟩⟩
/-- name = a new thing -/
def nSl (d : D) : Sl := if d.mut = true then .ow d else .sh d
def sNew (i : Nat) (f : Lo → R D) : Lo → Fl := fun ρ => fb (f ρ) ρ fun d => .nx (ρ.set i (nSl d))
theorem rel_new {σ : L2.St} {H H1 : Hp} {ρ : Lo} {F F1 : Fro} {d : D} {v : V} (rl : Rel G σ H ρ F) (l : Le H F H1 F1) (s : Rp G.K .fr H H1 F1 v d) (i : Nat) : Rel G (σ.set i (some v)) H1 (ρ.set i (nSl d)) F1 := by
  rcases s with ⟨a, e, n, nf, o⟩ | ⟨hm, s⟩
  · subst e
    unfold nSl
    rw [if_pos o.mut]
    refine (rl.step l).setOw i (none_of_keep rl.le.keep n) nf o fun j d' hj h1 h2 => ?_
    obtain ⟨b, e, _, _, w⟩ := rl.sl j _ _ h1 h2
    cases e
    exact w.there n
  · unfold nSl
    rw [hm]
    exact (rl.step l).setSh i s
theorem vs_new (i : Nat) {x : Str} (xx : VX X G k) (h : VE X G .fr e f) (hi : X.N[i]? = some x := by rfl) (hx : Loc X.env.scope x := by first | exact Or.inl rfl | exact Or.inr rfl) (hs : swapsWith e (some (.Name x pos')) pos.line X.env = pure false := by rfl)
    (hf : X.fn x = true ∨ X.env.scope.names.lookup x = some .local := by first | exact .inl rfl | exact .inr rfl) : VS X G m (.Assign [.Name x pos'] e pos) (sNew i f) :=
  ⟨ps_imp (ps_set (i := i) xx.nd hi hx h.pe hs hf) fun Dn σ H ⟨ρ, F, rl, o⟩ => ⟨ρ, F, rl, out_s rl o fun d v H1 F1 _ l s o1 => o1 _ H1 F1 (rel_new rl l s i) Kp.refl fun _ z => z⟩⟩
/-- a target that takes apart -/
def sAsg (f : Lo → R D) (g : D → Lo → R Lo) : Lo → Fl := fun ρ => fb (f ρ) ρ fun d => fb (g d ρ) ρ fun ρ' => .nx ρ'
theorem vs_asg {tg : Expr} {ws : List Nat} {g : D → Lo → R Lo} (h : VE X G .sh e f) (hg : VP X G tg ws g) (hs : swapsWithSole [tg] e pos.line X.env = pure false := by rfl) (hw : swappedStores [tg] e X.env = pure none := by rfl)
    (h1 : (assignEach [tg] X.env).map (·.2) = [assign tg X.env] := by rfl) (hok : ∀ d ρ c fs, g d ρ ≠ .ex c fs := by intros; simp_all) : VS X G m (.Assign [tg] e pos) (sAsg f g) :=
  ⟨ps_imp (ps_asg h.pe hg.pg hs hw h1) fun Dn σ H ⟨ρ, F, rl, o⟩ => ⟨ρ, F, rl, out_s rl o fun d v H1 F1 _ l s o1 => by
    refine ⟨ρ, F1, d, rl.step l, s, ?_⟩
    have o1 : SO G m H1 F1 Dn (fb (g d ρ) ρ fun ρ' => .nx ρ') := o1
    cases e : g d ρ with
    | ok ρ' => rw [e] at o1; exact fun σ' r' _ _ => o1 σ' H1 F1 r' Kp.refl fun _ z => z
    | ex c fs => exact absurd e (hok d ρ c fs)
    | bad => rw [e] at o1; exact o1.elim⟩⟩
/-- return -/
def sRet (f : Lo → R D) : Lo → Fl := fun ρ => fb (f ρ) ρ fun d => .rt d
theorem rp_base {σ : L2.St} {H H1 : Hp} {ρ : Lo} {F F1 : Fro} {d : D} {v : V} {m : Md} (rl : Rel G σ H ρ F) (s : Rp G.K m H H1 F1 v d) : Rp G.K m G.H0 H1 F1 v d := s.back rl.le.keep
theorem vs_ret (h : VE X G m e f) : VS X G m (.Return (some e) pos) (sRet f) :=
  ⟨ps_imp (ps_ret h.pe) fun Dn σ H ⟨ρ, F, rl, o⟩ => ⟨ρ, F, rl, out_s rl o fun d v H1 F1 _ l s o1 => o1 v H1 F1 (rl.le.trans l) (rp_base rl s)⟩⟩
/-- return of what can't be changed, where new things are handed back -/
def sRetC (f : Lo → R D) : Lo → Fl := fun ρ => fb (f ρ) ρ fun d => if d.mut = true then .bad else .rt d
theorem vs_retC (h : VE X G .sh e f) : VS X G .fr (.Return (some e) pos) (sRetC f) :=
  ⟨ps_imp (ps_ret h.pe) fun Dn σ H ⟨ρ, F, rl, o⟩ => ⟨ρ, F, rl, out_s rl o fun d v H1 F1 _ l s o1 => by
    cases hm : d.mut with
    | true => rw [hm] at o1; exact o1.elim
    | false => rw [hm] at o1; exact o1 v H1 F1 (rl.le.trans l) (.inr ⟨hm, s⟩)⟩⟩
/-- return of an own object of a slot -/
def sRetO (i : Nat) : Lo → Fl := fun ρ => match ρ[i]? with
  | some (.ow d) => .rt d
  | some (.sh d) => if d.mut = true then .bad else .rt d
  | _ => .bad
theorem vs_retO (i : Nat) {x : Str} (hN : X.N[i]? = some x := by rfl) (hv : Vis X.env.scope x := by first | exact Or.inl rfl | exact Or.inr (Or.inl rfl) | exact Or.inr (Or.inr rfl)) (hd : (x == ("__debug__" : Str)) = false := by decide)
    (hcd : (x == ("__classdict__" : Str)) = false := by decide) : VS X G .fr (.Return (some (.Name x pos')) pos) (sRetO i) :=
  ⟨ps_imp (ps_ret (pe_var hN hv hd hcd)) fun Dn σ H ⟨ρ, F, rl, o⟩ => by
    unfold sRetO at o
    split at o
    · rename_i d e
      obtain ⟨x, ex, a, ea, n, nf, w⟩ := rl.at e
      subst ea
      exact ⟨_, ex, o _ H F rl.le (.inl ⟨a, rfl, n, nf, w⟩)⟩
    · rename_i d e
      obtain ⟨x, ex, v, ea, s⟩ := rl.at e
      subst ea
      cases hm : d.mut with
      | true => rw [hm] at o; exact o.elim
      | false => rw [hm] at o; exact ⟨_, ex, o _ H F rl.le (.inr ⟨hm, s⟩)⟩
    · exact o.elim⟩
def sRetN : Lo → Fl := fun _ => .rt .non
theorem rp_non {K : PySem.W.Frag} {H H' : Hp} {F' : Fro} {m : Md} : Rp K m H H' F' .non .non := by
  cases m with
  | sh => exact .non
  | fr => exact .inr ⟨rfl, .non⟩
  | bw => exact .inr .non
theorem vs_retN : VS X G m (.Return none pos) sRetN := ⟨ps_imp ps_retN fun Dn σ H ⟨ρ, F, rl, o⟩ => o _ H F rl.le rp_non⟩
/-- if -/
def sIf (c : Lo → R Bool) (f g : Lo → Fl) : Lo → Fl := fun ρ => fb (c ρ) ρ fun b => if b = true then f ρ else g ρ
theorem vs_if {ce : Expr} {bs bs' : List Stmt} (hc : VT X G ce c) (h1 : VB X G m bs g) (h2 : VB X G m bs' u) : VS X G m (.If ce bs bs' pos) (sIf c g u) :=
  ⟨ps_imp (ps_if hc.pt h1.pss h2.pss) fun Dn σ H ⟨ρ, F, rl, o⟩ => ⟨ρ, F, rl, out_s rl o fun b b' H1 F1 _ l s o1 => by
    subst s
    cases b' with
    | true => exact ⟨ρ, F1, rl.step l, o1⟩
    | false => exact ⟨ρ, F1, rl.step l, o1⟩⟩⟩
/-- an expression whose value is dropped -/
def sEx (f : Lo → R D) : Lo → Fl := fun ρ => fb (f ρ) ρ fun _ => .nx ρ
theorem vs_expr (h : VE X G m1 e f) (hs : swapsWith e none pos.line X.env = pure false := by rfl) : VS X G m (.Expr e pos) (sEx f) :=
  ⟨ps_imp (ps_expr h.pe hs) fun Dn σ H ⟨ρ, F, rl, o⟩ => ⟨ρ, F, rl, out_s rl o fun d v H1 F1 _ l s o1 => o1 σ H1 F1 (rl.step l) Kp.refl fun _ z => z⟩⟩
/-- name op= e, ints -/
def sAug (i : Nat) (op : D → D → Option D) (f : Lo → R D) : Lo → Fl := fun ρ => match ρ[i]? with
  | some (.sh x) => fb (f ρ) ρ fun y => fb (R.opt (op x y)) ρ fun z => .nx (ρ.set i (.sh z))
  | _ => .bad
theorem vs_aug (i : Nat) {x : Str} {op : Operator} {r : R2} {fo : D → D → Option D} (xx : VX X G k) (hp : OpR X (inplaceOp op) r) (ho : Op2 G .sh r fo) (h : VE X G m1 e f) (hi : X.N[i]? = some x := by rfl) (hx : Loc X.env.scope x := by first | exact Or.inl rfl | exact Or.inr rfl)
    (hf : X.fn x = true ∨ X.env.scope.names.lookup x = some .local := by first | exact .inl rfl | exact .inr rfl) : VS X G m (.AugAssign (.Name x pos') op e pos) (sAug i fo f) :=
  ⟨ps_imp (ps_aug (i := i) (ti := r) xx.nd hi hx h.pe hp hf) fun Dn σ H ⟨ρ, F, rl, o⟩ => by
    unfold sAug at o
    split at o
    · rename_i d e
      obtain ⟨x, ex, v, ea, s⟩ := rl.at e
      subst ea
      refine ⟨v, ex, ρ, F, rl, out_s rl o fun d2 w H1 F1 _ l s2 o1 => ho H1 F1 v w d d2 _ l.the (.inr (s.le l)) (rb_of s2) ?_⟩
      cases eo : fo d d2 with
      | none =>
        have o1 : SO G m H1 F1 Dn (fb (R.opt (fo d d2)) ρ fun z => .nx (ρ.set i (.sh z))) := o1
        rw [eo] at o1; exact o1.elim
      | some z =>
        have o1 : SO G m H1 F1 Dn (fb (R.opt (fo d d2)) ρ fun z => .nx (ρ.set i (.sh z))) := o1
        rw [eo] at o1
        exact ⟨z, rfl, fun u H2 F2 l2 s3 => o1 _ H2 F2 (((rl.step l).step l2).setSh i s3) l2.kp l2.sub⟩
    · exact o.elim⟩
theorem vs_augMul (i : Nat) {x : Str} (xx : VX X G k) (h : VE X G m1 e f) (hi : X.N[i]? = some x := by rfl) (hx : Loc X.env.scope x := by first | exact Or.inl rfl | exact Or.inr rfl)
    (hf : X.fn x = true ∨ X.env.scope.names.lookup x = some .local := by first | exact .inl rfl | exact .inr rfl) : VS X G m (.AugAssign (.Name x pos') .Mult e pos) (sAug i opMul f) := vs_aug i xx iop_mul o2_mul h hi hx hf
theorem vs_augAdd (i : Nat) {x : Str} (xx : VX X G k) (h : VE X G m1 e f) (hi : X.N[i]? = some x := by rfl) (hx : Loc X.env.scope x := by first | exact Or.inl rfl | exact Or.inr rfl)
    (hf : X.fn x = true ∨ X.env.scope.names.lookup x = some .local := by first | exact .inl rfl | exact .inr rfl) : VS X G m (.AugAssign (.Name x pos') .Add e pos) (sAug i (fun a b => match a, b with
      | .int i, .int j => some (.int (i + j))
      | _, _ => none) f) := vs_aug i xx iop_add (by
    intro H F x y a b Q t ra rb h
    cases a <;> cases b <;> first
      | exact (ans_no h).elim
      | exact ⟨_, _, rb_int ra, rb_int rb, ans_ok t h (rp_int _)⟩) h hi hx hf

/-! ### an own list changed by a method -/
/-- x.append(e) -/
def sApp (i : Nat) (f : Lo → R D) : Lo → Fl := fun ρ => match ρ[i]? with
  | some (.ow (.lst ds)) => fb (f ρ) ρ fun d => if fits (ds.length + 1) = true then .nx (ρ.set i (.ow (.lst (ds ++ [d])))) else .bad
  | _ => .bad
theorem rel_lst {σ : L2.St} {H H1 : Hp} {ρ : Lo} {F F1 : Fro} {i : Nat} {ds : List D} (rl : Rel G σ H ρ F) (e : ρ[i]? = some (.ow (.lst ds))) : ∃ a vs, σ[i]? = some (some (.ref a)) ∧ ¬ F a ∧ H a = some (.lst vs) ∧ ShL G.K H F vs ds := by
  obtain ⟨x, ex, a, ea, n, nf, w⟩ := rl.at e
  subst ea
  cases w with
  | lst h r => exact ⟨a, _, ex, nf, h, r⟩
theorem kp_upd {H : Hp} {F : Fro} {a : Addr} {vs : List V} {u : HO} (nf : ¬ F a) (h : H a = some (.lst vs)) : Kp F H (upd H a u) := fun b w e z => by
  have nb : b ≠ a := fun q => by
    subst q
    rcases z with z | z
    · exact nf z
    · rw [h] at e; cases e; exact z trivial
  rw [upd_ne nb]; exact e
theorem rel_put {σ : L2.St} {H : Hp} {ρ : Lo} {F : Fro} {i : Nat} {a : Addr} {vs ws : List V} {ds es : List D} (rl : Rel G σ H ρ F) (e : ρ[i]? = some (.ow (.lst ds))) (ex : σ[i]? = some (some (.ref a))) (nf : ¬ F a) (h : H a = some (.lst vs)) (s : ShL G.K H F ws es) :
    Rel G σ (upd H a (.lst ws)) (ρ.set i (.ow (.lst es))) F :=
  rl.write ex e (fun o q => by rw [h] at q; cases q; trivial) (.lst upd_same (s.mono (kp_upd nf h) fun _ z => z))
theorem vs_append (i : Nat) {x : Str} {ap cp : Pos} (h : VE X G .sh e f) (hN : X.N[i]? = some x := by rfl) (hv : Vis X.env.scope x := by first | exact Or.inl rfl | exact Or.inr (Or.inl rfl) | exact Or.inr (Or.inr rfl)) (hd : (x == ("__debug__" : Str)) = false := by decide)
    (hcd : (x == ("__classdict__" : Str)) = false := by decide) (hpe : PE X (.Call (.Attribute (.Name x pos') "append" ap) [e] [] cp) (tBM X.K "list" rAppend (tVar i) (tCons (tV G .sh f) tNil)))
    (hs : swapsWith (.Call (.Attribute (.Name x pos') "append" ap) [e] [] cp) none pos.line X.env = pure false := by rfl) : VS X G m (.Expr (.Call (.Attribute (.Name x pos') "append" ap) [e] [] cp) pos) (sApp i f) :=
  ⟨ps_imp (ps_expr hpe hs) fun Dn σ H ⟨ρ, F, rl, o⟩ => by
    unfold sApp at o
    split at o
    · rename_i ds e
      obtain ⟨a, vs, ex, nf, ha, s⟩ := rel_lst (H1 := H) (F1 := F) rl e
      refine ⟨.ref a, ex, .inl ⟨rfl, _, .inl (.inl ha)⟩, ρ, F, rl, out_s rl o fun d v H1 F1 _ l s1 o1 => ?_⟩
      by_cases hf : fits (ds.length + 1) = true
      · rw [if_pos hf] at o1
        have nf1 : ¬ F1 a := fun z => (l.new a z).elim nf fun q => by rw [ha] at q; cases q
        have ha1 := l.keep a _ ha
        have hl : vs.length < sizeLine := by have := fits_line hf; rw [s.length]; omega
        exact ⟨a, vs, v, rfl, rfl, ha1, hl, o1 σ _ F1 (rel_put (rl.step l) e ex nf1 ha1 ((s.le l).append (.cons s1 .nil))) (kp_upd nf1 ha1) fun _ z => z⟩
      · rw [if_neg hf] at o1; exact o1.elim
    · exact o.elim⟩

/-! ### for -/
def forL (asg : D → Lo → R Lo) (body : Lo → Fl) : List D → Lo → Fl
  | [], ρ => .nx ρ
  | d :: ds, ρ => match asg d ρ with
    | .ok ρ1 => match body ρ1 with
      | .nx ρ2 => forL asg body ds ρ2
      | .ct ρ2 => forL asg body ds ρ2
      | .bk ρ2 => .nx ρ2
      | r => r
    | _ => .bad
def sFor (it : Lo → R (List D)) (asg : D → Lo → R Lo) (body : Lo → Fl) : Lo → Fl := fun ρ => fb (it ρ) ρ fun ds => forL asg body ds ρ
theorem drop_get {α : Type} {l : List α} {i : Nat} {a : α} (h : l[i]? = some a) : l.drop i = a :: l.drop (i + 1) := by
  obtain ⟨h1, h2⟩ := List.getElem?_eq_some_iff.mp h
  rw [List.drop_eq_getElem_cons h1, h2]
theorem vs_for {tg iter : Expr} {bs : List Stmt} {ws : List Nat} {it : Lo → R (List D)} {asg : D → Lo → R Lo} {body : Lo → Fl} (xx : VX X G k) (hp : PassesOwn (model X.prog X.w) X.A X.env X.xe) (hi : VI X G tg iter it) (hg : VP X G tg ws asg) (hb : VB X G m bs body)
    (hs : ∀ x, foldedSetIterable iter X.env x = pure x := by intro _; rfl) : VS X G m (.For tg iter bs [] pos) (sFor it asg body) :=
  ⟨ps_imp (ps_for hp xx.calm hi.pi hg.pg hb.pss hs) fun Dn σ H ⟨ρ, F, rl, o⟩ => ⟨ρ, F, rl, out_s rl o fun ds J H1 F1 _ l wk o1 => by
    refine ⟨fun i n σ H => n = ds.length - i ∧ i ≤ ds.length ∧ ∃ ρ F, Rel G σ H ρ F ∧ Kp F1 H1 H ∧ (∀ a, F1 a → F a) ∧ SO G m H F Dn (forL asg body (ds.drop i) ρ), ⟨_, rfl, Nat.zero_le _, ρ, F1, rl.step l, Kp.refl, fun _ z => z, o1⟩, ?_⟩
    rintro i n σ H ⟨rfl, hi, ρ, F, rl, kp, sb, o⟩
    by_cases hlt : i < ds.length
    · have hd : ds[i]? = some ds[i] := List.getElem?_eq_getElem hlt
      rw [drop_get hd] at o
      refine .inr ⟨wk.goes i H hlt kp, fun σ' H' => ∃ ρ' F', Rel G σ' H' ρ' F' ∧ Kp F1 H1 H' ∧ (∀ a, F1 a → F' a) ∧ SO G m H' F' Dn (forL asg body (ds.drop (i + 1)) ρ'), fun σ' H' ⟨ρ', F', a1, a2, a3, a4⟩ => ⟨ds.length - (i + 1), by omega, rfl, hlt, ρ', F', a1, a2, a3, a4⟩, fun y H' hy => ?_⟩
      obtain ⟨d, F2, ed, l2, sd⟩ := wk.yields i H F y H' hlt kp sb rl.le.the hy
      rw [hd] at ed
      cases ed
      refine ⟨ρ, F2, ds[i], rl.step l2, sd, ?_⟩
      have o : SO G m H F Dn (match asg ds[i] ρ with
        | .ok ρ1 => match body ρ1 with
          | .nx ρ2 => forL asg body (ds.drop (i + 1)) ρ2
          | .ct ρ2 => forL asg body (ds.drop (i + 1)) ρ2
          | .bk ρ2 => .nx ρ2
          | r => r
        | _ => .bad) := o
      have o := SO.le o l2
      cases e1 : asg ds[i] ρ with
      | ok ρ1 =>
        rw [e1] at o
        intro σ2 rl2 _ _
        refine ⟨ρ1, F2, rl2, ?_⟩
        have o : SO G m H' F2 Dn (match body ρ1 with
          | .nx ρ2 => forL asg body (ds.drop (i + 1)) ρ2
          | .ct ρ2 => forL asg body (ds.drop (i + 1)) ρ2
          | .bk ρ2 => .nx ρ2
          | r => r) := o
        have kp2 : Kp F1 H1 H' := kp.trans sb l2.kp
        have sb2 : ∀ a, F1 a → F2 a := fun a z => l2.sub a (sb a z)
        cases e2 : body ρ1 with
        | nx ρ2 => rw [e2] at o; exact fun σ3 H3 F3 rl3 kp3 sb3 => ⟨ρ2, F3, rl3, kp2.trans sb2 kp3, fun a z => sb3 a (sb2 a z), SO.move o kp3 sb3⟩
        | ct ρ2 => rw [e2] at o; exact fun σ3 H3 F3 rl3 kp3 sb3 => ⟨ρ2, F3, rl3, kp2.trans sb2 kp3, fun a z => sb3 a (sb2 a z), SO.move o kp3 sb3⟩
        | bk ρ2 => rw [e2] at o; exact o
        | rt d => rw [e2] at o; exact o
        | ex c fs ρ2 => rw [e2] at o; exact o
        | bad => rw [e2] at o; exact o
      | ex c fs => rw [e1] at o; exact o.elim
      | bad => rw [e1] at o; exact o.elim
    · have e : i = ds.length := by omega
      subst e
      rw [List.drop_length] at o
      exact .inl ⟨wk.stops H kp, o σ H F rl Kp.refl fun _ z => z⟩⟩⟩

/-! ### while -/
def whileN (c : Lo → R Bool) (body : Lo → Fl) : Nat → Lo → Fl
  | 0, _ => .bad
  | n + 1, ρ => fb (c ρ) ρ fun b => if b = true then (match body ρ with
    | .nx ρ2 => whileN c body n ρ2
    | .ct ρ2 => whileN c body n ρ2
    | .bk ρ2 => .nx ρ2
    | r => r) else .nx ρ
open Classical in
noncomputable def sWhile (c : Lo → R Bool) (body : Lo → Fl) : Lo → Fl := fun ρ => if h : ∃ n, whileN c body n ρ ≠ .bad then whileN c body (choose h) ρ else .bad
theorem vs_while {ce : Expr} {bs : List Stmt} {body : Lo → Fl} (hp : PassesOwn (model X.prog X.w) X.A X.env X.xe) (hc : VT X G ce c) (hb : VB X G m bs body) : VS X G m (.While ce bs [] pos) (sWhile c body) :=
  ⟨ps_imp (ps_while hp hc.pt hb.pss) fun Dn σ H ⟨ρ, F, rl, o⟩ => by
    obtain ⟨n, o⟩ : ∃ n, SO G m H F Dn (whileN c body n ρ) := by
      unfold sWhile at o
      split at o
      · exact ⟨_, o⟩
      · exact o.elim
    refine ⟨fun n σ H => ∃ ρ F, Rel G σ H ρ F ∧ SO G m H F Dn (whileN c body n ρ), ⟨n, ρ, F, rl, o⟩, ?_⟩
    rintro n σ H ⟨ρ, F, rl, o⟩
    cases n with
    | zero => exact o.elim
    | succ n =>
      refine ⟨ρ, F, rl, out_s rl o fun b b' H1 F1 _ l s o1 => ?_⟩
      subst s
      cases b' with
      | false => exact o1 σ H1 F1 (rl.step l) Kp.refl fun _ z => z
      | true =>
        rw [if_pos rfl] at o1 ⊢
        refine ⟨fun σ' H' => ∃ ρ F, Rel G σ' H' ρ F ∧ SO G m H' F Dn (whileN c body n ρ), fun σ' H' q => ⟨n, Nat.lt_succ_self _, q⟩, ρ, F1, rl.step l, ?_⟩
        cases e2 : body ρ with
        | nx ρ2 => rw [e2] at o1; exact fun σ3 H3 F3 rl3 kp3 sb3 => ⟨ρ2, F3, rl3, SO.move o1 kp3 sb3⟩
        | ct ρ2 => rw [e2] at o1; exact fun σ3 H3 F3 rl3 kp3 sb3 => ⟨ρ2, F3, rl3, SO.move o1 kp3 sb3⟩
        | bk ρ2 => rw [e2] at o1; exact o1
        | rt d => rw [e2] at o1; exact o1
        | ex c fs ρ2 => rw [e2] at o1; exact o1
        | bad => rw [e2] at o1; exact o1⟩
end
end VL

namespace VL
open PyProof.Rows PySem L2 PySem.Spec

/-! ### comprehensions -/
abbrev VG.nox (G : VG) : VG := { G with W := fun _ _ _ _ => False }
theorem Rel.nox {G : VG} {σ : L2.St} {H : Hp} {ρ : Lo} {F : Fro} (r : Rel G σ H ρ F) : Rel G.nox σ H ρ F := ⟨r.len, r.sl, r.apart, r.le⟩
theorem Rel.unnox {G : VG} {σ : L2.St} {H : Hp} {ρ : Lo} {F : Fro} (r : Rel G.nox σ H ρ F) : Rel G σ H ρ F := ⟨r.len, r.sl, r.apart, r.le⟩
theorem VX.blk {X : Cx} {G : VG} {k : Nat} (x : VX X G k) (s : Shared) (H : Hp) (scope : Scope) (cenv : Env) (fp : List Addr) : VX (X.blk s H scope cenv fp) G.nox k :=
  ⟨x.K, x.mg, x.room, x.calm, x.gds, x.sysm, x.nd, takes0⟩
def wipeL (ρ : Lo) : List Nat → Lo
  | [] => ρ
  | v :: vs => (wipeL ρ vs).set v .no
theorem Rel.wipe {G : VG} {σ : L2.St} {H : Hp} {ρ : Lo} {F : Fro} (r : Rel G σ H ρ F) : ∀ vs : List Nat, Rel G (L2.wipe σ vs) H (wipeL ρ vs) F
  | [] => r
  | v :: vs => (Rel.wipe r vs).wipe1 v none
def lcL (asg : D → Lo → R Lo) (tst : Lo → R Bool) (elt : Lo → R D) (ρ0 : Lo) : List D → R (List D)
  | [] => .ok []
  | d :: ds => match asg d ρ0 with
    | .ok ρ1 => match tst ρ1 with
      | .ok true => match elt ρ1 with
        | .ok e => (lcL asg tst elt ρ0 ds).bind fun es => .ok (e :: es)
        | _ => .bad
      | .ok false => lcL asg tst elt ρ0 ds
      | _ => .bad
    | _ => .bad
def eLc (it : Lo → R (List D)) (asg : D → Lo → R Lo) (tst : Lo → R Bool) (elt : Lo → R D) (vs : List Nat) : Lo → R D := fun ρ => (it ρ).bind fun ds => (lcL asg tst elt (wipeL ρ vs) ds).bind fun es => .ok (.lst es)
/-- the tests of a comprehension -/
structure VTs (X : Cx) (G : VG) (ifs : List Expr) (f : Lo → R Bool) : Prop where
  pts : PTs X ifs (tT G f)
def tsY : Lo → R Bool := fun _ => .ok true
theorem vts_nil {X : Cx} {G : VG} : VTs X G [] tsY := ⟨⟨fun pins s σ H Q I ⟨ρ, F, rl, o⟩ => pts_nil.run pins s σ H Q I (o true H F (Le.refl rl.le.the) rfl)⟩⟩
theorem vts_one {X : Cx} {G : VG} {c : Expr} {f : Lo → R Bool} (h : VT X G c f) : VTs X G [c] f := ⟨pts_one h.pt⟩
theorem wipe_get {σ : L2.St} {i : Nat} : ∀ {vs : List Nat}, i ∉ vs → (L2.wipe σ vs)[i]? = σ[i]?
  | [], _ => rfl
  | v :: vs, h => by
    have h' : i ≠ v ∧ i ∉ vs := by simpa using h
    show ((L2.wipe σ vs).set v none)[i]? = _
    rw [List.getElem?_set_ne (Ne.symm h'.1), wipe_get h'.2]
theorem wipe_none {σ : L2.St} {i : Nat} : ∀ {vs : List Nat}, i ∈ vs → i < σ.length → (L2.wipe σ vs)[i]? = some none
  | [], h, _ => by simp at h
  | v :: vs, h, hl => by
    show ((L2.wipe σ vs).set v none)[i]? = _
    by_cases e : v = i
    · subst e
      rw [List.getElem?_set_self (by rw [wipe_length]; exact hl)]
    · rw [List.getElem?_set_ne e]
      refine wipe_none (List.mem_of_ne_of_mem (Ne.symm e) h) hl
theorem wipe_same {σ σ' : L2.St} {vs ws : List Nat} (hw : ∀ i ∈ ws, i ∈ vs) (hl : σ'.length = σ.length) (h : ∀ i, i ∉ ws → σ'[i]? = σ[i]?) : L2.wipe σ' vs = L2.wipe σ vs := by
  apply List.ext_getElem?
  intro i
  by_cases hi : i ∈ vs
  · by_cases hl2 : i < σ.length
    · rw [wipe_none hi hl2, wipe_none hi (by rw [hl]; exact hl2)]
    · rw [List.getElem?_eq_none (by rw [wipe_length]; omega), List.getElem?_eq_none (by rw [wipe_length]; omega)]
  · rw [wipe_get hi, wipe_get hi]
    exact h i fun z => hi (hw i z)
theorem wipe_wipe (σ : L2.St) (vs : List Nat) : L2.wipe (L2.wipe σ vs) vs = L2.wipe σ vs := wipe_same (ws := vs) (fun _ h => h) (wipe_length _ _) fun _ h => wipe_get h
section
variable {X : Cx} {G : VG} {k : Nat} {m : Md} {elt tg iter : Expr} {ifs : List Expr} {scope : Scope} {own : List (Str × Nat)} {ws : List Nat} {pos : Pos} {it : Lo → R (List D)} {asg : D → Lo → R Lo} {tst : Lo → R Bool} {fe : Lo → R D}
theorem lc_of {σ : L2.St} {H : Hp} {Q : VK} (hw : ∀ i ∈ ws, i ∈ own.map (·.2)) (h : tV G .fr (eLc it asg tst fe (own.map (·.2))) σ H Q) :
    tLc (fun σ H R => ∃ ρ F, Rel G σ H ρ F ∧ Out G σ H F (it ρ) (fun ds J H' F' => Wk G J ds H' F') R)
      (fun v σ H Q => ∃ ρ F d, Rel G.nox σ H ρ F ∧ Sh G.nox.K H F v d ∧ match asg d ρ with
        | .ok ρ' => ∀ σ', Rel G.nox σ' H ρ' F → σ'.length = σ.length → (∀ i, i ∉ ws → σ'[i]? = σ[i]?) → Q σ' H
        | _ => False) (tT G.nox tst) (tV G.nox .sh fe) (own.map (·.2)) σ H Q := by
  obtain ⟨ρ, F, rl, o⟩ := h
  refine ⟨ρ, F, rl, Out.bind (S' := fun d v H' F' => Rp G.K .fr H H' F' v d) o (fun _ _ _ _ _ _ _ h => h) fun ds J H1 F1 _ l wk kk => ?_⟩
  have o1 := kk (S'' := fun d v H' F' => Rp G.K .fr H1 H' F' v d) fun d v H' F' h => h.back l.keep
  intro p hp
  have np : ¬ F1 p := fun z => l.the p z hp
  cases el : lcL asg tst fe (wipeL ρ (own.map (·.2))) ds with
  | bad => rw [el] at o1; exact o1.elim
  | ex c fs =>
    -- a comprehension's own parts raise nothing here
    have no : ∀ ds : List D, lcL asg tst fe (wipeL ρ (own.map (·.2))) ds ≠ .ex c fs := by
      intro ds
      induction ds with
      | nil => intro z; cases z
      | cons d ds ih =>
        intro z
        unfold lcL at z
        split at z
        · split at z
          · split at z
            · cases q : lcL asg tst fe (wipeL ρ (own.map (·.2))) ds with
              | ok es => rw [q] at z; cases z
              | ex c' fs' => rw [q] at z; cases z; exact ih q
              | bad => rw [q] at z; cases z
            · cases z
          · exact ih z
          · cases z
        · cases z
    exact (no ds el).elim
  | ok es =>
    rw [el] at o1
    have s0 : (upd H1 p (.lst [])) p = some (.lst []) := upd_same
    have l0 := le_new (o := .lst []) l.the hp
    refine ⟨fun i n H2 => n = ds.length - i ∧ i ≤ ds.length ∧ ∃ F2 vs acc rest, Le H1 F1 H2 F2 ∧ H2 p = some (.lst vs) ∧ ¬ F2 p ∧ ShL G.K H2 F2 vs acc ∧ acc.length ≤ i ∧ lcL asg tst fe (wipeL ρ (own.map (·.2))) (ds.drop i) = .ok rest ∧ es = acc ++ rest,
      ⟨_, rfl, Nat.zero_le _, F1, [], [], es, l0, s0, np, .nil, Nat.zero_le _, el, rfl⟩, ?_⟩
    rintro i n H2 ⟨rfl, hi, F2, vs, acc, rest, l2, ep, np2, sa, hacc, hr, ees⟩
    by_cases hlt : i < ds.length
    · have hd : ds[i]? = some ds[i] := List.getElem?_eq_getElem hlt
      refine .inr ⟨wk.goes i H2 hlt l2.kp, fun H' => ∃ n', n' < ds.length - i ∧ (n' = ds.length - (i + 1) ∧ i + 1 ≤ ds.length ∧ ∃ F2 vs acc rest, Le H1 F1 H' F2 ∧ H' p = some (.lst vs) ∧ ¬ F2 p ∧ ShL G.K H' F2 vs acc ∧ acc.length ≤ i + 1 ∧ lcL asg tst fe (wipeL ρ (own.map (·.2))) (ds.drop (i + 1)) = .ok rest ∧ es = acc ++ rest), fun H' q => q, fun x H3 hy => ?_⟩
      obtain ⟨d, F3, ed, l3, sd⟩ := wk.yields i H2 F2 x H3 hlt l2.kp l2.sub l2.the hy
      rw [hd] at ed
      cases ed
      rw [drop_get hd] at hr
      have rl3 : Rel G (L2.wipe σ (own.map (·.2))) H3 (wipeL ρ (own.map (·.2))) F3 := (((rl.step l).step l2).step l3).wipe _
      have ep3 := l3.keep p _ ep
      have np3 : ¬ F3 p := fun z => (l3.new p z).elim np2 fun q => by rw [ep] at q; cases q
      refine ⟨_, F3, ds[i], rl3.nox, sd, ?_⟩
      unfold lcL at hr
      cases ea : asg ds[i] (wipeL ρ (own.map (·.2))) with
      | ok ρ1 =>
        rw [ea] at hr
        dsimp only at hr
        intro σ2 rl4 hl4 hk4
        refine ⟨(wipe_same hw hl4 hk4).trans (wipe_wipe _ _), ρ1, F3, rl4, ?_⟩
        cases et : tst ρ1 with
        | ok t =>
          rw [et] at hr
          intro b H4 F4 l4 eb
          subst eb
          have ep4 := l4.keep p _ ep3
          have np4 : ¬ F4 p := fun z => (l4.new p z).elim np3 fun q => by rw [ep3] at q; cases q
          cases b with
          | false =>
            exact ⟨_, Nat.sub_lt_sub_left hlt (Nat.lt_succ_self i), rfl, hlt, F4, vs, acc, rest, (l2.trans l3).trans l4, ep4, np4, (sa.le l3).le l4, by omega, hr, ees⟩
          | true =>
            rw [if_pos rfl]
            dsimp only at hr
            refine ⟨ρ1, F4, rl4.step l4, ?_⟩
            cases ee : fe ρ1 with
            | ok e =>
              rw [ee] at hr
              intro y H5 F5 l5 sy
              have ep5 := l5.keep p _ ep4
              have np5 : ¬ F5 p := fun z => (l5.new p z).elim np4 fun q => by rw [ep4] at q; cases q
              have sa5 := ((sa.le l3).le l4).le l5
              obtain ⟨rest', er, e3⟩ : ∃ rest', lcL asg tst fe (wipeL ρ (own.map (·.2))) (ds.drop (i + 1)) = .ok rest' ∧ rest = e :: rest' := by
                have hr : (lcL asg tst fe (wipeL ρ (own.map (·.2))) (ds.drop (i + 1))).bind (fun es => R.ok (e :: es)) = .ok rest := hr
                cases q : lcL asg tst fe (wipeL ρ (own.map (·.2))) (ds.drop (i + 1)) with
                | ok r' => rw [q] at hr; cases hr; exact ⟨r', rfl, rfl⟩
                | ex _ _ => rw [q] at hr; cases hr
                | bad => rw [q] at hr; cases hr
              have hz : vs.length < sizeLine := by
                have h1 := sa5.length
                have h2 := wk.few
                omega
              have kp5 : Kp F5 H5 (upd H5 p (.lst (vs ++ [y]))) := kp_upd np5 ep5
              have l6 : Le H1 F1 (upd H5 p (.lst (vs ++ [y]))) F5 := by
                have l7 := ((l2.trans l3).trans l4).trans l5
                refine ⟨fun a u e => ?_, l7.sub, l7.new, fun a z => ?_⟩
                · rw [upd_ne (ne_of_none e hp)]; exact l7.keep a u e
                · by_cases ha : a = p
                  · subst ha; exact absurd z np5
                  · rw [upd_ne ha]; exact l7.the a z
              refine ⟨vs, ep5, hz, _, Nat.sub_lt_sub_left hlt (Nat.lt_succ_self i), rfl, hlt, F5, vs ++ [y], acc ++ [e], rest', l6, upd_same, np5, ?_, by simpa using hacc, er, by rw [ees, e3]; simp⟩
              exact (sa5.append (.cons sy .nil)).mono kp5 fun _ z => z
            | ex _ _ => rw [ee] at hr; cases hr
            | bad => rw [ee] at hr; cases hr
        | ex _ _ => rw [et] at hr; dsimp only at hr; cases hr
        | bad => rw [et] at hr; dsimp only at hr; cases hr
      | ex _ _ => rw [ea] at hr; cases hr
      | bad => rw [ea] at hr; cases hr
    · have e : i = ds.length := by omega
      subst e
      rw [List.drop_length] at hr
      cases hr
      refine .inl ⟨wk.stops H2 l2.kp, ?_⟩
      rw [List.append_nil] at ees
      subst ees
      exact o1 _ H2 F2 l2 (.inl ⟨p, rfl, hp, np2, .lst ep sa⟩)
theorem ve_lc (x : VX X G k) (hi : VI X G tg iter it) (ok : BlkOk X.N X.env.scope scope own) (hw : ∀ i ∈ ws, i ∈ own.map (·.2))
    (hg : ∀ (s : Shared) (H : Hp) (C : Addr) (cl : List (Str × Addr)) (fp : List Addr), VX (X.blk s H scope (compEnvC scope cl C X.env) fp) G.nox k → VP (X.blk s H scope (compEnvC scope cl C X.env) fp) G.nox tg ws asg)
    (ht : ∀ (s : Shared) (H : Hp) (C : Addr) (cl : List (Str × Addr)) (fp : List Addr), VX (X.blk s H scope (compEnvC scope cl C X.env) fp) G.nox k → VTs (X.blk s H scope (compEnvC scope cl C X.env) fp) G.nox ifs tst)
    (he : ∀ (s : Shared) (H : Hp) (C : Addr) (cl : List (Str × Addr)) (fp : List Addr), VX (X.blk s H scope (compEnvC scope cl C X.env) fp) G.nox k → VE (X.blk s H scope (compEnvC scope cl C X.env) fp) G.nox .sh elt fe) (hs : ∀ x, foldedSetIterable iter X.env x = pure x := by intro _; rfl) :
    VE X G .fr (.ListComp elt [⟨tg, iter, ifs, 0⟩] scope pos) (eLc it asg tst fe (own.map (·.2))) :=
  ⟨pe_imp (pe_lc x.calm x.nd hi.pi ok (fun s H C cl fp => (hg s H C cl fp (x.blk ..)).pg) (fun s H C cl fp => (ht s H C cl fp (x.blk ..)).pts) (fun s H C cl fp => (he s H C cl fp (x.blk ..)).pe) hs) fun σ H Q h => lc_of hw h⟩
/-- y = [..] on one line -/
theorem vs_setLc (i : Nat) {y : Str} {py spos : Pos} (x : VX X G k) (hi : VI X G tg iter it) (ok : BlkOk X.N X.env.scope scope own) (hw : ∀ i ∈ ws, i ∈ own.map (·.2))
    (hg : ∀ (s : Shared) (H : Hp) (C : Addr) (cl : List (Str × Addr)) (fp : List Addr), VX (X.blk s H scope (compEnvC scope cl C X.env) fp) G.nox k → VP (X.blk s H scope (compEnvC scope cl C X.env) fp) G.nox tg ws asg)
    (ht : ∀ (s : Shared) (H : Hp) (C : Addr) (cl : List (Str × Addr)) (fp : List Addr), VX (X.blk s H scope (compEnvC scope cl C X.env) fp) G.nox k → VTs (X.blk s H scope (compEnvC scope cl C X.env) fp) G.nox ifs tst)
    (he : ∀ (s : Shared) (H : Hp) (C : Addr) (cl : List (Str × Addr)) (fp : List Addr), VX (X.blk s H scope (compEnvC scope cl C X.env) fp) G.nox k → VE (X.blk s H scope (compEnvC scope cl C X.env) fp) G.nox .sh elt fe)
    (hsw : swapsWith (.ListComp elt [⟨tg, iter, ifs, 0⟩] scope pos) (some (.Name y py)) spos.line X.env = pure true) (hy : X.N[i]? = some y := by rfl) (hyl : X.env.scope.names.lookup y = some .local := by rfl) (hs : ∀ x, foldedSetIterable iter X.env x = pure x := by intro _; rfl) :
    VS X G m (.Assign [.Name y py] (.ListComp elt [⟨tg, iter, ifs, 0⟩] scope pos) spos) (sNew i (eLc it asg tst fe (own.map (·.2)))) :=
  ⟨ps_imp (ps_setLc (i := i) x.calm x.nd hy hyl hsw hi.pi ok (fun s H C cl fp => (hg s H C cl fp (x.blk ..)).pg) (fun s H C cl fp => (ht s H C cl fp (x.blk ..)).pts) (fun s H C cl fp => (he s H C cl fp (x.blk ..)).pe) hs) fun Dn σ H ⟨ρ, F, rl, o⟩ => by
    refine lc_of hw ⟨ρ, F, rl, out_s rl o fun d v H1 F1 _ l s o1 => o1 _ H1 F1 (rel_new rl l s i) Kp.refl fun _ z => z⟩⟩
end
end VL

namespace VL
open PyProof.Rows PySem L2 PySem.Spec

/-! ### defs: as HandS's FnOk, and no repr is running -/
structure FnG (P : Program) (w : World) (K : PySem.W.Frag) (mg : Str → Option Value) (base : Heap) (k : Nat) (f : Addr) (fd : FuncData) (ps : List Str) (sp : Sp) : Prop where
  len : ∀ vs H Q E, sp vs H Q E → vs.length = ps.length
  run : ∀ (A : Around) (outer : List Env) (s : Shared) (H : Hp) (args : Args) (us : List Value) (vs : List V) (Q : VK) (E : XK), Room k A → A.guards = some [] → Env0 P w K mg base A outer s H → BindsTo s fd args (ps.zip us) → Vals vs us → sp vs H Q E →
    codeAny (model P w) A (.call (.ref f) args) (CR (L2.CX P w) outer P w H s Q E) s
/-- a def keeps a promise, by its body -/
theorem fng_of {P : Program} {w : World} {K : PySem.W.Frag} {mg : Str → Option Value} {base : Heap} {k : Nat} {f : Addr} {fd : FuncData} {x qual : Str} {st : Stmt} {N ps : List Str} {sp : Sp} (F : Fun K x qual st f fd) (S : FnScope N ps (defScope st))
    (len : ∀ vs H Q E, sp vs H Q E → vs.length = ps.length)
    (hb : ∀ (cdv : Value) (A : Around) (outer : List Env) (s : Shared) (H : Hp) (vs : List V) (Q : VK) (E : XK), Room k (A.deeper (envOfC qual (defScope st) s.heap.objs.size f cdv)) → A.guards = some [] → sp vs H Q E →
      ∃ t, PSs (cxOf (L2.CX P w) P w K mg base N qual (defScope st) f cdv A outer s H E) (defBody st) t ∧ t { nx := fun _ H' => Q .non H', rt := Q } (L2.start N vs) H) : FnG P w K mg base (k + 1) f fd ps sp := by
  obtain ⟨oc, od, kV, doc, pm, an, cdv, ct, osl, rfl, lk, hcd⟩ := F.ex
  refine ⟨len, ?_⟩
  intro A outer s H args us vs Q E room gds e0 hbind hv hsp
  have inK : K.In s.heap := e0.mod.kin.keeps fun b o e => (e0.bs b o e).1
  have nolim : s.heap.NoLimit := e0.mod.nolimit.keeps fun b o e => (e0.bs b o e).1
  have places : ∀ y ∈ ps.zip us, (defScope st).names.lookup y.1 = some .local ∨ ((defScope st).names.lookup y.1 = some .cell ∧ ((cellsFrom (s.heap.objs.size + 1) (defScope st).names []).lookup y.1).isSome = true) := by
    intro y hy
    obtain ⟨n, v⟩ := y
    exact (S.par n (List.of_mem_zip hy).1).imp id fun q => ⟨q, PySem.W.cellsFrom_some _ _ _ (.inl q)⟩
  refine codeAny_call_function room.depth (inK _ _ lk) rfl S.co S.gen rfl (PySem.W.codeRec_of inK hcd) (hbind _ _ _ _ ?_)
  refine wpAny_newFunctionEnv_cells S.kind places ?_
  intro env he s1 ic
  subst he
  refine ⟨nolim.keeps ic.toInCall.keep, codeAny_func ?_⟩
  obtain ⟨t, ht, hq⟩ := hb cdv A outer s H vs Q E (room.deeper _) gds hsp
  have I0 := inv_start (CX := L2.CX P w) (mg := mg) (E := E) (cd := cdv) S room.hd e0 (len _ _ _ _ hsp) hv ic
  refine wpAny_mono (ht.run [] s1 (L2.start N vs) H _ I0 hq) ?_ fun e s' hs => hs
  intro fl s' hs
  cases fl with
  | ret u =>
    obtain ⟨v, σ', H', J, rv, q⟩ := hs
    exact ⟨v, H', J.os, J.bare, J.base, J.hok, rv, q⟩
  | next =>
    obtain ⟨σ', H', J, q⟩ := hs
    exact ⟨V.non, H', J.os, J.bare, J.base, J.hok, rfl, q⟩
  | brk =>
    obtain ⟨_, _, _, z⟩ := hs
    exact False.elim z
  | cont =>
    obtain ⟨_, _, _, z⟩ := hs
    exact False.elim z

/-! ### the promise of a def by a function of deep values -/
def spV (K : PySem.W.Frag) (mg : Str → Option Value) (n : Nat) (m : Md) (g : List D → R D) : Sp := fun vs H Q E => ∃ F ds, The F H ∧ ShL K H F vs ds ∧ ds.length = n ∧ match g ds with
  | .ok d => ∀ v H' F', Le H F H' F' → Rp K m H H' F' v d → Q v H'
  | .ex c fs => ∀ cls dd H' F', Le H F H' F' → Xr ⟨K, mg, H, F, fun _ _ _ _ => False⟩ H' F' cls dd c fs → E cls dd H'
  | .bad => False
def runF (body : Lo → Fl) (n : Nat) (ds : List D) : R D := match body (ds.map Sl.sh ++ List.replicate (n - ds.length) .no) with
  | .rt d => .ok d
  | .nx _ => .ok .non
  | .ex c fs _ => .ex c fs
  | _ => .bad
theorem rsl_start {G : VG} {H : Hp} {F : Fro} : ∀ {vs : List V} {ds : List D} {n : Nat} {i : Nat} {x : Option V} {s : Sl}, ShL G.K H F vs ds → (vs.map some ++ List.replicate n none)[i]? = some x → (ds.map Sl.sh ++ List.replicate n .no)[i]? = some s → RSl G H F x s
  | _, _, n, i, x, s, .nil, _, h2 => by
    have e : s = .no := by
      have h2 : (List.replicate n Sl.no)[i]? = some s := by simpa using h2
      rw [List.getElem?_replicate] at h2
      split at h2
      · exact (Option.some.inj h2).symm
      · cases h2
    subst e
    trivial
  | _, _, n, 0, x, s, .cons h r, h1, h2 => by
    simp at h1 h2
    subst h1 h2
    exact ⟨_, rfl, h⟩
  | _, _, n, i + 1, x, s, .cons h r, h1, h2 => rsl_start r (by simpa using h1) (by simpa using h2)
theorem sl_start {i : Nat} {d : D} : ∀ {ds : List D} {n : Nat}, (ds.map Sl.sh ++ List.replicate n .no)[i]? = some (.ow d) → False := by
  intro ds n h
  by_cases hi : i < (ds.map Sl.sh).length
  · rw [List.getElem?_append_left hi, List.getElem?_map] at h
    cases e : ds[i]? with
    | none => rw [e] at h; cases h
    | some _ => rw [e] at h; cases h
  · rw [List.getElem?_append_right (by omega), List.getElem?_replicate] at h
    split at h <;> cases h
theorem rel_start {G : VG} {N : List Str} {vs : List V} {ds : List D} (t : The G.F0 G.H0) (s : ShL G.K G.H0 G.F0 vs ds) : Rel G (L2.start N vs) G.H0 (ds.map Sl.sh ++ List.replicate (N.length - ds.length) .no) G.F0 := by
  have hl := s.length
  refine ⟨by unfold L2.start; simp [hl], fun i x sl h1 h2 => ?_, fun i j a d d' _ h _ _ => (sl_start h).elim, Le.refl t⟩
  unfold L2.start at h1
  rw [hl] at h1
  exact rsl_start s h1 h2
/-- the def st, whose body is told by body -/
theorem fn_v {P : Program} {w : World} {K : PySem.W.Frag} {mg : Str → Option Value} {base : Heap} {k : Nat} {f : Addr} {fd : FuncData} {x qual : Str} {st : Stmt} {N ps : List Str} {m : Md} {body : Lo → Fl} (F : Fun K x qual st f fd) (S : FnScope N ps (defScope st)) (hsys : ∃ o es ep, base.get? sysModules = some o ∧ o.data = .dict es ep)
    (hb : ∀ (cdv : Value) (A : Around) (outer : List Env) (s : Shared) (H : Hp) (E : XK) (G : VG), G.mg = mg → VX (cxOf (L2.CX P w) P w K mg base N qual (defScope st) f cdv A outer s H E) G k →
      VB (cxOf (L2.CX P w) P w K mg base N qual (defScope st) f cdv A outer s H E) G m (defBody st) body) : FnG P w K mg base (k + 1) f fd ps (spV K mg ps.length m (runF body N.length)) := by
  refine fng_of F S (fun vs H Q E h => ?_) fun cdv A outer s H vs Q E room gds h => ?_
  · obtain ⟨F, ds, _, s, hl, _⟩ := h
    exact s.length.trans hl
  · obtain ⟨F0, ds, t, sd, hl, h⟩ := h
    have hx : VX (cxOf (L2.CX P w) P w K mg base N qual (defScope st) f cdv A outer s H E) ⟨K, mg, H, F0, fun cls d _ H' => E cls d H'⟩ k :=
      ⟨rfl, rfl, room, rfl, gds, hsys, S.nd, takes_of rfl rfl rfl rfl⟩
    refine ⟨_, (hb cdv A outer s H E _ rfl hx).pss, _, F0, rel_start (G := ⟨K, mg, H, F0, fun cls d _ H' => E cls d H'⟩) t sd, ?_⟩
    unfold runF at h
    cases e : body (ds.map Sl.sh ++ List.replicate (N.length - ds.length) .no) with
    | nx ρ => rw [e] at h; exact fun σ' H' F' rl _ _ => h .non H' F' rl.le rp_non
    | rt d => rw [e] at h; exact fun v H' F' l r => h v H' F' l r
    | ex c fs ρ => rw [e] at h; exact fun cls dd σ' H' F' rl _ _ x => h cls dd H' F' rl.le x
    | bk ρ => rw [e] at h; exact h.elim
    | ct ρ => rw [e] at h; exact h.elim
    | bad => rw [e] at h; exact h.elim

/-! ### calls -/
section
variable {X : Cx} {G : VG} {k j : Nat} {f : Addr} {fd : FuncData} {ps : List Str} {sp : Sp} {m : Md} {g : List D → R D} {e : Expr} {es : List Expr} {fa : Lo → R (List D)} {nm : Str} {p pos : Pos}
theorem run_g {pins : List (Addr × Obj)} {σ : L2.St} {H : Hp} {s : Shared} {Q : VK} {us : List Value} {vs : List V} {E : XK} {dvs : List V} {ds : List Value} (x : VX X G k) (F : FnG X.prog X.w X.K X.mg X.base j f fd ps sp) (hj : j ≤ k) (hb : Binds X.K fd ps ds) (hd : Vals dvs ds) (hx : PassesAt (L2.CX X.prog X.w) X σ E)
    (I : Inv X pins σ H s) (r : Vals vs us) (h : sp (vs ++ dvs) H Q E) : wpAny (model X.prog X.w) X.A (call (.ref f) us) (EP X pins σ Q) X.xe s := by
  have r2 := r.append hd
  have hl : (us ++ ds).length = ps.length := r2.length.symm.trans (F.len _ _ _ _ h)
  refine wpAny_call (codeAny_mono (F.run X.A X.stack s H ⟨us, []⟩ (us ++ ds) (vs ++ dvs) Q E (x.room.mono hj) x.gds I.env0 (hb s us I.kIn hl) r2 h) ?_)
  intro rr s' hq
  cases rr with
  | error e => exact hx pins H s e s' I hq
  | ok fl =>
    cases fl with
    | ret u => exact I.after hq
    | next => exact hq.elim
    | brk => exact hq.elim
    | cont => exact hq.elim
def eCall (g : List D → R D) (fa : Lo → R (List D)) : Lo → R D := fun ρ => (fa ρ).bind g
theorem sp_of {σ : L2.St} {H : Hp} {F : Fro} {Q : VK} {n : Nat} {vs : List V} {ds : List D} (t : The F H) (s : ShL G.K H F vs ds) (hl : ds.length = n) (o : Out G σ H F (g ds) (fun d v H' F' => Rp G.K m H H' F' v d) Q) : spV G.K G.mg n m g vs H Q (WE G.W σ) := by
  refine ⟨F, ds, t, s, hl, ?_⟩
  cases e : g ds with
  | ok d => rw [e] at o; exact o
  | ex c fs => rw [e] at o; exact fun cls dd H' F' l xr => o cls dd H' F' l xr
  | bad => rw [e] at o; exact o
/-- f(e, ..), every parameter given -/
theorem ve_call {n : Nat} (x : VX X G k) (F : FnG X.prog X.w X.K X.mg X.base j f fd ps (spV X.K X.mg n m g)) (hj : j ≤ k) (hm : X.mg nm = some (.ref f)) (hk : PySem.W.keepIn X.K (.ref f) = true) (hb : Binds X.K fd ps []) (ha : VA X G (e :: es) fa) (hn : ∀ ρ ds, fa ρ = .ok ds → ds.length = n)
    (hg : Gl X nm := by rfl) (hdb : (nm == ("__debug__" : Str)) = false := by decide) (he : starEach (e :: es) X.env = (false, eval e X.env) :: starEach es X.env := by rfl) (hpl : (backTo pos (starEach es X.env)).any (·.1) = false := by rfl) : VE X G m (.Call (.Name nm p) (e :: es) [] pos) (eCall g fa) := by
  refine ⟨⟨fun pins s σ H Q I ⟨ρ, F0, rl, o⟩ => ?_⟩⟩
  refine wpAny_Call_Name_kw (ld_glob I hg hm ?_ hdb)
  have h1 : tA G fa σ H fun vs H1 => spV X.K X.mg n m g vs H1 Q (WE G.W σ) := ⟨ρ, F0, rl, Out.bind (S' := fun d v H' F' => Rp G.K m H H' F' v d) o (fun _ _ _ _ _ _ _ h => h) fun ds vs H1 F1 ef l s kk => by
    rw [x.K, x.mg]
    exact sp_of l.the s (hn ρ ds ef) (kk (S'' := fun d v H' F' => Rp G.K m H1 H' F' v d) fun d v H' F' h => h.back l.keep)⟩
  refine PySem.W.callWith_K (h₀ := X.base) I.ok.mod.kin hk (thn (ha.pa.run pos pins s σ H _ I h1) fun us s1 ⟨vs, H1, I1, r, q⟩ => ⟨I1.kIn, ?_⟩) he hpl
  exact run_g (ds := []) (dvs := []) x F hj hb .nil (passAt x.tk σ) I1 r (by rw [List.append_nil]; exact q)
theorem len_nil {ρ : Lo} {ds : List D} (h : aNil ρ = .ok ds) : ds.length = 0 := by cases h; rfl
theorem len_cons {n : Nat} {f : Lo → R D} {fr : Lo → R (List D)} (hr : ∀ ρ ds, fr ρ = .ok ds → ds.length = n) : ∀ ρ ds, aCons f fr ρ = .ok ds → ds.length = n + 1 := by
  intro ρ ds h
  unfold aCons at h
  cases e : f ρ with
  | ok d =>
    rw [e] at h
    cases q : fr ρ with
    | ok r =>
      have h : (fr ρ).bind (fun ds => R.ok (d :: ds)) = .ok ds := h
      rw [q] at h
      cases h
      exact congrArg (· + 1) (hr ρ r q)
    | ex _ _ => have h : (fr ρ).bind (fun ds => R.ok (d :: ds)) = .ok ds := h; rw [q] at h; cases h
    | bad => have h : (fr ρ).bind (fun ds => R.ok (d :: ds)) = .ok ds := h; rw [q] at h; cases h
  | ex _ _ => rw [e] at h; cases h
  | bad => rw [e] at h; cases h
end
end VL

namespace VL
open PyProof.Rows PySem L2 PySem.Spec

/-! ### repr -/
mutual
def rok : D → Bool
  | .lst xs => rokL xs
  | .tup xs => rokL xs
  | .dic kvs => kvs.isEmpty
  | .obj _ _ => false
  | .non => true
  | .bl _ => true
  | .int _ => true
  | .str _ => true
def rokL : List D → Bool
  | [] => true
  | d :: ds => rok d && rokL ds
end
section
variable {X : Cx} {G : VG} {k : Nat} {pins : List (Addr × Obj)} {σ : L2.St} {H : Hp} {F : Fro} {s : Shared}
theorem not_sys (x : VX X G k) (I : Inv X pins σ H s) {a : Addr} (h : H a ≠ none) : a ≠ sysModules := fun e => by
  obtain ⟨o, es, ep, ho, _⟩ := x.sysm
  exact h (by rw [e]; exact (I.bs _ o ho).2)
theorem ls_sys (x : VX X G k) (I : Inv X pins σ H s) {a : Addr} {xs : List V} (h : LsV X.K H a xs) : a ≠ sysModules := by
  rcases h with h | ⟨its, n, h⟩ | ⟨its, n, h, _⟩
  · exact not_sys x I (by rw [h]; simp)
  · exact not_sys x I (by rw [h]; simp)
  · intro e
    obtain ⟨o, es, ep, ho, hd⟩ := x.sysm
    have h2 := I.ok.mod.kin a _ h
    rw [e, ho] at h2
    cases h2
    cases hd
theorem dk_rd0 (I : Inv X pins σ H s) {a : Addr} {kvs : List (Key × V)} (h : Rd H a (.dK kvs)) : ObjOk X.prog X.w H s.heap a (.dK kvs) := h.ok I.hok
theorem dic_reads (I : Inv X pins σ H s) {a : Addr} (h : Rd H a (.dK [])) : Reads s.heap (.ref a) (.dict []) [a] ∧ a ≠ sysModules := by
  obtain ⟨_, hs, vs, kv, o, es, ep, ho, hx, hd, _, hp, _⟩ := dk_rd0 I h
  cases kv
  have e : es = #[] := by
    have hp : Pairs _ es.toList [] := hp
    generalize hl : es.toList = l at hp
    cases hp
    exact Array.toList_inj.mp (by rw [hl])
  subst e
  exact ⟨Reads.dict (as := []) (bs := []) ho hx.1 hd .nil .nil, by simpa using hs⟩
mutual
theorem Sh.rds (x : VX X G k) (I : Inv X pins σ H s) : ∀ {v : V} {d : D} {u : Value}, Sh X.K H F v d → RelV v u → rok d = true → ∃ as, Reads s.heap u (py d) as ∧ sysModules ∉ as
  | _, _, _, .non, r, _ => by cases r; exact ⟨_, .none, by simp⟩
  | _, _, _, .bl b, r, _ => by cases r; exact ⟨_, .bool b, by simp⟩
  | _, _, _, .int i, r, _ => by obtain ⟨t, rfl⟩ := r; exact ⟨_, .int i t, by simp⟩
  | _, _, _, .str z, r, _ => by obtain ⟨t, rfl⟩ := r; exact ⟨_, .str z t, by simp⟩
  | _, _, _, .lst h l, r, c => by
    cases r
    obtain ⟨its, rv, ⟨o, n, ho, hc, _, hd⟩, _⟩ := I.list h.sql
    obtain ⟨as, q, nq⟩ := ShL.rds x I l rv (by simpa [rok] using c)
    exact ⟨_, Reads.list ho hc hd q, fun z => (List.mem_cons.mp z).elim (fun e => ls_sys x I h.ls e.symm) nq⟩
  | _, _, _, .tup h l, r, c => by
    cases r
    obtain ⟨its, rv, ⟨o, ho, hc, n, hd⟩, _⟩ := I.tuple h
    obtain ⟨as, q, nq⟩ := ShL.rds x I l rv (by simpa [rok] using c)
    exact ⟨_, Reads.tuple ho hc hd q, nq⟩
  | _, _, _, .dic (kvs := kvs) (ds := ds) h l, r, c => by
    cases r
    have e : kvs = [] := by
      have hl := l.length
      rw [List.length_map] at hl
      have c : ((kvs.map fun p => kD p.1).zip ds).isEmpty = true := by simpa [rok] using c
      cases kvs with
      | nil => rfl
      | cons a b =>
        cases ds with
        | nil => simp at hl
        | cons d e => simp at c
    subst e
    obtain ⟨q, nq⟩ := dic_reads I (.inr ⟨_, h⟩)
    exact ⟨_, q, by simpa using Ne.symm nq⟩
theorem ShL.rds (x : VX X G k) (I : Inv X pins σ H s) : ∀ {vs : List V} {ds : List D} {us : List Value}, ShL X.K H F vs ds → Vals vs us → rokL ds = true → ∃ as, ReadsAll s.heap us (pyL ds) as ∧ sysModules ∉ as
  | _, _, _, .nil, r, _ => by cases r; exact ⟨_, .nil, by simp⟩
  | _, _, _, .cons h l, r, c => by
    cases r with
    | cons r1 r2 =>
      rw [rokL, Bool.and_eq_true] at c
      obtain ⟨as, q, nq⟩ := Sh.rds x I h r1 c.1
      obtain ⟨bs, p, np⟩ := ShL.rds x I l r2 c.2
      exact ⟨_, .cons q p, fun z => (List.mem_append.mp z).elim nq np⟩
end
theorem RB.rds (x : VX X G k) (I : Inv X pins σ H s) {v : V} {d : D} {u : Value} (h : RB X.K H F v d) (r : RelV v u) (c : rok d = true) : ∃ as, Reads s.heap u (py d) as ∧ sysModules ∉ as := by
  rcases h with ⟨a, e, _, o⟩ | h
  · subst e
    cases r
    cases o with
    | lst h l =>
      obtain ⟨its, rv, ⟨o, n, ho, hc, _, hd⟩, _⟩ := I.list (.inl (.inl h))
      obtain ⟨as, q, nq⟩ := ShL.rds x I l rv (by simpa [rok] using c)
      exact ⟨_, Reads.list ho hc hd q, fun z => (List.mem_cons.mp z).elim (fun e => not_sys x I (by rw [h]; simp) e.symm) nq⟩
    | @dic kvs ds h l =>
      have e : kvs = [] := by
        have hl := l.length
        rw [List.length_map] at hl
        have c : ((kvs.map fun p => kD p.1).zip ds).isEmpty = true := by simpa [rok] using c
        cases kvs with
        | nil => rfl
        | cons a b =>
          cases ds with
          | nil => simp at hl
          | cons d e => simp at c
      subst e
      obtain ⟨q, nq⟩ := dic_reads I (.inl h)
      exact ⟨_, q, by simpa using Ne.symm nq⟩
  · exact h.rds x I r c
def opRepr (d : D) : Option D := if (((rok d && (py d).showable) && fits (py d).shown.length) && decide ((py d).depth ≤ 64)) = true then some (.str (py d).shown) else none
def rRepr (K : PySem.W.Frag) : V → Hp → VK → Prop := fun v H Q => ∃ F d, RB K H F v d ∧ rok d = true ∧ (py d).showable = true ∧ (py d).shown.length ≤ sizeLine ∧ (py d).depth ≤ 64 ∧ Q (.str (py d).shown) H
theorem cr_repr (x : VX X G k) : CallR X (.builtin "repr") (fun xs H Q => ∃ v, xs = [v] ∧ rRepr X.K v H Q) := by
  intro pins s σ H xs us Q I r ⟨v, e, F, d, hb, hk, hs, hz, hdp, q⟩
  subst e
  obtain ⟨u, rfl, rv⟩ := vals1 r
  obtain ⟨as, rd, nq⟩ := hb.rds x I rv hk
  have hu : X.A.units + ((py d).depth + 1) < cLine := by have := x.room.un; omega
  have big : ∀ a, u = .ref a → wpAny (model X.prog X.w) X.A (call (.builtin "repr") [u]) (EP X pins σ Q) X.xe s := fun a e => by
    subst e
    exact repr_of_reads' rd hs (fun _ => nq) x.gds hu (fun _ _ e => e) (fun h' t tk hk => ⟨.str _, H, I.kept hk, ⟨t, rfl⟩, q⟩) hz
  have num : ∀ (y : Str) (t : Tok), (py d).shown = y → EP X pins σ Q (.str y t) { s with toks := s.toks + 1 } := fun y t e => ⟨.str y, H, I.tok _, ⟨t, rfl⟩, e ▸ q⟩
  cases d with
  | non => rw [rb_non hb] at rv; cases rv; exact PySem.P.repr_of_none (num _ _ rfl)
  | bl b => rw [rb_bl hb] at rv; cases rv; exact PySem.P.repr_of_bool (num _ _ (by cases b <;> rfl))
  | int i => rw [rb_int hb] at rv; obtain ⟨t, rfl⟩ := rv; exact PySem.P.repr_of_int (by simpa [py, PyData.showable] using hs) (num _ _ (by simp only [py, PyData.shown]))
  | str z => rw [rb_str hb] at rv; obtain ⟨t, rfl⟩ := rv; exact PySem.P.repr_of_str (num _ _ (by simp only [py, PyData.shown])) (by simpa only [py, PyData.shown] using hz)
  | lst ds => obtain ⟨a, _, e, _⟩ := rb_lst hb; subst e; cases rv; exact big a rfl
  | tup ds => obtain ⟨a, _, e, _⟩ := rb_tup hb; subst e; cases rv; exact big a rfl
  | dic ds => obtain ⟨a, _, _, e, _⟩ := rb_dic hb; subst e; cases rv; exact big a rfl
  | obj c fs => simp [rok] at hk
end
section
variable {X : Cx} {G : VG} {k : Nat} {m m1 : Md} {a : Expr} {fa : Lo → R D} {p pos : Pos}
theorem ve_repr (x : VX X G k) (hm : X.mg "repr" = none) (ha : VE X G m1 a fa) (hg : Gl X "repr" := by rfl) (he : starEach [a] X.env = (false, eval a X.env) :: starEach [] X.env := by rfl) : VE X G m (.Call (.Name "repr" p) [a] [] pos) (b1 fa opRepr) :=
  ve_b1 (r := fun xs H Q => ∃ v, xs = [v] ∧ rRepr X.K v H Q) (cr_repr x) (by
    intro H F y d Q t ra h
    obtain ⟨hf, h⟩ := ans_if h
    rw [Bool.and_eq_true, Bool.and_eq_true, Bool.and_eq_true] at hf
    exact ⟨y, rfl, F, d, x.K ▸ ra, hf.1.1.1, hf.1.1.2, fits_line hf.1.2, of_decide_eq_true hf.2, ans_ok t h (rp_str _)⟩) hg hm (by decide +kernel) ha (by decide) (by decide) he
end

/-! ### {} -/
section
variable {X : Cx} {G : VG} {pos : Pos}
theorem ve_dict0 : VE X G .fr (.Dict [] [] pos) (eC (.dic [])) := ⟨pe_imp pe_dnewK fun σ H Q ⟨ρ, F, rl, o⟩ => by
  intro p hp
  have l := le_new (o := .dK []) rl.le.the hp
  have np : ¬ F p := fun z => rl.le.the p z hp
  exact o (.ref p) _ F l (.inl ⟨p, rfl, hp, np, .dic (kvs := []) (ds := []) upd_same .nil⟩)⟩
end
end VL

namespace VL
open PyProof.Rows PySem L2 PySem.Spec

/-! ### zip of lists and tuples in any mix -/
/-- a list or a tuple -/
inductive Src where
  | L (a : Addr) | T (a : Addr)
def Src.ad : Src → Addr
  | .L a => a
  | .T a => a
def Src.At (K : PySem.W.Frag) (H : Hp) : Src → List V → Prop
  | .L a, xs => SqL K H a xs
  | .T a, xs => SqT K H a xs
def Src.In (h : Heap) (its : Array Value) : Src → Prop
  | .L a => h.IsList a its
  | .T a => h.IsTuple a its
def Src.obj : Src → Obj
  | .L a => { cls := .type "list_iterator", data := .fields #[.ref a, .int 0 0] }
  | .T a => { cls := .type "tuple_iterator", data := .fields #[.ref a, .int 0 0] }
def Src.St (it : Addr) (i : Nat) (h : Heap) : Src → Prop
  | .L a => h.IsListIter it a i
  | .T a => h.IsTupleIter it a i
section
variable {X : Cx} {pins : List (Addr × Obj)} {σ : L2.St} {H : Hp} {s : Shared} {xs ys : List V} {it : Addr} {i : Nat} {h h' : Heap}
theorem Src.here {S : Src} (I : Inv X pins σ H s) (a : S.At X.K H xs) : ∃ its : List Value, Vals xs its ∧ S.In s.heap its.toArray ∧ xs.length ≤ sizeLine := by
  cases S with
  | L a => obtain ⟨its, r, p, z⟩ := I.list a; exact ⟨its, r, p.isList, z⟩
  | T a => obtain ⟨its, r, p, z⟩ := I.tuple a; exact ⟨its, r, p, z⟩
theorem Src.inj {S : Src} (I : Inv X pins σ H s) (a : S.At X.K H xs) (b : S.At X.K H ys) : xs = ys := by
  cases S with
  | L _ => exact I.list_inj a b
  | T _ => exact I.tuple_inj a b
theorem Src.st_at {S : Src} (t : S.St it i h) (k : ∀ o, h.get? it = some o → h'.get? it = some o) : S.St it i h' := by
  cases S with
  | L a => exact Heap.IsListIter.at t k
  | T a => exact Heap.IsTupleIter.at t k
theorem Src.st_obj {S : Src} (t : S.St it i h) : ∃ o, h.get? it = some o ∧ ∀ v, o.data ≠ .cell v := by
  cases S with
  | L a => obtain ⟨o, e, _, d⟩ := t; exact ⟨o, e, fun v z => by rw [d] at z; cases z⟩
  | T a => obtain ⟨o, e, _, d⟩ := t; exact ⟨o, e, fun v z => by rw [d] at z; cases z⟩
theorem Src.st0 {S : Src} (e : h.get? it = some S.obj) : S.St it 0 h := by
  cases S with
  | L a => exact ⟨_, e, rfl, rfl⟩
  | T a => exact ⟨_, e, rfl, rfl⟩
theorem Src.in_lt {S : Src} {its : Array Value} (e : S.In h its) : S.ad < h.objs.size := by
  cases S with
  | L a => obtain ⟨_, e, _⟩ := e; exact Heap.lt_size e
  | T a => obtain ⟨_, e, _⟩ := e; exact Heap.lt_size e
theorem Src.begins (S : Src) (its : Array Value) : Begins (.ref S.ad) S.obj fun h => S.In h its := by
  cases S with
  | L a => exact begins_list a its
  | T a => exact begins_tuple a its
theorem Src.draws (S : Src) (its : Array Value) {P : Program} {w : World} {A : Around} (hh : A.handled = none) (hne : S.ad ≠ it) : Draws P w A it [it, S.ad] its.size (fun i v => its[i]? = some v) (fun i h => S.St it i h ∧ S.In h its) := by
  cases S with
  | L a => exact Draws.list hh it a hne its
  | T a => exact Draws.tuple hh it a hne its
end
def ItS (K : PySem.W.Frag) (S1 S2 : Src) : It :=
  ⟨fun i H => ∃ (xs ys : List V) (x y : V), S1.At K H xs ∧ S2.At K H ys ∧ xs[i]? = some x ∧ ys[i]? = some y,
    fun i H v H' => ∃ T x y, v = .ref T ∧ H T = none ∧ H' = upd H T (.tup [x, y]) ∧ (∀ xs, S1.At K H xs → xs[i]? = some x) ∧ ∀ ys, S2.At K H ys → ys[i]? = some y,
    fun i H => ∃ xs ys : List V, S1.At K H xs ∧ S2.At K H ys ∧ i ≤ xs.length ∧ i ≤ ys.length ∧ (i = xs.length ∨ i = ys.length)⟩
theorem turn_S {P : Program} {w : World} {K : PySem.W.Frag} {elts : List Expr} {kk : Nat} {tpos : Pos} {S1 S2 : Src} {z TI TO i1 i2 : Addr} (D : ZipSep2 z TI TO i1 i2 [i1, S1.ad] [i2, S2.ad]) :
    Turn P w K (.Tuple elts kk tpos) (ItS K S1 S2) [z, TI, TO, i1, i2] z (fun i h => IsZip h z TI TO .none ∧ IsTupOf2 h TI (.ref i1) (.ref i2) ∧ (∃ x y, IsTupOf2 h TO x y) ∧ S1.St i1 i h ∧ S2.St i2 i h) where
  mem := List.mem_cons_self
  obj := by
    rintro i h ⟨hz, hI, ⟨x, y, hO⟩, h1, h2⟩ b hb
    simp only [List.mem_cons, List.not_mem_nil, or_false] at hb
    rcases hb with e | e | e | e | e <;> subst e
    · exact ⟨_, hz, fun v q => nomatch q⟩
    · exact ⟨_, hI, fun v q => nomatch q⟩
    · exact ⟨_, hO, fun v q => nomatch q⟩
    · exact S1.st_obj h1
    · exact S2.st_obj h2
  keep := by
    rintro i h h' ⟨hz, hI, ⟨x, y, hO⟩, h1, h2⟩ k
    exact ⟨k z (by simp) _ hz, k TI (by simp) _ hI, ⟨x, y, k TO (by simp) _ hO⟩, S1.st_at h1 (fun o e => k i1 (by simp) o e), S2.st_at h2 (fun o e => k i2 (by simp) o e)⟩
  item := by
    intro X eP ew eK calm i pins s σ H E I hf st hg
    subst eP ew eK
    obtain ⟨hz, hI, ⟨x0, y0, hO⟩, h1, h2⟩ := st
    obtain ⟨xs, ys, x, y, a1, a2, ex, ey⟩ := hg
    obtain ⟨t1, r1, p1, _⟩ := S1.here I a1
    obtain ⟨t2, r2, p2, _⟩ := S2.here I a2
    obtain ⟨u1, eu1, ru1⟩ := r1.get ex
    obtain ⟨u2, eu2, ru2⟩ := r2.get ey
    have b1 : i < t1.toArray.size := by have := (List.getElem?_eq_some_iff.mp eu1).1; simpa using this
    have b2 : i < t2.toArray.size := by have := (List.getElem?_eq_some_iff.mp eu2).1; simpa using this
    have hd := I.ok.hd calm
    have n1 : S1.ad ≠ i1 := fun q => D.sep1_2 |> fun _ => by
      have hfi := hf i1 (by simp)
      cases S1 with
      | L a =>
        obtain ⟨_, e1, c1, _⟩ := h1
        obtain ⟨_, e2, c2, _⟩ := p1
        have q : a = i1 := q
        rw [← q] at e1; rw [e1] at e2; cases e2; rw [c1] at c2; exact absurd c2 (by decide +kernel)
      | T a =>
        obtain ⟨_, e1, c1, _⟩ := h1
        obtain ⟨_, e2, c2, _⟩ := p1
        have q : a = i1 := q
        rw [← q] at e1; rw [e1] at e2; cases e2; rw [c1] at c2; exact absurd c2 (by decide +kernel)
    have n2 : S2.ad ≠ i2 := fun q => by
      cases S2 with
      | L a =>
        obtain ⟨_, e1, c1, _⟩ := h2
        obtain ⟨_, e2, c2, _⟩ := p2
        have q : a = i2 := q
        rw [← q] at e1; rw [e1] at e2; cases e2; rw [c1] at c2; exact absurd c2 (by decide +kernel)
      | T a =>
        obtain ⟨_, e1, c1, _⟩ := h2
        obtain ⟨_, e2, c2, _⟩ := p2
        have q : a = i2 := q
        rw [← q] at e1; rw [e1] at e2; cases e2; rw [c1] at c2; exact absurd c2 (by decide +kernel)
    have zl : z < s.heap.objs.size := Heap.lt_size hz
    refine wpAny_pyNext_zipD2_item D (S1.draws t1.toArray (A := X.A.in1) hd n1) (S2.draws t2.toArray (A := X.A.in1) hd n2) hz hI hO ⟨h1, p1⟩ ⟨h2, p2⟩ b1 b2 fun v1 v2 h' tk q1 q2 z' O' s1' s2' hT hsz hk => ?_
    have ev1 : v1 = u1 := by
      have q1 : t1.toArray[i]? = some v1 := q1
      rw [List.getElem?_toArray, eu1] at q1; exact (Option.some.inj q1).symm
    have ev2 : v2 = u2 := by
      have q2 : t2.toArray[i]? = some v2 := q2
      rw [List.getElem?_toArray, eu2] at q2; exact (Option.some.inj q2).symm
    subst ev1 ev2
    refine ⟨_, rfl, wpAny_letOwnedTupleGo_zip (s := { s with heap := h', toks := tk }) z' fun h'' z'' sb => ?_⟩
    have g2 : h''.get? s.heap.objs.size = some { cls := .type "tuple", data := .seq #[v1, v2] } := (sb.2 _ (Nat.ne_of_gt zl)).trans hT
    have all : ∀ b, b ∈ [z, TI, TO, i1, i2] → b < s.heap.objs.size := by
      intro b hb
      simp only [List.mem_cons, List.not_mem_nil, or_false] at hb
      rcases hb with e | e | e | e | e <;> subst e
      · exact zl
      · exact Heap.lt_size hI
      · exact Heap.lt_size hO
      · obtain ⟨o, e, _⟩ := S1.st_obj h1; exact Heap.lt_size e
      · obtain ⟨o, e, _⟩ := S2.st_obj h2; exact Heap.lt_size e
    have J : Inv X pins σ (upd H s.heap.objs.size (.tup [x, y])) { s with heap := h'', toks := tk } := by
      refine I.turnedNew (t' := tk) (ch := [z, TI, TO, i1, i2]) (fun c o hc e => ?_) hf (Nat.le_refl _) ⟨by show 2 ≤ sizeLine; decide, [v1, v2], .cons ru1 (.cons ru2 .nil), ⟨_, g2, rfl, _, rfl⟩⟩
      simp only [List.mem_cons, List.not_mem_nil, or_false, not_or] at hc
      exact (sb.2 c hc.1).trans (hk c o hc.1 hc.2.2.1 hc.2.2.2.1 hc.2.2.2.2 e)
    refine ⟨.ref s.heap.objs.size, _, J, rfl, ⟨_, x, y, rfl, I.hok.fresh (Nat.le_refl _), rfl, fun l hl => by rw [S1.inj I hl a1]; exact ex, fun l hl => by rw [S2.inj I hl a2]; exact ey⟩, ⟨z'', ?_, ⟨v1, v2, ?_⟩, ?_, ?_⟩, fun c hc => ?_⟩
    · exact (sb.2 _ D.TIz).trans (hk _ _ D.TIz D.TITO D.TIi1 D.TIi2 hI)
    · exact (sb.2 _ D.TOz).trans O'
    · exact S1.st_at s1'.1 fun o e => (sb.2 i1 (Ne.symm D.zi1)).trans e
    · exact S2.st_at s2'.1 fun o e => (sb.2 i2 (Ne.symm D.zi2)).trans e
    · rw [upd_ne (Nat.ne_of_lt (all c hc))]
      exact (hf c hc).1
  done := by
    intro X eP ew eK calm i pins s σ H E I hf st hg
    subst eP ew eK
    obtain ⟨hz, hI, ⟨x0, y0, hO⟩, h1, h2⟩ := st
    obtain ⟨xs, ys, a1, a2, l1, l2, he⟩ := hg
    obtain ⟨t1, r1, p1, _⟩ := S1.here I a1
    obtain ⟨t2, r2, p2, _⟩ := S2.here I a2
    have e1 := r1.length
    have e2 := r2.length
    have hd := I.ok.hd calm
    have n1 : S1.ad ≠ i1 := fun q => by
      cases S1 with
      | L a =>
        obtain ⟨_, e1, c1, _⟩ := h1
        obtain ⟨_, e2, c2, _⟩ := p1
        have q : a = i1 := q
        rw [← q] at e1; rw [e1] at e2; cases e2; rw [c1] at c2; exact absurd c2 (by decide +kernel)
      | T a =>
        obtain ⟨_, e1, c1, _⟩ := h1
        obtain ⟨_, e2, c2, _⟩ := p1
        have q : a = i1 := q
        rw [← q] at e1; rw [e1] at e2; cases e2; rw [c1] at c2; exact absurd c2 (by decide +kernel)
    have n2 : S2.ad ≠ i2 := fun q => by
      cases S2 with
      | L a =>
        obtain ⟨_, e1, c1, _⟩ := h2
        obtain ⟨_, e2, c2, _⟩ := p2
        have q : a = i2 := q
        rw [← q] at e1; rw [e1] at e2; cases e2; rw [c1] at c2; exact absurd c2 (by decide +kernel)
      | T a =>
        obtain ⟨_, e1, c1, _⟩ := h2
        obtain ⟨_, e2, c2, _⟩ := p2
        have q : a = i2 := q
        rw [← q] at e1; rw [e1] at e2; cases e2; rw [c1] at c2; exact absurd c2 (by decide +kernel)
    refine wpAny_pyNext_zipD2_end D (S1.draws t1.toArray (A := X.A.in1) hd n1) (S2.draws t2.toArray (A := X.A.in1) hd n2) hz hI hO ⟨h1, p1⟩ ⟨h2, p2⟩ (by simp; omega) (by simp; omega) (by simp; omega) fun h' tk hk => ⟨rfl, ?_⟩
    refine I.turnedL (t' := tk) (ch := [z, TI, TO, i1, i2]) (fun c o hc e => ?_) hf
    simp only [List.mem_cons, List.not_mem_nil, or_false, not_or] at hc
    exact hk c o hc.1 hc.2.2.1 hc.2.2.2.1 hc.2.2.2.2 e
  self := fun A i s Q E st h => wpAny_pyIter_zip st.1 h
/-- what is to be zipped -/
def seqD : D → Option (List D)
  | .lst ds => some ds
  | .tup ds => some ds
  | _ => none
def zipD (xs ys : List D) : List D := List.zipWith (fun x y => .tup [x, y]) xs ys
def iZ (f g : Lo → R D) : Lo → R (List D) := fun ρ => (f ρ).bind fun d => (g ρ).bind fun e => match seqD d, seqD e with
  | some xs, some ys => .ok (zipD xs ys)
  | _, _ => .bad
theorem sh_src {K : PySem.W.Frag} {H : Hp} {F : Fro} {v : V} {d : D} {ds : List D} (h : Sh K H F v d) (e : seqD d = some ds) : ∃ S : Src, ∃ xs, v = .ref S.ad ∧ (∀ H', Kp F H H' → S.At K H' xs) ∧ ShL K H F xs ds := by
  cases d with
  | lst es =>
    cases e
    cases h with
    | lst h r => exact ⟨.L _, _, rfl, fun H' k => (h.mono k fun _ z => z).sql, r⟩
  | tup es =>
    cases e
    cases h with
    | tup h r => exact ⟨.T _, _, rfl, fun H' k => sqt_mono h k, r⟩
  | _ => cases e
section
variable {X : Cx} {G : VG} {k : Nat} {a b : Expr} {fa fb : Lo → R D} {p pos tpos : Pos} {elts : List Expr} {kk : Nat}
theorem vi_zip (x : VX X G k) (hm : X.mg "zip" = none) (ha : VE X G .sh a fa) (hb : VE X G .sh b fb) (hg : Gl X "zip" := by rfl)
    (hs : starEach [a, b] X.env = (false, eval a X.env) :: starEach [b] X.env := by rfl) (hs2 : starEach [b] X.env = (false, eval b X.env) :: starEach [] X.env := by rfl) (hpl : (backTo pos (starEach [b] X.env)).any (·.1) = false := by rfl) :
    VI X G (.Tuple elts kk tpos) (.Call (.Name "zip" p) [a, b] [] pos) (iZ fa fb) := by
  refine ⟨⟨fun pins s σ H Rr I ⟨ρ, F, rl, o⟩ => ?_⟩⟩
  have h1 : tCons (tV G .sh fa) (tCons (tV G .sh fb) tNil) σ H fun vs H' => ∃ F' v w d e xs ys, vs = [v, w] ∧ The F' H' ∧ Sh G.K H' F' v d ∧ Sh G.K H' F' w e ∧ seqD d = some xs ∧ seqD e = some ys ∧ ∀ J, Wk G J (zipD xs ys) H' F' → Rr J H' := by
    refine ⟨ρ, F, rl, Out.bind (S' := fun ds J H' F' => Wk G J ds H' F') o (fun _ _ _ _ _ _ _ h => h) fun d v H1 F1 _ l s1 kk1 => ?_⟩
    have o1 := kk1 (S'' := fun ds J H' F' => Wk G J ds H' F') fun _ _ _ _ h => h
    refine ⟨ρ, F1, rl.step l, Out.bind (S' := fun ds J H' F' => Wk G J ds H' F') o1 (fun _ _ _ _ _ _ _ h => h) fun e w H2 F2 _ l2 s2 kk2 => ?_⟩
    have o2 := kk2 (S'' := fun ds J H' F' => Wk G J ds H' F') fun _ _ _ _ h => h
    have o2 : Out G σ H2 F2 (match seqD d, seqD e with
      | some xs, some ys => R.ok (zipD xs ys)
      | _, _ => R.bad) (fun ds J H' F' => Wk G J ds H' F') Rr := o2
    cases e1 : seqD d with
    | none => rw [e1] at o2; exact o2.elim
    | some xs =>
      cases e2 : seqD e with
      | none => rw [e1, e2] at o2; exact o2.elim
      | some ys =>
        rw [e1, e2] at o2
        exact ⟨F2, v, w, d, e, xs, ys, rfl, l2.the, Sh.le s1 l2, s2, e1, e2, fun J wk => o2 J H2 F2 (Le.refl l2.the) wk⟩
  refine Call_ (ld_blt I hg hm PyProof.Rows.boot_zip (PyProof.Rows.callWith_type1 (thn ((pa_cons ha.pe (pa_cons hb.pe pa_nil hs2) hs).run pos pins s σ H _ I h1) fun us s1 ⟨vs, H1, I1, r1, q1⟩ => ?_) hs hpl))
  obtain ⟨F1, v, w, d, e, xs, ys, ev, th, sd, se, e1, e2, q⟩ := q1
  subst ev
  obtain ⟨u1, u2, rfl, rv, rw'⟩ := vals2 r1
  obtain ⟨S1, vs1, ea, at1, sl1⟩ := sh_src sd e1
  obtain ⟨S2, vs2, eb, at2, sl2⟩ := sh_src se e2
  subst ea eb
  cases rv
  cases rw'
  have eK := x.K
  obtain ⟨t1, r1, p1, z1⟩ := S1.here I1 (eK ▸ at1 H1 Kp.refl)
  obtain ⟨t2, r2, p2, z2⟩ := S2.here I1 (eK ▸ at2 H1 Kp.refl)
  refine zip_begins2 (S1.begins t1.toArray) (S2.begins t2.toArray) p1 p2 fun h' hz hTI hTO o1 o2 hsz hk => wpAny_pyIter_zip hz ?_
  refine ⟨s1.heap.objs.size + 4, [s1.heap.objs.size + 4, s1.heap.objs.size + 2, s1.heap.objs.size + 3, s1.heap.objs.size, s1.heap.objs.size + 1], _, _, H1, rfl, I1.kept (t' := s1.toks) hk, turn_S (S1 := S1) (S2 := S2) (zip_sep2 (fp1 := [S1.ad]) (fp2 := [S2.ad]) (fun b hb => ?_) fun b hb => ?_), ⟨hz, hTI, ⟨_, _, hTO⟩, S1.st0 o1, S2.st0 o2⟩, fun c hc => ?_, q _ ?_⟩
  · have e : b = S1.ad := by simpa using hb
    subst e; exact S1.in_lt p1
  · have e : b = S2.ad := by simpa using hb
    subst e; exact S2.in_lt p2
  · have hle : s1.heap.objs.size ≤ c := by
      have hc : c = s1.heap.objs.size + 4 ∨ c = s1.heap.objs.size + 2 ∨ c = s1.heap.objs.size + 3 ∨ c = s1.heap.objs.size ∨ c = s1.heap.objs.size + 1 := by simpa using hc
      rcases hc with e | e | e | e | e <;> subst e
      · exact Nat.le_add_right _ _
      · exact Nat.le_add_right _ _
      · exact Nat.le_add_right _ _
      · exact Nat.le_refl _
      · exact Nat.le_add_right _ _
    exact I1.fpOk hle (I1.hok.fresh hle)
  · have n1 := sl1.length
    have n2 := sl2.length
    have nz : (zipD xs ys).length = min xs.length ys.length := List.length_zipWith
    refine ⟨fun i H2 hi k2 => ?_, fun H2 k2 => ?_, ?_, fun i H2 F2 y H3 hi k2 sb t hy => ?_⟩
    · have b1 : i < vs1.length := by omega
      have b2 : i < vs2.length := by omega
      exact ⟨vs1, vs2, vs1[i], vs2[i], eK ▸ at1 H2 k2, eK ▸ at2 H2 k2, by simp [b1], by simp [b2]⟩
    · exact ⟨vs1, vs2, eK ▸ at1 H2 k2, eK ▸ at2 H2 k2, by omega, by omega, by omega⟩
    · omega
    · obtain ⟨T, v1, v2, e3, nT, e4, g1, g2⟩ := hy
      subst e3 e4
      obtain ⟨d1, q1, w1⟩ := sl1.get (g1 vs1 (eK ▸ at1 H2 k2))
      obtain ⟨d2, q2, w2⟩ := sl2.get (g2 vs2 (eK ▸ at2 H2 k2))
      have l := le_new (o := .tup [v1, v2]) t nT
      refine ⟨.tup [d1, d2], F2, ?_, l, .tup (.inl (.inl upd_same)) (.cons ((w1.mono k2 sb).le l) (.cons ((w2.mono k2 sb).le l) .nil))⟩
      unfold zipD
      rw [List.getElem?_zipWith, q1, q2]
/-- enumerate(list) -/
def enumD (xs : List D) : List D := zipD ((List.range xs.length).map fun i => .int (i : Nat)) xs
def iE (f : Lo → R D) : Lo → R (List D) := fun ρ => (f ρ).bind fun d => match d with
  | .lst xs => .ok (enumD xs)
  | _ => .bad
theorem vi_enum (x : VX X G k) (hm : X.mg "enumerate" = none) (ha : VE X G .sh a fa) (hg : Gl X "enumerate" := by rfl) (hs : starEach [a] X.env = [(false, eval a X.env)] := by rfl) :
    VI X G (.Tuple elts kk tpos) (.Call (.Name "enumerate" p) [a] [] pos) (iE fa) := by
  refine ⟨⟨fun pins s σ H Rr I ⟨ρ, F, rl, o⟩ => ?_⟩⟩
  have hs' : starEach [a] X.env = (false, eval a X.env) :: starEach [] X.env := by rw [hs]; rfl
  have h1 : tCons (tV G .sh fa) tNil σ H fun vs H' => ∃ F' v xs, vs = [v] ∧ The F' H' ∧ Sh G.K H' F' v (.lst xs) ∧ ∀ J, Wk G J (enumD xs) H' F' → Rr J H' := by
    refine ⟨ρ, F, rl, Out.bind (S' := fun ds J H' F' => Wk G J ds H' F') o (fun _ _ _ _ _ _ _ h => h) fun d v H1 F1 _ l s1 kk1 => ?_⟩
    have o1 := kk1 (S'' := fun ds J H' F' => Wk G J ds H' F') fun _ _ _ _ h => h
    cases d with
    | lst xs => exact ⟨F1, v, xs, rfl, l.the, s1, fun J wk => o1 J H1 F1 (Le.refl l.the) wk⟩
    | _ => exact o1.elim
  have h0 := pi_enum (X := X) (p := p) (pos := pos) (tpos := tpos) (elts := elts) (kk := kk) hg hm (pa_cons ha.pe pa_nil hs') hs
  have eK := x.K
  refine Call_ (ld_blt I hg hm PyProof.Rows.boot_enumerate (PyProof.Rows.callWith_type1 (thn ((pa_cons ha.pe pa_nil hs').run pos pins s σ H _ I h1) fun us s1 ⟨vs, H1, I1, r1, q1⟩ => ?_) hs rfl))
  obtain ⟨F1, v, ds, ev, th, sd, q⟩ := q1
  subst ev
  obtain ⟨u1, rfl, rv⟩ := vals1 r1
  cases sd with
  | @lst ad xs _ fz sl =>
    cases rv
    obtain ⟨its, r2, pl, hz⟩ := I1.list (eK ▸ fz.sql)
    refine call_enumerate_list pl.isList fun h' he hit hsz hk => wpAny_pyIter_enum he ?_
    refine ⟨s1.heap.objs.size + 1, [s1.heap.objs.size + 1, s1.heap.objs.size], _, _, H1, rfl, I1.kept (t' := s1.toks) hk, turn_enum ad (s1.heap.objs.size + 1) s1.heap.objs.size, ⟨⟨.none, he⟩, hit, Nat.succ_ne_self _⟩, fun c hc => ?_, q _ ?_⟩
    · have hle : s1.heap.objs.size ≤ c := by
        have hc : c = s1.heap.objs.size + 1 ∨ c = s1.heap.objs.size := by simpa using hc
        rcases hc with e | e <;> subst e
        · exact Nat.le_add_right _ _
        · exact Nat.le_refl _
      exact I1.fpOk hle (I1.hok.fresh hle)
    · have n1 := sl.length
      have nz : (enumD ds).length = ds.length := by unfold enumD zipD; rw [List.length_zipWith]; simp
      refine ⟨fun i H2 hi k2 => ?_, fun H2 k2 => ?_, ?_, fun i H2 F2 y H3 hi k2 sb t hy => ?_⟩
      · have b1 : i < xs.length := by omega
        exact ⟨xs, xs[i], eK ▸ fz_keep fz k2, by simp [b1]⟩
      · exact ⟨xs, eK ▸ fz_keep fz k2, by omega⟩
      · omega
      · obtain ⟨T, v1, e3, nT, e4, g1⟩ := hy
        subst e3 e4
        obtain ⟨d1, q1, w1⟩ := sl.get (g1 xs (eK ▸ fz_keep fz k2))
        have l := le_new (o := .tup [.int (i : Nat), v1]) t nT
        refine ⟨.tup [.int (i : Nat), d1], F2, ?_, l, .tup (.inl (.inl upd_same)) (.cons (.int _) (.cons ((w1.mono k2 sb).le l) .nil))⟩
        unfold enumD zipD
        rw [List.getElem?_zipWith, q1, List.getElem?_map, List.getElem?_range (by omega)]
        rfl
end
end VL

namespace VL
open PyProof.Rows PySem L2 PySem.Spec

/-! ### the law's end -/
abbrev Sysm (base : Heap) : Prop := ∃ o es ep, base.get? sysModules = some o ∧ o.data = .dict es ep
abbrev GoalL (s₁ : Shared) : Result → Shared → Prop := fun r s' => r = .ok (.ret (.bool true)) ∧ OldK s₁.heap s'.heap ∧ s'.os = s₁.os ∧ AllBare s'.gens
theorem shl_ints {K : PySem.W.Frag} {H : Hp} {F : Fro} : ∀ ns : List Int, ShL K H F (ns.map V.int) (ns.map D.int)
  | [] => .nil
  | n :: ns => .cons (.int n) (shl_ints ns)
section
variable {P : Program} {w : World} {K : PySem.W.Frag} {mg mb : Str → Option Value} {k : Nat} {fa a : Addr} {fd : FuncData} {x : Str} {m : Md} {g : List D → R D} {s₁ : Shared} {vs : List Value} {ns : List Int}
theorem law_core {H : Hp} (KX : K.In s₁.heap) (hns : s₁.heap.Ns mainGlobals mg) (hb : s₁.heap.Ns builtinsNs mb) (hbb : ∀ x : Str, x ≠ "__name__" → mb x = bootBuiltins x) (hlim : s₁.heap.NoLimit) (hy : s₁.heap.NoSeer) (hg : s₁.gens = #[])
    (ha : s₁.heap.get? a = some { cls := .type "list", data := .seq vs.toArray }) (hr : Room k callerA)
    (F : ∀ base : Heap, K.In base → base.Ns mainGlobals mg → Sysm base → FnG P w K mg base k fa fd [x] (spV K mg 1 m g)) (hbind : ∀ (s : Shared) (u : Value), BindsTo s fd ⟨[u], []⟩ [(x, u)])
    (hl : g [.lst (ns.map D.int)] = .ok (.bl true)) (hF : FzL K H (fun _ => False) a (ns.map V.int)) (hok : HOk P w H s₁.heap) (only : ∀ b u, H b = some u → b = a ∧ K.lookup a = none ∧ ∃ o xs, u = .frz o (.lst xs)) :
    codeAny (model P w) callerA (.call (.ref fa) ⟨[.ref a], []⟩) (GoalL s₁) s₁ := by
  -- what is no list is not tracked
  have apart : ∀ {b : Addr} {o : Obj} {es : Array DictEntry} {ep : Nat}, s₁.heap.get? b = some o → o.data = .dict es ep → (hidT s₁.heap H).get? b = some o := by
    intro b o es ep e d
    refine hidT_get e ?_
    cases q : H b with
    | none => rfl
    | some u =>
      obtain ⟨rfl, _⟩ := only b u q
      rw [e] at ha
      cases ha
      cases d
  have onNs : ∀ {b : Addr} {f : Str → Option Value}, s₁.heap.Ns b f → (hidT s₁.heap H).Ns b f := by
    rintro b f ⟨o, es, ep, e, d, r⟩
    exact ⟨o, es, ep, apart e d, d, r⟩
  have inK : K.In (hidT s₁.heap H) := by
    intro b o e
    refine hidT_get (KX b o e) ?_
    cases q : H b with
    | none => rfl
    | some u =>
      obtain ⟨rfl, z, _⟩ := only b u q
      rw [z] at e
      cases e
  obtain ⟨lc, l1, l2⟩ := hlim
  have md : L2.Mod K mg (hidT s₁.heap H) := ⟨inK, onNs hns, ⟨mb, onNs hb, hbb⟩, ⟨lc, onNs l1, l2⟩⟩
  have e0 : Env0 P w K mg (hidT s₁.heap H) callerA [] s₁ H := by
    refine ⟨rfl, md, fun b o e => of_hidT e, Nat.le_of_eq (hidT_size _ _), trivial, fun b z => ?_, hok, .of_eq hg⟩
    exact nomatch z
  have sy : Sysm (hidT s₁.heap H) := by
    obtain ⟨mm, ⟨o, es, ep, e, d, _⟩, _⟩ := hy.mods
    exact ⟨o, es, ep, apart e d, d⟩
  have sp : spV K mg 1 m g [.ref a] H (fun v _ => v = .bl true) fun _ _ _ => False := by
    refine ⟨fun _ => False, [.lst (ns.map D.int)], fun _ z => z.elim, .cons (.lst hF (shl_ints ns)) .nil, rfl, ?_⟩
    rw [hl]
    intro v H' F' l r
    exact rb_bl (rb_of r)
  refine codeAny_mono ((F _ inK (onNs hns) sy).run callerA [] s₁ H ⟨[.ref a], []⟩ [.ref a] [.ref a] _ _ hr rfl e0 (hbind s₁ (.ref a)) (.cons rfl .nil) sp) fun r s' h => ?_
  cases r with
  | error e =>
    obtain ⟨_, _, _, _, _, _, _, _, _, _, _, _, z⟩ := h
    exact z.elim
  | ok fl =>
    cases fl with
    | next => exact h.elim
    | brk => exact h.elim
    | cont => exact h.elim
    | ret u =>
      obtain ⟨v, H', os, bare, un, hok', r', rfl⟩ := h
      cases (show u = Value.bool true from r')
      refine ⟨rfl, OldK.of_keep fun b o e => ?_, os, bare⟩
      cases q : H b with
      | none => exact un.keep b o e q (fun z => nomatch (show b ∈ ([] : List Addr) from z)) (by simp)
      | some u =>
        obtain ⟨_, _, ob, xs, rfl⟩ := only b u q
        have o1 := (hok b _ q).1
        have o2 := (hok' b _ (un.frzs b ob _ q)).1
        rw [e] at o1
        cases o1
        exact o2
theorem law_v (KX : K.In s₁.heap) (hns : s₁.heap.Ns mainGlobals mg) (hb : s₁.heap.Ns builtinsNs mb) (hbb : ∀ x : Str, x ≠ "__name__" → mb x = bootBuiltins x) (hlim : s₁.heap.NoLimit) (hy : s₁.heap.NoSeer) (hg : s₁.gens = #[])
    (ha : s₁.heap.get? a = some { cls := .type "list", data := .seq vs.toArray }) (hi : IntsAre vs ns) (hz : ns.length ≤ sizeLine) (hr : Room k callerA)
    (F : ∀ base : Heap, K.In base → base.Ns mainGlobals mg → Sysm base → FnG P w K mg base k fa fd [x] (spV K mg 1 m g)) (hbind : ∀ (s : Shared) (u : Value), BindsTo s fd ⟨[u], []⟩ [(x, u)])
    (hl : g [.lst (ns.map D.int)] = .ok (.bl true)) : codeAny (model P w) callerA (.call (.ref fa) ⟨[.ref a], []⟩) (GoalL s₁) s₁ := by
  have rv := vals_ints hi
  cases q : K.lookup a with
  | some o =>
    have e := KX a o q
    rw [ha] at e
    cases e
    refine law_core (H := fun _ => none) KX hns hb hbb hlim hy hg ha hr F hbind hl (.inr (.inr ⟨_, _, q, ?_, rv⟩)) (fun b u z => nomatch z) (fun b u z => nomatch z)
    simpa [hi.length] using hz
  | none =>
    have self : (fun b => if b = a then some (HO.frz { cls := .type "list", data := .seq vs.toArray } (.lst (ns.map V.int))) else none) a = some (HO.frz { cls := .type "list", data := .seq vs.toArray } (.lst (ns.map V.int))) := if_pos rfl
    refine law_core (H := fun b => if b = a then some (HO.frz { cls := .type "list", data := .seq vs.toArray } (.lst (ns.map V.int))) else none) KX hns hb hbb hlim hy hg ha hr F hbind hl (.inr (.inl ⟨_, _, self⟩)) (fun b u z => ?_) fun b u z => ?_
    · by_cases e : b = a
      · subst e
        rw [self] at z
        cases z
        exact ⟨ha, by rw [List.length_map]; exact hz, vs, _, rv, ha⟩
      · have z' : (if b = a then some (HO.frz { cls := .type "list", data := .seq vs.toArray } (.lst (ns.map V.int))) else none) = some u := z
        rw [if_neg e] at z'
        cases z'
    · have z' : (if b = a then some (HO.frz { cls := .type "list", data := .seq vs.toArray } (.lst (ns.map V.int))) else none) = some u := z
      by_cases e : b = a
      · rw [if_pos e] at z'
        cases z'
        exact ⟨e, q, _, _, rfl⟩
      · rw [if_neg e] at z'
        cases z'
end
/-- what k_head leaves, from the law's own def -/
theorem law_end {l : PySem.W.OpenLaw} {n k : Nat} {q : Program} {loose : List Str} {XP : (Str → Option Value) → Heap → Prop} {YP : World → Heap → Prop} {d : DefRec} {K : Params → PySem.W.Frag} {x : Str} {m : Md} {g : List D → R D}
    (hn : l.most = some n) (hn2 : n ≤ sizeLine) (hdf : d.params.defaults = []) (hr : Room k callerA) (hq : importsNone q = true) (hY : ∀ (w : World) (h : Heap), YP w h → (K w.params).In h)
    (F : ∀ (w : World) (mg : Str → Option Value) (fa : Addr) (h : Heap), (K w.params).In h → h.Ns mainGlobals mg → mg d.name = some (.ref fa) → ∃ fd : FuncData, (∀ (s : Shared) (u : Value), BindsTo s fd ⟨[u], []⟩ [(x, u)]) ∧
        ∀ base : Heap, (K w.params).In base → base.Ns mainGlobals mg → Sysm base → FnG l.prog w (K w.params) mg base k fa fd [x] (spV (K w.params) mg 1 m g))
    (hl : ∀ ns : List Int, ns.length ≤ n → g [.lst (ns.map D.int)] = .ok (.bl true)) : PySem.W.WalkO q loose XP YP l.row.toRowW d [] (fun f vs => PySem.call f vs) := by
  refine Att.attach_call hn hdf fun w s₀ s₁ mg mb fa o pm cd doc a vs ns G Y ho hd hcd hmg hobj hints hlen hg => ?_
  obtain ⟨fd, bd, F'⟩ := F w mg fa _ (hY w _ Y) G.T.g hmg
  exact law_v (hY w _ Y) G.T.g G.T.b G.T.builtins G.T.nolimit (G.T.seer hq) hg hobj hints (Nat.le_trans hlen hn2) hr F' bd (hl ns hlen)
end VL

namespace VL
open PyProof.Rows PySem L2 PySem.Spec

/-! ### a new list times an int -/
def opRep : D → D → Option D
  | .lst ds, .int k => if (fits62 k && fits (ds.length * k.toNat)) = true then some (.lst (List.replicate k.toNat ds).flatten) else none
  | _, _ => none
section
variable {X : Cx} {G : VG} {m m1 m2 : Md} {a b e : Expr} {fa fb f : Lo → R D} {pos : Pos} {k : Nat}
theorem shl_rep {K : PySem.W.Frag} {H : Hp} {F : Fro} {vs : List V} {ds : List D} (s : ShL K H F vs ds) : ∀ n : Nat, ShL K H F (List.replicate n vs).flatten (List.replicate n ds).flatten
  | 0 => .nil
  | n + 1 => by
    rw [List.replicate_succ, List.replicate_succ, List.flatten_cons, List.flatten_cons]
    exact s.append (shl_rep s n)
theorem ve_rep (ha : VE X G .fr a fa) (hb : VE X G m2 b fb) : VE X G m (.BinOp a .Mult b pos) (b2 fa fb opRep) := ⟨pe_imp (pe_op op_rep ha.pe hb.pe) fun σ H Q ⟨ρ, F, rl, o⟩ => by
  refine ⟨ρ, F, rl, Out.bind (S' := fun d v H' F' => Rp G.K m H H' F' v d) o (fun _ _ _ _ _ _ _ h => h) fun d x H1 F1 e1 l s kk => ?_⟩
  clear e1
  have o1 := kk (S'' := fun d v H' F' => Rp G.K m H1 H' F' v d) fun d v H' F' h => h.back l.keep
  refine ⟨ρ, F1, rl.step l, Out.bind (S' := fun d v H' F' => Rp G.K m H1 H' F' v d) o1 (fun _ _ _ _ _ _ _ h => h) fun d2 y H2 F2 e2 l2 s2 k2 => ?_⟩
  clear e2
  have an := ans_of (m := m) (G := G) (F := F2) (H := H2) rfl (k2 (S'' := fun d v H' F' => Rp G.K m H2 H' F' v d) fun d v H' F' h => h.back l2.keep)
  obtain ⟨z, ez, an⟩ := an
  cases d <;> cases d2 <;> try (cases ez; done)
  rename_i ds n
  have ez : (if (fits62 n && fits (ds.length * n.toNat)) = true then some (D.lst (List.replicate n.toNat ds).flatten) else none) = some z := ez
  by_cases hf : (fits62 n && fits (ds.length * n.toNat)) = true
  · rw [if_pos hf] at ez
    cases ez
    rw [Bool.and_eq_true] at hf
    have f1 := of_decide_eq_true hf.1
    have f2 := fits_line hf.2
    rcases s with ⟨p, rfl, _, _, w⟩ | ⟨z, _⟩
    · cases w with
      | lst hp sh =>
        refine ⟨p, n, _, rfl, rb_int (rb_of s2), l2.keep _ _ hp, by omega, by omega, by rw [sh.length]; exact f2, fun q hq => ?_⟩
        obtain ⟨F3, l3, r3, _⟩ := ans_lst (G := G) (m := m) l2.the hq (shl_rep (sh.le l2) n.toNat)
        exact an _ _ F3 l3 r3
    · cases z
  · rw [if_neg hf] at ez
    cases ez⟩
end

/-! ### what the module holds -/
def MC (K : PySem.W.Frag) (mg : Str → Option Value) (x : Str) (d : D) : Prop := ∃ u v, mg x = some u ∧ RelV v u ∧ ∀ H F, Sh K H F v d
theorem mc_int {K : PySem.W.Frag} {mg : Str → Option Value} {x : Str} {i : Int} {t : Nat} (h : mg x = some (.int i t)) : MC K mg x (.int i) := ⟨_, .int i, h, ⟨t, rfl⟩, fun _ _ => .int i⟩
theorem mc_str {K : PySem.W.Frag} {mg : Str → Option Value} {x y : Str} {t : Nat} (h : mg x = some (.str y t)) : MC K mg x (.str y) := ⟨_, .str y, h, ⟨t, rfl⟩, fun _ _ => .str y⟩
/-- elements that are plain -/
def mcE : Value → Option (V × D)
  | .int i _ => some (.int i, .int i)
  | .str x _ => some (.str x, .str x)
  | .bool b => some (.bl b, .bl b)
  | .none => some (.non, .non)
  | _ => none
def mcL : List Value → Option (List V × List D)
  | [] => some ([], [])
  | u :: us => match mcE u, mcL us with
    | some (v, d), some (vs, ds) => some (v :: vs, d :: ds)
    | _, _ => none
theorem mcL_ok {K : PySem.W.Frag} {H : Hp} {F : Fro} : ∀ {us : List Value} {vs : List V} {ds : List D}, mcL us = some (vs, ds) → Vals vs us ∧ ShL K H F vs ds
  | [], _, _, h => by cases h; exact ⟨.nil, .nil⟩
  | u :: us, vs, ds, h => by
    unfold mcL at h
    cases e : mcE u with
    | none => rw [e] at h; cases h
    | some p =>
      obtain ⟨v, d⟩ := p
      cases q : mcL us with
      | none => rw [e, q] at h; cases h
      | some r =>
        obtain ⟨vs', ds'⟩ := r
        rw [e, q] at h
        cases h
        obtain ⟨r1, s1⟩ := mcL_ok (K := K) (H := H) (F := F) q
        have hh : RelV v u ∧ Sh K H F v d := by
          unfold mcE at e
          split at e <;> first | (cases e; exact ⟨⟨_, rfl⟩, .int _⟩) | (cases e; exact ⟨⟨_, rfl⟩, .str _⟩) | (cases e; exact ⟨rfl, .bl _⟩) | (cases e; exact ⟨rfl, .non⟩) | cases e
        exact ⟨.cons hh.1 r1, .cons hh.2 s1⟩
theorem mc_tup {K : PySem.W.Frag} {mg : Str → Option Value} {x : Str} {p : Addr} {od : Option Addr} {its : Array Value} {n : Nat} {sl : Array (Option Value)} {vs : List V} {ds : List D} (h : mg x = some (.ref p)) (l : K.lookup p = some ⟨.type "tuple", od, .seq its n, sl⟩) (c : mcL its.toList = some (vs, ds)) (hz : its.size ≤ sizeLine) : MC K mg x (.tup ds) :=
  ⟨_, .ref p, h, rfl, fun H F => by
    obtain ⟨r, s⟩ := mcL_ok (K := K) (H := H) (F := F) c
    exact .tup (.inr ⟨_, its, n, l, rfl, rfl, hz, r⟩) s⟩
section
variable {X : Cx} {G : VG} {m : Md} {k : Nat} {pos : Pos}
theorem vgc {x : Str} {d : D} (xx : VX X G k) (h : MC X.K X.mg x d) (hg : Gl X x := by rfl) (hmu : d.mut = false := by rfl) (hd : (x == ("__debug__" : Str)) = false := by decide) : VE X G m (.Name x pos) (eC d) := by
  obtain ⟨u, v, h1, r, s⟩ := h
  exact vg hg h1 r (xx.K ▸ s) hmu hd
/-- a list of the module: shared -/
theorem vgl {x : Str} {d : D} (xx : VX X G k) (h : MC X.K X.mg x d) (hg : Gl X x := by rfl) (hd : (x == ("__debug__" : Str)) = false := by decide) : VE X G .sh (.Name x pos) (eC d) := by
  obtain ⟨u, v, h1, r, s⟩ := h
  rw [xx.K] at s
  exact ⟨pe_imp (pe_glob hg h1 r hd) fun σ H Q ⟨ρ, F, rl, o⟩ => o v H F (Le.refl rl.le.the) (s H F)⟩
end
end VL

namespace VL
open PyProof.Rows PySem L2 PySem.Spec
def sFz (i : Nat) (g : Lo → Fl) : Lo → Fl := fun ρ => g (fz i ρ)
section
variable {X : Cx} {G : VG} {k : Nat} {m : Md} {e : Expr} {f : Lo → R D} {pos pos' : Pos}
theorem va_app (i : Nat) {x : Str} {ap cp : Pos} (h : VE X G .sh e f) (hN : X.N[i]? = some x := by rfl) (hv : Vis X.env.scope x := by first | exact Or.inl rfl | exact Or.inr (Or.inl rfl) | exact Or.inr (Or.inr rfl)) (hd : (x == ("__debug__" : Str)) = false := by decide)
    (hcd : (x == ("__classdict__" : Str)) = false := by decide) (he : starEach [e] X.env = (false, eval e X.env) :: starEach [] X.env := by rfl)
    (hbase : attributeBase (.Name x pos') "append" X.env (eval (.Name x pos') X.env) = eval (.Name x pos') X.env := by rfl)
    (hfew : ((backTo cp (starEach [e] X.env)).all (fun x => !x.1) && (backToKw cp (keywordEach [] X.env)).all (fun x => x.1.isSome) && decide ([e].length + ([] : List Keyword).length + (if ([] : List Keyword).isEmpty then 0 else 1) < 30)) = true := by rfl)
    (hline : (ap.endLine == cp.line) = true := by rfl)
    (hs : swapsWith (.Call (.Attribute (.Name x pos') "append" ap) [e] [] cp) none pos.line X.env = pure false := by rfl) : VS X G m (.Expr (.Call (.Attribute (.Name x pos') "append" ap) [e] [] cp) pos) (sApp i f) :=
  vs_append i h hN hv hd hcd (pe_bm F.plainAttrs_list F.slot_list_append F.type_list_append mt_append (pe_var hN hv hd hcd) (pa_cons h.pe pa_nil he) hbase hfew hline he rfl) hs
end
end VL

namespace VL
open PyProof.Rows PySem L2 PySem.Spec
/-! ### targets never raise -/
def NxT (g : D → Lo → R Lo) : Prop := ∀ d ρ c fs, g d ρ ≠ .ex c fs
def NxTs (g : List D → Lo → R Lo) : Prop := ∀ d ρ c fs, g d ρ ≠ .ex c fs
theorem nx_gS (i : Nat) : NxT (gS i) := fun d ρ c fs h => by cases h
theorem nx_gNil : NxTs gNil2 := fun d ρ c fs h => by
  unfold gNil2 at h
  split at h <;> cases h
theorem nx_gCons {g : D → Lo → R Lo} {r : List D → Lo → R Lo} (a : NxT g) (b : NxTs r) : NxTs (gCons2 g r) := fun d ρ c fs h => by
  unfold gCons2 at h
  split at h
  · rename_i d ds
    cases e : g d ρ with
    | ok ρ' => rw [e] at h; exact b _ _ _ _ h
    | ex c fs => exact a _ _ _ _ e
    | bad => rw [e] at h; cases h
  · cases h
theorem nx_gT {n : Nat} {g : List D → Lo → R Lo} (a : NxTs g) : NxT (gT2 n g) := fun d ρ c fs h => by
  unfold gT2 at h
  split at h
  · split at h
    · exact a _ _ _ _ h
    · cases h
  · split at h
    · exact a _ _ _ _ h
    · cases h
  · cases h
end VL

namespace VL
open PyProof.Rows PySem L2 PySem.Spec
/-! ### calls that borrow: an own object is lent to a def that answers an atom -/
inductive RBL (K : PySem.W.Frag) (H : Hp) (F : Fro) : List V → List D → Prop
  | nil : RBL K H F [] []
  | cons {v : V} {vs : List V} {d : D} {ds : List D} : ((∃ a xs, v = .ref a ∧ ¬ F a ∧ d = .lst xs ∧ Ow K H F a (.lst xs)) ∨ Sh K H F v d) → RBL K H F vs ds → RBL K H F (v :: vs) (d :: ds)
section
variable {K : PySem.W.Frag} {H H' : Hp} {F F' : Fro}
theorem RBL.froze : ∀ {vs : List V} {ds : List D}, RBL K H F vs ds → The F H → ∃ F', (∀ a, F a → F' a) ∧ The F' H ∧ ShL K H F' vs ds
  | _, _, .nil, t => ⟨F, fun _ h => h, t, .nil⟩
  | _, _, .cons h r, t => by
    obtain ⟨F1, s1, t1, r1⟩ := r.froze t
    rcases h with ⟨a, xs, e, nf, e2, o⟩ | h
    · subst e e2
      refine ⟨F1.add a, fun b hb => .inl (s1 b hb), fun b hb => ?_, .cons ((o.mono (fun _ _ e _ => e) (fun b hb => Or.inl (s1 b hb)) fun _ e => e).freeze (.inr rfl)) (r1.mono (fun _ _ e _ => e) fun b hb => .inl hb)⟩
      rcases hb with hb | rfl
      · exact t1 b hb
      · exact o.there
    · exact ⟨F1, s1, t1, .cons (h.mono (fun _ _ e _ => e) s1) r1⟩
end
def D.atom : D → Bool
  | .non => true
  | .bl _ => true
  | .int _ => true
  | .str _ => true
  | _ => false
def atomR : R D → R D
  | .ok d => if d.atom = true then .ok d else .bad
  | _ => .bad
theorem atom_sh {K : PySem.W.Frag} {H H' : Hp} {F F' : Fro} {v : V} {d : D} (h : RB K H F v d) (a : d.atom = true) : Sh K H' F' v d := by
  rcases h with ⟨b, e, nf, o⟩ | h
  · cases o <;> cases a
  · cases h <;> first | cases a; done | constructor
theorem atom_mut {d : D} (a : d.atom = true) : d.mut = false := by cases d <;> first | rfl | cases a
def tAb (G : VG) (f : Lo → R (List D)) : TA := fun σ H Q => ∃ ρ F, Rel G σ H ρ F ∧ Out G σ H F (f ρ) (fun ds vs H' F' => RBL G.K H' F' vs ds) Q
structure VAb (X : Cx) (G : VG) (es : List Expr) (f : Lo → R (List D)) : Prop where
  pa : PA X es (tAb G f)
section
variable {X : Cx} {G : VG} {m m1 : Md} {e : Expr} {es : List Expr} {fa : Lo → R D} {ft : Lo → R (List D)}
theorem vab_nil : VAb X G [] aNil := ⟨pa_imp pa_nil fun σ H Q ⟨ρ, F, rl, o⟩ => o [] H F (Le.refl rl.le.the) .nil⟩
theorem vab_cons (ha : VE X G .sh e fa) (hr : VAb X G es ft) (hs : starEach (e :: es) X.env = (false, eval e X.env) :: starEach es X.env := by rfl) : VAb X G (e :: es) (aCons fa ft) := ⟨pa_imp (pa_cons ha.pe hr.pa hs) fun σ H Q ⟨ρ, F, rl, o⟩ => by
  refine ⟨ρ, F, rl, Out.bind (S' := fun ds vs H' F' => RBL G.K H' F' vs ds) o (fun _ _ _ _ _ _ _ h => h) fun d x H1 F1 _ l s k => ?_⟩
  have o1 := k (S'' := fun ds vs H' F' => RBL G.K H' F' vs ds) fun _ _ _ _ h => h
  refine ⟨ρ, F1, rl.step l, Out.bind (S' := fun ds vs H' F' => RBL G.K H' F' vs ds) o1 (fun _ _ _ _ _ _ _ h => h) fun ds xs H2 F2 _ l2 s2 k2 => ?_⟩
  exact k2 (S'' := fun ds vs H' F' => RBL G.K H' F' vs ds) (fun _ _ _ _ h => h) _ H2 F2 (Le.refl l2.the) (.cons (.inr (Sh.le s l2)) s2)⟩
/-- an own list, lent -/
def eBl (i : Nat) : Lo → R D := fun ρ => match ρ[i]? with
  | some (.sh d) => .ok d
  | some (.ow (.lst ds)) => .ok (.lst ds)
  | _ => .bad
theorem ow_le {K : PySem.W.Frag} {H H' : Hp} {F F' : Fro} {a : Addr} {d : D} (nf : ¬ F a) (o : Ow K H F a d) (l : Le H F H' F') : ¬ F' a ∧ Ow K H' F' a d :=
  ⟨fun f => (l.new a f).elim nf o.there, o.mono l.kp l.sub fun u e => l.keep _ u e⟩
theorem vab_own (i : Nat) {x : Str} {pos : Pos} (hr : VAb X G es ft) (hN : X.N[i]? = some x := by rfl) (hv : Vis X.env.scope x := by first | exact Or.inl rfl | exact Or.inr (Or.inl rfl) | exact Or.inr (Or.inr rfl)) (hd : (x == ("__debug__" : Str)) = false := by decide)
    (hcd : (x == ("__classdict__" : Str)) = false := by decide) (hs : starEach (.Name x pos :: es) X.env = (false, eval (.Name x pos) X.env) :: starEach es X.env := by rfl) : VAb X G (.Name x pos :: es) (aCons (eBl i) ft) := ⟨pa_imp (pa_cons (pe_var hN hv hd hcd) hr.pa hs) fun σ H Q ⟨ρ, F, rl, o⟩ => by
  have o : Out G σ H F ((eBl i ρ).bind fun d => (ft ρ).bind fun ds => .ok (d :: ds)) (fun ds vs H' F' => RBL G.K H' F' vs ds) Q := o
  unfold eBl at o
  split at o
  · rename_i d e
    obtain ⟨x, ex, v, ev, s⟩ := rl.at e
    subst ev
    refine ⟨v, ex, ρ, F, rl, Out.bind (S' := fun ds vs H' F' => RBL G.K H' F' vs ds) o (fun _ _ _ _ _ _ _ h => h) fun ds xs H2 F2 _ l2 s2 k2 => ?_⟩
    exact k2 (S'' := fun ds vs H' F' => RBL G.K H' F' vs ds) (fun _ _ _ _ h => h) _ H2 F2 (Le.refl l2.the) (.cons (.inr (Sh.le s l2)) s2)
  · rename_i d e
    obtain ⟨x, ex, a, ea, _, nf, w⟩ := rl.at e
    subst ea
    refine ⟨.ref a, ex, ρ, F, rl, Out.bind (S' := fun ds vs H' F' => RBL G.K H' F' vs ds) o (fun _ _ _ _ _ _ _ h => h) fun ds xs H2 F2 _ l2 s2 k2 => ?_⟩
    obtain ⟨nf2, w2⟩ := ow_le nf w l2
    exact k2 (S'' := fun ds vs H' F' => RBL G.K H' F' vs ds) (fun _ _ _ _ h => h) _ H2 F2 (Le.refl l2.the) (.cons (.inl ⟨a, _, rfl, nf2, rfl, w2⟩) s2)
  · exact o.elim⟩
end
section
variable {X : Cx} {G : VG} {k j : Nat} {f : Addr} {fd : FuncData} {ps : List Str} {m m2 : Md} {g : List D → R D} {e : Expr} {es : List Expr} {fa : Lo → R (List D)} {nm : Str} {p pos : Pos}
def eCallB (g : List D → R D) (fa : Lo → R (List D)) : Lo → R D := fun ρ => (fa ρ).bind fun ds => atomR (g ds)
theorem sp_ofB {σ : L2.St} {H : Hp} {F : Fro} {Q : VK} {n : Nat} {vs : List V} {ds : List D} (t : The F H) (s : RBL G.K H F vs ds) (hl : ds.length = n) (o : Out G σ H F (atomR (g ds)) (fun d v H' F' => Rp G.K m2 H H' F' v d) Q) : spV G.K G.mg n m g vs H Q (WE G.W σ) := by
  obtain ⟨F1, s1, t1, r1⟩ := s.froze t
  refine ⟨F1, ds, t1, r1, hl, ?_⟩
  cases e : g ds with
  | ok d =>
    rw [e] at o
    unfold atomR at o
    dsimp only at o
    by_cases ha : d.atom = true
    · rw [if_pos ha] at o
      intro v H' F' l r
      have l' : Le H F H' F := ⟨l.keep, fun _ h => h, fun _ h => .inl h, fun a h => by
        have := t a h
        cases q : H a with
        | none => exact absurd q this
        | some u => rw [l.keep a u q]; simp⟩
      have sh : Sh G.K H' F v d := atom_sh (rb_of r) ha
      refine o v H' F l' ?_
      cases m2 with
      | sh => exact sh
      | fr => exact .inr ⟨atom_mut ha, sh⟩
      | bw => exact .inr sh
    · rw [if_neg ha] at o; exact o.elim
  | ex c fs => rw [e] at o; exact o.elim
  | bad => rw [e] at o; exact o.elim
/-- f(e, ..), own objects lent -/
theorem ve_callB {n : Nat} (x : VX X G k) (F : FnG X.prog X.w X.K X.mg X.base j f fd ps (spV X.K X.mg n m g)) (hj : j ≤ k) (hm : X.mg nm = some (.ref f)) (hk : PySem.W.keepIn X.K (.ref f) = true) (hb : Binds X.K fd ps []) (ha : VAb X G (e :: es) fa) (hn : ∀ ρ ds, fa ρ = .ok ds → ds.length = n)
    (hg : Gl X nm := by rfl) (hdb : (nm == ("__debug__" : Str)) = false := by decide) (he : starEach (e :: es) X.env = (false, eval e X.env) :: starEach es X.env := by rfl) (hpl : (backTo pos (starEach es X.env)).any (·.1) = false := by rfl) : VE X G m2 (.Call (.Name nm p) (e :: es) [] pos) (eCallB g fa) := by
  refine ⟨⟨fun pins s σ H Q I ⟨ρ, F0, rl, o⟩ => ?_⟩⟩
  refine wpAny_Call_Name_kw (ld_glob I hg hm ?_ hdb)
  have h1 : tAb G fa σ H fun vs H1 => spV X.K X.mg n m g vs H1 Q (WE G.W σ) := ⟨ρ, F0, rl, Out.bind (S' := fun d v H' F' => Rp G.K m2 H H' F' v d) o (fun _ _ _ _ _ _ _ h => h) fun ds vs H1 F1 ef l s kk => by
    rw [x.K, x.mg]
    exact sp_ofB (m2 := m2) l.the s (hn ρ ds ef) (kk (S'' := fun d v H' F' => Rp G.K m2 H1 H' F' v d) fun d v H' F' h => h.back l.keep)⟩
  refine PySem.W.callWith_K (h₀ := X.base) I.ok.mod.kin hk (thn (ha.pa.run pos pins s σ H _ I h1) fun us s1 ⟨vs, H1, I1, r, q⟩ => ⟨I1.kIn, ?_⟩) he hpl
  exact run_g (ds := []) (dvs := []) x F hj hb .nil (passAt x.tk σ) I1 r (by rw [List.append_nil]; exact q)
end
end VL

namespace VL
open PyProof.Rows PySem L2 PySem.Spec
/-! ### a tuple times an int; the place of an item -/
def opRepT : D → D → Option D
  | .tup ds, .int k => if (decide (2 ≤ k ∧ k ≤ 1000 ∧ ds.length ≤ 1000) && !ds.isEmpty) = true then some (.tup (List.replicate k.toNat ds).flatten) else none
  | _, _ => none
section
variable {X : Cx} {G : VG} {m m1 m2 : Md} {a b e o : Expr} {fa fb f : Lo → R D} {pos : Pos} {k : Nat}
theorem o2_repT : Op2 G m (rRepT G.K) opRepT := by
  intro H F x y a b Q t ra rb h
  cases a <;> cases b <;> first
    | exact (ans_no h).elim
    | skip
  obtain ⟨hf, h⟩ := ans_if h
  rw [Bool.and_eq_true, decide_eq_true_eq] at hf
  obtain ⟨⟨f1, f2, f3⟩, f4⟩ := hf
  obtain ⟨p, xs, e, l, s⟩ := rb_tup ra
  refine ⟨p, _, xs, e, rb_int rb, l, fun z => ?_, f1, f2, by rw [s.length]; exact f3, ans_newT t (shl_rep s _) h⟩
  subst z
  cases s
  cases f4
theorem ve_repT (x : VX X G k) (ha : VE X G m1 a fa) (hb : VE X G m2 b fb) : VE X G m (.BinOp a .Mult b pos) (b2 fa fb opRepT) := ve_op (x.K ▸ op_repT) o2_repT ha hb
def findD (y : D) : List D → Nat → Option Nat
  | [], _ => none
  | d :: ds, i => if d.eqv y = true then some i else findD y ds (i + 1)
def opIndex : D → D → Option D
  | .lst ds, y => if ((D.lst ds).sha && y.sha) = true then (findD y ds 0).map fun j => .int (j : Nat) else none
  | _, _ => none
theorem findD_ok {y : D} : ∀ {ds : List D} {i j : Nat}, findD y ds i = some j → ∃ n, j = i + n ∧ (∃ d, ds[n]? = some d ∧ d.eqv y = true) ∧ ∀ m d, m < n → ds[m]? = some d → d.eqv y = false
  | [], _, _, h => by cases h
  | d :: ds, i, j, h => by
    unfold findD at h
    by_cases q : d.eqv y = true
    · rw [if_pos q] at h
      cases h
      exact ⟨0, rfl, ⟨d, rfl, q⟩, fun m _ hm => by omega⟩
    · rw [if_neg q] at h
      obtain ⟨n, e, ⟨z, hz, hq⟩, hr⟩ := findD_ok h
      refine ⟨n + 1, by omega, ⟨z, hz, hq⟩, fun m c hm hc => ?_⟩
      cases m with
      | zero =>
        simp at hc
        subst hc
        exact Bool.eq_false_iff.mpr q
      | succ m => exact hr m c (by omega) hc
theorem pyL_get {ds : List D} {n : Nat} : (pyL ds)[n]? = ds[n]?.map py := by rw [pyL_map, List.getElem?_map]
def eM (fa fb : Lo → R D) (op : D → D → Option D) : Lo → R D := fun ρ => (fa ρ).bind fun d => match d with
  | .lst ds => (fb ρ).bind fun y => R.opt (op (.lst ds) y)
  | _ => .bad
/-- xs.index(y) -/
theorem ve_index {ap cp : Pos} (x : VX X G k) (ha : VE X G m1 o fa) (hb : VE X G m2 e fb) (he : starEach [e] X.env = (false, eval e X.env) :: starEach [] X.env := by rfl)
    (hbase : attributeBase o "index" X.env (eval o X.env) = eval o X.env := by rfl)
    (hfew : ((backTo cp (starEach [e] X.env)).all (fun x => !x.1) && (backToKw cp (keywordEach [] X.env)).all (fun x => x.1.isSome) && decide ([e].length + ([] : List Keyword).length + (if ([] : List Keyword).isEmpty then 0 else 1) < 30)) = true := by rfl)
    (hline : (ap.endLine == cp.line) = true := by rfl) : VE X G m (.Call (.Attribute o "index" ap) [e] [] cp) (eM fa fb opIndex) := by
  have h0 := pe_bm (cpos := cp) F.plainAttrs_list F.slot_list_index F.type_list_index (mt_indexD x.u65) ha.pe (pa_cons hb.pe pa_nil he) hbase hfew hline he rfl
  refine ⟨pe_imp h0 fun σ H Q ⟨ρ, F, rl, o⟩ => ?_⟩
  refine ⟨ρ, F, rl, Out.bind (S' := fun d v H' F' => Rp G.K m H H' F' v d) o (fun _ _ _ _ _ _ _ h => h) fun d v H1 F1 e1 l s kk => ?_⟩
  clear e1
  have o1 := kk (S'' := fun d v H' F' => Rp G.K m H1 H' F' v d) fun d v H' F' h => h.back l.keep
  cases d with
  | lst ds =>
    obtain ⟨p, xs, ep, hl, sl⟩ := rb_lst (rb_of s)
    subst ep
    refine ⟨.inl ⟨rfl, _, x.K ▸ hl.sql⟩, ρ, F1, rl.step l, Out.bind (S' := fun d v H' F' => Rp G.K m H1 H' F' v d) o1 (fun _ _ _ _ _ _ _ h => h) fun d2 y H2 F2 e2 l2 s2 k2 => ?_⟩
    clear e2
    obtain ⟨z, ez, an⟩ := ans_of (m := m) (G := G) (F := F2) (H := H2) rfl (k2 (S'' := fun d v H' F' => Rp G.K m H2 H' F' v d) fun d v H' F' h => h.back l2.keep)
    have ez : (if ((D.lst ds).sha && d2.sha) = true then (findD d2 ds 0).map fun j => D.int (j : Nat) else none) = some z := ez
    by_cases hf : ((D.lst ds).sha && d2.sha) = true
    · rw [if_pos hf] at ez
      rw [Bool.and_eq_true] at hf
      cases q : findD d2 ds 0 with
      | none => rw [q] at ez; cases ez
      | some j =>
        rw [q] at ez
        cases ez
        obtain ⟨n, en, ⟨w, hw, hq⟩, hr⟩ := findD_ok q
        have en : j = n := by omega
        subst en
        have rA : RB X.K H2 F2 (.ref p) (.lst ds) := x.K ▸ (rb_of s).le l2
        have rB : RB X.K H2 F2 y d2 := x.K ▸ rb_of s2
        refine ⟨p, y, py d2, pyL ds, j, py w, rfl, rfl, rA.dp hf.1, rB.dp hf.2, hf.1, hf.2, by rw [pyL_get, hw]; rfl, hq, fun i z' hi hz => ?_, an _ _ F2 (Le.refl l2.the) (rp_int _)⟩
        rw [pyL_get] at hz
        cases hd : ds[i]? with
        | none => rw [hd] at hz; cases hz
        | some c =>
          rw [hd] at hz
          cases hz
          exact hr i c hi hd
    · rw [if_neg hf] at ez; cases ez
  | _ => exact o1.elim
end
end VL

namespace VL
open PyProof.Rows PySem L2 PySem.Spec
/-! ### a def that calls itself: by fuel -/
def recF (B : (List D → R D) → Lo → Fl) (n : Nat) : Nat → List D → R D
  | 0 => fun _ => .bad
  | j + 1 => runF (B (recF B n j)) n
theorem fn_bad {P : Program} {w : World} {K : PySem.W.Frag} {mg : Str → Option Value} {base : Heap} {k n : Nat} {f : Addr} {fd : FuncData} {ps : List Str} {m : Md} (hn : ps.length = n) : FnG P w K mg base k f fd ps (spV K mg n m fun _ => .bad) :=
  ⟨fun vs H Q E ⟨F, ds, _, s, hl, _⟩ => s.length.trans (hl.trans hn.symm), fun A outer s H args us vs Q E _ _ _ _ _ ⟨F, ds, _, _, _, z⟩ => z.elim⟩
end VL

namespace VL
open PyProof.Rows PySem L2 PySem.Spec
/-! ### dicts by values -/
def dget (kvs : List (D × D)) (k : D) : Option D := (kvs.find? fun p => p.1.eqv k).map (·.2)
def dput (kvs : List (D × D)) (k v : D) : List (D × D) := if (kvs.any fun p => p.1.eqv k) = true then kvs.map fun p => if p.1.eqv k = true then (p.1, v) else p else kvs ++ [(k, v)]
def kyD : D → Option Key
  | .int i => some (.inl i)
  | .str x => some (.inr x)
  | _ => none
def dicD (kvs : List (Key × V)) (ds : List D) : List (D × D) := (kvs.map fun p => kD p.1).zip ds
theorem eqv_kD (a b : Key) : (kD a).eqv (kD b) = decide (a = b) := by
  cases a with
  | inl i =>
    cases b with
    | inl j => by_cases h : i = j <;> simp [kD, D.eqv, py, PyData.eqv, h]
    | inr y => simp [kD, D.eqv, py, PyData.eqv]
  | inr x =>
    cases b with
    | inl j => simp [kD, D.eqv, py, PyData.eqv]
    | inr y => by_cases h : x = y <;> simp [kD, D.eqv, py, PyData.eqv, h]
theorem kyD_kD {d : D} {k : Key} (h : kyD d = some k) : d = kD k := by
  cases d <;> cases h <;> rfl
theorem rb_key {K : PySem.W.Frag} {H : Hp} {F : Fro} {v : V} {d : D} {k : Key} (h : RB K H F v d) (e : kyD d = some k) : v = kV k := by
  cases d <;> cases e
  · exact rb_int h
  · exact rb_str h
section
variable {K : PySem.W.Frag} {H : Hp} {F : Fro}
theorem dget_of (k : Key) : ∀ {kvs : List (Key × V)} {ds : List D}, ShL K H F (kvs.map (·.2)) ds → (∃ v d, valV kvs k = some v ∧ dget (dicD kvs ds) (kD k) = some d ∧ Sh K H F v d) ∨ (valV kvs k = none ∧ dget (dicD kvs ds) (kD k) = none)
  | [], _, .nil => .inr ⟨rfl, rfl⟩
  | (j, w) :: kvs, d :: ds, .cons h r => by
    have e : dget (dicD ((j, w) :: kvs) (d :: ds)) (kD k) = if j = k then some d else dget (dicD kvs ds) (kD k) := by
      unfold dget dicD
      rw [List.map_cons, List.zip_cons_cons, List.find?_cons, eqv_kD]
      by_cases q : j = k
      · simp [q]
      · simp [q]
    by_cases q : j = k
    · refine .inl ⟨w, d, valV_pos q, ?_, h⟩
      rw [e, if_pos q]
    · rw [e, if_neg q, valV_neg q]
      exact dget_of k r
theorem dany_of (k : Key) : ∀ {kvs : List (Key × V)} {ds : List D}, ShL K H F (kvs.map (·.2)) ds → ((dicD kvs ds).any fun p => p.1.eqv (kD k)) = kvs.any fun kv => decide (kv.1 = k)
  | [], _, .nil => rfl
  | (j, w) :: kvs, d :: ds, .cons h r => by
    have := dany_of k r
    unfold dicD at this ⊢
    rw [List.map_cons, List.zip_cons_cons, List.any_cons, List.any_cons, eqv_kD, this]
theorem dmap_of {v : V} {d : D} (k : Key) (s : Sh K H F v d) : ∀ {kvs : List (Key × V)} {ds : List D}, ShL K H F (kvs.map (·.2)) ds → ∃ es, ((dicD kvs ds).map fun p => if p.1.eqv (kD k) = true then (p.1, d) else p) = dicD (kvs.map fun kv => if kv.1 = k then (kv.1, v) else kv) es ∧ ShL K H F ((kvs.map fun kv => if kv.1 = k then (kv.1, v) else kv).map (·.2)) es
  | [], _, .nil => ⟨[], rfl, .nil⟩
  | (j, w) :: kvs, e :: ds, .cons h r => by
    obtain ⟨es, q1, q2⟩ := dmap_of k s r
    unfold dicD at q1 ⊢
    by_cases q : j = k
    · refine ⟨d :: es, ?_, ?_⟩
      · rw [List.map_cons, List.zip_cons_cons, List.map_cons, q1]
        simp [eqv_kD, q]
      · rw [List.map_cons, List.map_cons]
        simp only [q, if_true]
        exact .cons s q2
    · refine ⟨e :: es, ?_, ?_⟩
      · rw [List.map_cons, List.zip_cons_cons, List.map_cons, q1]
        simp [eqv_kD, q]
      · rw [List.map_cons, List.map_cons]
        simp only [q, if_false]
        exact .cons h q2
theorem dput_of {v : V} {d : D} (k : Key) (s : Sh K H F v d) {kvs : List (Key × V)} {ds : List D} (h : ShL K H F (kvs.map (·.2)) ds) : ∃ es, dput (dicD kvs ds) (kD k) d = dicD (putK kvs k v) es ∧ ShL K H F ((putK kvs k v).map (·.2)) es := by
  unfold dput putK
  rw [dany_of k h]
  by_cases q : (kvs.any fun kv => decide (kv.1 = k)) = true
  · rw [if_pos q, if_pos q]
    exact dmap_of k s h
  · rw [if_neg q, if_neg q]
    refine ⟨ds ++ [d], ?_, ?_⟩
    · unfold dicD
      rw [List.map_append, List.zip_append (by have := h.length; simpa using this)]
      rfl
    · rw [List.map_append]
      exact h.append (.cons s .nil)
theorem dicD_len {kvs : List (Key × V)} {ds : List D} (h : ShL K H F (kvs.map (·.2)) ds) : (dicD kvs ds).length = kvs.length := by
  unfold dicD
  have := h.length
  simp only [List.length_map] at this
  simp [this]
end

/-! ### x[i] = e, x one's own -/
def putS (k v : D) : Option Sl → Option D
  | some (.ow (.lst ds)) => match k with
    | .int j => (ixN ds.length j).map fun n => .lst (ds.set n v)
    | _ => none
  | some (.ow (.dic kvs)) => match kyD k with
    | some _ => if fits (kvs.length + 1) = true then some (.dic (dput kvs k v)) else none
    | none => none
  | _ => none
def isOwn : Option Sl → Bool
  | some (.ow _) => true
  | _ => false
def sPut (i : Nat) (fi fe : Lo → R D) : Lo → Fl := fun ρ => if isOwn ρ[i]? = true then fb (fe ρ) ρ fun v => fb (fi ρ) ρ fun k => fb (R.opt (putS k v ρ[i]?)) ρ fun d => .nx (ρ.set i (.ow d)) else .bad
section
variable {X : Cx} {G : VG} {k : Nat} {m m1 m2 : Md} {e ie o : Expr} {f fi fe fa fb' fc : Lo → R D} {pos pos' p1 p2 : Pos}
theorem pset_or {t t' : TSet} (h : PSet X t) (h' : PSet X t') : PSet X (fun o i v H Q => t o i v H Q ∨ t' o i v H Q) := fun pins s σ H o i v ov iv u Q I ro ri rv q => q.elim (h pins s σ H o i v ov iv u Q I ro ri rv) (h' pins s σ H o i v ov iv u Q I ro ri rv)
theorem vs_put (i : Nat) {x : Str} (xx : VX X G k) (he : VE X G .sh e fe) (hi : VE X G m1 ie fi) (hN : X.N[i]? = some x := by rfl) (hv : Vis X.env.scope x := by first | exact Or.inl rfl | exact Or.inr (Or.inl rfl) | exact Or.inr (Or.inr rfl)) (hd : (x == ("__debug__" : Str)) = false := by decide)
    (hcd : (x == ("__classdict__" : Str)) = false := by decide)
    (ha : ∀ v, assign (.Subscript (.Name x p1) ie p2) X.env v = (do
      let ov ← holding [v] (eval (.Name x p1) X.env)
      let iv ← holding [v, ov] (eval ie X.env)
      standAt p2
      holding [v, ov, iv] (setItem ov iv v)
      release [v, ov, iv] []) := by intro _; rfl)
    (hs : swapsWithSole [.Subscript (.Name x p1) ie p2] e pos.line X.env = pure false := by rfl) (hw : swappedStores [.Subscript (.Name x p1) ie p2] e X.env = pure none := by rfl)
    (h1 : (assignEach [.Subscript (.Name x p1) ie p2] X.env).map (·.2) = [assign (.Subscript (.Name x p1) ie p2) X.env] := by rfl) : VS X G m (.Assign [.Subscript (.Name x p1) ie p2] e pos) (sPut i fi fe) :=
  ⟨ps_imp (ps_asg he.pe (pg_sub (pe_var hN hv hd hcd) hi.pe (pset_or set_list (set_dict (by have := xx.u65; omega))) ha) hs hw h1) fun Dn σ H ⟨ρ, F, rl, o⟩ => by
    unfold sPut at o
    by_cases ho : isOwn ρ[i]? = true
    · rw [if_pos ho] at o
      refine ⟨ρ, F, rl, out_s rl o fun v x H1 F1 _ l s o1 => ?_⟩
      obtain ⟨d, eo⟩ : ∃ d, ρ[i]? = some (.ow d) := by
        cases q : ρ[i]? with
        | none => rw [q] at ho; cases ho
        | some sl => cases sl with
          | ow d => exact ⟨d, rfl⟩
          | _ => rw [q] at ho; cases ho
      have rl1 := rl.step l
      obtain ⟨y, ey, a, ea, _, nf, w⟩ := rl1.at eo
      subst ea
      refine ⟨.ref a, ey, ρ, F1, rl1, out_s rl1 o1 fun kx y2 H2 F2 _ l2 s2 o2 => ?_⟩
      have rl2 := rl1.step l2
      obtain ⟨nf2, w2⟩ := ow_le nf w l2
      have sx := Sh.le s l2
      rw [eo] at o2
      cases d with
      | lst ds =>
        cases kx with
        | int j =>
          cases w2 with
          | @lst vs _ ha hs2 =>
            have o2 : SO G m H2 F2 Dn (fb (R.opt ((ixN ds.length j).map fun n => D.lst (ds.set n v))) ρ fun d => Fl.nx (ρ.set i (.ow d))) := o2
            cases q : ixN ds.length j with
            | none => rw [q] at o2; exact o2.elim
            | some n =>
              rw [q] at o2
              refine .inl ⟨a, vs, j, n, rfl, rb_int (rb_of s2), ha, by rw [hs2.length]; exact q, ?_⟩
              exact o2 σ _ F2 (rl2.write ey eo (fun o q => by rw [ha] at q; cases q; trivial) (.lst upd_same ((hs2.set sx n).mono (kp_own nf2 ha trivial) fun _ z => z))) (kp_own nf2 ha trivial) fun _ z => z
        | _ => exact o2.elim
      | dic es =>
        have o2 : SO G m H2 F2 Dn (fb (R.opt (match kyD kx with
            | some _ => if fits (es.length + 1) = true then some (D.dic (dput es kx v)) else none
            | none => none)) ρ fun d => Fl.nx (ρ.set i (.ow d))) := o2
        cases q : kyD kx with
        | none => rw [q] at o2; exact o2.elim
        | some kk =>
          rw [q] at o2
          dsimp only at o2
          by_cases hf : fits (es.length + 1) = true
          · rw [if_pos hf] at o2
            cases w2 with
            | @dic kvs ds ha hs2 =>
              have e1 := kyD_kD q
              subst e1
              obtain ⟨es2, z1, z2⟩ := dput_of kk sx hs2
              have hl : kvs.length < sizeLine := by
                have := fits_line hf
                have e3 := dicD_len hs2
                unfold dicD at e3
                omega
              refine .inr ⟨a, _, rfl, .inl ⟨kvs, kk, ha, rb_key (rb_of s2) q, hl, rfl⟩, ?_⟩
              have o2 : ∀ σ' H' F', Rel G σ' H' (ρ.set i (.ow (.dic (dput (dicD kvs ds) (kD kk) v)))) F' → Kp F2 H2 H' → (∀ a, F2 a → F' a) → Dn.nx σ' H' := o2
              rw [z1] at o2
              exact o2 σ _ F2 (rl2.write ey eo (fun o q => by rw [ha] at q; cases q; trivial) (.dic upd_same (z2.mono (kp_own nf2 ha trivial) fun _ z => z))) (kp_own nf2 ha trivial) fun _ z => z
          · rw [if_neg hf] at o2; exact o2.elim
      | _ => cases w2
    · rw [if_neg ho] at o; exact o.elim⟩

/-! ### d[k], k in d, d.get(k, x) -/
def opDGet : D → D → Option D
  | .dic kvs, k => (kyD k).bind fun _ => dget kvs k
  | _, _ => none
def rDG : R2 := fun x y H Q => ∃ a v, x = .ref a ∧ DGet H a y (some v) ∧ Q v H
theorem o2_dget : Op2 G .sh rDG opDGet := by
  intro H F x y a b Q t ra rb h
  cases a with
  | dic es =>
    obtain ⟨p, kvs, ds, e, l, s, e2⟩ := rb_dic ra
    subst e e2
    have h' : Ans G .sh H F ((kyD b).bind fun _ => dget (dicD kvs ds) b) Q := h
    cases q : kyD b with
    | none => rw [q] at h'; exact (ans_no h').elim
    | some k =>
      rw [q] at h'
      have e1 := kyD_kD q
      subst e1
      rcases dget_of k s with ⟨v, d, g1, g2, g3⟩ | ⟨g1, g2⟩
      · have h' : Ans G .sh H F (dget (dicD kvs ds) (kD k)) Q := h'
        rw [g2] at h'
        exact ⟨p, v, rfl, .inl ⟨kvs, k, l, rb_key rb q, g1.symm⟩, ans_ok t h' g3⟩
      · have h' : Ans G .sh H F (dget (dicD kvs ds) (kD k)) Q := h'
        rw [g2] at h'
        exact (ans_no h').elim
  | _ => exact (ans_no h).elim
theorem ve_dget (x : VX X G k) (ha : VE X G m1 o fa) (hb : VE X G m2 ie fi) (hs : NoSl ie := by intro _ _; rfl) : VE X G .sh (.Subscript o ie pos) (b2 fa fi opDGet) :=
  ⟨pe_imp (pe_dget (by have := x.u65; omega) ha.pe hb.pe hs) fun σ H Q h => t2_of (r := rDG) (m1 := m1) (m2 := m2) o2_dget h⟩
def opDIn (k : D) : D → Option D
  | .dic kvs => (kyD k).map fun _ => .bl (kvs.any fun p => p.1.eqv k)
  | _ => none
def opDNotIn (k : D) : D → Option D
  | .dic kvs => (kyD k).map fun _ => .bl (!kvs.any fun p => p.1.eqv k)
  | _ => none
def rDI (neg : Bool) : R2 := fun y x H Q => ∃ a o, x = .ref a ∧ DGet H a y o ∧ Q (.bl (if neg then !o.isSome else o.isSome)) H
theorem or_din (hu : X.A.units + 1 < cLine) : OpR X (compareOp .In) (rDI false) := by
  intro pins s σ H x y v u Q I rx ry ⟨a, o, e, g, q⟩
  subst e
  cases ry
  exact d_in hu I g rx fun s' I' => ⟨.bl o.isSome, H, I', rfl, q⟩
theorem or_dnotin (hu : X.A.units + 1 < cLine) : OpR X (compareOp .NotIn) (rDI true) := by
  intro pins s σ H x y v u Q I rx ry ⟨a, o, e, g, q⟩
  subst e
  cases ry
  exact d_notIn hu I g rx fun s' I' => ⟨.bl (!o.isSome), H, I', rfl, q⟩
theorem dhas_of {K : PySem.W.Frag} {H : Hp} {F : Fro} (k : Key) {kvs : List (Key × V)} {ds : List D} (s : ShL K H F (kvs.map (·.2)) ds) : ((dicD kvs ds).any fun p => p.1.eqv (kD k)) = (valV kvs k).isSome := by
  rw [dany_of k s, valV_any]
theorem o2_din {neg : Bool} {op : D → D → Option D} (hop : ∀ k kvs, op k (.dic kvs) = (kyD k).map fun _ => .bl (if neg then !kvs.any fun p => p.1.eqv k else kvs.any fun p => p.1.eqv k)) (hno : ∀ k d, (∀ kvs, d ≠ .dic kvs) → op k d = none) : Op2 G m (rDI neg) op := by
  intro H F x y a b Q t ra rb h
  by_cases hb : ∃ es, b = .dic es
  · obtain ⟨es, rfl⟩ := hb
    obtain ⟨p, kvs, ds, e, l, s, e2⟩ := rb_dic rb
    subst e e2
    rw [hop] at h
    cases q : kyD a with
    | none => rw [q] at h; exact (ans_no h).elim
    | some k =>
      rw [q] at h
      have e1 := kyD_kD q
      subst e1
      have e3 := dhas_of k s
      unfold dicD at e3
      rw [e3] at h
      exact ⟨p, valV kvs k, rfl, .inl ⟨kvs, k, l, rb_key ra q, rfl⟩, ans_ok t h (rp_bl _)⟩
  · rw [hno a b fun kvs e => hb ⟨kvs, e⟩] at h
    exact (ans_no h).elim
theorem ve_inD (x : VX X G k) (ha : VE X G m1 o fa) (hb : VE X G m2 ie fi) (hm : behindInMarks .In ie = false := by rfl) : VE X G m (.Compare o [.In] [ie] pos) (b2 fa fi opDIn) := ve_cmp (or_din (by have := x.u65; omega)) (o2_din (neg := false) (fun _ _ => rfl) fun k d h => by cases d <;> first | rfl | exact absurd rfl (h _)) ha hb hm
theorem ve_notInD (x : VX X G k) (ha : VE X G m1 o fa) (hb : VE X G m2 ie fi) (hm : behindInMarks .NotIn ie = false := by rfl) : VE X G m (.Compare o [.NotIn] [ie] pos) (b2 fa fi opDNotIn) := ve_cmp (or_dnotin (by have := x.u65; omega)) (o2_din (neg := true) (fun _ _ => rfl) fun k d h => by cases d <;> first | rfl | exact absurd rfl (h _)) ha hb hm
theorem vt_inD (x : VX X G k) (ha : VE X G m1 o fa) (hb : VE X G m2 ie fi) (hm : behindInMarks .In ie = false := by rfl) : VT X G (.Compare o [.In] [ie] pos) (tb (b2 fa fi opDIn)) := vt_cmp (or_din (by have := x.u65; omega)) (o2_din (neg := false) (fun _ _ => rfl) fun k d h => by cases d <;> first | rfl | exact absurd rfl (h _)) ha hb hm
theorem vt_notInD (x : VX X G k) (ha : VE X G m1 o fa) (hb : VE X G m2 ie fi) (hm : behindInMarks .NotIn ie = false := by rfl) : VT X G (.Compare o [.NotIn] [ie] pos) (tb (b2 fa fi opDNotIn)) := vt_cmp (or_dnotin (by have := x.u65; omega)) (o2_din (neg := true) (fun _ _ => rfl) fun k d h => by cases d <;> first | rfl | exact absurd rfl (h _)) ha hb hm
end
end VL

namespace VL
open PyProof.Rows PySem L2 PySem.Spec
/-! ### t[::-1] of a tuple -/
section
variable {prog : Program} {w : World} {A : Around} {E : Value → Shared → Prop} {s : Shared}
theorem rev_places (n : Nat) : Builtin.Slice.slicePlaces ((n : Int) - 1) (-1) (-1) = n := by
  unfold Builtin.Slice.slicePlaces
  have h1 : ¬ ((-1 : Int) > 0) := by decide
  simp only [h1, if_false]
  by_cases h : (n : Int) - 1 > -1
  · rw [if_pos h, show (- -1 : Int) = 1 by decide, Int.ediv_one]
    omega
  · rw [if_neg h]
    omega
theorem rev_applied {sl : Addr} {vl vu vs : Value} {n : Nat} {Q : Int × Int × Nat → Shared → Prop} (hs : s.heap.IsSliceOf sl vl vu vs) (pl : IsPart vl none) (pu : IsPart vu none) (ps : IsPart vs (some (-1)))
    (h : Q ((n : Int) - 1, -1, n) s) : wpAny (model prog w) A (Builtin.Slice.sliceApplied (.ref sl) (pure (n : Int))) Q E s := by
  obtain ⟨os, hos, hcs, hds⟩ := id hs
  unfold Builtin.Slice.sliceApplied Builtin.Slice.sliceFields
  refine wpAny_bind (wpAny_bind (wpAny_field hos hds (x := vl) rfl (wpAny_bind (wpAny_field hos hds (x := vu) rfl (wpAny_bind (wpAny_field hos hds (x := vs) rfl (wpAny_pure ?_)))))))
  refine wpAny_bind (HT.slicePart_ ps ?_)
  show wpAny _ _ (if ((-1 : Int) == 0) = true then _ else _) _ _ s
  rw [if_neg (by decide)]
  refine wpAny_bind (HT.slicePart_ pl (wpAny_bind (HT.slicePart_ pu (wpAny_bind (wpAny_pure ?_)))))
  have e : Builtin.Slice.sliceAdjust none none (-1) (n : Int) = ((n : Int) - 1, -1) := rfl
  show wpAny _ _ (match Builtin.Slice.sliceAdjust none none (-1) (n : Int) with | (lo, hi) => pure (lo, (-1 : Int), Builtin.Slice.slicePlaces lo hi (-1))) _ _ s
  rw [e]
  show wpAny _ _ (pure ((n : Int) - 1, (-1 : Int), Builtin.Slice.slicePlaces ((n : Int) - 1) (-1) (-1))) _ _ s
  rw [rev_places]
  exact wpAny_pure h
theorem pick_rev (xs : Array Value) : ((List.range xs.size).filterMap fun (m : Nat) => xs[(((xs.size : Int) - 1) + (m : Int) * (-1)).toNat]?).toArray = xs.toList.reverse.toArray := by
  have e : (List.range xs.size).filterMap (fun (m : Nat) => xs[(((xs.size : Int) - 1) + (m : Int) * (-1)).toNat]?) = ((List.range xs.size).map fun k => xs.size - 1 - k).filterMap (xs[·]?) := by
    rw [List.filterMap_map]
    have cg : ∀ (l : List Nat) (f g : Nat → Option Value), (∀ x ∈ l, f x = g x) → l.filterMap f = l.filterMap g := by
      intro l f g h
      induction l with
      | nil => rfl
      | cons a r ih =>
        rw [List.filterMap_cons, List.filterMap_cons, h a (by simp), ih fun x hx => h x (by simp [hx])]
    refine cg _ _ _ fun m hm => ?_
    have := List.mem_range.mp hm
    show xs[(((xs.size : Int) - 1) + (m : Int) * (-1)).toNat]? = xs[xs.size - 1 - m]?
    congr 1
    omega
  rw [e, PySem.W.krv_range, List.filterMap_reverse, PySem.W.krv_all]
theorem getItem_tuple_rev {t sl : Addr} {items : Array Value} {vl vu vs : Value} {Q : Value → Shared → Prop} (ht : IsTup s.heap t items) (hs : s.heap.IsSliceOf sl vl vu vs) (pl : IsPart vl none) (pu : IsPart vu none) (ps : IsPart vs (some (-1)))
    (h : Q (.ref s.heap.objs.size) { s with heap := s.heap.push { cls := .type "tuple", data := .seq items.toList.reverse.toArray } })
    (hsz : items.size ≤ sizeLine) : wpAny (model prog w) A (getItem (.ref t) (.ref sl)) Q E s := by
  have htake : sizeOk (.seq items.toList.reverse.toArray) := by
    show items.toList.reverse.toArray.size ≤ sizeLine
    simpa using hsz
  obtain ⟨os, hos, hcs, hds⟩ := id hs
  have hTs : s.TypeIs (.ref sl) "slice" := ⟨os, hos, hcs⟩
  unfold getItem
  try with_reducible refine wpAny_holding ?_
  first | refine wpAny_bind (wpAny_pure ?_) | skip
  refine wpAny_bind (wpAny_sequenceKey ht.typeIs (by decide) ?_)
  refine wpAny_bind (wpAny_callSpecial?_slot (name := Str.ofString "__getitem__") ht.typeIs PyProof.Rows.slot_tuple_getitem
    (wpAny_call_entry PyProof.Rows.slot_tuple_getitem ht.typeIs entry_tuple_getitem ?_ (args_tuple_getitem _ _)))
  show wpAny _ _ (Builtin.Tuple.tupleItemsOf (.ref t) >>= _) _ _ s
  refine wpAny_bind (tupleItemsOf_ ht ?_)
  refine wpAny_bind (wpAny_typeOf hTs ?_)
  rw [if_pos (by decide)]
  refine wpAny_bind (rev_applied hs pl pu ps ?_)
  have hno : ¬ ((((items.size : Int) - 1) == 0 && (-1 : Int) == 1 && items.size == items.size) = true) := by
    intro q
    rw [Bool.and_eq_true, Bool.and_eq_true] at q
    exact absurd q.1.2 (by decide)
  show wpAny _ _ (if (((items.size : Int) - 1) == 0 && (-1 : Int) == 1 && items.size == items.size) = true then _ else _) _ _ s
  rw [if_neg hno, pick_rev]
  first
    | exact wpAny_bind (m := Builtin.Tuple.tupleExact _) (wpAny_newObj_type (wpAny_pure ⟨_, rfl, wpAny_pure h⟩) htake)
    | exact wpAny_bind (m := Builtin.Tuple.tupleExact _) (wpAny_newObj_type (wpAny_bind (wpAny_pure (wpAny_pure ⟨_, rfl, wpAny_pure h⟩))) htake)
    | exact wpAny_bind (wpAny_bind (m := Builtin.Tuple.tupleExact _) (wpAny_newObj_type (wpAny_pure (wpAny_pure ⟨_, rfl, wpAny_pure h⟩)) htake))
    | exact wpAny_bind (wpAny_bind (m := Builtin.Tuple.tupleExact _) (wpAny_newObj_type (wpAny_pure ⟨_, rfl, wpAny_pure h⟩) htake))
end
def rRev (K : PySem.W.Frag) : V → Hp → VK → Prop := fun x H Q => ∃ a xs, x = .ref a ∧ ((SqL K H a xs ∧ ∀ p, H p = none → Q (.ref p) (upd H p (.lst xs.reverse))) ∨ (SqT K H a xs ∧ ∀ p, H p = none → Q (.ref p) (upd H p (.tup xs.reverse))))
section
variable {X : Cx}
theorem pe_rev {e : Expr} {te : TE} {k : Nat} {p1 p2 p3 pos : Pos} (he : PE X e te) : PE X (.Subscript e (.Slice none none (some (.UnaryOp .USub (.Constant (.int 1) k p1) p2)) p3) pos) (tUn (rRev X.K) te) := by
  refine ⟨fun pins s σ H Q I h => ?_⟩
  refine Subscript_ (thn (he.run pins s σ H _ I h) fun v s1 ⟨x, H1, I1, r1, q1⟩ => ?_)
  obtain ⟨a, xs, ex, q⟩ := q1
  subst ex
  cases r1
  have hst : PO X (some (.UnaryOp .USub (.Constant (.int 1) k p1) p2)) (tPart (tUn (rU fun i => .int (-i)) (tC (.int 1)))) := po_some (pe_un un_neg pe_int)
  refine wpAny_Slice (thn (po_none.run pins s1 σ H1 (fun o H2 => o = none ∧ H2 = H1) I1 ⟨rfl, rfl⟩) fun vl s2 ⟨l, H2, I2, pl, el, e2⟩ => ?_)
  subst el e2
  refine thn (po_none.run pins s2 σ H2 (fun o H3 => o = none ∧ H3 = H2) I2 ⟨rfl, rfl⟩) fun vu s3 ⟨u, H3, I3, pu, eu, e3⟩ => ?_
  subst eu e3
  refine thn (hst.run pins s3 σ H3 (fun o H4 => o = some (-1) ∧ H4 = H3) I3 ⟨1, rfl, -1, rfl, rfl, rfl⟩) fun vs s4 ⟨o, H4, I4, ps, eo, e4⟩ => ?_
  subst eo e4
  have I5 : Inv X pins σ H4 { s4 with heap := s4.heap.push { cls := .type "slice", data := .fields #[vl, vu, vs] } } := I4.kept (t' := s4.toks) fun b ob q => Heap.get?_push_of_some _ q
  show wpAny (model X.prog X.w) X.A (subscriptTail e (.Slice none none (some (.UnaryOp .USub (.Constant (.int 1) k p1) p2)) p3) (.ref a) (.ref s4.heap.objs.size)) (EP X pins σ Q) X.xe { s4 with heap := s4.heap.push { cls := .type "slice", data := .fields #[vl, vu, vs] } }
  rcases q with ⟨hx, q⟩ | ⟨hx, q⟩
  · obtain ⟨its, r, ht, hz⟩ := I5.list hx
    have hlen := r.length
    refine tail_any (ops := [.ref a, .ref s4.heap.objs.size]) ht.isList.typeIs (PySem.slot_list_getitem.lookup) ?_ (by with_unfolding_all rfl)
    refine wpAny_getItem_list_slice ht.isList (Heap.IsSliceOf.new _ vl vu vs) pl pu ps (by decide) ?_ (by rw [List.size_toArray]; omega)
    rw [PySem.W.krv_pick]
    refine ⟨.ref _, _, I5.laid (t' := s4.toks) (o := .lst xs.reverse) (fun b ob q => Heap.get?_push_of_some _ q) (Nat.le_refl _) ?_, rfl, q _ (I5.hok.fresh (Nat.le_refl _))⟩
    exact ⟨by rw [List.length_reverse]; exact hz, _, 0, r.reverse, Heap.get?_push_size _ rfl⟩
  · obtain ⟨its, r, ht, hz⟩ := I5.tuple hx
    have hlen := r.length
    refine tail_any (ops := [.ref a, .ref s4.heap.objs.size]) ht.typeIs (PyProof.Rows.slot_tuple_getitem.lookup) ?_ (by with_unfolding_all rfl)
    refine getItem_tuple_rev ht (Heap.IsSliceOf.new _ vl vu vs) pl pu ps ?_ (by rw [List.size_toArray]; omega)
    refine ⟨.ref _, _, I5.laid (t' := s4.toks) (o := .tup xs.reverse) (fun b ob q => Heap.get?_push_of_some _ q) (Nat.le_refl _) ?_, rfl, q _ (I5.hok.fresh (Nat.le_refl _))⟩
    exact ⟨by rw [List.length_reverse]; exact hz, _, r.reverse, IsTup.new _ _⟩
end
theorem ShL.reverse {K : PySem.W.Frag} {H : Hp} {F : Fro} : ∀ {vs : List V} {ds : List D}, ShL K H F vs ds → ShL K H F vs.reverse ds.reverse
  | _, _, .nil => .nil
  | _, _, .cons h r => by
    rw [List.reverse_cons, List.reverse_cons]
    exact r.reverse.append (.cons h .nil)
def opRev : D → Option D
  | .lst ds => some (.lst ds.reverse)
  | .tup ds => some (.tup ds.reverse)
  | _ => none
section
variable {X : Cx} {G : VG} {k : Nat} {m m1 m2 : Md} {e a b : Expr} {es : List Expr} {fa fb' f : Lo → R D} {pos pos' p1 p2 p3 : Pos}
theorem o1_rev : Op1 G m (rRev G.K) opRev := by
  intro H F x a Q t ra h
  cases a with
  | lst ds =>
    obtain ⟨p, xs, e, l, s⟩ := rb_lst ra
    subst e
    exact ⟨p, xs, rfl, .inl ⟨l.sql, ans_new t s.reverse h⟩⟩
  | tup ds =>
    obtain ⟨p, xs, e, l, s⟩ := rb_tup ra
    subst e
    exact ⟨p, xs, rfl, .inr ⟨l, ans_newT t s.reverse h⟩⟩
  | _ => exact (ans_no h).elim
theorem ve_rev {j : Nat} (x : VX X G k) (ha : VE X G m1 e fa) : VE X G m (.Subscript e (.Slice none none (some (.UnaryOp .USub (.Constant (.int 1) j p1) p2)) p3) pos) (b1 fa opRev) :=
  ⟨pe_imp (x.K ▸ pe_rev ha.pe) fun _ _ _ h => t1_of (m1 := m1) o1_rev h⟩
/-- a, b = x, y -/
def sPar (i j : Nat) (fa : Lo → R (List D)) : Lo → Fl := fun ρ => fb (fa ρ) ρ fun ds => match ds with
  | [d, e] => .nx ((ρ.set i (.sh d)).set j (.sh e))
  | _ => .bad
theorem vs_par (i j : Nat) {x y : Str} {ta : Lo → R (List D)} {px py pt : Pos} {kt k2 pt2} (xx : VX X G k) (ha : VA X G [a, b] ta) (hi : X.N[i]? = some x := by rfl) (hj : X.N[j]? = some y := by rfl) (hij : i ≠ j := by decide)
    (hx : X.env.scope.names.lookup x = some .local := by rfl) (hy : X.env.scope.names.lookup y = some .local := by rfl)
    (hw : swappedStores [.Tuple [.Name x px, .Name y py] kt pt] (.Tuple [a, b] k2 pt2) X.env = pure (some [x, y]) := by rfl)
    (hs : swapsWithSole [.Tuple [.Name x px, .Name y py] kt pt] (.Tuple [a, b] k2 pt2) pos.line X.env = pure false := by rfl) : VS X G m (.Assign [.Tuple [.Name x px, .Name y py] kt pt] (.Tuple [a, b] k2 pt2) pos) (sPar i j ta) :=
  ⟨ps_imp (ps_par (i := i) (j := j) xx.calm xx.nd hi hj hij hx hy ha.pa hw hs) fun Dn σ H ⟨ρ, F, rl, o⟩ => ⟨ρ, F, rl, out_s rl o fun ds vs H1 F1 _ l s o1 => by
    match ds, s, o1 with
    | [d, e], .cons s1 (.cons s2 .nil), o1 => exact ⟨_, _, rfl, o1 _ H1 F1 (((rl.step l).setSh i s1).setSh j s2) Kp.refl fun _ z => z⟩
    | [], _, o1 => exact o1.elim
    | [_], _, o1 => exact o1.elim
    | _ :: _ :: _ :: _, _, o1 => exact o1.elim⟩⟩
end
section
variable {X : Cx} {G : VG} {k j : Nat} {f : Addr} {fd : FuncData} {ps : List Str} {m : Md} {g : List D → R D} {nm : Str} {p pos : Pos}
/-- f() -/
theorem ve_call0 (x : VX X G k) (F : FnG X.prog X.w X.K X.mg X.base j f fd ps (spV X.K X.mg 0 m g)) (hj : j ≤ k) (hm : X.mg nm = some (.ref f)) (hk : PySem.W.keepIn X.K (.ref f) = true) (hb : Binds X.K fd ps [])
    (hg : Gl X nm := by rfl) (hdb : (nm == ("__debug__" : Str)) = false := by decide) : VE X G m (.Call (.Name nm p) [] [] pos) (eCall g aNil) := by
  refine ⟨⟨fun pins s σ H Q I ⟨ρ, F0, rl, o⟩ => ?_⟩⟩
  refine wpAny_Call_Name_kw (ld_glob I hg hm ?_ hdb)
  have o : Out G σ H F0 (g []) (fun d v H' F' => Rp G.K m H H' F' v d) Q := o
  have h1 : spV X.K X.mg 0 m g [] H Q (WE G.W σ) := by
    rw [x.K, x.mg]
    exact sp_of rl.le.the .nil rfl o
  exact PySem.W.callWith_K0 I.kIn hk (run_g (us := []) (vs := []) (ds := []) (dvs := []) x F hj hb .nil (passAt x.tk σ) I .nil h1)
end
end VL

namespace VL
open PyProof.Rows PySem L2 PySem.Spec
/-! ### a set of ints and texts, made by a comprehension -/
section
variable {X : Cx}
/-- one more key in the set at D -/
theorem setK_more {pins : List (Addr × Obj)} {σ : L2.St} {H : Hp} {s : Shared} {E : Value → Shared → Prop} {D : Addr} {S : Key → Bool} {n : Nat} {k : Key} {u : Value} {Q : Value → Shared → Prop} (I : Inv X pins σ H s) (hD : H D = some (SetK X.prog X.w D S n)) (ru : RelV (kV k) u) (room : n + 1 < scanBound)
    (h : ∀ s', Inv X pins σ (upd H D (SetK X.prog X.w D (fun j => S j || decide (j = k)) (if S k = true then n else n + 1))) s' → Q .none s') : wpAny (model X.prog X.w) X.A (call (.builtin "set.add") [.ref D, u]) Q E s := by
  refine call_set_add (kV_is ru) (key_scan ru) (setK_get I hD) room fun h' sb new => h _ ?_
  have ⟨o, _, _, _, ho, _⟩ := new
  exact I.write (e := D) (t' := s.toks + 1) (by rw [hD]; trivial) (.inl rfl) (fun b u hb hu => (sb.2 b hb).trans hu) ⟨o, ho⟩ (setK_new new)
theorem setK_none (P : Program) (w : World) (h : Heap) : (h.push { cls := .type "set", dict := none, data := .set #[] 0 (.fresh 0 0 (!w.params.followText "set-order")) }).SetOf (mixKind P w) h.objs.size (fun _ => false) 0 :=
  ⟨_, #[], 0, _, Heap.get?_push_size _ rfl, ⟨rfl, rfl, rfl⟩, rfl, fun e he => by simp at he, fun k => by simp, by decide, by rfl, rfl⟩
/-- what is asked of {elt for ..}: at D the new set -/
def tSk (P : Program) (w : World) (wi : TI) (g : TG) (tt : TT) (te : TE) (vs : List Nat) : TE := fun σ H Q => wi σ H fun J H1 => ∀ D, H1 D = none → ∃ W : Nat → Nat → Hp → Prop, (∃ m, W 0 m (upd H1 D (SetK P w D (fun _ => false) 0))) ∧ ∀ i m H, W i m H →
  (J.stop i H ∧ Q (.ref D) H) ∨ (J.go i H ∧ ∃ Nx : Hp → Prop, (∀ H', Nx H' → ∃ m', m' < m ∧ W (i + 1) m' H') ∧ ∀ x H', J.yld i H x H' → g x (L2.wipe σ vs) H' fun σ2 H2 => L2.wipe σ2 vs = L2.wipe σ vs ∧ tt σ2 H2 fun b H3 =>
    if b = true then te σ2 H3 fun y H4 => ∃ (k : Key) (S : Key → Bool) (n : Nat), y = kV k ∧ H4 D = some (SetK P w D S n) ∧ n + 1 < scanBound ∧ Nx (upd H4 D (SetK P w D (fun j => S j || decide (j = k)) (if S k = true then n else n + 1))) else Nx H3)
theorem pe_sk {elt tg iter : Expr} {ifs : List Expr} {scope : Scope} {own : List (Str × Nat)} {pos : Pos} {wi : TI} {g : TG} {tt : TT} {te : TE} (hc : X.calm = true) (hN : X.N.Nodup) (hi : PI X tg iter wi) (ok : BlkOk X.N X.env.scope scope own)
    (hg : ∀ (s : Shared) (H : Hp) (C : Addr) (cl : List (Str × Addr)) (fp : List Addr), PG (X.blk s H scope (compEnvC scope cl C X.env) fp) tg g)
    (ht : ∀ (s : Shared) (H : Hp) (C : Addr) (cl : List (Str × Addr)) (fp : List Addr), PTs (X.blk s H scope (compEnvC scope cl C X.env) fp) ifs tt)
    (he : ∀ (s : Shared) (H : Hp) (C : Addr) (cl : List (Str × Addr)) (fp : List Addr), PE (X.blk s H scope (compEnvC scope cl C X.env) fp) elt te) (hs : ∀ x, foldedSetIterable iter X.env x = pure x := by intro _; rfl) :
    PE X (.SetComp elt [⟨tg, iter, ifs, 0⟩] scope pos) (tSk X.prog X.w wi g tt te (own.map (·.2))) := by
  refine ⟨fun pins s σ H Q I h => ?_⟩
  rw [PpSet.eval_SetComp]
  have fr : ∀ y ∈ scope.names, y.2 = .free → ∃ c, X.env.cells.lookup y.1 = some c := fun y hy e => (ok.free y hy e).elim (fun k => I.ok.has _ (.inl k)) fun k => I.ok.has _ (.inr k)
  refine wpAny_comprehension_free rfl hs (closure_ok fr) ok.kind (fun y hy e => by rw [ok.uniq y hy, e]) (thn (hi.run pins s σ H _ I h) fun _ _ hx => thn hx fun _ s2 ⟨it, fp, tn, J, H2, e, I2, T, st2, f2, q⟩ => ?_)
  subst e
  refine PpSet.newSet_ok (newEnv_comp ?_)
  generalize eD : s2.heap.objs.size = D
  obtain ⟨W, ⟨m0, w0⟩, turn⟩ := q D (I2.hok.fresh (Nat.le_of_eq eD))
  generalize e3 : ({ s2 with heap := s2.heap.push { cls := .type "set", dict := none, data := .set #[] 0 (.fresh 0 0 (!X.w.params.followText "set-order")) } } : Shared) = s3
  have p3 : s3.heap = s2.heap.push { cls := .type "set", dict := none, data := .set #[] 0 (.fresh 0 0 (!X.w.params.followText "set-order")) } := by rw [← e3]
  have I3 : Inv X pins σ (upd H2 D (SetK X.prog X.w D (fun _ => false) 0)) s3 := by
    rw [← e3, ← eD]
    exact I2.laid (t' := s2.toks) (fun b o e => Heap.get?_push_of_some _ e) (Nat.le_refl _) (setK_new (setK_none ..))
  have few : ∀ b ∈ fp, b < s2.heap.objs.size := fun b hb => let ⟨o, e, _⟩ := T.obj _ _ st2 b hb; Heap.lt_size e
  generalize e4 : upd H2 D (SetK X.prog X.w D (fun _ => false) 0) = H3 at I3 w0
  have f3 : ∀ b ∈ fp, FpOk X pins H3 b ∧ b < s3.heap.objs.size := fun b hb => by
    have l : b < s2.heap.objs.size := few b hb
    have nbD : b ≠ D := by rw [← eD]; exact Nat.ne_of_lt l
    have n : H3 b = none := by rw [← e4, upd_ne nbD]; exact (f2 b hb).1
    exact ⟨⟨n, (f2 b hb).2⟩, by rw [p3, Heap.size_push]; exact Nat.lt_succ_of_lt l⟩
  have st3 : tn 0 s3.heap := T.keep _ _ _ st2 fun b _ o e => by rw [p3]; exact Heap.get?_push_of_some _ e
  have I4 := block_start I3 ok hN f3
  have pg := hg s3 H3 s3.heap.objs.size (cellsFrom (s3.heap.objs.size + 1) scope.names (cloFrom X.env.cells scope.names [])) fp
  have pt := ht s3 H3 s3.heap.objs.size (cellsFrom (s3.heap.objs.size + 1) scope.names (cloFrom X.env.cells scope.names [])) fp
  have pe := he s3 H3 s3.heap.objs.size (cellsFrom (s3.heap.objs.size + 1) scope.names (cloFrom X.env.cells scope.names [])) fp
  show codeAny _ _ (.compStart (.SetComp elt [⟨tg, iter, ifs, 0⟩] scope pos) 0 (.ref it) (.ref D) (compEnvC scope (cellsFrom (s3.heap.objs.size + 1) scope.names (cloFrom X.env.cells scope.names [])) s3.heap.objs.size X.env)) _ { s3 with heap := pushCells (s3.heap.push { cls := .type "dict", data := .dict #[] }) scope.names }
  generalize ec : compEnvC scope (cellsFrom (s3.heap.objs.size + 1) scope.names (cloFrom X.env.cells scope.names [])) s3.heap.objs.size X.env = ce at I4 pg pt pe ⊢
  have cL : ce.locals = s3.heap.objs.size := by subst ec; rfl
  generalize e5 : ({ s3 with heap := pushCells (s3.heap.push { cls := .type "dict", data := .dict #[] }) scope.names } : Shared) = s4 at I4 ⊢
  have st4 : tn 0 s4.heap := T.keep _ _ _ st3 fun b _ o e => by rw [← e5]; exact pushCells_keeps _ _ _ _ (Heap.get?_push_of_some _ e)
  have fix : ∀ {σ' : L2.St} {H' : Hp} {s' : Shared}, Inv (X.blk s3 H3 scope ce fp) [] σ' H' s' → (∀ b ∈ fp, H' b = none) → ∀ b ∈ fp, FpOk (X.blk s3 H3 scope ce fp) [] H' b := fun J' hn b hb =>
    ⟨hn b hb, (J'.ok.exf b hb).1, J'.ok.exfs b hb, .inl hb, fun x c e => (J'.ok.exf b hb).2 x c e, fun p hp => nomatch (show p ∈ ([] : List (Addr × Obj)) from hp)⟩
  have loop : codeAny (model X.prog X.w) X.A (.compLoop (.SetComp elt [⟨tg, iter, ifs, 0⟩] scope pos) 0 (.ref it) (.ref D) ce) (compPost (model X.prog X.w) X.A X.xe none (EP X pins σ Q) (.ref D) s3.heap.objs.size) s4 := by
    refine PpSet.compLoopS_any (fun n s' => ∃ i H', Inv (X.blk s3 H3 scope ce fp) [] (L2.wipe σ (own.map (·.2))) H' s' ∧ tn i s'.heap ∧ (∀ b ∈ fp, H' b = none) ∧ W i n H') ?_ m0 ⟨0, H3, I4, st4, fun b hb => (f3 b hb).1.1, w0⟩
    rintro n s5 ⟨i, H5, I5, st5, n5, w5⟩
    rcases turn i n H5 w5 with ⟨stop, qq⟩ | ⟨go, Nx, hNx, step⟩
    · refine thnF (T.done (X.blk s3 H3 scope ce fp) rfl rfl rfl hc i [] s5 _ H5 (fun _ _ => False) I5 (fix I5 n5) st5 stop) fun r s6 ⟨hr, I6⟩ => ?_
      subst hr
      have I7 : Inv X pins σ H5 s6 := I3.call' (ch := fp) I6.os I6.base I6.hok I6.bare fun b hb => ⟨(f3 b hb).1.2.2.2.1, (f3 b hb).1.2.1, (f3 b hb).1.2.2.2.2.1, (f3 b hb).1.2.2.2.2.2⟩
      obtain ⟨m, hn, _⟩ := I6.loc
      have hn : s6.heap.Ns ce.locals m := hn
      have nC : H5 ce.locals = none := I6.free
      rw [cL] at hn nC
      obtain ⟨f0, f1, f2, f3, f4, f5⟩ := I3.fpOk (Nat.le_refl _) nC
      exact ⟨m, hn, fun h'' sb => ⟨.ref D, H5, I7.turned (t' := s6.toks) (fun b o hb e => (sb.2 b hb).trans e) f0 f1 f3 f4 f5, rfl, qq⟩⟩
    · refine thnF (T.item (X.blk s3 H3 scope ce fp) rfl rfl rfl hc i [] s5 _ H5 (fun _ _ => False) I5 (fix I5 n5) st5 go) fun r s6 ⟨u, hr, h6⟩ => ?_
      subst hr
      refine thnF h6 fun _ s7 ⟨x, H7, I7, r7, y7, st7, n7⟩ => ?_
      refine thnF (pg.run _ s7 _ H7 x u _ (I7.pinned (fix I7 n7) (T.obj _ _ st7)) r7 (step x H7 y7)) fun _ s8 ⟨σ8, H8, I8, hw8, q8⟩ => ?_
      refine thnF (pt.run _ s8 σ8 H8 _ I8 q8) fun b s9 ⟨H9, I9, q9⟩ => ?_
      have fin : ∀ {s' : Shared} {H' : Hp}, Inv (X.blk s3 H3 scope ce fp) ([] ++ pinsAt fp s7.heap) σ8 H' s' → Nx H' → ∃ m, m < n ∧ ∃ i H', Inv (X.blk s3 H3 scope ce fp) [] (L2.wipe σ (own.map (·.2))) H' s' ∧ tn i s'.heap ∧ (∀ b ∈ fp, H' b = none) ∧ W i m H' := fun {s' H'} J' nx => by
        obtain ⟨m', hm, w'⟩ := hNx H' nx
        have pin' : ∀ b ∈ fp, ∀ o, s7.heap.get? b = some o → s'.heap.get? b = some o ∧ H' b = none := fun b hb o e =>
          ⟨(J'.pin (b, o) (List.mem_append_right _ (List.mem_append_right _ (mem_pinsAt hb e)))).1, (J'.pin (b, o) (List.mem_append_right _ (List.mem_append_right _ (mem_pinsAt hb e)))).2.1⟩
        refine ⟨m', hm, i + 1, H', (J'.unpinned (pins := [])).weak (by rw [← hw8, L2.wipe_length]) (fun j v e => ?_), T.keep _ _ _ st7 fun b hb o e => (pin' b hb o e).1, fun b hb => ?_, w'⟩
        · rw [← hw8] at e
          exact (wipe_some e).1
        · obtain ⟨o, e, _⟩ := T.obj _ _ st7 b hb
          exact (pin' b hb o e).2
      cases b with
      | false => exact fin I9 q9
      | true =>
        refine thnF (pe.run _ s9 σ8 H9 _ I9 q9) fun z s10 ⟨yv, H10, I10, r10, k, S0, n0, ey, hD10, hz10, nx⟩ => ?_
        subst ey
        exact setK_more (X := X.blk s3 H3 scope ce fp) I10 hD10 r10 hz10 fun s11 I11 => fin I11 nx
  exact PpSet.codeAny_compStart_set loop (T.self X.A 0 _ _ _ st4 loop)
/-- len of such a set -/
def rLenK (P : Program) (w : World) : List V → Hp → VK → Prop := fun xs H Q => ∃ (a : Addr) (S : Key → Bool) (n : Nat), xs = [V.ref a] ∧ H a = some (SetK P w a S n) ∧ Q (.int (n : Nat)) H
theorem cr_lenK : CallR X (.builtin "len") (rLenK X.prog X.w) := by
  intro pins s σ H xs us Q I r ⟨a, S, n, e, ha, q⟩
  subst e
  obtain rfl := Vals.ref1 r
  obtain ⟨o, es, ep, t, ho, hex, hd, _, _, hb, hf, hn⟩ := setK_get I ha
  have : scanBound < 2 ^ 63 := by decide
  refine call_len_set ho hex hd hf (by omega) ⟨.int n, H, I.tok _, ⟨_, by rw [hn]⟩, q⟩
end

/-! ### at the level of deep values -/
/-- keys, each once, in the order they came -/
def keysD : List D → Option (List Key)
  | [] => some []
  | d :: ds => (kyD d).bind fun k => (keysD ds).map (k :: ·)
def hasK (k : Key) (acc : List Key) : Bool := acc.any fun j => decide (j = k)
theorem hasK_iff {k : Key} {acc : List Key} : hasK k acc = true ↔ k ∈ acc := by
  unfold hasK
  rw [List.any_eq_true]
  exact ⟨fun ⟨j, hj, e⟩ => of_decide_eq_true e ▸ hj, fun h => ⟨k, h, decide_eq_true rfl⟩⟩
def nubK : List Key → List Key → List Key
  | acc, [] => acc
  | acc, k :: ks => if hasK k acc = true then nubK acc ks else nubK (acc ++ [k]) ks
def lenSetD (es : List D) : R D := match keysD es with
  | some ks => if decide (es.length < 4000) = true then .ok (.int ((nubK [] ks).length : Nat)) else .bad
  | none => .bad
def eLenSc (it : Lo → R (List D)) (asg : D → Lo → R Lo) (tst : Lo → R Bool) (elt : Lo → R D) (vs : List Nat) : Lo → R D := fun ρ => (it ρ).bind fun ds => (lcL asg tst elt (wipeL ρ vs) ds).bind lenSetD
section
variable {X : Cx} {G : VG} {k : Nat} {m : Md} {elt tg iter : Expr} {ifs : List Expr} {scope : Scope} {own : List (Str × Nat)} {ws : List Nat} {pos p pos' : Pos} {it : Lo → R (List D)} {asg : D → Lo → R Lo} {tst : Lo → R Bool} {fe : Lo → R D}
theorem nubK_len : ∀ (ks acc : List Key), (nubK acc ks).length ≤ acc.length + ks.length
  | [], acc => by simp [nubK]
  | k :: ks, acc => by
    unfold nubK
    split
    · have := nubK_len ks acc; simp only [List.length_cons]; omega
    · have := nubK_len ks (acc ++ [k]); simp only [List.length_append, List.length_cons, List.length_nil] at this ⊢; omega
theorem lc_noex {ρ : Lo} {c : Str} {fs : List (Str × D)} : ∀ ds : List D, lcL asg tst fe ρ ds ≠ .ex c fs
  | [], z => by cases z
  | d :: ds, z => by
    unfold lcL at z
    split at z
    · split at z
      · split at z
        · cases q : lcL asg tst fe ρ ds with
          | ok es => rw [q] at z; cases z
          | ex c' fs' => exact lc_noex ds q
          | bad => rw [q] at z; cases z
        · cases z
      · exact lc_noex ds z
      · cases z
    · cases z
/-- no slot's own set: the set's place is new and stays unknown to all -/
theorem set_le {H1 H2 : Hp} {F1 F2 : Fro} {D : Addr} {u u' : HO} (l : Le H1 F1 H2 F2) (n : H1 D = none) (h : H2 D = some u) (nf : ¬ F2 D) : Le H1 F1 (upd H2 D u') F2 :=
  ⟨fun a o e => by rw [upd_ne (ne_of_none e n)]; exact l.keep a o e, l.sub, l.new, fun a f => by
    rw [upd_ne fun z => nf (by rw [← z]; exact f)]; exact l.the a f⟩
theorem ve_lenSc (x : VX X G k) (hm : X.mg "len" = none) (hi : VI X G tg iter it) (ok : BlkOk X.N X.env.scope scope own) (hw : ∀ i ∈ ws, i ∈ own.map (·.2))
    (hg : ∀ (s : Shared) (H : Hp) (C : Addr) (cl : List (Str × Addr)) (fp : List Addr), VX (X.blk s H scope (compEnvC scope cl C X.env) fp) G.nox k → VP (X.blk s H scope (compEnvC scope cl C X.env) fp) G.nox tg ws asg)
    (ht : ∀ (s : Shared) (H : Hp) (C : Addr) (cl : List (Str × Addr)) (fp : List Addr), VX (X.blk s H scope (compEnvC scope cl C X.env) fp) G.nox k → VTs (X.blk s H scope (compEnvC scope cl C X.env) fp) G.nox ifs tst)
    (he : ∀ (s : Shared) (H : Hp) (C : Addr) (cl : List (Str × Addr)) (fp : List Addr), VX (X.blk s H scope (compEnvC scope cl C X.env) fp) G.nox k → VE (X.blk s H scope (compEnvC scope cl C X.env) fp) G.nox .sh elt fe) (hs : ∀ x, foldedSetIterable iter X.env x = pure x := by intro _; rfl) (hgl : Gl X "len" := by rfl)
    (hst : starEach [.SetComp elt [⟨tg, iter, ifs, 0⟩] scope pos] X.env = (false, eval (.SetComp elt [⟨tg, iter, ifs, 0⟩] scope pos) X.env) :: starEach [] X.env := by rfl) :
    VE X G m (.Call (.Name "len" p) [.SetComp elt [⟨tg, iter, ifs, 0⟩] scope pos] [] pos') (eLenSc it asg tst fe (own.map (·.2))) := by
  have sk := pe_sk x.calm x.nd hi.pi ok (fun s H C cl fp => (hg s H C cl fp (x.blk ..)).pg) (fun s H C cl fp => (ht s H C cl fp (x.blk ..)).pts) (fun s H C cl fp => (he s H C cl fp (x.blk ..)).pe) hs (elt := elt) (pos := pos)
  refine ⟨pe_imp (pe_callB cr_lenK hgl hm PySem.boot_len (pa_cons sk pa_nil hst) (by decide) (by decide) hst rfl) fun σ H Q ⟨ρ, F, rl, o⟩ => ?_⟩
  refine ⟨ρ, F, rl, Out.bind (S' := fun d v H' F' => Rp G.K m H H' F' v d) o (fun _ _ _ _ _ _ _ h => h) fun ds J H1 F1 _ l wk kk => ?_⟩
  have o1 := kk (S'' := fun d v H' F' => Rp G.K m H1 H' F' v d) fun d v H' F' h => h.back l.keep
  intro D hD
  have nD : ¬ F1 D := fun z => l.the D z hD
  cases el : lcL asg tst fe (wipeL ρ (own.map (·.2))) ds with
  | bad => rw [el] at o1; exact o1.elim
  | ex c fs => exact (lc_noex ds el).elim
  | ok es =>
    rw [el] at o1
    have o1 : Out G σ H1 F1 (lenSetD es) (fun d v H' F' => Rp G.K m H1 H' F' v d) Q := o1
    unfold lenSetD at o1
    cases ek : keysD es with
    | none => rw [ek] at o1; exact o1.elim
    | some ks0 =>
      rw [ek] at o1
      dsimp only at o1
      by_cases hz : decide (es.length < 4000) = true
      · rw [if_pos hz] at o1
        have hz := of_decide_eq_true hz
        refine ⟨fun i n H2 => n = ds.length - i ∧ i ≤ ds.length ∧ ∃ F2 acc rest ks S, Le H1 F1 H2 F2 ∧ H2 D = some (SetK X.prog X.w D S acc.length) ∧ ¬ F2 D ∧ (∀ k : Key, S k = true ↔ k ∈ acc) ∧ lcL asg tst fe (wipeL ρ (own.map (·.2))) (ds.drop i) = .ok rest ∧ keysD rest = some ks ∧ nubK acc ks = nubK [] ks0 ∧ acc.length + rest.length ≤ es.length,
          ⟨_, rfl, Nat.zero_le _, F1, [], es, ks0, fun _ => false, le_new l.the hD, upd_same, nD, fun k => by simp, el, ek, rfl, by simp⟩, ?_⟩
        rintro i n H2 ⟨rfl, hi, F2, acc, rest, ks, S, l2, eD, nD2, hS, hr, hk, hnub, hlen⟩
        by_cases hlt : i < ds.length
        · have hd : ds[i]? = some ds[i] := List.getElem?_eq_getElem hlt
          refine .inr ⟨wk.goes i H2 hlt l2.kp, fun H' => ∃ n', n' < ds.length - i ∧ (n' = ds.length - (i + 1) ∧ i + 1 ≤ ds.length ∧ ∃ F2 acc rest ks S, Le H1 F1 H' F2 ∧ H' D = some (SetK X.prog X.w D S acc.length) ∧ ¬ F2 D ∧ (∀ k : Key, S k = true ↔ k ∈ acc) ∧ lcL asg tst fe (wipeL ρ (own.map (·.2))) (ds.drop (i + 1)) = .ok rest ∧ keysD rest = some ks ∧ nubK acc ks = nubK [] ks0 ∧ acc.length + rest.length ≤ es.length), fun H' q => q, fun v H3 hy => ?_⟩
          obtain ⟨d, F3, ed, l3, sd⟩ := wk.yields i H2 F2 v H3 hlt l2.kp l2.sub l2.the hy
          rw [hd] at ed
          cases ed
          rw [drop_get hd] at hr
          have rl3 : Rel G (L2.wipe σ (own.map (·.2))) H3 (wipeL ρ (own.map (·.2))) F3 := (((rl.step l).step l2).step l3).wipe _
          have eD3 := l3.keep D _ eD
          have nD3 : ¬ F3 D := fun z => (l3.new D z).elim nD2 fun q => by rw [eD] at q; cases q
          refine ⟨_, F3, ds[i], rl3.nox, sd, ?_⟩
          unfold lcL at hr
          cases ea : asg ds[i] (wipeL ρ (own.map (·.2))) with
          | ok ρ1 =>
            rw [ea] at hr
            dsimp only at hr
            intro σ2 rl4 hl4 hk4
            refine ⟨(wipe_same hw hl4 hk4).trans (wipe_wipe _ _), ρ1, F3, rl4, ?_⟩
            cases et : tst ρ1 with
            | ok t =>
              rw [et] at hr
              intro b H4 F4 l4 eb
              subst eb
              have eD4 := l4.keep D _ eD3
              have nD4 : ¬ F4 D := fun z => (l4.new D z).elim nD3 fun q => by rw [eD3] at q; cases q
              cases b with
              | false => exact ⟨_, Nat.sub_lt_sub_left hlt (Nat.lt_succ_self i), rfl, hlt, F4, acc, rest, ks, S, (l2.trans l3).trans l4, eD4, nD4, hS, hr, hk, hnub, hlen⟩
              | true =>
                rw [if_pos rfl]
                dsimp only at hr
                refine ⟨ρ1, F4, rl4.step l4, ?_⟩
                cases ee : fe ρ1 with
                | ok e =>
                  rw [ee] at hr
                  intro y H5 F5 l5 sy
                  have eD5 := l5.keep D _ eD4
                  have nD5 : ¬ F5 D := fun z => (l5.new D z).elim nD4 fun q => by rw [eD4] at q; cases q
                  obtain ⟨rest', er, e3⟩ : ∃ rest', lcL asg tst fe (wipeL ρ (own.map (·.2))) (ds.drop (i + 1)) = .ok rest' ∧ rest = e :: rest' := by
                    have hr : (lcL asg tst fe (wipeL ρ (own.map (·.2))) (ds.drop (i + 1))).bind (fun es => R.ok (e :: es)) = .ok rest := hr
                    cases q : lcL asg tst fe (wipeL ρ (own.map (·.2))) (ds.drop (i + 1)) with
                    | ok r' => rw [q] at hr; cases hr; exact ⟨r', rfl, rfl⟩
                    | ex _ _ => rw [q] at hr; cases hr
                    | bad => rw [q] at hr; cases hr
                  subst e3
                  obtain ⟨kx, ks', ek1, ek2, ek3⟩ : ∃ kx ks', kyD e = some kx ∧ keysD rest' = some ks' ∧ ks = kx :: ks' := by
                    have hk : (kyD e).bind (fun k => (keysD rest').map (k :: ·)) = some ks := hk
                    cases q1 : kyD e with
                    | none => rw [q1] at hk; cases hk
                    | some kx =>
                      cases q2 : keysD rest' with
                      | none => rw [q1, q2] at hk; cases hk
                      | some ks' => rw [q1, q2] at hk; cases hk; exact ⟨kx, ks', rfl, rfl, rfl⟩
                  subst ek3
                  have lall := ((l2.trans l3).trans l4).trans l5
                  have room : acc.length + 1 < scanBound := by
                    have : (4000 : Nat) < scanBound := by decide
                    simp only [List.length_cons] at hlen
                    omega
                  refine ⟨kx, S, acc.length, rb_key (K := G.K) (H := H5) (F := F5) (.inr sy) ek1, eD5, room, ?_⟩
                  have hnub : (if hasK kx acc = true then nubK acc ks' else nubK (acc ++ [kx]) ks') = nubK [] ks0 := hnub
                  by_cases hmem : kx ∈ acc
                  · rw [if_pos (hasK_iff.mpr hmem)] at hnub
                    rw [if_pos ((hS kx).mpr hmem)]
                    exact ⟨_, Nat.sub_lt_sub_left hlt (Nat.lt_succ_self i), rfl, hlt, F5, acc, rest', ks', _, set_le lall hD eD5 nD5, upd_same, nD5, fun k => by
                      rw [Bool.or_eq_true, hS, decide_eq_true_eq]
                      exact ⟨fun z => z.elim id fun e => e ▸ hmem, .inl⟩, er, ek2, hnub, by simp only [List.length_cons] at hlen; omega⟩
                  · rw [if_neg fun z => hmem (hasK_iff.mp z)] at hnub
                    rw [if_neg fun z => hmem ((hS kx).mp z)]
                    refine ⟨_, Nat.sub_lt_sub_left hlt (Nat.lt_succ_self i), rfl, hlt, F5, acc ++ [kx], rest', ks', _, set_le lall hD eD5 nD5, by rw [upd_same, List.length_append]; rfl, nD5, fun k => ?_, er, ek2, hnub, by simp only [List.length_append, List.length_cons, List.length_nil] at hlen ⊢; omega⟩
                    rw [Bool.or_eq_true, hS, decide_eq_true_eq, List.mem_append, List.mem_singleton]
                | ex _ _ => rw [ee] at hr; cases hr
                | bad => rw [ee] at hr; cases hr
            | ex _ _ => rw [et] at hr; dsimp only at hr; cases hr
            | bad => rw [et] at hr; dsimp only at hr; cases hr
          | ex _ _ => rw [ea] at hr; cases hr
          | bad => rw [ea] at hr; cases hr
        · have e : i = ds.length := by omega
          subst e
          rw [List.drop_length] at hr
          cases hr
          cases hk
          refine .inl ⟨wk.stops H2 l2.kp, D, S, acc.length, rfl, eD, ?_⟩
          have e4 : acc = nubK [] ks0 := hnub
          rw [e4]
          exact o1 _ H2 F2 l2 (rp_int _)
      · rw [if_neg hz] at o1; exact o1.elim
end
end VL

namespace VL
open PyProof.Rows PySem L2 PySem.Spec
/-! ### d.get(k, x), d.get(k) -/
def dgetOr (k z : D) : D → R D
  | .dic kvs => match kyD k with
    | some _ => .ok ((dget kvs k).getD z)
    | none => .bad
  | _ => .bad
def isDic : D → Bool
  | .dic _ => true
  | _ => false
def eGet2 (fa fb fc : Lo → R D) : Lo → R D := fun ρ => (fa ρ).bind fun d => if isDic d = true then (fb ρ).bind fun k => (fc ρ).bind fun z => dgetOr k z d else .bad
def eGet1 (fa fb : Lo → R D) : Lo → R D := fun ρ => (fa ρ).bind fun d => if isDic d = true then (fb ρ).bind fun k => dgetOr k .non d else .bad
section
variable {X : Cx} {G : VG} {k : Nat} {m m1 m2 : Md} {o e f : Expr} {fa fb' fc : Lo → R D} {apos cpos p pos : Pos}
theorem rb_isD {K : PySem.W.Frag} {H : Hp} {F : Fro} {v : V} {d : D} (h : RB K H F v d) (e : isDic d = true) : ∃ a, v = .ref a ∧ IsD H a := by
  cases d <;> try (cases e; done)
  obtain ⟨a, kvs, ds, e, l, _⟩ := rb_dic h
  exact ⟨a, e, .inl ⟨kvs, l⟩⟩
theorem getOr_of {K : PySem.W.Frag} {H : Hp} {F : Fro} {v y z : V} {d kd zd r : D} (h : RB K H F v d) (hk : RB K H F y kd) (hz : Sh K H F z zd) (e : dgetOr kd zd d = .ok r) : ∃ a o, v = .ref a ∧ DGet H a y o ∧ Sh K H F (o.getD z) r := by
  cases d with
  | dic es =>
    obtain ⟨a, kvs, ds, e1, l, s, e2⟩ := rb_dic h
    have e : (match kyD kd with
      | some _ => R.ok ((dget es kd).getD zd)
      | none => R.bad) = .ok r := e
    cases q : kyD kd with
    | none => rw [q] at e; cases e
    | some k =>
      rw [q] at e
      have e : R.ok ((dget es kd).getD zd) = .ok r := e
      have ek := kyD_kD q
      refine ⟨a, valV kvs k, e1, .inl ⟨kvs, k, l, rb_key hk q, rfl⟩, ?_⟩
      subst ek e2
      rcases dget_of k s with ⟨v', d', g1, g2, g3⟩ | ⟨g1, g2⟩
      · unfold dicD at g2
        rw [g2] at e
        cases e
        rw [g1]
        exact g3
      · unfold dicD at g2
        rw [g2] at e
        cases e
        rw [g1]
        exact hz
  | _ => cases e
theorem ve_get2 (x : VX X G k) (ha : VE X G m1 o fa) (hb : VE X G m2 e fb') (hc : VE X G .sh f fc)
    (hbase : attributeBase o "get" X.env (eval o X.env) = eval o X.env := by rfl)
    (hfew : ((backTo cpos (starEach [e, f] X.env)).all (fun x => !x.1) && (backToKw cpos (keywordEach [] X.env)).all (fun x => x.1.isSome) && decide (([e, f] : List Expr).length + ([] : List Keyword).length + (if ([] : List Keyword).isEmpty then 0 else 1) < 30)) = true := by rfl)
    (hline : (apos.endLine == cpos.line) = true := by rfl) (htr : backTo cpos (starEach [e, f] X.env) = [(false, eval e X.env), (false, eval f X.env)] := by rfl) : VE X G .sh (.Call (.Attribute o "get" apos) [e, f] [] cpos) (eGet2 fa fb' fc) :=
  ⟨pe_imp (pe_dget2 (by have := x.u65; omega) ha.pe hb.pe hc.pe ⟨hbase, hfew, hline, htr⟩) fun σ H Q ⟨ρ, F, rl, o⟩ => by
    refine ⟨ρ, F, rl, Out.bind (S' := fun d v H' F' => Rp G.K .sh H H' F' v d) o (fun _ _ _ _ _ _ _ h => h) fun d v H1 F1 _ l s kk => ?_⟩
    have o1 := kk (S'' := fun d v H' F' => Rp G.K .sh H1 H' F' v d) fun d v H' F' h => h
    by_cases hd : isDic d = true
    · rw [if_pos hd] at o1
      have rv := rb_of s
      obtain ⟨a, ea, isd⟩ := rb_isD rv hd
      refine ⟨a, ea, isd, ρ, F1, rl.step l, Out.bind (S' := fun d v H' F' => Rp G.K .sh H1 H' F' v d) o1 (fun _ _ _ _ _ _ _ h => h) fun kd y H2 F2 _ l2 s2 k2 => ?_⟩
      have o2 := k2 (S'' := fun d v H' F' => Rp G.K .sh H2 H' F' v d) fun d v H' F' h => h
      refine ⟨ρ, F2, (rl.step l).step l2, Out.bind (S' := fun d v H' F' => Rp G.K .sh H2 H' F' v d) o2 (fun _ _ _ _ _ _ _ h => h) fun zd z H3 F3 _ l3 s3 k3 => ?_⟩
      have o3 := k3 (S'' := fun d v H' F' => Rp G.K .sh H3 H' F' v d) fun d v H' F' h => h
      cases q : dgetOr kd zd d with
      | ok r =>
        rw [q] at o3
        obtain ⟨a', ov, e1, g, sr⟩ := getOr_of ((rv.le l2).le l3) ((rb_of s2).le l3) s3 q
        rw [ea] at e1
        cases e1
        exact ⟨ov, g, o3 _ H3 F3 (Le.refl l3.the) sr⟩
      | ex c fs =>
        unfold dgetOr at q
        split at q
        · split at q <;> cases q
        · cases q
      | bad => rw [q] at o3; exact o3.elim
    · rw [if_neg hd] at o1; exact o1.elim⟩
theorem ve_get1 (x : VX X G k) (ha : VE X G m1 o fa) (hb : VE X G m2 e fb')
    (hbase : attributeBase o "get" X.env (eval o X.env) = eval o X.env := by rfl)
    (hfew : ((backTo cpos (starEach [e] X.env)).all (fun x => !x.1) && (backToKw cpos (keywordEach [] X.env)).all (fun x => x.1.isSome) && decide (([e] : List Expr).length + ([] : List Keyword).length + (if ([] : List Keyword).isEmpty then 0 else 1) < 30)) = true := by rfl)
    (hline : (apos.endLine == cpos.line) = true := by rfl) (htr : backTo cpos (starEach [e] X.env) = [(false, eval e X.env)] := by rfl) : VE X G .sh (.Call (.Attribute o "get" apos) [e] [] cpos) (eGet1 fa fb') :=
  ⟨pe_imp (pe_dget1 (by have := x.u65; omega) ha.pe hb.pe ⟨hbase, hfew, hline, htr⟩) fun σ H Q ⟨ρ, F, rl, o⟩ => by
    refine ⟨ρ, F, rl, Out.bind (S' := fun d v H' F' => Rp G.K .sh H H' F' v d) o (fun _ _ _ _ _ _ _ h => h) fun d v H1 F1 _ l s kk => ?_⟩
    have o1 := kk (S'' := fun d v H' F' => Rp G.K .sh H1 H' F' v d) fun d v H' F' h => h
    by_cases hd : isDic d = true
    · rw [if_pos hd] at o1
      have rv := rb_of s
      obtain ⟨a, ea, isd⟩ := rb_isD rv hd
      refine ⟨a, ea, isd, ρ, F1, rl.step l, Out.bind (S' := fun d v H' F' => Rp G.K .sh H1 H' F' v d) o1 (fun _ _ _ _ _ _ _ h => h) fun kd y H2 F2 _ l2 s2 k2 => ?_⟩
      have o2 := k2 (S'' := fun d v H' F' => Rp G.K .sh H2 H' F' v d) fun d v H' F' h => h
      cases q : dgetOr kd .non d with
      | ok r =>
        rw [q] at o2
        obtain ⟨a', ov, e1, g, sr⟩ := getOr_of (rv.le l2) (rb_of s2) .non q
        rw [ea] at e1
        cases e1
        exact ⟨ov, g, o2 _ H2 F2 (Le.refl l2.the) sr⟩
      | ex c fs =>
        unfold dgetOr at q
        split at q
        · split at q <;> cases q
        · cases q
      | bad => rw [q] at o2; exact o2.elim
    · rw [if_neg hd] at o1; exact o1.elim⟩

/-! ### dict(list of pairs) -/
def pairD : D → Option (Key × D)
  | .tup [k, v] => (kyD k).map fun j => (j, v)
  | _ => none
def pairsD : List D → Option (List (Key × D))
  | [] => some []
  | d :: ds => (pairD d).bind fun p => (pairsD ds).map (p :: ·)
def mergeD (acc : List (D × D)) (ps : List (Key × D)) : List (D × D) := ps.foldl (fun a p => dput a (kD p.1) p.2) acc
def opDict : D → Option D
  | .lst ds => (pairsD ds).map fun ps => .dic (mergeD [] ps)
  | _ => none
theorem merge_of {K : PySem.W.Frag} {H : Hp} {F : Fro} : ∀ {ps : List (Key × D)} {ms kvs : List (Key × V)} {ds : List D}, ShL K H F (ms.map (·.2)) (ps.map (·.2)) → ms.map (·.1) = ps.map (·.1) → ShL K H F (kvs.map (·.2)) ds → ∃ es, mergeD (dicD kvs ds) ps = dicD (mergeK kvs ms) es ∧ ShL K H F ((mergeK kvs ms).map (·.2)) es
  | [], [], kvs, ds, _, _, h => ⟨ds, rfl, h⟩
  | [], _ :: _, _, _, _, e, _ => by simp at e
  | _ :: _, [], _, _, _, e, _ => by simp at e
  | (j, d) :: ps, (j', v) :: ms, kvs, ds, .cons s r, e, h => by
    simp only [List.map_cons, List.cons.injEq] at e
    obtain ⟨e1, e2⟩ := e
    have e1 : j' = j := e1
    subst e1
    obtain ⟨es, q1, q2⟩ := dput_of j' s h
    obtain ⟨es2, q3, q4⟩ := merge_of (ps := ps) (ms := ms) r e2 q2
    refine ⟨es2, ?_, q4⟩
    show mergeD (dput (dicD kvs ds) (kD j') d) ps = _
    rw [q1]
    exact q3
theorem pairs_sh {K : PySem.W.Frag} {H : Hp} {F : Fro} : ∀ {xs : List V} {ds : List D} {ps : List (Key × D)}, ShL K H F xs ds → pairsD ds = some ps → ∃ (as : List Addr) (ms : List (Key × V)), xs = as.map V.ref ∧ Paired (fun p (kv : Key × V) => SqT K H p [kV kv.1, kv.2]) as ms ∧ ShL K H F (ms.map (·.2)) (ps.map (·.2)) ∧ ms.map (·.1) = ps.map (·.1)
  | _, _, _, .nil, e => by cases e; exact ⟨[], [], rfl, .nil, .nil, rfl⟩
  | x :: xs, d :: ds, ps, .cons s r, e => by
    have e : (pairD d).bind (fun p => (pairsD ds).map (p :: ·)) = some ps := e
    cases q1 : pairD d with
    | none => rw [q1] at e; cases e
    | some p =>
      cases q2 : pairsD ds with
      | none => rw [q1, q2] at e; cases e
      | some ps' =>
        rw [q1, q2] at e
        cases e
        obtain ⟨as, ms, e1, pr, sh, e2⟩ := pairs_sh r q2
        unfold pairD at q1
        split at q1
        · rename_i kd v
          cases q3 : kyD kd with
          | none => rw [q3] at q1; cases q1
          | some j =>
            rw [q3] at q1
            cases q1
            cases s with
            | tup hq hs =>
              cases hs with
              | cons h1 h2 =>
                cases h2 with
                | cons h3 h4 =>
                  cases h4
                  have ek := rb_key (.inr h1) q3
                  subst ek
                  exact ⟨_ :: as, (j, _) :: ms, by rw [e1]; rfl, .cons hq pr, .cons h3 sh, by rw [List.map_cons, List.map_cons, e2]⟩
        · cases q1
theorem o1_dict : Op1 G .fr (fun y => (fun xs H Q => ∃ (a : Addr) (ps : List Addr) (kvs : List (Key × V)), xs = [.ref a] ∧ SqL G.K H a (ps.map V.ref) ∧ Paired (fun p (kv : Key × V) => SqT G.K H p [kV kv.1, kv.2]) ps kvs ∧
    ∀ p, H p = none → Q (.ref p) (upd H p (.dK (mergeK [] kvs)))) [y]) opDict := by
  intro H F x a Q t ra h
  cases a with
  | lst ds =>
    obtain ⟨p, xs, e, l, s⟩ := rb_lst ra
    subst e
    have h' : Ans G .fr H F ((pairsD ds).map fun ps => .dic (mergeD [] ps)) Q := h
    cases q : pairsD ds with
    | none => rw [q] at h'; exact (ans_no h').elim
    | some ps =>
      rw [q] at h'
      obtain ⟨as, ms, e1, pr, sh, e2⟩ := pairs_sh s q
      subst e1
      refine ⟨p, as, ms, rfl, l.sql, pr, fun a ha => ?_⟩
      obtain ⟨es, q1, q2⟩ := merge_of (kvs := []) (ds := []) sh e2 .nil
      have q1 : mergeD [] ps = dicD (mergeK [] ms) es := q1
      obtain ⟨z, ez, an⟩ := h'
      cases ez
      have an : ∀ (v : V) (H' : Hp) (F' : Fro), Le H F H' F' → Rp G.K .fr H H' F' v (.dic (mergeD [] ps)) → Q v H' := an
      rw [q1] at an
      have l2 := le_new (o := .dK (mergeK [] ms)) t ha
      have na : ¬ F a := fun z => t a z ha
      have ow : Ow G.K (upd H a (.dK (mergeK [] ms))) F a (.dic (dicD (mergeK [] ms) es)) := .dic upd_same (q2.le l2)
      exact an (.ref a) _ F l2 (.inl ⟨a, rfl, ha, na, ow⟩)
  | _ => exact (ans_no h).elim
theorem ve_dict (x : VX X G k) (hm : X.mg "dict" = none) (ha : VE X G m1 o fa) (hg : Gl X "dict" := by rfl) (he : starEach [o] X.env = (false, eval o X.env) :: starEach [] X.env := by rfl) : VE X G .fr (.Call (.Name "dict" p) [o] [] pos) (b1 fa opDict) :=
  ve_ty1 (call_dictP x.calm) (x.K ▸ o1_dict) hg hm (by decide +kernel) ha (by decide) (by decide) he
end
end VL

namespace VL
open PyProof.Rows PySem L2 PySem.Spec PySem.W
/-! ### first, *rest = e -/
section
variable {prog : Program} {w : World} {A : Around} {E : Value → Shared → Prop} {s : Shared}
theorem star_tup {l : Addr} {items : Array Value} {n i : Nat} {Q : List Value → Shared → Prop} (hl : IsTup s.heap l items) (hh : A.handled = none) (hi : i < n) (hn : n ≤ items.size + 1) (hz : items.size ≤ 16384)
    (h : ∀ (h' : Heap) tk, (∀ b o, s.heap.get? b = some o → h'.get? b = some o) → s.heap.get? h'.objs.size = none → Q (items.toList.take i ++ [.ref h'.objs.size] ++ (items.toList.drop i).drop (items.size + 1 - n)) { s with heap := h'.push { cls := .type "list", data := .seq ((items.toList.drop i).take (items.size + 1 - n)).toArray }, toks := tk }) :
    wpAny (model prog w) A (unpackItems (.ref l) n (some i)) Q E s := by
  have hlt : l ≠ s.heap.objs.size := by obtain ⟨o, ho, _⟩ := hl; exact Nat.ne_of_lt (Heap.lt_size ho)
  unfold unpackItems
  refine wpAny_bind ?_
  unfold notIterableAtAll
  refine wpAny_bind (wpAny_specialOf hl.typeIs slot_tuple_iter.lookup ?_)
  refine wpAny_pure ?_
  simp only [Bool.false_eq_true, if_false]
  refine wpAny_bind (wpAny_holding (iter_tuple hl ?_))
  refine wpAny_bind (wpAny_holding (draw_tuple hlt i 0 _ _ ⟨_, Heap.get?_push_size _ rfl, rfl, rfl⟩ (hl.push _) (by omega) fun h₁ hit₁ hs₁ => ?_))
  have hl₁ : IsTup h₁ l items := (hl.push _).extBut hs₁.extBut hlt
  rw [Nat.zero_add] at hit₁
  have hit₁' := hit₁
  obtain ⟨oi, hoi, _⟩ := hit₁'
  have hl₁' := hl₁
  obtain ⟨ol, hol, _⟩ := hl₁'
  rw [List.drop_zero]
  have hfl : (items.toList.take i).length = i := by rw [List.length_take, Array.length_toList]; omega
  rw [if_neg (show ¬ ((items.toList.take i).length < i) by rw [hfl]; omega)]
  refine wpAny_bind (wpAny_holding (kun_collect (s := { s with heap := h₁ }) (T := "tuple_iterator") (.inr (.inr (.inr rfl))) (Walks.tuple (A := A.in1) hh s.heap.objs.size l hlt items) (fun j u st => st.1.typeIs) (k := i) (by omega) ⟨hit₁, hl₁⟩ (Heap.lt_size hoi) (Heap.lt_size hol) (fun h₂ tk hk => ?_) (by rw [sizeLine_eq]; omega)))
  have hrl : (items.toList.drop i).length = items.size - i := by rw [List.length_drop, Array.length_toList]
  have hmid : (items.toList.drop i).length - (n - 1 - i) = items.size + 1 - n := by rw [hrl]; omega
  show wpAny _ _ (if (items.toList.drop i).length < n - 1 - i then _ else _) _ _ _
  rw [if_neg (by rw [hrl]; omega)]
  show wpAny _ _ (newList ((items.toList.drop i).take ((items.toList.drop i).length - (n - 1 - i))) >>= fun d => pure (items.toList.take i ++ [d] ++ (items.toList.drop i).drop ((items.toList.drop i).length - (n - 1 - i)))) _ _ _
  rw [hmid]
  have k : ∀ b o, s.heap.get? b = some o → h₂.get? b = some o := fun b o e => hk b o (Nat.ne_of_lt (Heap.lt_size e)) (hs₁.extBut b o (Nat.ne_of_lt (Heap.lt_size e)) (Heap.get?_push_of_some _ e))
  refine wpAny_bind (wpAny_newList (wpAny_pure (h h₂ tk k ?_)) (by rw [List.length_take, hrl, sizeLine_eq]; omega))
  cases e : s.heap.get? h₂.objs.size with
  | none => rfl
  | some o => exact absurd (Heap.lt_size (k _ _ e)) (Nat.lt_irrefl _)
theorem star_lst {l : Addr} {items : Array Value} {n i : Nat} {Q : List Value → Shared → Prop} (hl : s.heap.IsList l items) (hh : A.handled = none) (hi : i < n) (hn : n ≤ items.size + 1) (hz : items.size ≤ 16384)
    (h : ∀ (h' : Heap) tk, (∀ b o, s.heap.get? b = some o → h'.get? b = some o) → s.heap.get? h'.objs.size = none → Q (items.toList.take i ++ [.ref h'.objs.size] ++ (items.toList.drop i).drop (items.size + 1 - n)) { s with heap := h'.push { cls := .type "list", data := .seq ((items.toList.drop i).take (items.size + 1 - n)).toArray }, toks := tk }) :
    wpAny (model prog w) A (unpackItems (.ref l) n (some i)) Q E s := by
  have hlt : l ≠ s.heap.objs.size := by obtain ⟨o, ho, _⟩ := hl; exact Nat.ne_of_lt (Heap.lt_size ho)
  unfold unpackItems
  refine wpAny_bind ?_
  unfold notIterableAtAll
  refine wpAny_bind (wpAny_specialOf hl.typeIs slot_list_iter.lookup ?_)
  refine wpAny_pure ?_
  simp only [Bool.false_eq_true, if_false]
  refine wpAny_bind (wpAny_holding (wpAny_pyIter_list hl ?_))
  refine wpAny_bind (wpAny_holding (kun_draw hlt i 0 _ _ ⟨_, Heap.get?_push_size _ rfl, rfl, rfl⟩ (hl.push _) (by omega) fun h₁ hit₁ hs₁ => ?_))
  have hl₁ : h₁.IsList l items := (hl.push _).extBut hs₁.extBut hlt
  rw [Nat.zero_add] at hit₁
  have hit₁' := hit₁
  obtain ⟨oi, hoi, _⟩ := hit₁'
  have hl₁' := hl₁
  obtain ⟨ol, hol, _⟩ := hl₁'
  rw [List.drop_zero]
  have hfl : (items.toList.take i).length = i := by rw [List.length_take, Array.length_toList]; omega
  rw [if_neg (show ¬ ((items.toList.take i).length < i) by rw [hfl]; omega)]
  refine wpAny_bind (wpAny_holding (kun_collect (s := { s with heap := h₁ }) (T := "list_iterator") (.inr (.inr (.inl rfl))) (Walks.list (A := A.in1) hh s.heap.objs.size l hlt items) (fun j u st => st.1.typeIs) (k := i) (by omega) ⟨hit₁, hl₁⟩ (Heap.lt_size hoi) (Heap.lt_size hol) (fun h₂ tk hk => ?_) (by rw [sizeLine_eq]; omega)))
  have hrl : (items.toList.drop i).length = items.size - i := by rw [List.length_drop, Array.length_toList]
  have hmid : (items.toList.drop i).length - (n - 1 - i) = items.size + 1 - n := by rw [hrl]; omega
  show wpAny _ _ (if (items.toList.drop i).length < n - 1 - i then _ else _) _ _ _
  rw [if_neg (by rw [hrl]; omega)]
  show wpAny _ _ (newList ((items.toList.drop i).take ((items.toList.drop i).length - (n - 1 - i))) >>= fun d => pure (items.toList.take i ++ [d] ++ (items.toList.drop i).drop ((items.toList.drop i).length - (n - 1 - i)))) _ _ _
  rw [hmid]
  have k : ∀ b o, s.heap.get? b = some o → h₂.get? b = some o := fun b o e => hk b o (Nat.ne_of_lt (Heap.lt_size e)) (hs₁.extBut b o (Nat.ne_of_lt (Heap.lt_size e)) (Heap.get?_push_of_some _ e))
  refine wpAny_bind (wpAny_newList (wpAny_pure (h h₂ tk k ?_)) (by rw [List.length_take, hrl, sizeLine_eq]; omega))
  cases e : s.heap.get? h₂.objs.size with
  | none => rfl
  | some o => exact absurd (Heap.lt_size (k _ _ e)) (Nat.lt_irrefl _)

end
section
variable {X : Cx} {pos : Pos}
/-- x, *y = a tuple or a list -/
def gStar (K : PySem.W.Frag) (g1 g2 : TG) : TG := fun v σ H Q => ∃ (a : Addr) (x : V) (xs : List V), v = .ref a ∧ (SqT K H a (x :: xs) ∨ SqL K H a (x :: xs)) ∧ xs.length ≤ 16000 ∧ ∀ p, H p = none → g1 x σ (upd H p (.lst xs)) fun σ1 H1 => g2 (.ref p) σ1 H1 Q
theorem pg_star {x y : Expr} {es : List Expr} {kt : Nat} {g1 g2 : TG} (hc : X.calm = true) (h1 : PG X x g1) (h2 : PG X y g2) (hn : (assignEach es X.env).length = 2 := by rfl) (hst : (assignEach es X.env).findIdx? (·.1) = some 1 := by rfl)
    (hs : (assignEach es X.env).map (·.2) = [assign x X.env, assign y X.env] := by rfl) : PG X (.Tuple es kt pos) (gStar X.K g1 g2) := by
  refine ⟨fun pins s σ H v u Q I r ⟨a, z, zs, e, hq, few, q⟩ => ?_⟩
  subst e
  cases r
  rw [PyProof.Rows.assign_Tuple]
  refine wpAny_bind (wpAny_standAt ?_)
  unfold unpack
  rw [hn, hst, hs]
  have fin : ∀ (its : List Value), Vals (z :: zs) its → ∀ (h' : Heap) tk, (∀ b o, s.heap.get? b = some o → h'.get? b = some o) → s.heap.get? h'.objs.size = none →
      wpAny (model X.prog X.w) X.A (assignInOrder [assign x X.env, assign y X.env] (its.take 1 ++ [.ref h'.objs.size] ++ (its.drop 1).drop (its.length + 1 - 2))) (fun _ s' => ∃ σ' H', Inv X pins σ' H' s' ∧ Q σ' H') X.xe
        { s with heap := h'.push { cls := .type "list", data := .seq ((its.drop 1).take (its.length + 1 - 2)).toArray }, toks := tk } := fun its rv h' tk k hp => by
    cases rv with
    | @cons _ iz _ ir r1 rr =>
      have el : (List.drop 1 (iz :: ir)).take ((iz :: ir).length + 1 - 2) = ir := by
        rw [List.drop_one, List.tail_cons, List.length_cons]
        exact List.take_of_length_le (by omega)
      have ed : (List.drop 1 (iz :: ir)).drop ((iz :: ir).length + 1 - 2) = [] := by
        rw [List.drop_one, List.tail_cons, List.length_cons]
        exact List.drop_eq_nil_of_le (by omega)
      rw [el, ed]
      have hn0 : H h'.objs.size = none := I.hok.gone hp
      have I1 : Inv X pins σ (upd H h'.objs.size (.lst zs)) { s with heap := h'.push { cls := .type "list", data := .seq ir.toArray }, toks := tk } :=
        I.laidN (t' := tk) (fun b o e => Heap.get?_push_of_some _ (k b o e)) hp hn0 (show ObjOk X.prog X.w _ _ _ (.lst zs) from ⟨by rw [sizeLine_eq]; omega, ir, 0, rr, Heap.get?_push_size _ rfl⟩)
      show wpAny _ _ (assignInOrder [assign x X.env, assign y X.env] [iz, .ref h'.objs.size]) _ _ _
      refine assignInOrder_cons (thn (h1.run pins _ σ _ _ _ _ I1 r1 (q _ hn0)) fun _ s1 ⟨σ1, H1, I2, q1⟩ => ?_)
      refine assignInOrder_cons (thn (h2.run pins s1 σ1 H1 _ _ _ I2 (show RelV (.ref h'.objs.size) (.ref h'.objs.size) from rfl) q1) fun _ s2 ⟨σ2, H2, I3, q2⟩ => ?_)
      exact assignInOrder_nil ⟨σ2, H2, I3, q2⟩
  rcases hq with hq | hq
  · obtain ⟨its, rv, ht, hz⟩ := I.tuple hq
    have e := rv.length
    rw [List.length_cons] at e
    refine wpAny_bind (wpAny_holding (star_tup ht (I.ok.hd hc) (by omega) (by rw [List.size_toArray]; omega) (by rw [List.size_toArray]; omega) fun h' tk k hp => ?_))
    rw [List.size_toArray]
    exact fin its rv h' tk k hp
  · obtain ⟨its, rv, pl, hz⟩ := I.list hq
    have e := rv.length
    rw [List.length_cons] at e
    have hl' : s.heap.IsList a its.toArray := by
      obtain ⟨o, m, e, c, d, q⟩ := pl
      exact ⟨o, e, c, m, q⟩
    refine wpAny_bind (wpAny_holding (star_lst hl' (I.ok.hd hc) (by omega) (by rw [List.size_toArray]; omega) (by rw [List.size_toArray]; omega) fun h' tk k hp => ?_))
    rw [List.size_toArray]
    exact fin its rv h' tk k hp
end
section
variable {X : Cx} {G : VG} {k : Nat} {m m1 : Md} {e : Expr} {f : Lo → R D} {pos : Pos}
def sStar (i j : Nat) (fa : Lo → R D) : Lo → Fl := fun ρ => fb (fa ρ) ρ fun d => match seqD d with
  | some (x :: xs) => if decide (xs.length ≤ 16000) = true then .nx ((ρ.set i (.sh x)).set j (.ow (.lst xs))) else .bad
  | _ => .bad
theorem vs_star (i j : Nat) {x y : Str} {px py ps pt : Pos} {kt : Nat} (xx : VX X G k) (h : VE X G .sh e f) (hi : X.N[i]? = some x := by rfl) (hj : X.N[j]? = some y := by rfl) (hij : i ≠ j := by decide)
    (hx : X.env.scope.names.lookup x = some .local := by rfl) (hy : X.env.scope.names.lookup y = some .local := by rfl)
    (hs : swapsWithSole [.Tuple [.Name x px, .Starred (.Name y py) ps] kt pt] e pos.line X.env = pure false := by rfl) (hw : swappedStores [.Tuple [.Name x px, .Starred (.Name y py) ps] kt pt] e X.env = pure none := by rfl) :
    VS X G m (.Assign [.Tuple [.Name x px, .Starred (.Name y py) ps] kt pt] e pos) (sStar i j f) :=
  ⟨ps_imp (ps_asg h.pe (pg_star (es := [.Name x px, .Starred (.Name y py) ps]) xx.calm (pg_name (i := i) xx.nd hi (.inl hx) (.inr hx)) (pg_name (i := j) xx.nd hj (.inl hy) (.inr hy))) hs hw) fun Dn σ H ⟨ρ, F, rl, o⟩ => ⟨ρ, F, rl, out_s rl o fun d v H1 F1 _ l s o1 => by
    have go : ∀ (a : Addr) (x' : V) (xs : List V) (dx : D) (ds : List D), v = .ref a → (SqT X.K H1 a (x' :: xs) ∨ SqL X.K H1 a (x' :: xs)) → ShL G.K H1 F1 (x' :: xs) (dx :: ds) → SO G m H1 F1 Dn (if decide (ds.length ≤ 16000) = true then .nx ((ρ.set i (.sh dx)).set j (.ow (.lst ds))) else .bad) →
        gStar X.K (gName i) (gName j) v σ H1 Dn.nx := fun a x' xs dx ds ev hq sh o2 => by
      by_cases hz : decide (ds.length ≤ 16000) = true
      · rw [if_pos hz] at o2
        cases sh with
        | cons s1 s2 =>
          refine ⟨a, x', xs, ev, hq, by rw [s2.length]; exact of_decide_eq_true hz, fun p hp => ?_⟩
          have nF : ¬ F1 p := fun z => l.the p z hp
          have l2 : Le H1 F1 (upd H1 p (.lst xs)) F1 := le_new l.the hp
          have r1 : Rel G (σ.set i (some x')) (upd H1 p (.lst xs)) (ρ.set i (.sh dx)) F1 := ((rl.step l).step l2).setSh i (s1.le l2)
          have ow : Ow G.K (upd H1 p (.lst xs)) F1 p (.lst ds) := .lst upd_same (s2.le l2)
          exact o2 _ _ F1 (r1.setOw j (none_of_keep rl.le.keep (none_of_keep l.keep hp)) nF ow fun jj d' hj h1 h2 => by
            obtain ⟨b, e, _, _, w⟩ := ((rl.step l).setSh i s1).sl jj _ _ h1 h2
            cases e
            exact w.there hp) l2.kp fun _ z => z
      · rw [if_neg hz] at o2; exact o2.elim
    unfold seqD at o1
    cases d with
    | lst ds =>
      cases ds with
      | nil => exact o1.elim
      | cons dx ds =>
        cases s with
        | lst hq r =>
          cases r with
          | cons s1 s2 => exact go _ _ _ _ _ rfl (.inr (xx.K ▸ hq.sql)) (.cons s1 s2) o1
    | tup ds =>
      cases ds with
      | nil => exact o1.elim
      | cons dx ds =>
        cases s with
        | tup hq r =>
          cases r with
          | cons s1 s2 => exact go _ _ _ _ _ rfl (.inl (xx.K ▸ hq)) (.cons s1 s2) o1
    | _ => exact o1.elim⟩⟩
end
end VL

namespace VL
open PyProof.Rows PySem L2 PySem.Spec PySem.Froz
/-! ### sets of texts that can be walked -/
theorem perm_of_sub {α : Type} [BEq α] [LawfulBEq α] : ∀ {l m : List α}, l.Nodup → (∀ x ∈ l, x ∈ m) → m.length ≤ l.length → l.Perm m
  | [], m, _, _, h => by
    rw [List.eq_nil_of_length_eq_zero (Nat.le_zero.mp h)]
  | x :: l, m, d, s, h => by
    obtain ⟨d1, d2⟩ := List.nodup_cons.mp d
    have hx : x ∈ m := s x List.mem_cons_self
    have p := List.perm_cons_erase hx
    refine (List.Perm.cons x (perm_of_sub d2 (fun y hy => ?_) ?_)).trans p.symm
    · exact (List.mem_erase_of_ne (fun e : y = x => d1 (e ▸ hy))).mpr (s y (List.mem_cons_of_mem _ hy))
    · have e := p.length_eq
      rw [List.length_cons] at e h
      omega
/-- the set of the texts l at a -/
def SetX (P : Program) (w : World) (h : Heap) (a : Addr) (l : List Str) : Prop :=
  ∃ D : SD, h.get? a = some (sObj "set" D) ∧ TxOk P w D l ∧ l.Nodup ∧ l.length < 4000 ∧ Ris D.2.2.place.toList ∧ (w.params.followText "set-order" = true ∨ D.2.2.led = true)
def SetXO (P : Program) (w : World) (a : Addr) (l : List Str) : HO := .ext fun h => SetX P w h a l
section
variable {P : Program} {w : World} {A : Around} {E : Value → Shared → Prop} {s : Shared} {a : Addr} {l : List Str}
theorem SetX.at {h h' : Heap} (R : SetX P w h a l) (k : ∀ o, h.get? a = some o → h'.get? a = some o) : SetX P w h' a l := by
  obtain ⟨D, ho, r⟩ := R
  exact ⟨D, k _ ho, r⟩
theorem setX_ok {H : Hp} {h : Heap} (R : SetX P w h a l) : ObjOk P w H h a (SetXO P w a l) := by
  have ⟨D, ho, _⟩ := R
  exact ⟨R, ⟨_, ho⟩, fun h1 h2 p k => SetX.at p k⟩
theorem setX_new {h : Heap} (ho : h.get? a = some (sObj "set" (#[], 0, .fresh 0 0 (!w.params.followText "set-order")))) : SetX P w h a [] :=
  ⟨_, ho, TxOk.nil (by rfl), List.nodup_nil, by decide, List.Pairwise.nil, by
    show _ ∨ (!w.params.followText "set-order") = true
    cases w.params.followText "set-order"
    · exact .inr rfl
    · exact .inl rfl⟩
theorem tailTx_ris {ep : Nat} {es : Array (Int × Value)} {t : SetTable} {b : Bool} (r : Ris t.place.toList) : Ris (tailTx ep es t b).2.2.place.toList := by
  unfold tailTx
  by_cases c : (!b && t.tooFull) = true
  · rw [if_pos c]; exact relayAll_ris _ _ _
  · rw [if_neg c]; exact r
theorem tailTx_led {ep : Nat} {es : Array (Int × Value)} {t : SetTable} {b : Bool} : (tailTx ep es t b).2.2.led = t.led := by
  unfold tailTx
  by_cases c : (!b && t.tooFull) = true
  · rw [if_pos c]; exact relayAll_led _ _ _
  · rw [if_neg c]
theorem addTx_ris {h : Int} {v : Value} {D : SD} (r : Ris D.2.2.place.toList) : Ris (addTx h v D).2.2.place.toList := by
  have r1 := layNew_ris D.2.2 D.1 h v r
  refine tailTx_ris ?_
  split <;> exact r1
theorem addTx_led {h : Int} {v : Value} {D : SD} : (addTx h v D).2.2.led = D.2.2.led := by
  have r1 := layNew_led D.2.2 D.1 h v
  refine tailTx_led.trans ?_
  split <;> exact r1
/-- one more text, or the same again -/
theorem setX_add {k : Str} {t : Tok} {Q : Bool → Shared → Prop} (R : SetX P w s.heap a l) (few : l.length + 1 < 4000)
    (hQ : ∀ h', Heap.SameBut a s.heap h' → SetX P w h' a (if k ∈ l then l else k :: l) → Q (decide (k ∉ l)) { s with heap := h' }) :
    wpAny (model P w) A (setAddHashed a (.str k t) (hashStr w k)) Q E s := by
  obtain ⟨D, ho, F, nd, hl, hr, led⟩ := R
  by_cases hk : k ∈ l
  · have q := hQ s.heap (Heap.SameBut.refl a s.heap) (by rw [if_pos hk]; exact ⟨D, ho, F, nd, hl, hr, led⟩)
    rw [decide_eq_false (fun z => z hk)] at q
    have hel := F.el
    have hsc : (Value.str k t).scannable = true := rfl
    unfold setAddHashed setAddHashedIn
    refine wpAny_holding (wpAny_bind (wpAny_setState_of ho rfl F.fit ?_))
    dsimp only
    rw [byScan_of hsc (by rw [F.sz]; exact Nat.lt_trans hl (by decide)) hel]
    simp only [↓reduceIte]
    unfold setAddByScan
    refine wpAny_bind ?_
    refine wpAny_bind (wpAny_rule ?_)
    refine wpAny_bind (wpAny_setScan_of (knd := strKind P w) (k := k) (is_str k t) ho rfl F.fit hel ?_)
    obtain ⟨e, he, q2⟩ := (F.mem k).mp hk
    cases hf : List.findIdx? (fun e => (strKind P w).is k e.2) D.1.toList with
    | none =>
      have c := List.findIdx?_eq_none_iff.mp hf e he
      rw [q2] at c
      cases c
    | some j => exact wpAny_pure (wpAny_pure q)
  · refine add_x ho F hk (by have : (4000 : Nat) < scanBound := by decide
                             omega) ?_
    have q := hQ (s.heap.update a (fun _ => sObj "set" (addTx (hashStr w k) (.str k t) D))) (Heap.SameBut.update _ a _) (by
      rw [if_neg hk]
      exact ⟨_, get_upd _ ho rfl, add_ok t F, List.nodup_cons.mpr ⟨hk, nd⟩, by rw [List.length_cons]; exact few, addTx_ris hr, by rw [addTx_led]; exact led⟩)
    rw [decide_eq_true hk] at q
    exact q
end
end VL

namespace VL
open PyProof.Rows PySem L2 PySem.Spec PySem.Froz
/-! ### sorted -/
def leS (x y : Str) : Bool := decide (x.cps.toList ≤ y.cps.toList)
theorem leS_trans (a b c : Str) (h : leS a b = true) (h' : leS b c = true) : leS a c = true := decide_eq_true (List.le_trans (of_decide_eq_true h) (of_decide_eq_true h'))
theorem leS_total (a b : Str) : (leS a b || leS b a) = true := by
  rcases List.le_total a.cps.toList b.cps.toList with h | h
  · rw [leS, decide_eq_true h]; rfl
  · rw [leS, leS, decide_eq_true h, Bool.or_true]
theorem leS_anti {a b : Str} (h : leS a b = true) (h' : leS b a = true) : a = b := by
  obtain ⟨x⟩ := a
  obtain ⟨y⟩ := b
  have e : x.toList = y.toList := List.le_antisymm (of_decide_eq_true h) (of_decide_eq_true h')
  exact congrArg Str.mk (Array.toList_inj.mp e)
theorem leS_of {a b : Str} (h : ltCps b.cps.toList a.cps.toList = false) : leS a b = true := by
  rw [ltCps_eq] at h
  exact decide_eq_true (List.not_lt.mp (of_decide_eq_false h))
theorem rising_pair : ∀ (p : Str) (l : List Str), risingS p l = true → (p :: l).Pairwise fun a b => leS a b = true
  | p, [], _ => by simp
  | p, x :: r, h => by
    have h : (!ltCps x.cps.toList p.cps.toList && risingS x r) = true := h
    rw [Bool.and_eq_true, Bool.not_eq_true'] at h
    have i := rising_pair x r h.2
    have hx := leS_of h.1
    refine List.pairwise_cons.mpr ⟨fun y hy => ?_, i⟩
    rcases List.mem_cons.mp hy with rfl | hy
    · exact hx
    · exact leS_trans _ _ _ hx ((List.pairwise_cons.mp i).1 y hy)
theorem sorted_pair {l : List Str} (h : sortedS l = true) : l.Pairwise fun a b => leS a b = true := by
  cases l with
  | nil => exact List.Pairwise.nil
  | cons x r => exact rising_pair x r h
def srtS (l : List Str) : List Str := l.mergeSort leS
theorem srtS_perm (l : List Str) : (srtS l).Perm l := List.mergeSort_perm l leS
theorem srtS_of {l m : List Str} (h : sortedS m = true) (p : m.Perm l) : m = srtS l :=
  List.Perm.eq_of_pairwise (fun a b _ _ h h' => leS_anti h h') (sorted_pair h) (List.pairwise_mergeSort leS_trans leS_total l) (p.trans (srtS_perm l).symm)
theorem srtS_congr {l m : List Str} (p : l.Perm m) : srtS l = srtS m :=
  List.Perm.eq_of_pairwise (fun a b _ _ h h' => leS_anti h h') (List.pairwise_mergeSort leS_trans leS_total l) (List.pairwise_mergeSort leS_trans leS_total m) ((srtS_perm l).trans (p.trans (srtS_perm m).symm))
/-- the texts in a row -/
def strsD : List D → Option (List Str)
  | [] => some []
  | .str x :: ds => (strsD ds).map (x :: ·)
  | _ :: _ => none
theorem strs_sh {K : PySem.W.Frag} {H : Hp} {F : Fro} : ∀ {vs : List V} {ds : List D} {xs : List Str}, ShL K H F vs ds → strsD ds = some xs → vs = xs.map V.str ∧ ds = xs.map D.str
  | _, _, _, .nil, e => by cases e; exact ⟨rfl, rfl⟩
  | _, _, _, .cons (d := d) (ds := ds) s r, e => by
    cases d with
    | str x =>
      cases s
      have e : (strsD ds).map (x :: ·) = some _ := e
      cases q : strsD ds with
      | none => rw [q] at e; cases e
      | some ys =>
        rw [q] at e
        cases e
        obtain ⟨a, b⟩ := strs_sh r q
        rw [a, b]
        exact ⟨rfl, rfl⟩
    | _ => cases e
theorem shl_strs {K : PySem.W.Frag} {H : Hp} {F : Fro} : ∀ xs : List Str, ShL K H F (xs.map V.str) (xs.map D.str)
  | [] => .nil
  | x :: xs => .cons (.str x) (shl_strs xs)
def opSorted : D → Option D
  | .lst ds => (strsD ds).bind fun xs => if decide (xs.length < 64) = true then some (.lst ((srtS xs).map .str)) else none
  | .dic es => (strsD (es.map (·.1))).bind fun xs => if decide (xs.length < 64) = true then some (.lst ((srtS xs).map .str)) else none
  | _ => none
section
variable {X : Cx} {G : VG} {k : Nat} {m m1 : Md} {o : Expr} {fa : Lo → R D} {pos p : Pos}
/-- sorted of a list of texts, or of a dict whose keys are texts -/
def rSrt (K : PySem.W.Frag) : List V → Hp → VK → Prop := fun xs H Q =>
  (∃ (a : Addr) (zs : List Str), xs = [.ref a] ∧ SqL K H a (zs.map V.str) ∧ zs.length < 64 ∧ ∀ p, H p = none → Q (.ref p) (upd H p (.lst ((srtS zs).map V.str)))) ∨
  ∃ (a : Addr) (kvs : List (Key × V)) (ks : List Str), xs = [.ref a] ∧ Rd H a (.dK kvs) ∧ kvs.map (·.1) = ks.map Sum.inr ∧ ks.length < 64 ∧ ∀ p, H p = none → Q (.ref p) (upd H p (.lst ((srtS ks).map V.str)))
theorem cr_srt (hc : X.calm = true) : CallR X (.builtin "sorted") (rSrt X.K) := by
  intro pins s σ H xs us Q I r h
  rcases h with ⟨a, zs, e, hs, hz, q⟩ | ⟨a, kvs, ks, e, hd, hk, hz, q⟩
  · exact cr_sortedS pins s σ H xs us Q I r ⟨a, zs, e, hs, hz, fun ys p pm hs hn => by rw [srtS_of hs pm]; exact q p hn⟩
  · exact call_sortedD hc pins s σ H xs us Q I r ⟨a, kvs, ks, e, hd, hk, hz, fun ys p pm hs hn => by rw [srtS_of hs pm]; exact q p hn⟩
theorem keys_strs : ∀ {kvs : List (Key × V)} {ds : List D} {xs : List Str}, ds.length = kvs.length → strsD (((kvs.map fun p => kD p.1).zip ds).map (·.1)) = some xs → kvs.map (·.1) = xs.map Sum.inr
  | [], _, _, _, e => by cases e; rfl
  | _ :: _, [], _, h, _ => by simp at h
  | (j, v) :: kvs, d :: ds, xs, h, e => by
    cases j with
    | inl i => cases e
    | inr x =>
      have e : (strsD (((kvs.map fun p => kD p.1).zip ds).map (·.1))).map (x :: ·) = some xs := e
      cases q : strsD (((kvs.map fun p => kD p.1).zip ds).map (·.1)) with
      | none => rw [q] at e; cases e
      | some ys =>
        rw [q] at e
        cases e
        rw [List.map_cons, List.map_cons, keys_strs (by simpa using h) q]
theorem o1_sorted : Op1 G .fr (fun y => rSrt G.K [y]) opSorted := by
  intro H F x a Q t ra h
  have fin : ∀ xs : List Str, Ans G .fr H F (if decide (xs.length < 64) = true then some (.lst ((srtS xs).map .str)) else none) Q → xs.length < 64 ∧ ∀ p, H p = none → Q (.ref p) (upd H p (.lst ((srtS xs).map V.str))) := fun xs h => by
    by_cases hz : decide (xs.length < 64) = true
    · rw [if_pos hz] at h
      exact ⟨of_decide_eq_true hz, ans_new t (shl_strs (srtS xs)) h⟩
    · rw [if_neg hz] at h; exact (ans_no h).elim
  cases a with
  | lst ds =>
    obtain ⟨p, xs, e, l, s⟩ := rb_lst ra
    subst e
    cases q : strsD ds with
    | none =>
      have h : Ans G .fr H F ((strsD ds).bind fun xs => if decide (xs.length < 64) = true then some (.lst ((srtS xs).map .str)) else none) Q := h
      rw [q] at h; exact (ans_no h).elim
    | some zs =>
      have h : Ans G .fr H F ((strsD ds).bind fun xs => if decide (xs.length < 64) = true then some (.lst ((srtS xs).map .str)) else none) Q := h
      rw [q] at h
      obtain ⟨h1, h2⟩ := fin zs h
      exact .inl ⟨p, zs, rfl, by rw [← (strs_sh s q).1]; exact l.sql, h1, h2⟩
  | dic es =>
    have h : Ans G .fr H F ((strsD (es.map (·.1))).bind fun xs => if decide (xs.length < 64) = true then some (.lst ((srtS xs).map .str)) else none) Q := h
    cases q : strsD (es.map (·.1)) with
    | none => rw [q] at h; exact (ans_no h).elim
    | some zs =>
      rw [q] at h
      obtain ⟨h1, h2⟩ := fin zs h
      obtain ⟨p, kvs, ds, e, l, sh, e2⟩ := rb_dic ra
      subst e e2
      have hl := sh.length
      rw [List.length_map] at hl
      exact .inr ⟨p, kvs, zs, rfl, l, keys_strs hl.symm q, h1, h2⟩
  | _ => exact (ans_no h).elim
theorem ve_sorted (x : VX X G k) (hm : X.mg "sorted" = none) (ha : VE X G m1 o fa) (hg : Gl X "sorted" := by rfl) (he : starEach [o] X.env = (false, eval o X.env) :: starEach [] X.env := by rfl) : VE X G .fr (.Call (.Name "sorted" p) [o] [] pos) (b1 fa opSorted) :=
  ve_b1 (cr_srt x.calm) (x.K ▸ o1_sorted) hg hm (by decide +kernel) ha (by decide) (by decide) he
end
end VL

namespace VL
open PyProof.Rows PySem L2 PySem.Spec PySem.Froz
/-! ### sorted of a set of texts -/
def strO : Value → Str
  | .str x _ => x
  | _ => ""
theorem strsAre_strO : ∀ {vs : List Value}, (∀ v ∈ vs, ∃ (x : Str) (t : Tok), v = .str x t) → StrsAre vs (vs.map strO)
  | [], _ => .nil
  | v :: vs, h => by
    obtain ⟨x, t, rfl⟩ := h v List.mem_cons_self
    exact .cons x t (strsAre_strO fun u hu => h u (List.mem_cons_of_mem _ hu))
theorem txOk_vals {P : Program} {w : World} {D : SD} {l : List Str} (F : TxOk P w D l) (nd : l.Nodup) {out : List Value} (p : out.Perm (D.1.toList.map (·.2))) : ∃ ss, StrsAre out ss ∧ ss.Perm l := by
  have hv : ∀ v ∈ out, ∃ (x : Str) (t : Tok), v = .str x t := fun v hv => by
    obtain ⟨e, he, rfl⟩ := List.mem_map.mp (p.mem_iff.mp hv)
    obtain ⟨⟨k, hk, _⟩, _⟩ := F.el e he
    obtain ⟨t, ev⟩ := Value.isStrOf_shape (x := k) (v := e.2) hk
    exact ⟨k, t, ev⟩
  refine ⟨_, strsAre_strO hv, (perm_of_sub nd (fun x hx => ?_) ?_).symm⟩
  · obtain ⟨e, he, hk⟩ := (F.mem x).mp hx
    obtain ⟨t, ev⟩ := Value.isStrOf_shape (x := x) (v := e.2) hk
    exact List.mem_map.mpr ⟨e.2, p.mem_iff.mpr (List.mem_map.mpr ⟨e, he, rfl⟩), by rw [ev]; rfl⟩
  · rw [List.length_map, p.length_eq, List.length_map, Array.length_toList, F.sz]
    exact Nat.le_refl _
section
variable {X : Cx}
def rSrtX (P : Program) (w : World) : List V → Hp → VK → Prop := fun xs H Q => ∃ (a : Addr) (l : List Str), xs = [.ref a] ∧ H a = some (SetXO P w a l) ∧ l.length < 64 ∧ ∀ p, H p = none → Q (.ref p) (upd H p (.lst ((srtS l).map V.str)))
theorem cr_srtX (hc : X.calm = true) : CallR X (.builtin "sorted") (rSrtX X.prog X.w) := by
  intro pins s σ H xs us Q I r ⟨a, l, ex, ha, h64, q⟩
  subst ex
  obtain rfl := Vals.ref1 r
  obtain ⟨D, ho, F, nd, hl, hr, led⟩ := (I.hok a _ ha).1
  refine Calls.call_function_entry PyProof.Rows.kind_sorted PyProof.Rows.plain_sorted PyProof.Rows.entry_sorted (PyProof.Rows.args_sorted1 _) ?_
  unfold Builtin.«sorted»
  refine wpAny_bind (m := checkCount "sorted" 1 1 _) (wpAny_pure ?_)
  have hsz : D.1.size < scanBound := by
    rw [F.sz]
    exact Nat.lt_trans hl (by decide)
  refine wpAny_bind (collect_set (A := X.A.in1) (es := D.1) (ep := D.2.1) (t := D.2.2) (I.ok.hd hc) ⟨_, ho, rfl, rfl⟩ F.fit hsz hr led fun s1 vs k1 hz g1 o1 pm => ?_)
  obtain ⟨ss, hS, hp⟩ := txOk_vals F nd pm
  have hal : vs.length < 64 := by rw [hS.length, hp.length_eq]; exact h64
  refine wpAny_bind (wpAny_newList ?_ (by rw [sizeLine_eq]; omega))
  have hoL : (s1.heap.push (seqObj "list" vs.toArray 0)).get? s1.heap.objs.size = some (seqObj "list" vs.toArray 0) := Heap.get?_push_size _ rfl
  refine wpAny_bind (wpAny_holding (wpAny_call_entry PyProof.Rows.slot_list_sort ⟨_, hoL, rfl⟩ PyProof.Rows.entry_list_sort
    (list_sort_treeK strKind_oneLt hoL hS.keysOf (fun v₁ v₂ rest e => keyKind_strs (by rw [← e]; exact hS)) hal fun st' hp' hs => ⟨_, rfl, ?_⟩)
    (PyProof.Rows.args_list_sort _)))
  obtain ⟨ys, a1, a2, a3⟩ := sorted_out_str hS hp' hs
  obtain ⟨e', he'⟩ := PyProof.Rows.sortedHeap_at (vs := vs) (out := (arrOf st').map (·.2)) hoL
  have ey := srtS_of a3 (a2.trans hp)
  subst ey
  have hn : H s1.heap.objs.size = none := I.hok.fresh hz
  have hlen : ((srtS l).map V.str).length ≤ sizeLine := by
    rw [List.length_map, (srtS_perm l).length_eq, sizeLine_eq]
    omega
  have kk : ∀ b u, s.heap.get? b = some u → (sortedHeap (s1.heap.push (seqObj "list" vs.toArray 0)) s1.heap.objs.size vs ((arrOf st').map (·.2))).get? b = some u := fun b u e => by
    have q1 := k1 b u e
    have hb : b < s1.heap.objs.size := Heap.lt_size q1
    rw [PyProof.Rows.sortedHeap_old (Nat.ne_of_lt hb) (by rw [size_push']; exact Nat.lt_succ_of_lt hb)]
    exact Heap.get?_push_of_some _ q1
  have J : Inv X pins σ (upd H s1.heap.objs.size (.lst ((srtS l).map V.str))) { s1 with heap := sortedHeap (s1.heap.push (seqObj "list" vs.toArray 0)) s1.heap.objs.size vs ((arrOf st').map (·.2)) } :=
    I.call' (s' := { s1 with heap := sortedHeap (s1.heap.push (seqObj "list" vs.toArray 0)) s1.heap.objs.size vs ((arrOf st').map (·.2)) }) (ch := []) o1 (Un.laid kk hz hn) (I.hok.laid kk hz ⟨hlen, ((arrOf st').map (·.2)).toList, e', vals_of_strs a1, by rw [Array.toArray_toList]; exact he'⟩) (by show AllBare s1.gens; rw [g1]; exact I.bare) (fun _ z => nomatch z)
  exact wpAny_pure ⟨_, rfl, .ref s1.heap.objs.size, _, J, rfl, q _ hn⟩
end
end VL

namespace VL
open PyProof.Rows PySem L2 PySem.Spec
/-! ### set comprehensions of any number of fors, any kind of members -/
section
variable {elt : Expr} {gens : List Comprehension} {scope : Scope} {pos : Pos}
/-- behind the d-th clause's tests -/
def tailS (elt : Expr) (gens : List Comprehension) (scope : Scope) (pos : Pos) (d : Nat) (acc : Value) (env : Env) : Sem Unit := match gens[d + 1]? with
  | some g' => do
    let x ← eval g'.iter env
    standAt g'.iter.pos
    let x ← foldedSetIterable g'.iter env x
    let _ ← runOwn (.compStart (.SetComp elt gens scope pos) (d + 1) (← holding [x] (pyIter x)) acc env) env
  | none => do let v ← eval elt env; standAt elt.pos; let _ ← call (.builtin "set.add") [acc, v]
theorem turnS_eq {d : Nat} {tg i0 : Expr} {ifs : List Expr} (hg : gens[d]? = some ⟨tg, i0, ifs, 0⟩) (ha : ∀ g ∈ gens, g.is_async = 0) (it acc : Value) (env : Env) : compTurn (.SetComp elt gens scope pos) d it acc env = (do
    standAt i0.pos
    match ← pyNext it with
    | none => pure (.done .next)
    | some v =>
      letOwnedTupleGo tg it v
      assign tg env v
      let mut ok := true
      for c in ifs do
        if ok then ok ← isTrue c env (eval c env)
      if ok then tailS elt gens scope pos d acc env
      again (.compLoop (.SetComp elt gens scope pos) d it acc env)) := by
  unfold compTurn tailS
  simp only [hg]
  cases e : gens[d + 1]? with
  | none => rfl
  | some g' =>
    obtain ⟨t1, i1, ifs1, a1⟩ := g'
    have z : a1 = 0 := ha _ (List.mem_of_getElem? e)
    subst z
    simp only [bind_assoc, pure_bind]
    rfl
section
variable {P : Program} {w : World} {A : Around} {R : Result → Shared → Prop} {it acc : Value} {env : Env} {d : Nat} {tg i0 : Expr} {ifs : List Expr}
/-- the d-th clause's loop, where nothing raises -/
theorem loopS_any (hg : gens[d]? = some ⟨tg, i0, ifs, 0⟩) (ha : ∀ g ∈ gens, g.is_async = 0) (I : Nat → Shared → Prop)
    (turn : ∀ n s, I n s → wpAny (model P w) A (pyNext it) (fun r s₁ => match r with
      | none => R (.ok .next) s₁
      | some v => wpAny (model P w) A (letOwnedTupleGo tg it v) (fun _ s₂ => wpAny (model P w) A (assign tg env v) (fun _ s₃ =>
          wpAny (model P w) A (forIn ifs true fun c r => if r = true then do let ok ← isTrue c env (eval c env); pure (ForInStep.yield ok) else pure (ForInStep.yield r)) (fun ok s₄ =>
            (ok = true → wpAny (model P w) A (tailS elt gens scope pos d acc env) (fun _ s₅ => ∃ m, m < n ∧ I m s₅) (fun _ _ => False) s₄) ∧ (ok = false → ∃ m, m < n ∧ I m s₄)) (fun _ _ => False) s₃) (fun _ _ => False) s₂) (fun _ _ => False) s₁) (fun _ _ => False) s)
    (n : Nat) {s : Shared} (h : I n s) : codeAny (model P w) A (.compLoop (.SetComp elt gens scope pos) d it acc env) R s := by
  refine codeAny_loop rfl I (fun n s hI => ?_) n h
  show wpAny _ A ((compTurn (.SetComp elt gens scope pos) d it acc env).onRaise (fun x => do noteFrame x env; theTreesLotGoes x)) _ _ s
  refine wpAny_noted ?_
  rw [turnS_eq hg ha]
  refine wpAny_bind (wpAny_standAt (wpAny_bind (thnF (turn n s hI) fun r s₁ h₁ => ?_)))
  cases r with
  | none => exact wpAny_pure h₁
  | some v =>
    refine wpAny_bind (thnF h₁ fun _ s₂ h₂ => wpAny_bind (thnF h₂ fun _ s₃ h₃ => wpAny_bind (thnF h₃ fun ok s₄ h₄ => ?_)))
    cases ok with
    | false => exact wpAny_pure ⟨rfl, h₄.2 rfl⟩
    | true => exact wpAny_bind (thnF (h₄.1 rfl) fun _ s₅ h₅ => wpAny_pure ⟨rfl, h₅⟩)
/-- a later clause's start -/
theorem startS_any (hg : gens[d]? = some ⟨tg, i0, ifs, 0⟩) {s : Shared} (h0 : codeAny (model P w) A (.compLoop (.SetComp elt gens scope pos) d it acc env) R s)
    (h : wpAny (model P w) A (pyIter it) (fun it' s' => codeAny (model P w) A (.compLoop (.SetComp elt gens scope pos) d it' acc env) R s') (fun _ _ => False) s) :
    codeAny (model P w) A (.compStart (.SetComp elt gens scope pos) d it acc env) R s := by
  refine codeAny_of_tree ?_
  show wpAny _ _ ((compStart (.SetComp elt gens scope pos) d it acc env).onRaise (fun x => do noteFrame x env; standAt theWindowsPlace)) _ _ s
  refine wpAny_notedAt ?_
  have hcl : clausesOf (.SetComp elt gens scope pos) = gens := rfl
  unfold compStart
  rw [hcl, hg]
  show wpAny _ _ (ask >>= _) _ _ s
  refine wpAny_bind (wpAny_askSetting (wpAny_ite ?_))
  split
  · first
    | exact wpAny_bind (wpAny_pure (wpAny_pure (And.intro rfl h0)))
    | exact wpAny_pure (And.intro rfl h0)
  · refine wpAny_bind (wpAny_rule ?_)
    show wpAny _ _ (standAt i0.pos >>= _) _ _ s
    exact wpAny_bind (wpAny_standAt (wpAny_bind (thnF h fun it' s' h' => wpAny_pure (And.intro rfl h'))))
end
/-! ### kinds of members -/
structure SAcc (α : Type) where
  obj : Addr → α → HO
  can : V → Hp → α → α → Prop
def SAcc.Ok {α : Type} (X : Cx) (Z : SAcc α) : Prop := ∀ (pins : List (Addr × Obj)) (σ : L2.St) (H : Hp) (s : Shared) (D : Addr) (a a' : α) (y : V) (u : Value) (Q : Value → Shared → Prop) (E : Value → Shared → Prop),
  Inv X pins σ H s → H D = some (Z.obj D a) → RelV y u → Z.can y H a a' → (∀ s', Inv X pins σ (upd H D (Z.obj D a')) s' → Q .none s') → wpAny (model X.prog X.w) X.A (call (.builtin "set.add") [.ref D, u]) Q E s
abbrev TTl := Addr → L2.St → Hp → (Hp → Prop) → Prop
/-- what is done behind the d-th clause's tests -/
structure PTl (X : Cx) (elt : Expr) (gens : List Comprehension) (scope : Scope) (pos : Pos) (d : Nat) (ws : List Nat) (t : TTl) : Prop where
  run : ∀ (pins : List (Addr × Obj)) (s : Shared) (σ : L2.St) (H : Hp) (D : Addr) (Nx : Hp → Prop), Inv X pins σ H s → t D σ H Nx →
    wpAny (model X.prog X.w) X.A (tailS elt gens scope pos d (.ref D) X.env) (fun _ s' => ∃ H', Inv X pins (L2.wipe σ ws) H' s' ∧ Nx H') (fun _ _ => False) s
section
variable {X : Cx} {d : Nat}
def tEnd {α : Type} (Z : SAcc α) (te : TE) : TTl := fun D σ H Nx => te σ H fun y H4 => ∃ a a', H4 D = some (Z.obj D a) ∧ Z.can y H4 a a' ∧ Nx (upd H4 D (Z.obj D a'))
theorem ptl_end {α : Type} {Z : SAcc α} {te : TE} (hx : X.xe = fun _ _ => False) (hz : Z.Ok X) (hg : gens[d + 1]? = none) (he : PE X elt te) : PTl X elt gens scope pos d [] (tEnd Z te) := by
  refine ⟨fun pins s σ H D Nx I h => ?_⟩
  unfold tailS
  rw [hg]
  have r := he.run pins s σ H _ I h
  rw [hx] at r
  refine wpAny_bind (thnF r fun u s1 ⟨y, H1, I1, r1, a, a', e, c, nx⟩ => ?_)
  refine wpAny_bind (wpAny_standAt (wpAny_bind (hz pins σ H1 s1 D a a' y u _ _ I1 e r1 c fun s2 I2 => wpAny_pure ⟨_, I2, nx⟩)))
/-- how a clause is walked -/
def Walked (J : It) (g : TG) (tt : TT) (tl : TTl) (ws : List Nat) (D : Addr) (σ : L2.St) (H0 : Hp) (Nx : Hp → Prop) : Prop := ∃ W : Nat → Nat → Hp → Prop, (∃ m, W 0 m H0) ∧ ∀ i m H, W i m H →
  (J.stop i H ∧ Nx H) ∨ (J.go i H ∧ ∃ Nx1 : Hp → Prop, (∀ H', Nx1 H' → ∃ m', m' < m ∧ W (i + 1) m' H') ∧ ∀ x H', J.yld i H x H' → g x (L2.wipe σ ws) H' fun σ2 H2 => L2.wipe σ2 ws = L2.wipe σ ws ∧ tt σ2 H2 fun b H3 =>
    if b = true then tl D σ2 H3 Nx1 else Nx1 H3)
theorem loop_run {tg i0 : Expr} {ifs : List Expr} {g : TG} {tt : TT} {tl : TTl} {ws ws2 : List Nat} (hx : X.xe = fun _ _ => False) (hc : X.calm = true) (hcl : gens[d]? = some ⟨tg, i0, ifs, 0⟩) (ha : ∀ g ∈ gens, g.is_async = 0) (hg : PG X tg g) (ht : PTs X ifs tt) (htl : PTl X elt gens scope pos d ws2 tl) (hsub : ∀ i ∈ ws2, i ∈ ws)
    {pins : List (Addr × Obj)} {s : Shared} {σ : L2.St} {H : Hp} {D it : Addr} {fp : List Addr} {tn : Nat → Heap → Prop} {J : It} {Nx : Hp → Prop} (I : Inv X pins σ H s) (T : Turn X.prog X.w X.K tg J fp it tn) (st : tn 0 s.heap) (hf : ∀ b ∈ fp, FpOk X pins H b) (hW : Walked J g tt tl ws D σ H Nx) :
    codeAny (model X.prog X.w) X.A (.compLoop (.SetComp elt gens scope pos) d (.ref it) (.ref D) X.env) (fun r s' => match r with
      | .ok _ => ∃ H', Inv X pins (L2.wipe σ ws) H' s' ∧ Nx H'
      | .error _ => False) s := by
  obtain ⟨W, ⟨m0, w0⟩, turn⟩ := hW
  have weak : ∀ {σ' : L2.St} {pins' : List (Addr × Obj)} {H' : Hp} {s' : Shared}, L2.wipe σ' ws = L2.wipe σ ws → Inv X pins' (L2.wipe σ' ws2) H' s' → Inv X pins' (L2.wipe σ ws) H' s' := fun e J' =>
    J'.weak (by rw [← e, L2.wipe_length, L2.wipe_length]) fun j v q => by
      rw [← e] at q
      obtain ⟨q1, q2⟩ := wipe_some q
      rw [wipe_out fun z => q2 (hsub j z)]
      exact q1
  have still : ∀ {H' : Hp}, (∀ b ∈ fp, H' b = none) → ∀ b ∈ fp, FpOk X pins H' b := fun n b hb => ⟨n b hb, (hf b hb).2⟩
  have nof : ∀ {α : Type} {t : Sem α} {Q : α → Shared → Prop} {u : Shared}, wpAny (model X.prog X.w) X.A t Q X.xe u → wpAny (model X.prog X.w) X.A t Q (fun _ _ => False) u := fun h => by
    rw [hx] at h
    exact h
  refine loopS_any hcl ha (fun n s' => ∃ i H', Inv X pins (L2.wipe σ ws) H' s' ∧ tn i s'.heap ∧ (∀ b ∈ fp, H' b = none) ∧ W i n H') ?_ m0
    ⟨0, H, I.weak (L2.wipe_length _ _) fun j v e => (wipe_some e).1, st, fun b hb => (hf b hb).1, w0⟩
  rintro n s1 ⟨i, H1, I1, st1, n1, w1⟩
  rcases turn i n H1 w1 with ⟨stop, nx⟩ | ⟨go, Nx1, hNx1, step⟩
  · refine thn (T.done X rfl rfl rfl hc i pins s1 _ H1 _ I1 (still n1) st1 stop) fun r s2 ⟨hr, I2⟩ => ?_
    subst hr
    exact ⟨H1, I2, nx⟩
  · refine thn (T.item X rfl rfl rfl hc i pins s1 _ H1 _ I1 (still n1) st1 go) fun r s2 ⟨u, hr, h2⟩ => ?_
    subst hr
    refine thn h2 fun _ s3 ⟨x, H3, I3, r3, y3, st3, n3⟩ => ?_
    refine thn (nof (hg.run _ s3 _ H3 x u _ (I3.pinned (still n3) (T.obj _ _ st3)) r3 (step x H3 y3))) fun _ s4 ⟨σ4, H4, I4, hw4, q4⟩ => ?_
    refine thn (nof (ht.run _ s4 σ4 H4 _ I4 q4)) fun b s5 ⟨H5, I5, q5⟩ => ?_
    have fin : ∀ {s' : Shared} {H' : Hp}, Inv X (pins ++ pinsAt fp s3.heap) (L2.wipe σ ws) H' s' → Nx1 H' → ∃ m, m < n ∧ ∃ i H', Inv X pins (L2.wipe σ ws) H' s' ∧ tn i s'.heap ∧ (∀ b ∈ fp, H' b = none) ∧ W i m H' := fun {s' H'} I' nx => by
      obtain ⟨m', hm, w'⟩ := hNx1 H' nx
      have pin' : ∀ b ∈ fp, ∀ o, s3.heap.get? b = some o → s'.heap.get? b = some o ∧ H' b = none := fun b hb o e =>
        ⟨(I'.pin (b, o) (List.mem_append_right _ (List.mem_append_right _ (mem_pinsAt hb e)))).1, (I'.pin (b, o) (List.mem_append_right _ (List.mem_append_right _ (mem_pinsAt hb e)))).2.1⟩
      refine ⟨m', hm, i + 1, H', I'.unpinned, T.keep _ _ _ st3 fun b hb o e => (pin' b hb o e).1, fun b hb => ?_, w'⟩
      obtain ⟨o, e, _⟩ := T.obj _ _ st3 b hb
      exact (pin' b hb o e).2
    refine ⟨fun eb => ?_, fun eb => ?_⟩
    · subst eb
      refine thn (htl.run _ s5 σ4 H5 D Nx1 I5 q5) fun _ s6 ⟨H6, I6, nx6⟩ => fin (weak hw4 I6) nx6
    · subst eb
      exact fin (I5.weak (by rw [← hw4, L2.wipe_length]) fun j v e => by rw [← hw4] at e; exact (wipe_some e).1) q5
def tForS (wi : TI) (g : TG) (tt : TT) (tl : TTl) (ws : List Nat) : TTl := fun D σ H Nx => wi σ H fun J H1 => Walked J g tt tl ws D σ H1 Nx
theorem ptl_for {tg i0 : Expr} {ifs : List Expr} {wi : TI} {g : TG} {tt : TT} {tl : TTl} {ws ws2 : List Nat} (hx : X.xe = fun _ _ => False) (hc : X.calm = true) (hcl : gens[d + 1]? = some ⟨tg, i0, ifs, 0⟩) (ha : ∀ g ∈ gens, g.is_async = 0) (hi : PI X tg i0 wi) (hg : PG X tg g) (ht : PTs X ifs tt) (htl : PTl X elt gens scope pos (d + 1) ws2 tl)
    (hsub : ∀ i ∈ ws2, i ∈ ws) (hs : ∀ x, foldedSetIterable i0 X.env x = pure x) : PTl X elt gens scope pos d ws (tForS wi g tt tl ws) := by
  refine ⟨fun pins s σ H D Nx I h => ?_⟩
  unfold tailS
  rw [hcl]
  have r := hi.run pins s σ H _ I h
  rw [hx] at r
  refine wpAny_bind (thnF r fun xv s1 h1 => wpAny_bind (wpAny_standAt (wpAny_bind (wpAny_of_eq (hs xv) (wpAny_bind (wpAny_holding ?_))))))
  refine thnF h1 fun itv s2 ⟨it, fp, tn, J, H2, e, I2, T, st2, f2, hW⟩ => ?_
  subst e
  have loop := loop_run hx hc hcl ha hg ht htl hsub I2 T st2 f2 hW
  refine wpAny_bind (wpAny_runOwn ?_)
  rw [Around.mark_none]
  refine codeAny_mono (startS_any hcl loop (T.self X.A 0 _ _ _ st2 loop)) fun r s' hr => ?_
  cases r with
  | ok f => exact wpAny_pure hr
  | error e => exact hr.elim
end
end
end VL

namespace VL
open PyProof.Rows PySem L2 PySem.Spec
section
variable {X : Cx}
/-- what is asked of {elt for ..}: at D the new set -/
def tSets {α : Type} (Z : SAcc α) (ini : α) (wi : TI) (g : TG) (tt : TT) (tl : TTl) (vs : List Nat) : TE := fun σ H Q => wi σ H fun J H1 => ∀ D, H1 D = none → Walked J g tt tl vs D (L2.wipe σ vs) (upd H1 D (Z.obj D ini)) fun H' => Q (.ref D) H'
theorem pe_sets {α : Type} {Z : SAcc α} {ini : α} {elt tg iter : Expr} {ifs : List Expr} {rest : List Comprehension} {scope : Scope} {own : List (Str × Nat)} {ws2 : List Nat} {pos : Pos} {wi : TI} {g : TG} {tt : TT} {tl : TTl} (hc : X.calm = true) (hN : X.N.Nodup) (hi : PI X tg iter wi) (ok : BlkOk X.N X.env.scope scope own)
    (hnew : ∀ (H : Hp) (h : Heap) (a : Addr), h.get? a = some { cls := .type "set", dict := none, data := .set #[] 0 (.fresh 0 0 (!X.w.params.followText "set-order")) } → ObjOk X.prog X.w H h a (Z.obj a ini))
    (hg : ∀ (s : Shared) (H : Hp) (C : Addr) (cl : List (Str × Addr)) (fp : List Addr), PG (X.blk s H scope (compEnvC scope cl C X.env) fp) tg g)
    (ht : ∀ (s : Shared) (H : Hp) (C : Addr) (cl : List (Str × Addr)) (fp : List Addr), PTs (X.blk s H scope (compEnvC scope cl C X.env) fp) ifs tt)
    (htl : ∀ (s : Shared) (H : Hp) (C : Addr) (cl : List (Str × Addr)) (fp : List Addr), PTl (X.blk s H scope (compEnvC scope cl C X.env) fp) elt (⟨tg, iter, ifs, 0⟩ :: rest) scope pos 0 ws2 tl) (hsub : ∀ i ∈ ws2, i ∈ own.map (·.2)) (ha : ∀ g ∈ rest, g.is_async = 0)
    (hs : ∀ x, foldedSetIterable iter X.env x = pure x := by intro _; rfl) : PE X (.SetComp elt (⟨tg, iter, ifs, 0⟩ :: rest) scope pos) (tSets Z ini wi g tt tl (own.map (·.2))) := by
  refine ⟨fun pins s σ H Q I h => ?_⟩
  rw [PpSet.eval_SetComp]
  have fr : ∀ y ∈ scope.names, y.2 = .free → ∃ c, X.env.cells.lookup y.1 = some c := fun y hy e => (ok.free y hy e).elim (fun k => I.ok.has _ (.inl k)) fun k => I.ok.has _ (.inr k)
  refine wpAny_comprehension_free rfl hs (closure_ok fr) ok.kind (fun y hy e => by rw [ok.uniq y hy, e]) (thn (hi.run pins s σ H _ I h) fun _ _ hx => thn hx fun _ s2 ⟨it, fp, tn, J, H2, e, I2, T, st2, f2, q⟩ => ?_)
  subst e
  refine PpSet.newSet_ok (newEnv_comp ?_)
  generalize eD : s2.heap.objs.size = D
  have q := q D (I2.hok.fresh (Nat.le_of_eq eD))
  generalize e3 : ({ s2 with heap := s2.heap.push { cls := .type "set", dict := none, data := .set #[] 0 (.fresh 0 0 (!X.w.params.followText "set-order")) } } : Shared) = s3
  have p3 : s3.heap = s2.heap.push { cls := .type "set", dict := none, data := .set #[] 0 (.fresh 0 0 (!X.w.params.followText "set-order")) } := by rw [← e3]
  have I3 : Inv X pins σ (upd H2 D (Z.obj D ini)) s3 := by
    rw [← e3, ← eD]
    exact I2.laid (t' := s2.toks) (fun b o e => Heap.get?_push_of_some _ e) (Nat.le_refl _) (hnew _ _ _ (Heap.get?_push_size _ rfl))
  have few : ∀ b ∈ fp, b < s2.heap.objs.size := fun b hb => let ⟨o, e, _⟩ := T.obj _ _ st2 b hb; Heap.lt_size e
  generalize e4 : upd H2 D (Z.obj D ini) = H3 at I3 q
  have f3 : ∀ b ∈ fp, FpOk X pins H3 b ∧ b < s3.heap.objs.size := fun b hb => by
    have l : b < s2.heap.objs.size := few b hb
    have nbD : b ≠ D := by rw [← eD]; exact Nat.ne_of_lt l
    have n : H3 b = none := by rw [← e4, upd_ne nbD]; exact (f2 b hb).1
    exact ⟨⟨n, (f2 b hb).2⟩, by rw [p3, Heap.size_push]; exact Nat.lt_succ_of_lt l⟩
  have st3 : tn 0 s3.heap := T.keep _ _ _ st2 fun b _ o e => by rw [p3]; exact Heap.get?_push_of_some _ e
  have I4 := block_start I3 ok hN f3
  have pg := hg s3 H3 s3.heap.objs.size (cellsFrom (s3.heap.objs.size + 1) scope.names (cloFrom X.env.cells scope.names [])) fp
  have pt := ht s3 H3 s3.heap.objs.size (cellsFrom (s3.heap.objs.size + 1) scope.names (cloFrom X.env.cells scope.names [])) fp
  have pl := htl s3 H3 s3.heap.objs.size (cellsFrom (s3.heap.objs.size + 1) scope.names (cloFrom X.env.cells scope.names [])) fp
  show codeAny _ _ (.compStart (.SetComp elt (⟨tg, iter, ifs, 0⟩ :: rest) scope pos) 0 (.ref it) (.ref D) (compEnvC scope (cellsFrom (s3.heap.objs.size + 1) scope.names (cloFrom X.env.cells scope.names [])) s3.heap.objs.size X.env)) _ { s3 with heap := pushCells (s3.heap.push { cls := .type "dict", data := .dict #[] }) scope.names }
  generalize ec : compEnvC scope (cellsFrom (s3.heap.objs.size + 1) scope.names (cloFrom X.env.cells scope.names [])) s3.heap.objs.size X.env = ce at I4 pg pt pl ⊢
  have cL : ce.locals = s3.heap.objs.size := by subst ec; rfl
  generalize e5 : ({ s3 with heap := pushCells (s3.heap.push { cls := .type "dict", data := .dict #[] }) scope.names } : Shared) = s4 at I4 ⊢
  have st4 : tn 0 s4.heap := T.keep _ _ _ st3 fun b _ o e => by rw [← e5]; exact pushCells_keeps _ _ _ _ (Heap.get?_push_of_some _ e)
  have ff : ∀ b ∈ fp, FpOk (X.blk s3 H3 scope ce fp) [] H3 b := fun b hb =>
    ⟨(f3 b hb).1.1, (I4.ok.exf b hb).1, I4.ok.exfs b hb, .inl hb, fun x c e => (I4.ok.exf b hb).2 x c e, fun p hp => nomatch (show p ∈ ([] : List (Addr × Obj)) from hp)⟩
  have hall : ∀ g ∈ (⟨tg, iter, ifs, 0⟩ : Comprehension) :: rest, g.is_async = 0 := fun g hg => (List.mem_cons.mp hg).elim (fun e => by rw [e]) (ha g)
  have lp := loop_run (X := X.blk s3 H3 scope ce fp) (d := 0) rfl hc rfl hall pg pt pl hsub I4 T st4 ff q
  have loop : codeAny (model X.prog X.w) X.A (.compLoop (.SetComp elt (⟨tg, iter, ifs, 0⟩ :: rest) scope pos) 0 (.ref it) (.ref D) ce) (compPost (model X.prog X.w) X.A X.xe none (EP X pins σ Q) (.ref D) s3.heap.objs.size) s4 := by
    refine codeAny_mono lp fun r s6 hr => ?_
    cases r with
    | error e => exact hr.elim
    | ok f =>
      obtain ⟨H6, I6, q6⟩ := hr
      have I7 : Inv X pins σ H6 s6 := I3.call' (ch := fp) I6.os I6.base I6.hok I6.bare fun b hb => ⟨(f3 b hb).1.2.2.2.1, (f3 b hb).1.2.1, (f3 b hb).1.2.2.2.2.1, (f3 b hb).1.2.2.2.2.2⟩
      obtain ⟨m, hn, _⟩ := I6.loc
      have hn : s6.heap.Ns ce.locals m := hn
      have nC : H6 ce.locals = none := I6.free
      rw [cL] at hn nC
      obtain ⟨g0, g1, g2, g3, g4, g5⟩ := I3.fpOk (Nat.le_refl _) nC
      exact ⟨m, hn, fun h'' sb => ⟨.ref D, H6, I7.turned (t' := s6.toks) (fun b o hb e => (sb.2 b hb).trans e) g0 g1 g3 g4 g5, rfl, q6⟩⟩
  exact PpSet.codeAny_compStart_set loop (T.self X.A 0 _ _ _ st4 loop)
end
end VL

namespace VL
open PyProof.Rows PySem L2 PySem.Spec
/-! ### the heap without one address -/
theorem delH_upd {H : Hp} {a : Addr} {u : HO} : delH (upd H a u) a = delH H a := by
  funext b
  by_cases e : b = a
  · rw [e, delH_same, delH_same]
  · rw [delH_ne e, delH_ne e, upd_ne e]
theorem delH_none {H : Hp} {a : Addr} (h : H a = none) : delH H a = H := by
  funext b
  by_cases e : b = a
  · rw [e, delH_same, h]
  · rw [delH_ne e]
theorem le_off {H H' : Hp} {F F' : Fro} {D : Addr} (l : Le H F H' F') (n : ¬ F' D) : Le (delH H D) F (delH H' D) F' := by
  refine ⟨fun a o e => ?_, l.sub, fun a f => ?_, fun a f => ?_⟩
  · have na : a ≠ D := fun z => by rw [z, delH_same] at e; cases e
    rw [delH_ne na] at e ⊢
    exact l.keep a o e
  · rcases l.new a f with z | z
    · exact .inl z
    · refine .inr ?_
      unfold delH
      split
      · rfl
      · exact z
  · have na : a ≠ D := fun z => n (z ▸ f)
    rw [delH_ne na]
    exact l.the a f
theorem le_in {H : Hp} {F : Fro} {D : Addr} (t : The F (delH H D)) : Le (delH H D) F H F :=
  ⟨fun a o e => by
    have na : a ≠ D := fun z => by rw [z, delH_same] at e; cases e
    rw [delH_ne na] at e
    exact e, fun _ h => h, fun _ h => .inl h, fun a f z => t a f (by
      unfold delH
      split
      · rfl
      · exact z)⟩
theorem kp_off {H : Hp} {F : Fro} {D : Addr} {φ : Heap → Prop} (h : H D = some (.ext φ)) (n : ¬ F D) : Kp F H (delH H D) := fun a o e z => by
  by_cases na : a = D
  · subst na
    rw [h] at e
    cases e
    rcases z with z | z
    · exact absurd z n
    · exact absurd trivial z
  · rw [delH_ne na]
    exact e
theorem rel_off {G : VG} {σ : L2.St} {H : Hp} {ρ : Lo} {F : Fro} {D : Addr} {φ : Heap → Prop} (r : Rel G σ H ρ F) (h : H D = some (.ext φ)) (n : ¬ F D) (n0 : G.H0 D = none) : Rel G σ (delH H D) ρ F := by
  refine ⟨r.len, fun i x s h1 h2 => ?_, r.apart, ?_⟩
  · have q := r.sl i x s h1 h2
    cases s with
    | no => trivial
    | sh d =>
      obtain ⟨v, e, z⟩ := q
      exact ⟨v, e, z.mono (kp_off h n) fun _ z => z⟩
    | ow d =>
      obtain ⟨a, e, n1, nf, o⟩ := q
      have na : a ≠ D := fun z => by
        subst z
        cases o with
        | lst e1 _ => rw [h] at e1; cases e1
        | dic e1 _ => rw [h] at e1; cases e1
      exact ⟨a, e, n1, nf, o.mono (kp_off h n) (fun _ z => z) fun u e2 => by rw [delH_ne na]; exact e2⟩
  · have l := le_off r.le n
    rw [delH_none n0] at l
    exact l
theorem rel_in {G : VG} {σ : L2.St} {H : Hp} {ρ : Lo} {F : Fro} {D : Addr} (r : Rel G σ (delH H D) ρ F) : Rel G σ H ρ F := r.step (le_in r.le.the)
/-! ### members by deep values -/
structure DAcc (K : PySem.W.Frag) (α β : Type) extends SAcc α where
  ext : ∀ D a, ∃ φ, obj D a = .ext φ
  rep : Hp → α → β → Prop
  mono : ∀ {F : Fro} {H H' : Hp} {a : α} {b : β}, Kp F H H' → rep H a b → rep H' a b
  step : β → D → Option β
  stp : ∀ {H : Hp} {F : Fro} {v : V} {d : D} {a : α} {b b' : β}, Sh K H F v d → rep H a b → step b d = some b' → ∃ a', can v H a a' ∧ rep H a' b'
def stepsD {β : Type} (step : β → D → Option β) : β → List D → Option β
  | b, [] => some b
  | b, d :: ds => (step b d).bind fun b' => stepsD step b' ds
theorem stepsD_app {β : Type} {step : β → D → Option β} : ∀ (xs ys : List D) (b : β), stepsD step b (xs ++ ys) = (stepsD step b xs).bind fun b' => stepsD step b' ys
  | [], _, _ => rfl
  | x :: xs, ys, b => by
    show (step b x).bind (fun b' => stepsD step b' (xs ++ ys)) = ((step b x).bind fun b' => stepsD step b' xs).bind fun b' => stepsD step b' ys
    cases step b x with
    | none => rfl
    | some b' => exact stepsD_app xs ys b'
section
variable {X : Cx} {G : VG} {k : Nat} {α β : Type} {elt : Expr} {gens : List Comprehension} {scope : Scope} {pos : Pos} {d : Nat}
def tTl (G : VG) (Z : DAcc G.K α β) (f : Lo → R (List D)) : TTl := fun D σ H Nx => ∃ ρ F a b es b', Rel G σ H ρ F ∧ ¬ F D ∧ G.H0 D = none ∧ H D = some (Z.obj D a) ∧ Z.rep H a b ∧ f ρ = .ok es ∧ stepsD Z.step b es = some b' ∧
  ∀ H' F' a', Le (delH H D) F (delH H' D) F' → ¬ F' D → H' D = some (Z.obj D a') → Z.rep H' a' b' → Nx H'
structure VTl (X : Cx) (G : VG) (Z : DAcc G.K α β) (elt : Expr) (gens : List Comprehension) (scope : Scope) (pos : Pos) (d : Nat) (ws : List Nat) (f : Lo → R (List D)) : Prop where
  tl : PTl X elt gens scope pos d ws (tTl G Z f)
theorem ptl_imp {ws : List Nat} {t t' : TTl} (h : PTl X elt gens scope pos d ws t) (i : ∀ D σ H Nx, t' D σ H Nx → t D σ H Nx) : PTl X elt gens scope pos d ws t' := ⟨fun pins s σ H D Nx I q => h.run pins s σ H D Nx I (i D σ H Nx q)⟩
def oneD (fe : Lo → R D) : Lo → R (List D) := fun ρ => (fe ρ).bind fun d => .ok [d]
theorem vtl_end {Z : DAcc G.K α β} {fe : Lo → R D} (hx : X.xe = fun _ _ => False) (hz : Z.toSAcc.Ok X) (hg : gens[d + 1]? = none) (he : VE X G .sh elt fe) : VTl X G Z elt gens scope pos d [] (oneD fe) :=
  ⟨ptl_imp (ptl_end hx hz hg he.pe) fun D σ H Nx ⟨ρ, F, a, b, es, b', rl, nF, n0, hD, hr, hf, hst, fin⟩ => by
    refine ⟨ρ, F, rl, ?_⟩
    unfold oneD at hf
    cases e : fe ρ with
    | ok dd =>
      rw [e] at hf
      cases hf
      intro y H1 F1 l sy
      have hD1 := l.keep D _ hD
      have nF1 : ¬ F1 D := fun z => (l.new D z).elim nF fun q => by rw [hD] at q; cases q
      have hst : (Z.step b dd).bind (fun b' => some b') = some b' := hst
      cases q : Z.step b dd with
      | none => rw [q] at hst; cases hst
      | some b2 =>
        rw [q] at hst
        cases hst
        obtain ⟨a', c, r'⟩ := Z.stp (show Sh G.K H1 F1 y dd from sy) (Z.mono l.kp hr) q
        refine ⟨a, a', hD1, c, fin _ F1 a' ?_ nF1 upd_same ?_⟩
        · rw [delH_upd]
          exact le_off l nF1
        · obtain ⟨φ, eφ⟩ := Z.ext D a
          exact Z.mono (kp_own (u' := Z.obj D a') nF1 hD1 (by rw [eφ]; trivial)) r'
    | ex c fs => rw [e] at hf; cases hf
    | bad => rw [e] at hf; cases hf⟩
/-- the elements that a clause gives -/
def lcF (asg : D → Lo → R Lo) (tst : Lo → R Bool) (tl : Lo → R (List D)) (ρ0 : Lo) : List D → R (List D)
  | [] => .ok []
  | d :: ds => match asg d ρ0 with
    | .ok ρ1 => match tst ρ1 with
      | .ok true => match tl ρ1 with
        | .ok e => (lcF asg tst tl ρ0 ds).bind fun es => .ok (e ++ es)
        | _ => .bad
      | .ok false => lcF asg tst tl ρ0 ds
      | _ => .bad
    | _ => .bad
def forD (it : Lo → R (List D)) (asg : D → Lo → R Lo) (tst : Lo → R Bool) (tl : Lo → R (List D)) (vs : List Nat) : Lo → R (List D) := fun ρ => (it ρ).bind fun ds => lcF asg tst tl (wipeL ρ vs) ds
theorem wipeL_get {ρ : Lo} {i : Nat} : ∀ vs : List Nat, (wipeL ρ vs)[i]? = if i ∈ vs then ρ[i]?.map (fun _ => .no) else ρ[i]?
  | [] => by simp [wipeL]
  | v :: vs => by
    unfold wipeL
    rw [List.getElem?_set, wipeL_get vs]
    by_cases e : v = i
    · subst e
      rw [if_pos rfl, if_pos List.mem_cons_self]
      have hl : (wipeL ρ vs).length = ρ.length := by
        clear wipeL_get
        induction vs with
        | nil => rfl
        | cons u us ih => unfold wipeL; rw [List.length_set, ih]
      rw [hl]
      by_cases z : v < ρ.length
      · rw [if_pos z, List.getElem?_eq_getElem z]; rfl
      · rw [if_neg z, List.getElem?_eq_none (by omega)]; rfl
    · rw [if_neg e]
      by_cases m : i ∈ vs
      · rw [if_pos m, if_pos (List.mem_cons_of_mem _ m)]
      · rw [if_neg m, if_neg fun z => (List.mem_cons.mp z).elim (fun q => e q.symm) m]
theorem wipeL_idem {ρ : Lo} {vs : List Nat} : wipeL (wipeL ρ vs) vs = wipeL ρ vs := by
  apply List.ext_getElem?
  intro i
  rw [wipeL_get, wipeL_get]
  split
  · cases ρ[i]? <;> rfl
  · rfl
theorem walked_of {Z : DAcc G.K α β} {J : It} {asg : D → Lo → R Lo} {tst : Lo → R Bool} {f2 : Lo → R (List D)} {ws vs : List Nat} {ρ : Lo} {F1 : Fro} {σ : L2.St} {H1 : Hp} {ds es : List D} {D : Addr} {a : α} {b b' : β} {Nx : Hp → Prop} (hw : ∀ i ∈ ws, i ∈ vs)
    (rl : Rel G σ H1 ρ F1) (wk : Wk G J ds H1 F1) (nF : ¬ F1 D) (n0 : G.H0 D = none) (hD : H1 D = some (Z.obj D a)) (hr : Z.rep H1 a b) (hf : lcF asg tst f2 (wipeL ρ vs) ds = .ok es) (hst : stepsD Z.step b es = some b')
    (fin : ∀ H' F' a', Le (delH H1 D) F1 (delH H' D) F' → ¬ F' D → H' D = some (Z.obj D a') → Z.rep H' a' b' → Nx H') :
    Walked J (fun v σ H Q => ∃ ρ F d, Rel G σ H ρ F ∧ Sh G.K H F v d ∧ match asg d ρ with
      | .ok ρ' => ∀ σ', Rel G σ' H ρ' F → σ'.length = σ.length → (∀ i, i ∉ ws → σ'[i]? = σ[i]?) → Q σ' H
      | _ => False) (tT G tst) (tTl G Z f2) vs D σ H1 Nx := by
  have off : ∀ {H : Hp} {x : α}, H D = some (Z.obj D x) → ∃ φ, H D = some (.ext φ) := fun {H x} e => by
    obtain ⟨φ, eφ⟩ := Z.ext D x
    exact ⟨φ, by rw [e, eφ]⟩
  obtain ⟨φ1, hφ1⟩ := off hD
  have rl0 := rel_off rl hφ1 nF n0
  refine ⟨fun i n H2 => n = ds.length - i ∧ i ≤ ds.length ∧ ∃ F2 a2 b2 rest, Le (delH H1 D) F1 (delH H2 D) F2 ∧ ¬ F2 D ∧ H2 D = some (Z.obj D a2) ∧ Z.rep H2 a2 b2 ∧ lcF asg tst f2 (wipeL ρ vs) (ds.drop i) = .ok rest ∧ stepsD Z.step b2 rest = some b',
    ⟨_, rfl, Nat.zero_le _, F1, a, b, es, Le.refl rl0.le.the, nF, hD, hr, hf, hst⟩, ?_⟩
  rintro i n H2 ⟨rfl, hi, F2, a2, b2, rest, l2, nF2, hD2, r2, hr2, hs2⟩
  have kp : Kp F1 H1 H2 := fun x o e z => by
    by_cases na : x = D
    · subst na
      rw [hφ1] at e
      cases e
      rcases z with z | z
      · exact absurd z nF
      · exact absurd trivial z
    · have q := l2.keep x o (by rw [delH_ne na]; exact e)
      rw [delH_ne na] at q
      exact q
  have rl2 : Rel G σ H2 ρ F2 := rel_in (rl0.step l2)
  have pres : ∀ {H H' : Hp} {F F' : Fro} {x : α}, H D = some (Z.obj D x) → ¬ F D → Le H F H' F' → H' D = some (Z.obj D x) ∧ ¬ F' D := fun {H H' F F' x} h n l =>
    ⟨l.keep D _ h, fun z => (l.new D z).elim n fun q => by rw [h] at q; cases q⟩
  by_cases hlt : i < ds.length
  · refine .inr ⟨wk.goes i H2 hlt kp, fun H' => ∃ F2 a2 b2 rest, Le (delH H1 D) F1 (delH H' D) F2 ∧ ¬ F2 D ∧ H' D = some (Z.obj D a2) ∧ Z.rep H' a2 b2 ∧ lcF asg tst f2 (wipeL ρ vs) (ds.drop (i + 1)) = .ok rest ∧ stepsD Z.step b2 rest = some b',
      fun H' q => ⟨_, Nat.sub_lt_sub_left hlt (Nat.lt_succ_self i), rfl, hlt, q⟩, fun v H3 hy => ?_⟩
    obtain ⟨d, F3, ed, l3, sd⟩ := wk.yields i H2 F2 v H3 hlt kp l2.sub rl2.le.the hy
    obtain ⟨hD3, nF3⟩ := pres hD2 nF2 l3
    rw [drop_get ed] at hr2
    refine ⟨wipeL ρ vs, F3, d, (rl2.step l3).wipe vs, sd, ?_⟩
    unfold lcF at hr2
    cases ea : asg d (wipeL ρ vs) with
    | ok ρ1 =>
      rw [ea] at hr2
      dsimp only at hr2
      intro σ2 rl4 hl4 hk4
      refine ⟨(wipe_same hw hl4 hk4).trans (wipe_wipe _ _), ρ1, F3, rl4, ?_⟩
      cases et : tst ρ1 with
      | ok t =>
        rw [et] at hr2
        intro bb H4 F4 l4 eb
        subst eb
        obtain ⟨hD4, nF4⟩ := pres hD3 nF3 l4
        have l24 := l2.trans (le_off (l3.trans l4) nF4)
        have r4 := Z.mono (l3.trans l4).kp r2
        cases bb with
        | false => exact ⟨F4, a2, b2, rest, l24, nF4, hD4, r4, hr2, hs2⟩
        | true =>
          rw [if_pos rfl]
          dsimp only at hr2
          cases ee : f2 ρ1 with
          | ok es1 =>
            rw [ee] at hr2
            dsimp only at hr2
            obtain ⟨rest', e1, e2⟩ : ∃ rest', lcF asg tst f2 (wipeL ρ vs) (ds.drop (i + 1)) = .ok rest' ∧ rest = es1 ++ rest' := by
              cases q : lcF asg tst f2 (wipeL ρ vs) (ds.drop (i + 1)) with
              | ok r' => rw [q] at hr2; cases hr2; exact ⟨r', rfl, rfl⟩
              | ex _ _ => rw [q] at hr2; cases hr2
              | bad => rw [q] at hr2; cases hr2
            subst e2
            rw [stepsD_app] at hs2
            cases q : stepsD Z.step b2 es1 with
            | none => rw [q] at hs2; cases hs2
            | some b3 =>
              rw [q] at hs2
              exact ⟨ρ1, F4, a2, b2, es1, b3, rl4.step l4, nF4, n0, hD4, r4, ee, q, fun H' F' a' l5 nF' hD' r' => ⟨F', a', b3, rest', l24.trans l5, nF', hD', r', e1, hs2⟩⟩
          | ex _ _ => rw [ee] at hr2; cases hr2
          | bad => rw [ee] at hr2; cases hr2
      | ex _ _ => rw [et] at hr2; cases hr2
      | bad => rw [et] at hr2; cases hr2
    | ex _ _ => rw [ea] at hr2; cases hr2
    | bad => rw [ea] at hr2; cases hr2
  · have e : i = ds.length := by omega
    subst e
    rw [List.drop_length] at hr2
    cases hr2
    cases hs2
    exact .inl ⟨wk.stops H2 kp, fin H2 F2 a2 l2 nF2 hD2 r2⟩
theorem vtl_for {Z : DAcc G.K α β} {tg i0 : Expr} {ifs : List Expr} {it : Lo → R (List D)} {asg : D → Lo → R Lo} {tst : Lo → R Bool} {f2 : Lo → R (List D)} {ws vs ws2 : List Nat} (hx : X.xe = fun _ _ => False) (hc : X.calm = true) (hcl : gens[d + 1]? = some ⟨tg, i0, ifs, 0⟩) (ha : ∀ g ∈ gens, g.is_async = 0)
    (hi : VI X G tg i0 it) (hg : VP X G tg ws asg) (ht : VTs X G ifs tst) (htl : VTl X G Z elt gens scope pos (d + 1) ws2 f2) (hw : ∀ i ∈ ws, i ∈ vs) (hsub : ∀ i ∈ ws2, i ∈ vs) (hs : ∀ x, foldedSetIterable i0 X.env x = pure x) :
    VTl X G Z elt gens scope pos d vs (forD it asg tst f2 vs) :=
  ⟨ptl_imp (ptl_for (ws := vs) hx hc hcl ha hi.pi hg.pg ht.pts htl.tl hsub hs) fun D σ H Nx ⟨ρ, F, a, b, es, b', rl, nF, n0, hD, hr, hf, hst, fin⟩ => by
    refine ⟨ρ, F, rl, ?_⟩
    unfold forD at hf
    cases e : it ρ with
    | ok ds =>
      rw [e] at hf
      intro J H1 F1 l wk
      have hD1 := l.keep D _ hD
      have nF1 : ¬ F1 D := fun z => (l.new D z).elim nF fun q => by rw [hD] at q; cases q
      exact walked_of hw (rl.step l) wk nF1 n0 hD1 (Z.mono l.kp hr) hf hst fun H' F' a' l2 => fin H' F' a' ((le_off l nF1).trans l2)
    | ex _ _ => rw [e] at hf; cases hf
    | bad => rw [e] at hf; cases hf⟩
end
end VL

namespace VL
open PyProof.Rows PySem L2 PySem.Spec PySem.Froz
/-! ### texts -/
def addX (l : List Str) (x : Str) : List Str := if x ∈ l then l else x :: l
def stepX (l : List Str) (d : D) : Option (List Str) := match d with
  | .str x => if decide (l.length + 1 < 4000) = true then some (addX l x) else none
  | _ => none
def zX (P : Program) (w : World) (K : PySem.W.Frag) : DAcc K (List Str) (List Str) where
  obj := SetXO P w
  can := fun y _ l l' => ∃ x, y = .str x ∧ l.length + 1 < 4000 ∧ l' = addX l x
  ext := fun D a => ⟨_, rfl⟩
  rep := fun _ a b => a = b
  mono := fun _ h => h
  step := stepX
  stp := fun {H F v d a b b'} s r e => by
    cases d with
    | str x =>
      cases s
      have e : (if decide (b.length + 1 < 4000) = true then some (addX b x) else none) = some b' := e
      by_cases z : decide (b.length + 1 < 4000) = true
      · rw [if_pos z] at e
        cases e
        exact ⟨addX b x, ⟨x, rfl, by rw [r]; exact of_decide_eq_true z, by rw [r]⟩, rfl⟩
      · rw [if_neg z] at e; cases e
    | _ => cases e
theorem zX_ok {X : Cx} {K : PySem.W.Frag} : (zX X.prog X.w K).toSAcc.Ok X := by
  intro pins σ H s D l l' y u Q E I hD ru ⟨x, ey, few, el⟩ h
  subst ey el
  obtain ⟨t, rfl⟩ := ru
  have R : SetX X.prog X.w s.heap D l := (I.hok D _ hD).1
  have ⟨DD, ho, _⟩ := R
  have hT : s.TypeIs (.ref D) "set" := ⟨_, ho, rfl⟩
  refine wpAny_call_entry F.slot_set_add hT F.entry_set_add ?_ (F.args_set_add_2 _ _)
  unfold Builtin.«set.add» Builtin.Frozenset.oneOther
  simp only [List.isEmpty_nil, bind_assoc]
  unfold Builtin.Frozenset.addrOf setAdd
  refine wpAny_bind (wpAny_pure ?_)
  try dsimp only
  refine wpAny_bind (wpAny_pure ?_)
  try dsimp only
  refine wpAny_bind (wpAny_holding (wpAny_bind ((strKind X.prog X.w).pyHash (is_str x t) ?_)))
  refine setX_add (s := { s with toks := s.toks + 1 }) R few fun h' sb r => ?_
  show wpAny _ _ (ret Value.none) _ _ _
  refine wpAny_pure ⟨_, rfl, h _ ?_⟩
  have ⟨D2, ho2, _⟩ := r
  exact I.write (e := D) (t' := s.toks + 1) (by rw [hD]; trivial) (.inl rfl) (fun b u hb hu => (sb.2 b hb).trans hu) ⟨_, ho2⟩ (setX_ok r)
theorem forD_noex {it : Lo → R (List D)} {asg : D → Lo → R Lo} {tst : Lo → R Bool} {tl : Lo → R (List D)} {ρ : Lo} {c : Str} {fs : List (Str × D)} : ∀ ds : List D, lcF asg tst tl ρ ds ≠ .ex c fs
  | [], z => by cases z
  | d :: ds, z => by
    unfold lcF at z
    split at z
    · split at z
      · split at z
        · cases q : lcF asg tst tl ρ ds with
          | ok es => rw [q] at z; cases z
          | ex c' fs' => exact forD_noex (it := it) ds q
          | bad => rw [q] at z; cases z
        · cases z
      · exact forD_noex (it := it) ds z
      · cases z
    · cases z
theorem wk_new {G : VG} {J : It} {ds : List D} {H1 : Hp} {F1 : Fro} {a : Addr} {u : HO} (wk : Wk G J ds H1 F1) (n : H1 a = none) : Wk G J ds (upd H1 a u) F1 := by
  have up : ∀ {H : Hp}, Kp F1 (upd H1 a u) H → Kp F1 H1 H := fun k b o e z => k b o (by rw [upd_ne (ne_of_none e n)]; exact e) z
  exact ⟨fun i H hi k => wk.goes i H hi (up k), fun H k => wk.stops H (up k), wk.few, fun i H F x H' hi k sb t y => wk.yields i H F x H' hi (up k) sb t y⟩
theorem Wk.nox {G : VG} {J : It} {ds : List D} {H1 : Hp} {F1 : Fro} (wk : Wk G J ds H1 F1) : Wk G.nox J ds H1 F1 := ⟨wk.goes, wk.stops, wk.few, wk.yields⟩
/-- the sorted list of the set of texts -/
def sortSetD (es : List D) : R D := match stepsD stepX [] es with
  | some l => if decide (l.length < 64) = true then .ok (.lst ((srtS l).map .str)) else .bad
  | none => .bad
def eSortSc (it : Lo → R (List D)) (asg : D → Lo → R Lo) (tst : Lo → R Bool) (f2 : Lo → R (List D)) (vs : List Nat) : Lo → R D := fun ρ => (forD it asg tst f2 vs ρ).bind sortSetD
section
variable {X : Cx} {G : VG} {k : Nat} {elt tg iter : Expr} {ifs : List Expr} {rest : List Comprehension} {scope : Scope} {own : List (Str × Nat)} {ws ws2 : List Nat} {pos p pos' : Pos} {it : Lo → R (List D)} {asg : D → Lo → R Lo} {tst : Lo → R Bool} {f2 : Lo → R (List D)}
theorem ve_sortSc (x : VX X G k) (hm : X.mg "sorted" = none) (hi : VI X G tg iter it) (ok : BlkOk X.N X.env.scope scope own) (hw : ∀ i ∈ ws, i ∈ own.map (·.2)) (hw2 : ∀ i ∈ ws2, i ∈ own.map (·.2)) (ha : ∀ g ∈ rest, g.is_async = 0)
    (hg : ∀ (s : Shared) (H : Hp) (C : Addr) (cl : List (Str × Addr)) (fp : List Addr), VX (X.blk s H scope (compEnvC scope cl C X.env) fp) G.nox k → VP (X.blk s H scope (compEnvC scope cl C X.env) fp) G.nox tg ws asg)
    (ht : ∀ (s : Shared) (H : Hp) (C : Addr) (cl : List (Str × Addr)) (fp : List Addr), VX (X.blk s H scope (compEnvC scope cl C X.env) fp) G.nox k → VTs (X.blk s H scope (compEnvC scope cl C X.env) fp) G.nox ifs tst)
    (hl : ∀ (s : Shared) (H : Hp) (C : Addr) (cl : List (Str × Addr)) (fp : List Addr), VX (X.blk s H scope (compEnvC scope cl C X.env) fp) G.nox k → VTl (X.blk s H scope (compEnvC scope cl C X.env) fp) G.nox (zX X.prog X.w G.K) elt (⟨tg, iter, ifs, 0⟩ :: rest) scope pos 0 ws2 f2)
    (hs : ∀ x, foldedSetIterable iter X.env x = pure x := by intro _; rfl) (hgl : Gl X "sorted" := by rfl)
    (hst : starEach [.SetComp elt (⟨tg, iter, ifs, 0⟩ :: rest) scope pos] X.env = (false, eval (.SetComp elt (⟨tg, iter, ifs, 0⟩ :: rest) scope pos) X.env) :: starEach [] X.env := by rfl) :
    VE X G .fr (.Call (.Name "sorted" p) [.SetComp elt (⟨tg, iter, ifs, 0⟩ :: rest) scope pos] [] pos') (eSortSc it asg tst f2 (own.map (·.2))) := by
  have sk := pe_sets (Z := (zX X.prog X.w G.K).toSAcc) (ini := []) x.calm x.nd hi.pi ok (fun H h a e => setX_ok (setX_new e)) (fun s H C cl fp => (hg s H C cl fp (x.blk ..)).pg) (fun s H C cl fp => (ht s H C cl fp (x.blk ..)).pts) (fun s H C cl fp => (hl s H C cl fp (x.blk ..)).tl) hw2 ha hs (elt := elt) (pos := pos)
  refine ⟨pe_imp (pe_callB (cr_srtX x.calm) hgl hm (by decide +kernel) (pa_cons sk pa_nil hst) (by decide) (by decide) hst rfl) fun σ H Q ⟨ρ, F, rl, o⟩ => ?_⟩
  have o : Out G σ H F ((it ρ).bind fun ds => (lcF asg tst f2 (wipeL ρ (own.map (·.2))) ds).bind sortSetD) (fun d v H' F' => Rp G.K .fr H H' F' v d) Q := by
    have e : eSortSc it asg tst f2 (own.map (·.2)) ρ = (it ρ).bind fun ds => (lcF asg tst f2 (wipeL ρ (own.map (·.2))) ds).bind sortSetD := by
      unfold eSortSc forD
      cases it ρ <;> rfl
    rw [← e]
    exact o
  refine ⟨ρ, F, rl, Out.bind (S' := fun d v H' F' => Rp G.K .fr H H' F' v d) o (fun _ _ _ _ _ _ _ h => h) fun ds J H1 F1 _ l wk kk => ?_⟩
  have o1 := kk (S'' := fun d v H' F' => Rp G.K .fr H1 H' F' v d) fun d v H' F' h => h.back l.keep
  intro D hD
  have nD : ¬ F1 D := fun z => l.the D z hD
  cases el : lcF asg tst f2 (wipeL ρ (own.map (·.2))) ds with
  | bad => rw [el] at o1; exact o1.elim
  | ex c fs => exact (forD_noex (it := it) ds el).elim
  | ok es =>
    rw [el] at o1
    have o1 : Out G σ H1 F1 (sortSetD es) (fun d v H' F' => Rp G.K .fr H1 H' F' v d) Q := o1
    unfold sortSetD at o1
    cases ek : stepsD stepX [] es with
    | none => rw [ek] at o1; exact o1.elim
    | some xs =>
      rw [ek] at o1
      dsimp only at o1
      by_cases hz : decide (xs.length < 64) = true
      · rw [if_pos hz] at o1
        have rl2 : Rel G (L2.wipe σ (own.map (·.2))) (upd H1 D ((zX X.prog X.w G.K).obj D [])) (wipeL ρ (own.map (·.2))) F1 := ((rl.step l).step (le_new l.the hD)).wipe _
        have wk2 : Wk G.nox J ds (upd H1 D ((zX X.prog X.w G.K).obj D [])) F1 := (wk_new (u := (zX X.prog X.w G.K).obj D []) wk hD).nox
        have n0 : G.H0 D = none := none_of_keep rl.le.keep (none_of_keep l.keep hD)
        refine walked_of (G := G.nox) (Z := zX X.prog X.w G.K) (a := ([] : List Str)) (b := ([] : List Str)) (vs := own.map (·.2)) (F1 := F1) (ρ := wipeL ρ (own.map (·.2))) (hw := hw) rl2.nox wk2 nD n0 upd_same rfl (by rw [wipeL_idem]; exact el) ek fun H' F' a' l2 nF' hD' r' => ?_
        have r' : a' = xs := r'
        subst r'
        rw [delH_new hD] at l2
        refine ⟨D, a', rfl, hD', of_decide_eq_true hz, fun q hq => ?_⟩
        have l3 : Le H1 F1 H' F' := l2.trans (le_in l2.the)
        have l4 : Le H' F' (upd H' q (.lst ((srtS a').map V.str))) F' := le_new l3.the hq
        have nq : ¬ F' q := fun z => l3.the q z hq
        exact o1 _ _ F' (l3.trans l4) (.inl ⟨q, rfl, none_of_keep l3.keep hq, nq, .lst upd_same (shl_strs _)⟩)
      · rw [if_neg hz] at o1; exact o1.elim
end
end VL

namespace VL
open PyProof.Rows PySem L2 PySem.Spec PySem.Froz
/-! ### set(xs), texts -/
def addsX (l : List Str) (xs : List Str) : List Str := xs.foldl addX l
theorem addsX_len : ∀ (xs l : List Str), (addsX l xs).length ≤ l.length + xs.length
  | [], l => Nat.le_refl _
  | x :: xs, l => by
    have h := addsX_len xs (addX l x)
    have h2 : (addX l x).length ≤ l.length + 1 := by
      unfold addX
      split
      · omega
      · simp
    show (addsX (addX l x) xs).length ≤ _
    simp only [List.length_cons]
    omega
section
variable {P : Program} {w : World} {A : Around} {E : Value → Shared → Prop} {s : Shared}
/-- the loop that puts them in -/
theorem loop_texts {I : Addr} {fp wr : List Addr} {n : Nat} {Pv : Nat → Value → Prop} {St : Nat → Shared → Prop} {R : Result → Shared → Prop}
    (W : WalksS P w A.in1 I fp wr (fun a b => b = a) n Pv St) {S : Addr} (hSf : S ∉ fp) {xs : List Str} (hn : n = xs.length) (hb : xs.length < 3999) (hval : ∀ i v, Pv i v → ∃ x t, xs[i]? = some x ∧ v = .str x t) :
    ∀ (k i : Nat) (s : Shared), n - i = k → i ≤ n → St i s → SetX P w s.heap S (addsX [] (xs.take i)) →
      (∀ s', Moved (S :: wr) (fun a b => b = a) s s' → SetX P w s'.heap S (addsX [] xs) → R (.ok (.ret .none)) s') → codeAny (model P w) A (.builtin "set.update.loop" ⟨[.ref S, .ref I], []⟩) R s := by
  have hSw : S ∉ wr := fun h => hSf (W.sub _ h)
  have up : ∀ b ∈ wr, b ∈ S :: wr := fun b hb => List.mem_cons_of_mem _ hb
  intro k
  induction k with
  | zero =>
    intro i s hk hi st hS hR
    obtain rfl : i = n := by omega
    refine codeAny_builtin F.entry_set_update_loop ?_
    rw [Around.under_plainId F.plain_set_update_loop _]
    show wpAny _ A.in1 (pyNext (.ref I) >>= _) _ _ s
    refine wpAny_bind (W.done s _ _ st fun s' hm => ?_)
    rw [List.take_of_length_le (by omega)] at hS
    exact wpAny_pure (hR s' (hm.mono up) (hS.at fun o e => hm.heap S o hSw e))
  | succ k ih =>
    intro i s hk hi st hS hR
    have hlt : i < n := by omega
    refine codeAny_builtin F.entry_set_update_loop ?_
    rw [Around.under_plainId F.plain_set_update_loop _]
    show wpAny _ A.in1 (pyNext (.ref I) >>= _) _ _ s
    refine wpAny_bind (W.item i s _ _ hlt st fun v s' hP st' hm => ?_)
    obtain ⟨x, t, hx, rfl⟩ := hval i v hP
    have hS' : SetX P w s'.heap S (addsX [] (xs.take i)) := hS.at fun o e => hm.heap S o hSw e
    show wpAny _ A.in1 (holding [Value.str x t] (setAdd S (.str x t)) >>= _) _ _ s'
    refine wpAny_bind (wpAny_holding ?_)
    unfold setAdd
    refine wpAny_holding (wpAny_bind ((strKind P w).pyHash (is_str x t) ?_))
    refine setX_add (s := { s' with toks := s'.toks + 1 }) hS' ?_ fun h' hsb hS2 => ?_
    · have q := addsX_len (xs.take i) []
      rw [List.length_take] at q
      simp only [List.length_nil] at q
      omega
    have hS3 : SetX P w h' S (addsX [] (xs.take (i + 1))) := by
      have e : addsX [] (xs.take (i + 1)) = if x ∈ addsX [] (xs.take i) then addsX [] (xs.take i) else x :: addsX [] (xs.take i) := by
        rw [List.take_add_one, hx]
        unfold addsX
        rw [List.foldl_append]
        rfl
      rw [e]
      exact hS2
    refine wpAny_pure ⟨plainId_quiet F.plain_set_update_loop _, ih (i + 1) _ (by omega) hlt (W.frame _ s' _ _ st' (Nat.le_succ _) fun b hb o e => (hsb.2 b fun h => hSf (h ▸ hb)).trans e) hS3 fun s'' hm'' hS'' => ?_⟩
    exact hR s'' (Moved.trans W.gtrans ((hm.mono up).then_heap (Nat.le_succ _) fun b o hb e => (hsb.2 b fun h => hb (by rw [h]; exact List.mem_cons_self)).trans e) hm'') hS''
theorem strs_get : ∀ {us : List Value} {xs : List Str} {i : Nat} {v : Value}, StrsAre us xs → us[i]? = some v → ∃ x t, xs[i]? = some x ∧ v = .str x t
  | _, _, 0, _, .cons x t _, e => ⟨x, t, rfl, (Option.some.inj e).symm⟩
  | _, _, i + 1, _, .cons x t r, e => strs_get (i := i) r e
abbrev SET0 (w : World) : Obj := { cls := .type "set", dict := none, data := .set #[] 0 (.fresh 0 0 (!w.params.followText "set-order")) }
/-- set.__init__ of a list of texts -/
theorem init_texts {l : Addr} {items : Array Value} {xs : List Str} (hh : A.handled = none) (hl : s.heap.IsList l items) (hi : StrsAre items.toList xs) (hb : xs.length < 3999) {Q : Shared → Prop}
    (h : ∀ (h' : Heap) (tk : Nat), SetX P w h' s.heap.objs.size (addsX [] xs) → (∀ b o, s.heap.get? b = some o → h'.get? b = some o) → Q { s with heap := h', toks := tk }) :
    wpAny (model P w) A (Builtin.«set.__init__» ⟨[.ref s.heap.objs.size, .ref l], []⟩) (fun f s' => f = .done (.ret .none) ∧ Q s') E { s with heap := s.heap.push (SET0 w) } := by
  have hS : (s.heap.push (SET0 w)).get? s.heap.objs.size = some (SET0 w) := Heap.get?_push_size _ rfl
  have hT : Shared.TypeIs { s with heap := s.heap.push (SET0 w) } (.ref s.heap.objs.size) "set" := ⟨_, hS, rfl⟩
  obtain ⟨ol, hol, hcl, nl, hdl⟩ := hl
  obtain ⟨ocls, odict, odata, oslots⟩ := ol
  simp only at hcl hdl
  subst hcl; subst hdl
  have hol' : (s.heap.push (SET0 w)).get? l = some { cls := .type "list", dict := odict, data := .seq items nl, slots := oslots } := Heap.get?_push_of_some _ hol
  have hl1 : (s.heap.push (SET0 w)).IsList l items := ⟨_, hol', rfl, nl, rfl⟩
  have hls : l < s.heap.objs.size := Heap.lt_size hol
  have hsls := F.sub_list_set
  have hslf := F.sub_list_frozenset
  have hne : (Value.type "list" == Value.type "dict") = false := by decide
  unfold Builtin.«set.__init__» noKeywords Builtin.Frozenset.updateFrom
  generalize hPI : pyIter = PI
  wp_walk
  subst hPI
  refine wpAny_pyIter_list hl1 (wpAny_bind (wpAny_runValue ?_))
  have hz : (s.heap.push (SET0 w)).objs.size = s.heap.objs.size + 1 := Heap.size_push ..
  have hnl : l ≠ (s.heap.push (SET0 w)).objs.size := by rw [hz]; exact Nat.ne_of_lt (Nat.lt_succ_of_lt hls)
  have hlen : items.size = xs.length := by rw [← hi.length, Array.length_toList]
  refine loop_texts ((Walks.list (A := A.in1) hh _ l hnl items).toS) (S := s.heap.objs.size) (by
      rw [hz]
      simp only [List.mem_cons, List.not_mem_nil, or_false, not_or]
      exact ⟨Nat.ne_of_lt (Nat.lt_succ_self _), Nat.ne_of_gt hls⟩) hlen hb (fun i v hv => ?_) (items.size - 0) 0 _ (by omega) (Nat.zero_le _) ⟨⟨_, Heap.get?_push_size _ rfl, rfl, rfl⟩, hl1.push _⟩ ?_ ?_
  · have q : items.toList[i]? = some v := by rw [Array.getElem?_toList]; exact hv
    exact strs_get hi q
  · exact setX_new (Heap.get?_push_of_some _ hS)
  · intro s' hm hX
    obtain ⟨h', g', d', tk', os'⟩ := s'
    have eg : g' = s.gens := hm.gens
    have ed : d' = s.drawn := hm.drawn
    have eo : os' = s.os := hm.os
    subst eg ed eo
    show wpAny _ _ _ _ _ _
    refine wpAny_pure ?_
    show wpAny _ _ (ret Value.none) _ _ _
    refine wpAny_pure ⟨rfl, h h' tk' hX fun b o e => ?_⟩
    have hbl := Heap.lt_size e
    refine hm.heap b o ?_ (Heap.get?_push_of_some _ (Heap.get?_push_of_some _ e))
    simp only [List.mem_cons, List.not_mem_nil, or_false, not_or]
    exact ⟨Nat.ne_of_lt hbl, by rw [hz]; exact Nat.ne_of_lt (Nat.lt_succ_of_lt hbl)⟩
/-- set(xs) -/
theorem call_texts {l : Addr} {items : Array Value} {xs : List Str} {Q : Value → Shared → Prop} (hh : A.handled = none) (hl : s.heap.IsList l items) (hi : StrsAre items.toList xs) (hb : xs.length < 3999)
    (h : ∀ (h' : Heap) (tk : Nat), SetX P w h' s.heap.objs.size (addsX [] xs) → (∀ b o, s.heap.get? b = some o → h'.get? b = some o) → Q (.ref s.heap.objs.size) { s with heap := h', toks := tk }) :
    wpAny (model P w) A (call (.type "set") [.ref l]) Q E s := by
  obtain ⟨c, tl, hmro⟩ := F.called_set.mro
  have hmade := F.called_set.made
  have hsub := F.called_set.sub
  refine wpAny_call (codeAny_of_tree ?_)
  show wpAny _ _ (callAny (.type "set") _) _ _ _
  refine wpAny_pure ⟨Code.quiet_builtin _ (by decide +kernel), codeAny_builtin F.entry_type_call ?_⟩
  rw [Around.under_plain (weight_type_call_type "set" [.ref l] []) rfl]
  have h1 := F.called_set.notType
  have h2 := F.called_set.canCreate
  have hct := F.typeCall_set_1 (.ref l)
  repeat (any_goals (first | assumption | wp_step))
  refine codeAny_mono (code_set_led1 (.ref l) (E := E) (Q₁ := fun obj s₁ => obj = .ref s.heap.objs.size ∧ s₁ = { s with heap := s.heap.push (SET0 w) }) ⟨rfl, rfl⟩) fun r s₁ hr => ?_
  cases r with
  | error e => exact hr
  | ok fl =>
    cases fl with
    | ret obj =>
      obtain ⟨rfl, rfl⟩ := hr
      have hT : Shared.TypeIs { s with heap := s.heap.push (SET0 w) } (.ref s.heap.objs.size) "set" := ⟨_, Heap.get?_push_size _ rfl, rfl⟩
      have hli := F.called_set.init.lookup
      have hbi := F.called_set.init.bind (.ref s.heap.objs.size)
      repeat (any_goals (first | assumption | wp_step))
      refine codeAny_mono (codeAny_call_builtin (R := wants (fun r s₂ => r = .none ∧ ∃ h' tk, s₂ = { s with heap := h', toks := tk } ∧ SetX P w h' s.heap.objs.size (addsX [] xs) ∧ ∀ b o, s.heap.get? b = some o → h'.get? b = some o) E)
        F.called_set.init.plain F.entry_set_init (check_set_init_1 hT (wpAny_mono (init_texts (Q := fun s₂ => ∃ h' tk, s₂ = { s with heap := h', toks := tk } ∧ SetX P w h' s.heap.objs.size (addsX [] xs) ∧ ∀ b o, s.heap.get? b = some o → h'.get? b = some o) (by simp [hh]) hl hi hb fun h' tk r k => ⟨h', tk, rfl, r, k⟩) (fun f s' ⟨ef, q⟩ => ?_) fun _ _ x => x))) fun r₂ s₂ hr₂ => ?_
      · subst ef
        exact ⟨rfl, q⟩
      · cases r₂ with
        | error e => exact hr₂
        | ok fl₂ =>
          cases fl₂ with
          | ret r =>
            obtain ⟨rfl, h', tk, rfl, hX, hk⟩ := hr₂
            repeat (any_goals (first | assumption | wp_step))
            exact h _ _ hX hk
          | _ => exact hr₂.elim
    | _ => exact hr.elim
end
section
variable {X : Cx}
def rSetX (K : PySem.W.Frag) (P : Program) (w : World) : List V → Hp → VK → Prop := fun vs H Q => ∃ (a : Addr) (xs : List Str), vs = [.ref a] ∧ SqL K H a (xs.map V.str) ∧ xs.length < 3999 ∧ ∀ p, H p = none → Q (.ref p) (upd H p (SetXO P w p (addsX [] xs)))
theorem cr_setX (hc : X.calm = true) : CallR X (.type "set") (rSetX X.K X.prog X.w) := by
  intro pins s σ H vs us Q I r ⟨a, xs, e, hs, hb, q⟩
  subst e
  obtain rfl := Vals.ref1 r
  obtain ⟨its, rv, hl, _⟩ := I.list hs
  refine call_texts (I.ok.hd hc) hl.isList rv.strs hb fun h' tk hX k => ?_
  have ⟨DD, ho, _⟩ := hX
  exact ⟨.ref s.heap.objs.size, upd H s.heap.objs.size (SetXO X.prog X.w s.heap.objs.size (addsX [] xs)), I.laid (t' := tk) k (Nat.le_refl _) (setX_ok hX), rfl, q _ (I.hok.fresh (Nat.le_refl _))⟩
end
section
variable {X : Cx} {G : VG} {k : Nat} {m1 : Md} {o : Expr} {fa : Lo → R D} {pos p p2 pos2 : Pos}
def opSortSet : D → Option D
  | .lst ds => (strsD ds).bind fun xs => if decide (xs.length < 3999 ∧ (addsX [] xs).length < 64) = true then some (.lst ((srtS (addsX [] xs)).map .str)) else none
  | _ => none
/-- sorted(set(xs)) -/
theorem ve_sortSet (x : VX X G k) (hm : X.mg "sorted" = none) (hm2 : X.mg "set" = none) (ha : VE X G m1 o fa) (hg : Gl X "sorted" := by rfl) (hg2 : Gl X "set" := by rfl) (he : starEach [o] X.env = (false, eval o X.env) :: starEach [] X.env := by rfl)
    (he2 : starEach [.Call (.Name "set" p2) [o] [] pos2] X.env = (false, eval (.Call (.Name "set" p2) [o] [] pos2) X.env) :: starEach [] X.env := by rfl) : VE X G .fr (.Call (.Name "sorted" p) [.Call (.Name "set" p2) [o] [] pos2] [] pos) (b1 fa opSortSet) := by
  refine ⟨pe_imp (pe_callB (cr_srtX x.calm) hg hm (by decide +kernel) (pa_cons (pe_callTy (cr_setX x.calm) hg2 hm2 (by decide +kernel) (pa_cons ha.pe pa_nil he) (by decide) (by decide) he rfl) pa_nil he2) (by decide) (by decide) he2 rfl) fun σ H Q h => ?_⟩
  have e : Op1 G .fr (fun y => fun H Q => ∃ (a : Addr) (xs : List Str), y = .ref a ∧ SqL G.K H a (xs.map V.str) ∧ xs.length < 3999 ∧ (addsX [] xs).length < 64 ∧ ∀ p, H p = none → ∀ q, upd H p (SetXO X.prog X.w p (addsX [] xs)) q = none → Q (.ref q) (upd (upd H p (SetXO X.prog X.w p (addsX [] xs))) q (.lst ((srtS (addsX [] xs)).map V.str)))) opSortSet := by
    intro H F y a Q t ra h
    cases a with
    | lst ds =>
      obtain ⟨p, xs, e, l, s⟩ := rb_lst ra
      subst e
      have h : Ans G .fr H F ((strsD ds).bind fun xs => if decide (xs.length < 3999 ∧ (addsX [] xs).length < 64) = true then some (.lst ((srtS (addsX [] xs)).map .str)) else none) Q := h
      cases q : strsD ds with
      | none => rw [q] at h; exact (ans_no h).elim
      | some zs =>
        rw [q] at h
        have h : Ans G .fr H F (if decide (zs.length < 3999 ∧ (addsX [] zs).length < 64) = true then some (.lst ((srtS (addsX [] zs)).map .str)) else none) Q := h
        by_cases hz : decide (zs.length < 3999 ∧ (addsX [] zs).length < 64) = true
        · rw [if_pos hz] at h
          obtain ⟨h1, h2⟩ := of_decide_eq_true hz
          refine ⟨p, zs, rfl, by rw [← (strs_sh s q).1]; exact l.sql, h1, h2, fun a ha q hq => ?_⟩
          obtain ⟨ez, eq, an⟩ := h
          cases eq
          have l1 : Le H F (upd H a (SetXO X.prog X.w a (addsX [] zs))) F := le_new t ha
          have l2 : Le (upd H a (SetXO X.prog X.w a (addsX [] zs))) F (upd (upd H a (SetXO X.prog X.w a (addsX [] zs))) q (.lst ((srtS (addsX [] zs)).map V.str))) F := le_new l1.the hq
          have nq : ¬ F q := fun z => l1.the q z hq
          exact an _ _ F (l1.trans l2) (.inl ⟨q, rfl, none_of_keep l1.keep hq, nq, .lst upd_same (shl_strs _)⟩)
        · rw [if_neg hz] at h; exact (ans_no h).elim
    | _ => exact (ans_no h).elim
  obtain ⟨ρ, F, rl, o⟩ := t1_of (m1 := m1) e h
  refine ⟨ρ, F, rl, o.mono fun y H1 ⟨a, xs, ey, hs, h1, h2, q⟩ => ?_⟩
  subst ey
  exact ⟨a, xs, rfl, x.K ▸ hs, h1, fun p hp => ⟨p, addsX [] xs, rfl, upd_same, h2, fun q' hq => q p hp q' hq⟩⟩
end
end VL

namespace VL
open PyProof.Rows PySem L2 PySem.Spec
/-! ### d.update(e) -/
def tDUpd (td te : TE) : TE := fun σ H Q => td σ H fun x H1 => ∃ a, x = V.ref a ∧ IsD H1 a ∧ te σ H1 fun y H2 => ∃ (b : Addr) (kvs more : List (Key × V)), y = .ref b ∧ a ≠ b ∧ H2 a = some (.dK kvs) ∧ Rd H2 b (.dK more) ∧ kvs.length + more.length ≤ sizeLine ∧ Q .non (upd H2 a (.dK (mergeK kvs more)))
section
variable {X : Cx} {o e : Expr} {apos cpos : Pos} {td te : TE}
theorem mergeK_len : ∀ (more kvs : List (Key × V)), (mergeK kvs more).length ≤ kvs.length + more.length
  | [], kvs => Nat.le_refl _
  | p :: more, kvs => by
    have h := mergeK_len more (putK kvs p.1 p.2)
    have h2 := length_putK kvs p.1 p.2
    show (mergeK (putK kvs p.1 p.2) more).length ≤ _
    simp only [List.length_cons]
    omega
theorem pe_dupd (ho : PE X o td) (he : PE X e te) (m : M1 X o "update" apos e cpos) : PE X (.Call (.Attribute o "update" apos) [e] [] cpos) (tDUpd td te) := by
  refine ⟨fun pins s σ H Q I h => ?_⟩
  refine wpAny_Call_method m.base m.few m.line PySem.F.plainAttrs_dict PySem.F.slot_dict_update PySem.F.type_dict_update (thn (ho.run pins s σ H _ I h) fun u s1 ⟨x, H1, I1, rx, a, ex, d, q1⟩ => ?_)
  subst ex
  obtain rfl : u = Value.ref a := rx
  obtain ⟨t1, t2, _⟩ := isD_at I1 d
  refine ⟨t1, t2, ?_⟩
  rw [m.trees]
  refine Calls.callWith_builtin rfl (Calls.evalArgs_plain (Calls.spliced_cons (thn (he.run pins s1 σ H1 _ I1 q1) fun ev s2 ⟨y, H2, I2, ry, b, kvs, more, ey, ne, e1, e2, hl, q2⟩ => Calls.spliced_nil ?_)))
  subst ey
  obtain rfl : ev = Value.ref b := ry
  obtain ⟨z1, lo1, vs, r1, d1⟩ := dk_of I2.hok e1
  obtain ⟨z2, lo2, rs, r2, d2⟩ := dk_rd I2.hok e2
  refine call_meetsIn PySem.F.slot_dict_update d1.typeIs PySem.F.entry_dict_update (PySem.F.args_dict_update_2 _ _) (meets_dict_update (mixKind X.prog X.w) a b ne lo2)
    ⟨vs, rs, d1, d2, (by rw [← r1.length, ← r2.length]; exact hl), fun h' dd _ hs => ?_⟩
  have he : ∃ q, h'.get? a = some q := let ⟨q, _, _, hq, _⟩ := dd; ⟨q, hq⟩
  have hm := mergeK_len more kvs
  exact ⟨.non, _, I2.write (e := a) (t' := s2.toks) (by rw [e1]; trivial) (.inl rfl) (fun c u hc hu => (hs.2 c hc).trans hu) he (show ObjOk X.prog X.w _ _ a (.dK (mergeK kvs more)) from ⟨by omega, lo1, _, r2.merge r1, dd⟩), rfl, q2⟩
end
def updD (es es2 : List (D × D)) : List (D × D) := es2.foldl (fun a p => dput a p.1 p.2) es
theorem upd_of {K : PySem.W.Frag} {H : Hp} {F : Fro} : ∀ {more kvs : List (Key × V)} {ds2 ds : List D}, ShL K H F (more.map (·.2)) ds2 → ShL K H F (kvs.map (·.2)) ds → ∃ es, updD (dicD kvs ds) (dicD more ds2) = dicD (mergeK kvs more) es ∧ ShL K H F ((mergeK kvs more).map (·.2)) es
  | [], kvs, _, ds, _, h => ⟨ds, rfl, h⟩
  | (j, v) :: more, kvs, d :: ds2, ds, .cons s r, h => by
    obtain ⟨es, q1, q2⟩ := dput_of j s h
    obtain ⟨es2, q3, q4⟩ := upd_of r q2
    refine ⟨es2, ?_, q4⟩
    show updD (dput (dicD kvs ds) (kD j) d) (dicD more ds2) = _
    rw [q1]
    exact q3
def sUpd (i : Nat) (f : Lo → R D) : Lo → Fl := fun ρ => match ρ[i]? with
  | some (.ow (.dic es)) => fb (f ρ) ρ fun d => match d with
    | .dic es2 => if fits (es.length + es2.length) = true then .nx (ρ.set i (.ow (.dic (updD es es2)))) else .bad
    | _ => .bad
  | _ => .bad
section
variable {X : Cx} {G : VG} {k : Nat} {m : Md} {e : Expr} {f : Lo → R D} {pos pos' ap cp : Pos}
theorem vs_upd (i : Nat) {x : Str} (h : VE X G .sh e f) (hN : X.N[i]? = some x := by rfl) (hv : Vis X.env.scope x := by first | exact Or.inl rfl | exact Or.inr (Or.inl rfl) | exact Or.inr (Or.inr rfl)) (hd : (x == ("__debug__" : Str)) = false := by decide)
    (hcd : (x == ("__classdict__" : Str)) = false := by decide)
    (hbase : attributeBase (.Name x pos') "update" X.env (eval (.Name x pos') X.env) = eval (.Name x pos') X.env := by rfl)
    (hfew : ((backTo cp (starEach [e] X.env)).all (fun x => !x.1) && (backToKw cp (keywordEach [] X.env)).all (fun x => x.1.isSome) && decide (([e] : List Expr).length + ([] : List Keyword).length + (if ([] : List Keyword).isEmpty then 0 else 1) < 30)) = true := by rfl)
    (hline : (ap.endLine == cp.line) = true := by rfl) (htr : backTo cp (starEach [e] X.env) = [(false, eval e X.env)] := by rfl)
    (hs : swapsWith (.Call (.Attribute (.Name x pos') "update" ap) [e] [] cp) none pos.line X.env = pure false := by rfl) : VS X G m (.Expr (.Call (.Attribute (.Name x pos') "update" ap) [e] [] cp) pos) (sUpd i f) :=
  ⟨ps_imp (ps_expr (pe_dupd (pe_var hN hv hd hcd) h.pe ⟨hbase, hfew, hline, htr⟩) hs) fun Dn σ H ⟨ρ, F, rl, o⟩ => by
    unfold sUpd at o
    split at o
    · rename_i es eo
      obtain ⟨y, ey, a, ea, _, nf, w⟩ := rl.at eo
      subst ea
      refine ⟨.ref a, ey, a, rfl, ?_, ρ, F, rl, out_s rl o fun d v H1 F1 _ l s1 o1 => ?_⟩
      · cases w with
        | dic e1 _ => exact .inl ⟨_, .inl e1⟩
      · obtain ⟨nf1, w1⟩ := ow_le nf w l
        cases d with
        | dic es2 =>
          have o1 : SO G m H1 F1 Dn (if fits (es.length + es2.length) = true then .nx (ρ.set i (.ow (.dic (updD es es2)))) else .bad) := o1
          by_cases hf : fits (es.length + es2.length) = true
          · rw [if_pos hf] at o1
            cases w1 with
            | @dic kvs ds ha hs2 =>
              have s1 : Sh G.K H1 F1 v (.dic es2) := s1
              have nd : ∀ (c : Addr) (kv : List (Key × V)), v = .ref c → H1 c ≠ some (.dK kv) := fun c kv ec z => by
                cases s1 with
                | dic q _ => cases ec; rw [z] at q; cases q
              obtain ⟨b, more, ds2, ev, hb, sm, e2⟩ := rb_dic (.inr s1)
              subst ev e2
              obtain ⟨es3, z1, z2⟩ := upd_of sm hs2
              have ne : a ≠ b := fun z => by
                subst z
                exact nd a kvs rfl ha
              have hl : kvs.length + more.length ≤ sizeLine := by
                have q := fits_line hf
                have e3 := dicD_len hs2
                have e4 := dicD_len sm
                unfold dicD at e3 e4
                omega
              refine ⟨b, kvs, more, rfl, ne, ha, hb, hl, ?_⟩
              have o1 : ∀ σ' H' F', Rel G σ' H' (ρ.set i (.ow (.dic (updD (dicD kvs ds) (dicD more ds2))))) F' → Kp F1 H1 H' → (∀ a, F1 a → F' a) → Dn.nx σ' H' := o1
              rw [z1] at o1
              exact o1 σ _ F1 ((rl.step l).write ey eo (fun o q => by rw [ha] at q; cases q; trivial) (.dic upd_same (z2.mono (kp_own nf1 ha trivial) fun _ z => z))) (kp_own nf1 ha trivial) fun _ z => z
          · rw [if_neg hf] at o1; exact o1.elim
        | _ => exact o1.elim
    · exact o.elim⟩
end
end VL

namespace VL
open PyProof.Rows PySem L2 PySem.Spec

/-! ### evaluation -/
section
variable {α β : Type} {a : α} {f : α → R β} {c : Str} {fs : List (Str × D)} {ρ ρ' : Lo} {d : D} {k : α → Fl} {g : Lo → Fl}
@[simp] theorem bind_ok : (R.ok a).bind f = f a := (rfl)
@[simp] theorem bind_ex : (R.ex c fs : R α).bind f = .ex c fs := (rfl)
@[simp] theorem bind_bad : (R.bad : R α).bind f = .bad := (rfl)
@[simp] theorem fb_ok : fb (.ok a) ρ k = k a := (rfl)
@[simp] theorem fb_ex : fb (.ex c fs : R α) ρ k = .ex c fs ρ := (rfl)
@[simp] theorem fb_bad : fb (.bad : R α) ρ k = .bad := (rfl)
@[simp] theorem opt_some : R.opt (some a) = .ok a := (rfl)
@[simp] theorem opt_none : R.opt (none : Option α) = .bad := (rfl)
def Fl.go : Fl → (Lo → Fl) → Fl
  | .nx ρ, g => g ρ
  | .bk ρ, _ => .bk ρ
  | .ct ρ, _ => .ct ρ
  | .rt d, _ => .rt d
  | .ex c fs ρ, _ => .ex c fs ρ
  | .bad, _ => .bad
@[simp] theorem go_nx : (Fl.nx ρ).go g = g ρ := (rfl)
@[simp] theorem go_bk : (Fl.bk ρ).go g = .bk ρ := (rfl)
@[simp] theorem go_ct : (Fl.ct ρ).go g = .ct ρ := (rfl)
@[simp] theorem go_rt : (Fl.rt d).go g = .rt d := (rfl)
@[simp] theorem go_ex : (Fl.ex c fs ρ).go g = .ex c fs ρ := (rfl)
@[simp] theorem go_bad : Fl.bad.go g = .bad := (rfl)
@[simp] theorem sq_go (f g : Lo → Fl) : sq f g ρ = (f ρ).go g := by
  unfold sq Fl.go
  cases f ρ <;> rfl
/-- what a def answers -/
def Fl.fin : Fl → R D
  | .rt d => .ok d
  | .nx _ => .ok .non
  | .ex c fs _ => .ex c fs
  | _ => .bad
@[simp] theorem fin_rt : (Fl.rt d).fin = .ok d := (rfl)
@[simp] theorem fin_nx : (Fl.nx ρ).fin = .ok .non := (rfl)
@[simp] theorem fin_ex : (Fl.ex c fs ρ).fin = .ex c fs := (rfl)
theorem runF_fin (b : Lo → Fl) (n : Nat) (ds : List D) : runF b n ds = (b (ds.map Sl.sh ++ List.replicate (n - ds.length) .no)).fin := by
  unfold runF Fl.fin
  cases b (ds.map Sl.sh ++ List.replicate (n - ds.length) .no) <;> rfl
/-- a slot -/
def Sl.val : Option Sl → R D
  | some (.sh d) => .ok d
  | _ => .bad
def Sl.bor : Option Sl → R D
  | some (.sh d) => .ok d
  | some (.ow d) => .ok d
  | _ => .bad
@[simp] theorem val_sh : Sl.val (some (.sh d)) = .ok d := (rfl)
@[simp] theorem bor_sh : Sl.bor (some (.sh d)) = .ok d := (rfl)
@[simp] theorem bor_ow : Sl.bor (some (.ow d)) = .ok d := (rfl)
@[simp] theorem eV_ap (i : Nat) : eV i ρ = Sl.val ρ[i]? := by
  unfold eV Sl.val
  split <;> simp_all
@[simp] theorem eB_ap (i : Nat) : eB i ρ = Sl.bor ρ[i]? := by
  unfold eB Sl.bor
  split <;> simp_all
@[simp] theorem eC_ap : eC d ρ = .ok d := (rfl)
@[simp] theorem b1_ap (fa : Lo → R D) (op : D → Option D) : b1 fa op ρ = (fa ρ).bind fun x => R.opt (op x) := (rfl)
@[simp] theorem b2_ap (fa fb : Lo → R D) (op : D → D → Option D) : b2 fa fb op ρ = (fa ρ).bind fun x => (fb ρ).bind fun y => R.opt (op x y) := (rfl)
def thn3 (fc : R D) (op' : D → Option D) : Option D → R D
  | some (.bl true) => fc.bind fun z => R.opt (op' z)
  | some (.bl false) => .ok (.bl false)
  | _ => .bad
@[simp] theorem thn3_t (fc : R D) (op' : D → Option D) : thn3 fc op' (some (.bl true)) = fc.bind fun z => R.opt (op' z) := (rfl)
@[simp] theorem thn3_f (fc : R D) (op' : D → Option D) : thn3 fc op' (some (.bl false)) = .ok (.bl false) := (rfl)
@[simp] theorem b3_ap (fa fb fc : Lo → R D) (op op' : D → D → Option D) : b3 fa fb fc op op' ρ = (fa ρ).bind fun x => (fb ρ).bind fun y => thn3 (fc ρ) (op' y) (op x y) := by
  unfold b3 thn3
  cases fa ρ with
  | ok x =>
    cases fb ρ with
    | ok y => simp only [bind_ok] <;> (split <;> simp_all)
    | _ => rfl
  | _ => rfl
def R.tru : R D → R Bool
  | .ok (.bl b) => .ok b
  | .ex c fs => .ex c fs
  | _ => .bad
@[simp] theorem tru_bl (b : Bool) : (R.ok (.bl b)).tru = .ok b := (rfl)
@[simp] theorem tb_ap (f : Lo → R D) : tb f ρ = (f ρ).tru := by
  unfold tb R.tru
  cases f ρ with
  | ok d => cases d <;> rfl
  | _ => rfl
@[simp] theorem tAndB_ap (f g : Lo → R Bool) : tAndB f g ρ = (f ρ).bind fun b => if b = true then g ρ else .ok false := (rfl)
@[simp] theorem tOrB_ap (f g : Lo → R Bool) : tOrB f g ρ = (f ρ).bind fun b => if b = true then .ok true else g ρ := (rfl)
@[simp] theorem tNotB_ap (f : Lo → R Bool) : tNotB f ρ = (f ρ).bind fun b => .ok (!b) := (rfl)
@[simp] theorem eAnd_ap (f g : Lo → R D) : eAnd f g ρ = (f ρ).tru.bind fun b => if b = true then g ρ else .ok (.bl false) := by rw [← tb_ap]; rfl
@[simp] theorem eOr_ap (f g : Lo → R D) : eOr f g ρ = (f ρ).tru.bind fun b => if b = true then .ok (.bl true) else g ρ := by rw [← tb_ap]; rfl
@[simp] theorem eNot_ap (f : Lo → R D) : eNot f ρ = (f ρ).tru.bind fun b => .ok (.bl !b) := by rw [← tb_ap]; rfl
@[simp] theorem eIf_ap (c : Lo → R Bool) (f g : Lo → R D) : eIf c f g ρ = (c ρ).bind fun b => if b = true then f ρ else g ρ := (rfl)
@[simp] theorem aNil_ap : aNil ρ = .ok [] := (rfl)
@[simp] theorem aCons_ap (f : Lo → R D) (g : Lo → R (List D)) : aCons f g ρ = (f ρ).bind fun d => (g ρ).bind fun ds => .ok (d :: ds) := (rfl)
@[simp] theorem eTup_ap (f : Lo → R (List D)) : eTup f ρ = (f ρ).bind fun ds => if fits ds.length = true then .ok (.tup ds) else .bad := (rfl)
@[simp] theorem eLst_ap (f : Lo → R (List D)) : eLst f ρ = (f ρ).bind fun ds => if fits ds.length = true then .ok (.lst ds) else .bad := (rfl)
@[simp] theorem eCall_ap (g : List D → R D) (fa : Lo → R (List D)) : eCall g fa ρ = (fa ρ).bind g := (rfl)
@[simp] theorem oN_ap : oN ρ = .ok none := (rfl)
def R.oint : R D → R (Option Int)
  | .ok (.int i) => .ok (some i)
  | .ex c fs => .ex c fs
  | _ => .bad
@[simp] theorem oint_ok (i : Int) : (R.ok (.int i)).oint = .ok (some i) := (rfl)
@[simp] theorem oS_ap (f : Lo → R D) : oS f ρ = (f ρ).oint := by
  unfold oS R.oint
  cases f ρ with
  | ok d => cases d <;> rfl
  | _ => rfl
@[simp] theorem eSl_ap (fa : Lo → R D) (fl fh : Lo → R (Option Int)) : eSl fa fl fh ρ = (fa ρ).bind fun x => (fl ρ).bind fun lo => (fh ρ).bind fun hi => R.opt (opCut lo hi x) := (rfl)
@[simp] theorem iS_ap (f : Lo → R D) : iS f ρ = (f ρ).bind items := (rfl)
@[simp] theorem items_lst (xs : List D) : items (.lst xs) = .ok xs := (rfl)
@[simp] theorem items_tup (xs : List D) : items (.tup xs) = .ok xs := (rfl)
def rangeD : D → R (List D)
  | .int j => if (fits62 j && fits j.toNat) = true then .ok (rng 0 j) else .bad
  | _ => .bad
@[simp] theorem iR1_ap (f : Lo → R D) : iR1 f ρ = (f ρ).bind rangeD := by
  unfold iR1 rangeD
  cases f ρ with
  | ok d => cases d <;> rfl
  | _ => rfl
def rangeD2 (a b : D) : R (List D) := match a, b with
  | .int i, .int j => if ((fits62 i && fits62 j) && fits (j - i).toNat) = true then .ok (rng i j) else .bad
  | _, _ => .bad
@[simp] theorem iR2_ap (f g : Lo → R D) : iR2 f g ρ = (f ρ).bind fun a => (g ρ).bind fun b => rangeD2 a b := (rfl)
def enD : D → R (List D)
  | .lst xs => .ok (enumD xs)
  | _ => .bad
@[simp] theorem enD_lst (xs : List D) : enD (.lst xs) = .ok (enumD xs) := (rfl)
@[simp] theorem iE_ap (f : Lo → R D) : iE f ρ = (f ρ).bind enD := by
  unfold iE enD
  cases f ρ with
  | ok d => cases d <;> rfl
  | _ => rfl
def zpD (d e : D) : R (List D) := match seqD d, seqD e with
  | some xs, some ys => .ok (zipD xs ys)
  | _, _ => .bad
@[simp] theorem gS_ap (i : Nat) (d : D) : gS i d ρ = .ok (ρ.set i (.sh d)) := (rfl)
@[simp] theorem gNil_ap : gNil2 [] ρ = .ok ρ := (rfl)
@[simp] theorem gCons_ap (g : D → Lo → R Lo) (gr : List D → Lo → R Lo) (r : List D) : gCons2 g gr (d :: r) ρ = (g d ρ).bind fun ρ' => gr r ρ' := (rfl)
@[simp] theorem gT_ap (n : Nat) (g : List D → Lo → R Lo) (ds : List D) : gT2 n g (.tup ds) ρ = if ds.length = n then g ds ρ else .bad := (rfl)
@[simp] theorem sNx_ap : sNx ρ = .nx ρ := (rfl)
@[simp] theorem sBk_ap : sBk ρ = .bk ρ := (rfl)
@[simp] theorem sCt_ap : sCt ρ = .ct ρ := (rfl)
@[simp] theorem sFz_ap (i : Nat) : sFz i g ρ = g (fz i ρ) := (rfl)
@[simp] theorem sSet_ap (i : Nat) (f : Lo → R D) : sSet i f ρ = fb (f ρ) ρ fun d => .nx (ρ.set i (.sh d)) := (rfl)
@[simp] theorem sNew_ap (i : Nat) (f : Lo → R D) : sNew i f ρ = fb (f ρ) ρ fun d => .nx (ρ.set i (nSl d)) := (rfl)
@[simp] theorem nSl_lst (xs : List D) : nSl (.lst xs) = .ow (.lst xs) := (rfl)
@[simp] theorem nSl_tup (xs : List D) : nSl (.tup xs) = .sh (.tup xs) := (rfl)
@[simp] theorem nSl_int (i : Int) : nSl (.int i) = .sh (.int i) := (rfl)
@[simp] theorem nSl_dic (xs : List (D × D)) : nSl (.dic xs) = .ow (.dic xs) := (rfl)
@[simp] theorem sAsg_ap (f : Lo → R D) (g : D → Lo → R Lo) : sAsg f g ρ = fb (f ρ) ρ fun d => fb (g d ρ) ρ fun ρ' => .nx ρ' := (rfl)
@[simp] theorem sRet_ap (f : Lo → R D) : sRet f ρ = fb (f ρ) ρ fun d => .rt d := (rfl)
@[simp] theorem sRetN_ap : sRetN ρ = .rt .non := (rfl)
@[simp] theorem sIf_ap (c : Lo → R Bool) (f g : Lo → Fl) : sIf c f g ρ = fb (c ρ) ρ fun b => if b = true then f ρ else g ρ := (rfl)
@[simp] theorem sEx_ap (f : Lo → R D) : sEx f ρ = fb (f ρ) ρ fun _ => .nx ρ := (rfl)
@[simp] theorem sFor_ap (it : Lo → R (List D)) (asg : D → Lo → R Lo) (body : Lo → Fl) : sFor it asg body ρ = fb (it ρ) ρ fun ds => forL asg body ds ρ := (rfl)
@[simp] theorem eLc_ap (it : Lo → R (List D)) (asg : D → Lo → R Lo) (tst : Lo → R Bool) (elt : Lo → R D) (vs : List Nat) : eLc it asg tst elt vs ρ = (it ρ).bind fun ds => (lcL asg tst elt (wipeL ρ vs) ds).bind fun es => .ok (.lst es) := (rfl)
@[simp] theorem wipe_nil : wipeL ρ [] = ρ := (rfl)
@[simp] theorem wipe_cons (v : Nat) (vs : List Nat) : wipeL ρ (v :: vs) = (wipeL ρ vs).set v .no := (rfl)
@[simp] theorem tsY_ap : tsY ρ = .ok true := (rfl)
@[simp] theorem iZ_ap (f g : Lo → R D) : iZ f g ρ = (f ρ).bind fun a => (g ρ).bind fun b => zpD a b := (rfl)
end
/-- freezing, appending, adding to: at a slot -/
def fzS (i : Nat) (ρ : Lo) : Option Sl → Lo
  | some (.ow d) => ρ.set i (.sh d)
  | _ => ρ
@[simp] theorem fzS_ow (i : Nat) (ρ : Lo) (d : D) : fzS i ρ (some (.ow d)) = ρ.set i (.sh d) := (rfl)
@[simp] theorem fzS_sh (i : Nat) (ρ : Lo) (d : D) : fzS i ρ (some (.sh d)) = ρ := (rfl)
@[simp] theorem fzS_no (i : Nat) (ρ : Lo) : fzS i ρ (some .no) = ρ := (rfl)
@[simp] theorem fz_ap (i : Nat) (ρ : Lo) : fz i ρ = fzS i ρ ρ[i]? := by
  unfold fz fzS
  split <;> simp_all
def augS (i : Nat) (op : D → D → Option D) (f : R D) (ρ : Lo) : Option Sl → Fl
  | some (.sh x) => fb f ρ fun y => fb (R.opt (op x y)) ρ fun z => .nx (ρ.set i (.sh z))
  | _ => .bad
@[simp] theorem augS_sh (i : Nat) (op : D → D → Option D) (f : R D) (ρ : Lo) (x : D) : augS i op f ρ (some (.sh x)) = fb f ρ fun y => fb (R.opt (op x y)) ρ fun z => .nx (ρ.set i (.sh z)) := (rfl)
@[simp] theorem sAug_ap (i : Nat) (op : D → D → Option D) (f : Lo → R D) (ρ : Lo) : sAug i op f ρ = augS i op (f ρ) ρ ρ[i]? := by
  unfold sAug augS
  split <;> simp_all
def appS (i : Nat) (f : R D) (ρ : Lo) : Option Sl → Fl
  | some (.ow (.lst ds)) => fb f ρ fun d => if fits (ds.length + 1) = true then .nx (ρ.set i (.ow (.lst (ds ++ [d])))) else .bad
  | _ => .bad
@[simp] theorem appS_ow (i : Nat) (f : R D) (ρ : Lo) (ds : List D) : appS i f ρ (some (.ow (.lst ds))) = fb f ρ fun d => if fits (ds.length + 1) = true then .nx (ρ.set i (.ow (.lst (ds ++ [d])))) else .bad := (rfl)
@[simp] theorem sApp_ap (i : Nat) (f : Lo → R D) (ρ : Lo) : sApp i f ρ = appS i (f ρ) ρ ρ[i]? := by
  unfold sApp appS
  split <;> simp_all

/-! ### loops -/
/-- one turn's end: on with P, or out with Post -/
def Fl.ends (P : Lo → Prop) (Post : Fl → Prop) : Fl → Prop
  | .nx ρ => P ρ
  | .ct ρ => P ρ
  | .bk ρ => Post (.nx ρ)
  | .rt d => Post (.rt d)
  | .ex c fs ρ => Post (.ex c fs ρ)
  | .bad => False
@[simp] theorem ends_nx (P : Lo → Prop) (Post : Fl → Prop) (ρ : Lo) : (Fl.nx ρ).ends P Post = P ρ := (rfl)
@[simp] theorem ends_ct (P : Lo → Prop) (Post : Fl → Prop) (ρ : Lo) : (Fl.ct ρ).ends P Post = P ρ := (rfl)
@[simp] theorem ends_bk (P : Lo → Prop) (Post : Fl → Prop) (ρ : Lo) : (Fl.bk ρ).ends P Post = Post (.nx ρ) := (rfl)
@[simp] theorem ends_rt (P : Lo → Prop) (Post : Fl → Prop) (d : D) : (Fl.rt d).ends P Post = Post (.rt d) := (rfl)
@[simp] theorem ends_ex (P : Lo → Prop) (Post : Fl → Prop) (c : Str) (fs : List (Str × D)) (ρ : Lo) : (Fl.ex c fs ρ).ends P Post = Post (.ex c fs ρ) := (rfl)
theorem forL_post {asg : D → Lo → R Lo} {body : Lo → Fl} {Post : Fl → Prop} (P : List D → Lo → Prop) (hs : ∀ d r ρ, P (d :: r) ρ → ∃ ρ1, asg d ρ = .ok ρ1 ∧ (body ρ1).ends (P r) Post) (hd : ∀ ρ, P [] ρ → Post (.nx ρ)) : ∀ {ds : List D} {ρ : Lo}, P ds ρ → Post (forL asg body ds ρ)
  | [], ρ, h => hd ρ h
  | d :: r, ρ, h => by
    obtain ⟨ρ1, e, z⟩ := hs d r ρ h
    unfold forL
    rw [e]
    dsimp only
    cases q : body ρ1 with
    | nx ρ2 => rw [q] at z; exact forL_post P hs hd (ds := r) z
    | ct ρ2 => rw [q] at z; exact forL_post P hs hd (ds := r) z
    | bk ρ2 => rw [q] at z; exact z
    | rt d => rw [q] at z; exact z
    | ex c fs ρ => rw [q] at z; exact z
    | bad => rw [q] at z; exact z.elim
theorem lcL_ok {asg : D → Lo → R Lo} {tst : Lo → R Bool} {elt : Lo → R D} {ρ : Lo} (p : D → Bool) (f : D → D) : ∀ {ds : List D}, (∀ d ∈ ds, ∃ ρ1, asg d ρ = .ok ρ1 ∧ tst ρ1 = .ok (p d) ∧ (p d = true → elt ρ1 = .ok (f d))) → lcL asg tst elt ρ ds = .ok ((ds.filter p).map f)
  | [], _ => rfl
  | d :: r, h => by
    obtain ⟨ρ1, e1, e2, e3⟩ := h d (by simp)
    have ih := lcL_ok p f (ds := r) fun z hz => h z (by simp [hz])
    unfold lcL
    rw [e1]
    dsimp only
    rw [e2]
    cases q : p d with
    | true => dsimp only; rw [e3 q, ih]; simp [q]
    | false => dsimp only; rw [ih]; simp [q]
theorem lcL_map {asg : D → Lo → R Lo} {elt : Lo → R D} {ρ : Lo} (f : D → D) {ds : List D} (h : ∀ d ∈ ds, ∃ ρ1, asg d ρ = .ok ρ1 ∧ elt ρ1 = .ok (f d)) : lcL asg tsY elt ρ ds = .ok (ds.map f) := by
  rw [lcL_ok (fun _ => true) f fun d hd => by
    obtain ⟨ρ1, a, b⟩ := h d hd
    exact ⟨ρ1, a, rfl, fun _ => b⟩, List.filter_eq_self.mpr fun _ _ => rfl]

theorem lcL_enc {α : Type} {asg : D → Lo → R Lo} {tst : Lo → R Bool} {elt : Lo → R D} {ρ : Lo} (enc : α → D) (p : α → Bool) (f : α → D) : ∀ {l : List α}, (∀ a ∈ l, ∃ ρ1, asg (enc a) ρ = .ok ρ1 ∧ tst ρ1 = .ok (p a) ∧ (p a = true → elt ρ1 = .ok (f a))) → lcL asg tst elt ρ (l.map enc) = .ok ((l.filter p).map f)
  | [], _ => rfl
  | a :: r, h => by
    obtain ⟨ρ1, e1, e2, e3⟩ := h a (by simp)
    have ih := lcL_enc enc p f (l := r) fun z hz => h z (by simp [hz])
    rw [List.map_cons]
    unfold lcL
    rw [e1]
    dsimp only
    rw [e2]
    cases q : p a with
    | true => dsimp only; rw [e3 q, ih]; simp [q]
    | false => dsimp only; rw [ih]; simp [q]
theorem lcL_encM {α : Type} {asg : D → Lo → R Lo} {elt : Lo → R D} {ρ : Lo} (enc f : α → D) {l : List α} (h : ∀ a ∈ l, ∃ ρ1, asg (enc a) ρ = .ok ρ1 ∧ elt ρ1 = .ok (f a)) : lcL asg tsY elt ρ (l.map enc) = .ok (l.map f) := by
  rw [lcL_enc enc (fun _ => true) f fun d hd => by
    obtain ⟨ρ1, a, b⟩ := h d hd
    exact ⟨ρ1, a, rfl, fun _ => b⟩, List.filter_eq_self.mpr fun _ _ => rfl]

/-! ### data that == may look at -/
def Lay (k : Nat) (d : D) : Prop := (py d).canLay0 = true ∧ (py d).depth ≤ k
theorem sha_of {k : Nat} {d : D} (h : Lay k d) (hk : k ≤ 64) : d.sha = true := by
  unfold D.sha SeqAt.shaped
  rw [h.1, decide_eq_true (Nat.le_trans h.2 hk)]
  rfl
theorem lay_i (i : Int) : Lay 0 (.int i) := ⟨by simp [py, PyData.canLay0], by simp [py, PyData.depth]⟩
theorem lay_b (i : Bool) : Lay 0 (.bl i) := ⟨by simp [py, PyData.canLay0], by simp [py, PyData.depth]⟩
theorem lay_n : Lay 0 .non := ⟨by simp [py, PyData.canLay0], by simp [py, PyData.depth]⟩
theorem lay_s {i : Str} (h : PyData.strOk i = true) : Lay 0 (.str i) := ⟨by simp [py, PyData.canLay0, h], by simp [py, PyData.depth]⟩
theorem Lay.up {k j : Nat} {d : D} (h : Lay k d) (hk : k ≤ j) : Lay j d := ⟨h.1, Nat.le_trans h.2 hk⟩
theorem layL {k : Nat} : ∀ {ds : List D}, (∀ d ∈ ds, Lay k d) → PyData.canLayAll0 (pyL ds) = true ∧ PyData.depthAll (pyL ds) ≤ k
  | [], _ => ⟨by simp [pyL, PyData.canLayAll0], by simp [pyL, PyData.depthAll]⟩
  | d :: ds, h => by
    obtain ⟨a, b⟩ := layL (ds := ds) fun z hz => h z (by simp [hz])
    obtain ⟨c, e⟩ := h d (by simp)
    refine ⟨by simp [pyL, PyData.canLayAll0, a, c], ?_⟩
    simp only [pyL, PyData.depthAll]
    omega
theorem lay_lst {k : Nat} {ds : List D} (h : ∀ d ∈ ds, Lay k d) : Lay (k + 1) (.lst ds) := by
  obtain ⟨a, b⟩ := layL h
  exact ⟨by simp [py, PyData.canLay0, a], by simp only [py, PyData.depth]; omega⟩
theorem lay_tup {k : Nat} {ds : List D} (h : ∀ d ∈ ds, Lay k d) : Lay (k + 1) (.tup ds) := by
  obtain ⟨a, b⟩ := layL h
  exact ⟨by simp [py, PyData.canLay0, a], by simp only [py, PyData.depth]; omega⟩
theorem lay_strs {l : List Str} (h : ∀ x ∈ l, PyData.strOk x = true) : Lay 1 (.lst (l.map .str)) := lay_lst fun d hd => by
  obtain ⟨x, hx, rfl⟩ := List.mem_map.mp hd
  exact lay_s (h x hx)
theorem lay_ints (l : List Int) : Lay 1 (.lst (l.map .int)) := lay_lst fun d hd => by
  obtain ⟨x, hx, rfl⟩ := List.mem_map.mp hd
  exact lay_i x
theorem opEq_sh {a b : D} {j k : Nat} (h1 : Lay j a) (h2 : Lay k b) (hj : j ≤ 64) (hk : k ≤ 64) : opEq a b = some (.bl (a.eqv b)) := by
  unfold opEq
  rw [sha_of h1 hj, sha_of h2 hk]
  rfl
theorem opNe_sh {a b : D} {j k : Nat} (h1 : Lay j a) (h2 : Lay k b) (hj : j ≤ 64) (hk : k ≤ 64) : opNe a b = some (.bl (!a.eqv b)) := by
  unfold opNe
  rw [sha_of h1 hj, sha_of h2 hk]
  rfl
theorem eqv_nil (xs : List D) : D.eqv (.lst xs) (.lst []) = xs.isEmpty := by
  cases xs <;> simp [D.eqv, py, pyL, PyData.eqv, PyData.eqvAll]
theorem opEq_nil {xs : List D} {k : Nat} (h : ∀ d ∈ xs, Lay k d) (hk : k < 64) : opEq (.lst xs) (.lst []) = some (.bl xs.isEmpty) := by
  rw [opEq_sh (lay_lst h) (lay_lst (k := 0) (ds := []) fun d hd => by simp at hd) (by omega) (by omega), eqv_nil]
theorem eqv_ss (a b : Str) : D.eqv (.str a) (.str b) = (a == b) := by simp [D.eqv, py, PyData.eqv]
theorem any_strs (a : Str) (l : List Str) : ((l.map D.str).any fun z => z.eqv (.str a)) = l.contains a := by
  induction l with
  | nil => rfl
  | cons x r ih =>
    rw [List.map_cons, List.any_cons, ih, eqv_ss, List.contains_cons]
    congr 1
    exact Bool.beq_comm
theorem in_strs {a : Str} {l : List Str} (h : PyData.strOk a = true) (hl : ∀ x ∈ l, PyData.strOk x = true) : opIn (.str a) (.lst (l.map .str)) = some (.bl (l.contains a)) := by
  unfold opIn isIn
  dsimp only
  rw [sha_of (lay_s h) (by omega), sha_of (lay_strs hl) (by omega), any_strs]
  rfl

/-! ### small facts -/
@[simp] theorem opIsi_some {f : D → Bool} {d : D} (h : plainD d = true) : opIsi f d = some (.bl (f d)) := if_pos h
@[simp] theorem opAdd_ii (i j : Int) : opAdd (.int i) (.int j) = some (.int (i + j)) := (rfl)
@[simp] theorem opSub_ii (i j : Int) : opSub (.int i) (.int j) = some (.int (i - j)) := (rfl)
theorem opMul_ii {i j : Int} (h : (small64 i || small64 j) = true) : opMul (.int i) (.int j) = some (.int (i * j)) := if_pos h
theorem opMod_ii {i j : Int} (h : 0 < j) : opMod (.int i) (.int j) = some (.int (i % j)) := if_pos (decide_eq_true h)
theorem opDiv_ii {i j : Int} (h : 0 < j ∧ j < 1073741824) : opDiv (.int i) (.int j) = some (.int (i / j)) := if_pos (decide_eq_true h)
@[simp] theorem opNeg_i (i : Int) : opNeg (.int i) = some (.int (-i)) := (rfl)
@[simp] theorem opLe_ii (i j : Int) : opLe (.int i) (.int j) = some (.bl (decide (i ≤ j))) := (rfl)
@[simp] theorem opLt_ii (i j : Int) : opLt (.int i) (.int j) = some (.bl (decide (i < j))) := (rfl)
@[simp] theorem opGt_ii (i j : Int) : opGt (.int i) (.int j) = some (.bl (decide (j < i))) := (rfl)
@[simp] theorem opGe_ii (i j : Int) : opGe (.int i) (.int j) = some (.bl (decide (j ≤ i))) := (rfl)
@[simp] theorem opLen_l (ds : List D) : opLen (.lst ds) = some (.int ds.length) := (rfl)
@[simp] theorem opLen_t (ds : List D) : opLen (.tup ds) = some (.int ds.length) := (rfl)
theorem opLen_s {x : Str} (h : fits x.length = true) : opLen (.str x) = some (.int x.length) := if_pos h
@[simp] theorem opIx_l (ds : List D) (i : Int) : opIx (.lst ds) (.int i) = atI ds i := (rfl)
@[simp] theorem opIx_t (ds : List D) (i : Int) : opIx (.tup ds) (.int i) = atI ds i := (rfl)
@[simp] theorem opCut_l (ds : List D) (lo hi : Option Int) : opCut lo hi (.lst ds) = some (.lst (cutD ds lo hi)) := (rfl)
@[simp] theorem opCut_t (ds : List D) (lo hi : Option Int) : opCut lo hi (.tup ds) = some (.tup (cutD ds lo hi)) := (rfl)
@[simp] theorem opTuple_l (ds : List D) : opTuple (.lst ds) = some (.tup ds) := (rfl)
@[simp] theorem opTuple_t (ds : List D) : opTuple (.tup ds) = some (.tup ds) := (rfl)
@[simp] theorem opList_l (ds : List D) : opList (.lst ds) = some (.lst ds) := (rfl)
@[simp] theorem opList_t (ds : List D) : opList (.tup ds) = some (.lst ds) := (rfl)
@[simp] theorem opMax_ii (i j : Int) : opMax (.int i) (.int j) = some (.int (if j > i then j else i)) := (rfl)
@[simp] theorem opInt_b (b : Bool) : opInt (.bl b) = some (.int (if b then 1 else 0)) := (rfl)
@[simp] theorem opInt_i (i : Int) : opInt (.int i) = some (.int i) := (rfl)
theorem bls_map (bs : List Bool) : bls (bs.map D.bl) = some bs := by
  induction bs with
  | nil => rfl
  | cons b r ih => simp [bls, ih]
theorem opAll_b (bs : List Bool) : opAll (.lst (bs.map D.bl)) = some (.bl (bs.all id)) := by simp [opAll, bls_map]
theorem opAny_b (bs : List Bool) : opAny (.lst (bs.map D.bl)) = some (.bl (bs.any id)) := by simp [opAny, bls_map]
theorem sha_i (i : Int) : (D.int i).sha = true := by
  simp [D.sha, py, SeqAt.shaped, PyData.canLay0, PyData.depth]
theorem sha_b (i : Bool) : (D.bl i).sha = true := by
  simp [D.sha, py, SeqAt.shaped, PyData.canLay0, PyData.depth]
theorem sha_s {i : Str} (h : PyData.strOk i = true) : (D.str i).sha = true := by
  simp [h, D.sha, py, SeqAt.shaped, PyData.canLay0, PyData.depth]
theorem sha_n : D.non.sha = true := by
  simp [D.sha, py, SeqAt.shaped, PyData.canLay0, PyData.depth]
@[simp] theorem opEq_bb (a b : Bool) : opEq (.bl a) (.bl b) = some (.bl (a == b)) := by
  simp [opEq, sha_b, D.eqv, py, PyData.eqv]
@[simp] theorem opNe_bb (a b : Bool) : opNe (.bl a) (.bl b) = some (.bl (a != b)) := by
  simp [opNe, sha_b, D.eqv, py, PyData.eqv, bne]
@[simp] theorem opEq_ii (a b : Int) : opEq (.int a) (.int b) = some (.bl (a == b)) := by
  simp [opEq, sha_i, D.eqv, py, PyData.eqv]
@[simp] theorem opNe_ii (a b : Int) : opNe (.int a) (.int b) = some (.bl (a != b)) := by
  simp [opNe, sha_i, D.eqv, py, PyData.eqv, bne]
@[simp] theorem opNe_ss (a b : Str) : opNe (.str a) (.str b) = some (.bl (a != b)) := by
  simp [opNe, twoS, D.eqv, py, PyData.eqv, bne]
@[simp] theorem opEq_ss (a b : Str) : opEq (.str a) (.str b) = some (.bl (a == b)) := by
  simp [opEq, twoS, D.eqv, py, PyData.eqv]
@[simp] theorem opIs_n (a : D) : opIs a .non = some (.bl (isNon a)) := by
  cases a <;> rfl
@[simp] theorem opIs_bb (a b : Bool) : opIs (.bl a) (.bl b) = some (.bl (decide (a = b))) := (rfl)
@[simp] theorem opAdd_ll {xs ys : List D} (h : fits (xs.length + ys.length) = true) : opAdd (.lst xs) (.lst ys) = some (.lst (xs ++ ys)) := if_pos h
@[simp] theorem opAdd_tt {xs ys : List D} (h : fits (xs.length + ys.length) = true) : opAdd (.tup xs) (.tup ys) = some (.tup (xs ++ ys)) := if_pos h
theorem fits_of {n : Nat} (h : n ≤ 16777216) : fits n = true := decide_eq_true h
theorem atI_ok {α : Type} {xs : List α} {i : Int} {j : Nat} {v : α} (h : i = (j : Nat)) (g : xs[j]? = some v) : atI xs i = some v := by
  subst h
  exact atI_nat g
theorem atI_lt {α : Type} {xs : List α} {i : Int} (h0 : 0 ≤ i) (h1 : i < xs.length) : ∃ v, v ∈ xs ∧ atI xs i = some v ∧ xs[i.toNat]? = some v := by
  have hl : i.toNat < xs.length := by omega
  exact ⟨xs[i.toNat], List.getElem_mem hl, atI_ok (j := i.toNat) (by omega) (by simp [hl]), by simp [hl]⟩
theorem atI_mod {α : Type} {xs : List α} (i : Int) {n : Int} (hn : n = xs.length) (h : 0 < xs.length) : ∃ v, v ∈ xs ∧ atI xs (i % n) = some v := by
  subst hn
  have h1 := Int.emod_nonneg i (b := (xs.length : Int)) (by omega)
  have h2 := Int.emod_lt_of_pos i (b := (xs.length : Int)) (by omega)
  obtain ⟨v, a, b, _⟩ := atI_lt h1 h2
  exact ⟨v, a, b⟩
@[simp] theorem atI_0 {α : Type} (x : α) (xs : List α) : atI (x :: xs) 0 = some x := atI_ok (j := 0) rfl rfl
@[simp] theorem atI_1 {α : Type} (x y : α) (xs : List α) : atI (x :: y :: xs) 1 = some y := atI_ok (j := 1) rfl rfl
@[simp] theorem atI_2 {α : Type} (x y z : α) (xs : List α) : atI (x :: y :: z :: xs) 2 = some z := atI_ok (j := 2) rfl rfl
@[simp] theorem atI_3 {α : Type} (x y z u : α) (xs : List α) : atI (x :: y :: z :: u :: xs) 3 = some u := atI_ok (j := 3) rfl rfl
theorem rng_cons {a b : Int} (h : a < b) : rng a b = .int a :: rng (a + 1) b := by
  unfold rng
  have e : (b - a).toNat = (b - (a + 1)).toNat + 1 := by omega
  rw [e, List.range_succ_eq_map]
  simp only [List.map_cons, List.map_map]
  refine congr (congrArg _ (by simp)) (List.map_congr_left fun i _ => ?_)
  simp only [Function.comp]
  congr 1
  omega
theorem rng_nil {a b : Int} (h : b ≤ a) : rng a b = [] := by
  unfold rng
  rw [show (b - a).toNat = 0 by omega]
  rfl
theorem cut_nn (ds : List D) (i j : Nat) : cutD ds (some (i : Int)) (some (j : Int)) = (ds.drop (min i ds.length)).take (min j ds.length - min i ds.length) := by
  unfold cutD
  rw [HT.sIx_nat, HT.sIx_nat]
theorem cut_n0 (ds : List D) (i : Nat) : cutD ds (some (i : Int)) none = ds.drop i := by
  unfold cutD
  rw [HT.sIx_nat, HT.sIx_none]
  rw [List.take_of_length_le (by simp)]
  by_cases h : i ≤ ds.length
  · rw [Nat.min_eq_left h]
  · rw [Nat.min_eq_right (by omega), List.drop_length, List.drop_of_length_le (by omega)]
theorem cut_0n (ds : List D) (j : Nat) : cutD ds none (some (j : Int)) = ds.take j := by
  unfold cutD
  rw [HT.sIx_nat, HT.sIx_none]
  rw [List.drop_zero, Nat.sub_zero]
  by_cases h : j ≤ ds.length
  · rw [Nat.min_eq_left h]
  · rw [Nat.min_eq_right (by omega), List.take_length, List.take_of_length_le (by omega)]
end VL

namespace VL
open PyProof.Rows PySem L2 PySem.Spec

/-! ### bounded data; their repr -/
/-- an atom: small ints, texts of at most s signs -/
def At (s : Nat) : D → Prop
  | .non => True
  | .bl _ => True
  | .int i => i.natAbs < 10 ^ 40
  | .str x => PyData.strOk x = true ∧ x.length ≤ s
  | .dic kvs => kvs = []
  | _ => False
/-- k deep, lists and tuples of at most n -/
def Bd (s n : Nat) : Nat → D → Prop
  | 0, d => At s d
  | k + 1, d => At s d ∨ ∃ xs, (d = .lst xs ∨ d = .tup xs) ∧ xs.length ≤ n ∧ ∀ x ∈ xs, Bd s n k x
theorem Bd.at {s n k : Nat} {d : D} (h : At s d) : Bd s n k d := by
  cases k with
  | zero => exact h
  | succ => exact .inl h
theorem Bd.up1 {s n : Nat} : ∀ {k : Nat} {d : D}, Bd s n k d → Bd s n (k + 1) d
  | 0, _, h => .inl h
  | _ + 1, _, .inl h => .inl h
  | _ + 1, _, .inr ⟨xs, e, l, h⟩ => .inr ⟨xs, e, l, fun x hx => (h x hx).up1⟩
theorem Bd.up {s n k j : Nat} {d : D} (h : Bd s n k d) (hj : k ≤ j) : Bd s n j d := by
  induction hj with
  | refl => exact h
  | step _ ih => exact ih.up1
theorem Bd.lst {s n k : Nat} {xs : List D} (hl : xs.length ≤ n) (h : ∀ x ∈ xs, Bd s n k x) : Bd s n (k + 1) (.lst xs) := .inr ⟨xs, .inl rfl, hl, h⟩
theorem Bd.tup {s n k : Nat} {xs : List D} (hl : xs.length ≤ n) (h : ∀ x ∈ xs, Bd s n k x) : Bd s n (k + 1) (.tup xs) := .inr ⟨xs, .inr rfl, hl, h⟩
theorem Bd.plain {s n k : Nat} {d : D} (h : Bd s n k d) : plainD d = true := by
  cases d <;> try rfl
  cases k with
  | zero => exact h.elim
  | succ k =>
    rcases h with h | ⟨xs, e | e, _⟩
    · exact h.elim
    · cases e
    · cases e
theorem Bd.str {s n k : Nat} {x : Str} (h : Bd s n k (.str x)) : PyData.strOk x = true ∧ x.length ≤ s := by
  cases k with
  | zero => exact h
  | succ k =>
    rcases h with h | ⟨xs, e | e, _⟩
    · exact h
    · cases e
    · cases e
theorem Bd.inL {s n k : Nat} {xs : List D} (h : Bd s n k (.lst xs)) : xs.length ≤ n ∧ ∀ x ∈ xs, Bd s n (k - 1) x := by
  cases k with
  | zero => exact h.elim
  | succ k =>
    rcases h with h | ⟨ys, e | e, l, h⟩
    · exact h.elim
    · cases e; exact ⟨l, h⟩
    · cases e
theorem Bd.inT {s n k : Nat} {xs : List D} (h : Bd s n k (.tup xs)) : xs.length ≤ n ∧ ∀ x ∈ xs, Bd s n (k - 1) x := by
  cases k with
  | zero => exact h.elim
  | succ k =>
    rcases h with h | ⟨ys, e | e, l, h⟩
    · exact h.elim
    · cases e
    · cases e; exact ⟨l, h⟩
def Wd (s n : Nat) : Nat → Nat
  | 0 => 10 * s + 47
  | k + 1 => n * (Wd s n k + 2) + (10 * s + 50)
theorem piled_le {ts : List Str} {m : Nat} (h : ∀ t ∈ ts, t.length ≤ m) : piled ts ≤ ts.length * (m + 2) := by
  induction ts with
  | nil => simp [piled]
  | cons t r ih =>
    have a := ih fun u hu => h u (by simp [hu])
    have b := h t (by simp)
    rw [piled_cons, List.length_cons, Nat.succ_mul]
    omega
theorem listText_le (ts : List Str) : (listText ts).length ≤ piled ts + 2 := by
  cases ts with
  | nil => exact Nat.le_of_eq rfl
  | cons t r =>
    have h := textFrom_length_pos r 1 (("[" : Str) ++ (if (0 : Nat) > 0 then ", " else "" : String) ++ t) (Nat.succ_pos 0)
    have e : ((("[" : Str) ++ (if (0 : Nat) > 0 then ", " else "" : String) ++ t)).length = t.length + 1 := by
      rw [strLen_append, strLen_append, Nat.add_comm]
      rfl
    have a : (listText (t :: r)).length = (textFrom 1 (("[" : Str) ++ (if (0 : Nat) > 0 then ", " else "" : String) ++ t) r).length + 1 := by
      unfold listText
      rw [strLen_append]
      rfl
    rw [a, h, e, piled_cons]
    omega
theorem tupleText_le (ts : List Str) : (tupleText ts).length ≤ piled ts + 3 := by
  unfold tupleText
  rw [strLen_append, strLen_append]
  have a : ((("(" : String) : Str)).length = 1 := rfl
  have b : (((if ts.length == 1 then ",)" else ")" : String) : Str)).length ≤ 2 := by split <;> decide
  by_cases h : ts = []
  · subst h
    simp only [piled_nil]
    have c : (Str.join ", " ([] : List Str)).length = 0 := rfl
    omega
  · have := join_length_add ts h
    omega
theorem shownAll_map (ds : List D) : PyData.shownAll (pyL ds) = ds.map fun d => (py d).shown := by
  induction ds with
  | nil => simp [pyL, PyData.shownAll]
  | cons d r ih => simp [pyL, PyData.shownAll, ih]
theorem rokL_of {ds : List D} (h : ∀ d ∈ ds, rok d = true) : rokL ds = true := by
  induction ds with
  | nil => rfl
  | cons d r ih =>
    rw [rokL, h d (by simp), ih fun x hx => h x (by simp [hx])]
    rfl
theorem showL {ds : List D} (h : ∀ d ∈ ds, (py d).showable = true) : PyData.showableAll (pyL ds) = true := by
  induction ds with
  | nil => simp [pyL, PyData.showableAll]
  | cons d r ih => simp [pyL, PyData.showableAll, h d (by simp), ih fun x hx => h x (by simp [hx])]
theorem depL {ds : List D} {k : Nat} (h : ∀ d ∈ ds, (py d).depth ≤ k) : PyData.depthAll (pyL ds) ≤ k := by
  induction ds with
  | nil => simp [pyL, PyData.depthAll]
  | cons d r ih =>
    have a := h d (by simp)
    have b := ih fun x hx => h x (by simp [hx])
    simp only [pyL, PyData.depthAll]
    omega
theorem small_log {i : Int} (h : i.natAbs < 10 ^ 40) : i.natAbs.log2 < 1920 := by
  by_cases z : i.natAbs = 0
  · rw [z]; decide
  · rw [Nat.log2_lt z]
    exact Nat.lt_of_lt_of_le h (Nat.le_trans (m := 2 ^ 140) (by decide) (Nat.pow_le_pow_right (by omega) (by omega)))
theorem At.rep {s : Nat} {d : D} (h : At s d) : rok d = true ∧ (py d).showable = true ∧ (py d).shown.length ≤ 10 * s + 47 ∧ (py d).depth ≤ 1 := by
  cases d with
  | non => exact ⟨rfl, by simp [py, PyData.showable], Nat.le_trans (m := 4) (by simp only [py, PyData.shown]; decide) (by omega), by simp [py, PyData.depth]⟩
  | bl b => exact ⟨rfl, by simp [py, PyData.showable], Nat.le_trans (m := 5) (by simp only [py, PyData.shown]; cases b <;> decide) (by omega), by simp [py, PyData.depth]⟩
  | int i =>
    have h : i.natAbs < 10 ^ 40 := h
    refine ⟨rfl, by simp only [py, PyData.showable]; exact decide_eq_true (small_log h), ?_, by simp [py, PyData.depth]⟩
    simp only [py, PyData.shown]
    have e := int_text_length_le10 (k := 40) (by decide) h
    rw [PySem.ofString_length]
    omega
  | str x =>
    refine ⟨rfl, by simp [py, PyData.showable], ?_, by simp [py, PyData.depth]⟩
    simp only [py, PyData.shown]
    have q := StrLaws.reprText_len x fun c hc => by
      have h1 := h.1
      unfold PyData.strOk at h1
      rw [Array.all_eq_true'] at h1
      have h2 := h1 c (by simpa using hc)
      rw [decide_eq_true_eq] at h2
      exact Nat.lt_of_lt_of_le h2 (by decide)
    have := h.2
    omega
  | dic kvs =>
    have h : kvs = [] := h
    subst h
    refine ⟨rfl, by simp [py, PyData.showable, PyData.showableKv], Nat.le_trans (m := 2) (by simp only [py, PyData.shown, PyData.shownKv]; decide) (by omega), by simp [py, PyData.depth, PyData.depthKv]⟩
  | lst xs => exact h.elim
  | tup xs => exact h.elim
  | obj c fs => exact h.elim
theorem Bd.rep {s n : Nat} : ∀ {k : Nat} {d : D}, Bd s n k d → rok d = true ∧ (py d).showable = true ∧ (py d).shown.length ≤ Wd s n k ∧ (py d).depth ≤ k + 1
  | 0, d, h => by
    obtain ⟨a, b, c, e⟩ := At.rep h
    exact ⟨a, b, c, e⟩
  | k + 1, d, .inl h => by
    obtain ⟨a, b, c, e⟩ := At.rep h
    exact ⟨a, b, by unfold Wd; omega, by omega⟩
  | k + 1, d, .inr ⟨xs, e, hl, h⟩ => by
    have ih := fun x hx => Bd.rep (h x hx)
    have p : piled (PyData.shownAll (pyL xs)) ≤ n * (Wd s n k + 2) := by
      refine Nat.le_trans (piled_le (m := Wd s n k) fun t ht => ?_) (Nat.mul_le_mul_right _ ?_)
      · rw [shownAll_map] at ht
        obtain ⟨d, hd, rfl⟩ := List.mem_map.mp ht
        exact (ih d hd).2.2.1
      · rw [shownAll_map, List.length_map]
        exact hl
    have q1 := listText_le (PyData.shownAll (pyL xs))
    have q2 := tupleText_le (PyData.shownAll (pyL xs))
    have dd := depL (k := k + 1) fun d hd => (ih d hd).2.2.2
    rcases e with rfl | rfl
    · refine ⟨rokL_of fun d hd => (ih d hd).1, by simp only [py, PyData.showable]; exact showL fun d hd => (ih d hd).2.1, by simp only [py, PyData.shown, Wd]; omega, by simp only [py, PyData.depth]; omega⟩
    · refine ⟨rokL_of fun d hd => (ih d hd).1, by simp only [py, PyData.showable]; exact showL fun d hd => (ih d hd).2.1, by simp only [py, PyData.shown, Wd]; omega, by simp only [py, PyData.depth]; omega⟩
/-- repr of bounded data -/
theorem rep_ok {s n k : Nat} {d : D} (h : Bd s n k d) (hw : Wd s n k ≤ 16777216) (hk : k ≤ 63) : opRepr d = some (.str (py d).shown) := by
  obtain ⟨a, b, c, e⟩ := h.rep
  unfold opRepr
  rw [a, b, fits_of (Nat.le_trans c hw), decide_eq_true (show (py d).depth ≤ 64 by omega)]
  rfl
@[simp] theorem eCallB_ap {ρ : Lo} (g : List D → R D) (fa : Lo → R (List D)) : eCallB g fa ρ = (fa ρ).bind fun ds => atomR (g ds) := (rfl)
@[simp] theorem atomR_i (i : Int) : atomR (.ok (.int i)) = .ok (.int i) := (rfl)
@[simp] theorem atomR_b (i : Bool) : atomR (.ok (.bl i)) = .ok (.bl i) := (rfl)
@[simp] theorem atomR_n : atomR (.ok .non) = .ok .non := (rfl)
@[simp] theorem atomR_s (i : Str) : atomR (.ok (.str i)) = .ok (.str i) := (rfl)
/-! ### parts of lists -/
theorem opAdd_lw {xs ys : List D} (h : xs.length + ys.length ≤ 16777216) : opAdd (.lst xs) (.lst ys) = some (.lst (xs ++ ys)) := if_pos (fits_of h)
theorem opAdd_tw {xs ys : List D} (h : xs.length + ys.length ≤ 16777216) : opAdd (.tup xs) (.tup ys) = some (.tup (xs ++ ys)) := if_pos (fits_of h)
theorem opAdd_ss {x y : Str} (h : x.length + y.length ≤ 16777216) : opAdd (.str x) (.str y) = some (.str (x ++ y)) := if_pos (fits_of h)
theorem mem_cut {ds : List D} {lo hi : Option Int} {x : D} (h : x ∈ cutD ds lo hi) : x ∈ ds := List.mem_of_mem_drop (List.mem_of_mem_take h)
theorem len_cut (ds : List D) (lo hi : Option Int) : (cutD ds lo hi).length ≤ ds.length := by
  unfold cutD
  simp
  omega
/-! ### small displays -/
@[simp] theorem fit0 : fits 0 = true := (rfl)
@[simp] theorem fit1 : fits 1 = true := (rfl)
@[simp] theorem fit2 : fits 2 = true := (rfl)
@[simp] theorem fit3 : fits 3 = true := (rfl)
@[simp] theorem fit4 : fits 4 = true := (rfl)
@[simp] theorem fit5 : fits 5 = true := (rfl)
@[simp] theorem fit6 : fits 6 = true := (rfl)
@[simp] theorem fit7 : fits 7 = true := (rfl)
@[simp] theorem fit8 : fits 8 = true := (rfl)
@[simp] theorem fit9 : fits 9 = true := (rfl)
@[simp] theorem fit10 : fits 10 = true := (rfl)
@[simp] theorem fit11 : fits 11 = true := (rfl)
@[simp] theorem fit12 : fits 12 = true := (rfl)
@[simp] theorem fit13 : fits 13 = true := (rfl)
@[simp] theorem fit14 : fits 14 = true := (rfl)
@[simp] theorem fit15 : fits 15 = true := (rfl)
@[simp] theorem fit16 : fits 16 = true := (rfl)
@[simp] theorem fit17 : fits 17 = true := (rfl)
@[simp] theorem fit18 : fits 18 = true := (rfl)
@[simp] theorem fit19 : fits 19 = true := (rfl)
@[simp] theorem fit20 : fits 20 = true := (rfl)
@[simp] theorem fit21 : fits 21 = true := (rfl)
@[simp] theorem fit22 : fits 22 = true := (rfl)
@[simp] theorem fit23 : fits 23 = true := (rfl)
@[simp] theorem fit24 : fits 24 = true := (rfl)
@[simp] theorem fit25 : fits 25 = true := (rfl)
@[simp] theorem fit26 : fits 26 = true := (rfl)
@[simp] theorem fit27 : fits 27 = true := (rfl)
@[simp] theorem fit28 : fits 28 = true := (rfl)
@[simp] theorem fit29 : fits 29 = true := (rfl)
@[simp] theorem fit30 : fits 30 = true := (rfl)
@[simp] theorem fit31 : fits 31 = true := (rfl)
@[simp] theorem fit32 : fits 32 = true := (rfl)
@[simp] theorem fit33 : fits 33 = true := (rfl)
@[simp] theorem fit34 : fits 34 = true := (rfl)
@[simp] theorem fit35 : fits 35 = true := (rfl)
@[simp] theorem fit36 : fits 36 = true := (rfl)
@[simp] theorem fit37 : fits 37 = true := (rfl)
@[simp] theorem fit38 : fits 38 = true := (rfl)
@[simp] theorem fit39 : fits 39 = true := (rfl)
@[simp] theorem fit40 : fits 40 = true := (rfl)
end VL

namespace VL
open PyProof.Rows PySem L2 PySem.Spec

/-! ### plain facts of all the laws -/
/-- a list of ints within bounds, one for each size -/
def Dig (sz l : List Int) : Prop := l.length = sz.length ∧ ∀ (i : Nat) (x z : Int), l[i]? = some x → sz[i]? = some z → 0 ≤ x ∧ x < z
theorem dig_add {sz l : List Int} {x z : Int} (h : Dig (sz.take l.length) l) (hz : sz[l.length]? = some z) (hx : 0 ≤ x ∧ x < z) : Dig (sz.take (l ++ [x]).length) (l ++ [x]) := by
  have hl : l.length < sz.length := (List.getElem?_eq_some_iff.mp hz).1
  refine ⟨by simp; omega, fun i y w h1 h2 => ?_⟩
  rw [List.getElem?_take] at h2
  split at h2
  · rename_i hi
    simp at hi
    by_cases e : i < l.length
    · rw [List.getElem?_append_left e] at h1
      exact h.2 i y w h1 (by rw [List.getElem?_take, if_pos e]; exact h2)
    · have e2 : i = l.length := by omega
      subst e2
      rw [hz] at h2
      cases h2
      simp at h1
      subst h1
      exact hx
  · cases h2
theorem pow_ok {b e : Int} (h0 : 0 ≤ b) (h1 : b < 18446744073709551616) (h2 : 0 ≤ e) (h3 : e ≤ 5) : opPow (.int b) (.int e) = some (.int (b ^ e.toNat)) := if_pos (decide_eq_true ⟨h2, by omega, by
  have : (2 : Nat) ^ 64 = 18446744073709551616 := by decide
  omega⟩)
theorem mul_l {i : Int} (j : Int) (h0 : 0 ≤ i) (h1 : i < 1000000000000) : opMul (.int i) (.int j) = some (.int (i * j)) := opMul_ii (by
  rw [Bool.or_eq_true]
  refine .inl (decide_eq_true ?_)
  have : (2 : Int) ^ 64 = 18446744073709551616 := by decide
  omega)
theorem mul_r (i : Int) {j : Int} (h0 : 0 ≤ j) (h1 : j < 1000000000000) : opMul (.int i) (.int j) = some (.int (i * j)) := opMul_ii (by
  rw [Bool.or_eq_true]
  refine .inr (decide_eq_true ?_)
  have : (2 : Int) ^ 64 = 18446744073709551616 := by decide
  omega)
theorem pow18 : opPow (.int 10) (.int 18) = some (.int 1000000000000000000) := by
  unfold opPow
  dsimp only
  rw [if_pos (by decide +kernel)]
  simp
theorem fits62_n {n : Nat} (h : n ≤ 16777216) : fits62 (n : Int) = true := decide_eq_true (by
  have : (2 : Int) ^ 62 = 4611686018427387904 := by decide
  omega)
theorem range_n {n : Nat} (h : n ≤ 16777216) : rangeD (.int (n : Int)) = .ok (rng 0 n) := by
  unfold rangeD
  dsimp only
  rw [fits62_n h, Int.toNat_natCast, fits_of h]
  simp only [Bool.and_self, if_true]
/-- the loop's turn: what stands at each turn's head -/
def NumP (c s n : Int) (sz : List Int) (r : List D) (ρ : Lo) : Prop := ∃ (l : List Int) (lf : Int) (x6 x7 : Sl), l.length ≤ sz.length ∧ r = rng l.length sz.length ∧
  ρ = [.sh (.int c), .sh (.int s), .sh (.lst (sz.map .int)), .sh (.int n), .sh (.int lf), .ow (.lst (l.map .int)), x6, x7] ∧ Dig (sz.take l.length) l
theorem num_key {c s n : Int} {sz l : List Int} {x z lf : Int} {x6 x7 : Sl} (hd : Dig (sz.take l.length) l) (hz : sz[l.length]? = some z) (hx : 0 ≤ x ∧ x < z) :
    NumP c s n sz (rng ((l.length : Int) + 1) sz.length) [.sh (.int c), .sh (.int s), .sh (.lst (sz.map .int)), .sh (.int n), .sh (.int lf), .ow (.lst (l.map .int ++ [.int x])), x6, x7] := by
  have hl : l.length < sz.length := (List.getElem?_eq_some_iff.mp hz).1
  exact ⟨l ++ [x], lf, x6, x7, by simp; omega, by simp, by simp, dig_add hd hz hx⟩
/-- an atom that may be looked at -/
def A1 (d : D) : Prop := plainD d = true ∧ ∀ x, d = .str x → PyData.strOk x = true ∧ x.length ≤ 60
def letters : List Nat := ("abcdefghijklmnopqrstuvwxyz" : Str).cps.toList
def intB : D → Bool
  | .int _ => true
  | _ => false
def numB (lo hi : Int) : D → Bool
  | .int i => decide (lo ≤ i) && decide (i ≤ hi)
  | _ => false
def nameB : D → Bool
  | .str x => decide (1 ≤ (x.length : Int)) && decide ((x.length : Int) ≤ 6) && x.cps.toList.all fun c => decide (c ∈ letters)
  | _ => false
def kindB : D → Bool
  | .str x => (("hidden" : Str) == x) || ((("seen" : Str) == x) || ("given" : Str) == x)
  | _ => false
def boxB : D → Bool
  | .tup [a, b, c] => nameB a && (numB 1 4 b && kindB c)
  | _ => false
theorem letters_eq : ("abcdefghijklmnopqrstuvwxyz" : Str).cps.toList = letters := rfl
theorem len_le {x : Str} (h : x.length ≤ 60) : opLen (.str x) = some (.int x.length) := opLen_s (fits_of (by omega))
theorem items_s {x : Str} (h : x.length ≤ 60) : items (.str x) = .ok (x.cps.toList.map fun c => .str ⟨#[c]⟩) := if_pos (fits_of (by omega))
theorem in_sign (c : Nat) (z : Str) : opIn (.str ⟨#[c]⟩) (.str z) = some (.bl (decide (c ∈ z.cps.toList))) := rfl
theorem notIn_sign (c : Nat) (z : Str) : opNotIn (.str ⟨#[c]⟩) (.str z) = some (.bl (!decide (c ∈ z.cps.toList))) := rfl
theorem strOk_sign {x : Str} (h : PyData.strOk x = true) {c : Nat} (hc : c ∈ x.cps.toList) : PyData.strOk ⟨#[c]⟩ = true := by
  unfold PyData.strOk at h ⊢
  rw [Array.all_eq_true'] at h
  simpa using h c (by simpa using hc)
theorem kinds_in {x : Str} (h : PyData.strOk x = true) : opIn (.str x) (.tup [.str "hidden", .str "seen", .str "given"]) = some (.bl (kindB (.str x))) := by
  unfold opIn isIn
  dsimp only
  have s : (D.tup [.str "hidden", .str "seen", .str "given"]).sha = true := sha_of (k := 1) (lay_tup fun d hd => by
    simp only [List.mem_cons, List.not_mem_nil, or_false] at hd
    rcases hd with rfl | rfl | rfl <;> exact lay_s (by decide +kernel)) (by omega)
  rw [sha_of (lay_s h) (by omega), s]
  simp only [Bool.and_self, if_true, List.any_cons, List.any_nil, eqv_ss, kindB, Bool.or_false, Option.map_some]
/-- a thing whose parts, too, are plain -/
def A2 (d : D) : Prop := A1 d ∧ ∀ xs, d = .tup xs → ∀ x ∈ xs, A1 x
theorem n33 : (((3 : Nat) : Int) != 3) = false := rfl
theorem n3m (n : Nat) : (((n + 1 + 1 + 1 + 1 : Nat) : Int) != 3) = true := bne_iff_ne.mpr (by omega)
theorem box_tail {b c : D} (hb : A1 b) (hc : A1 c) (f : R D) (hf : f = .ok (.bl (numB 1 4 b))) : (f.tru.bind fun k => if k = true then ((R.opt (opIsi isStr c)).tru.bind fun k => if k = true then R.opt (opIn c (.tup [.str "hidden", .str "seen", .str "given"])) else .ok (.bl false)) else .ok (.bl false)) = .ok (.bl (numB 1 4 b && kindB c)) := by
  subst hf
  simp only [bind_ok, bind_ex, bind_bad, fb_ok, fb_ex, fb_bad, opt_some, opt_none, go_nx, go_bk, go_ct, go_rt, go_ex, go_bad, sq_go, fin_rt, fin_nx, fin_ex, val_sh, bor_sh, bor_ow, eV_ap, eB_ap, eC_ap, b1_ap, b2_ap, thn3_t, thn3_f, b3_ap, tru_bl, tb_ap, tAndB_ap, tOrB_ap, tNotB_ap, eAnd_ap, eOr_ap, eNot_ap, eIf_ap, aNil_ap, aCons_ap, eTup_ap, eLst_ap, eCall_ap, oN_ap, oint_ok, oS_ap, eSl_ap, iS_ap, items_lst, items_tup, iR1_ap, iR2_ap, enD_lst, iE_ap, gS_ap, gNil_ap, gCons_ap, gT_ap, sNx_ap, sBk_ap, sCt_ap, sFz_ap, sSet_ap, sNew_ap, nSl_lst, nSl_tup, nSl_int, nSl_dic, sAsg_ap, sRet_ap, sRetN_ap, sIf_ap, sEx_ap, sFor_ap, eLc_ap, wipe_nil, wipe_cons, tsY_ap, iZ_ap, fzS_ow, fzS_sh, fzS_no, fz_ap, augS_sh, sAug_ap, appS_ow, sApp_ap, ends_nx, ends_ct, ends_bk, ends_rt, ends_ex, opAdd_ii, opSub_ii, opNeg_i, opLe_ii, opLt_ii, opGt_ii, opGe_ii, opLen_l, opLen_t, opIx_l, opIx_t, opCut_l, opCut_t, opTuple_l, opTuple_t, opList_l, opList_t, opMax_ii, opInt_b, opInt_i, opEq_bb, opNe_bb, opEq_ii, opNe_ii, opNe_ss, opEq_ss, opIs_n, opIs_bb, atI_0, atI_1, atI_2, atI_3, eCallB_ap, atomR_i, atomR_b, atomR_n, atomR_s, fit0, fit1, fit2, fit3, fit4, fit5, fit6, fit7, fit8, fit9, fit10, fit11, fit12, fit13, fit14, fit15, fit16, fit17, fit18, fit19, fit20, fit21, fit22, fit23, fit24, fit25, fit26, fit27, fit28, fit29, fit30, fit31, fit32, fit33, fit34, fit35, fit36, fit37, fit38, fit39, fit40, List.getElem?_cons_zero, List.getElem?_cons_succ, List.set_cons_zero, List.set_cons_succ, if_true, if_false, Bool.false_eq_true, List.length_cons, List.length_nil, List.length_map, Bool.true_and, Bool.and_true, Bool.false_and, Bool.and_false, Bool.not_true, Bool.not_false, eq_self, Nat.reduceEqDiff, Nat.reduceAdd, opIsi_some hc.1]
  cases q : numB 1 4 b with
  | false => simp only [bind_ok, bind_ex, bind_bad, fb_ok, fb_ex, fb_bad, opt_some, opt_none, go_nx, go_bk, go_ct, go_rt, go_ex, go_bad, sq_go, fin_rt, fin_nx, fin_ex, val_sh, bor_sh, bor_ow, eV_ap, eB_ap, eC_ap, b1_ap, b2_ap, thn3_t, thn3_f, b3_ap, tru_bl, tb_ap, tAndB_ap, tOrB_ap, tNotB_ap, eAnd_ap, eOr_ap, eNot_ap, eIf_ap, aNil_ap, aCons_ap, eTup_ap, eLst_ap, eCall_ap, oN_ap, oint_ok, oS_ap, eSl_ap, iS_ap, items_lst, items_tup, iR1_ap, iR2_ap, enD_lst, iE_ap, gS_ap, gNil_ap, gCons_ap, gT_ap, sNx_ap, sBk_ap, sCt_ap, sFz_ap, sSet_ap, sNew_ap, nSl_lst, nSl_tup, nSl_int, nSl_dic, sAsg_ap, sRet_ap, sRetN_ap, sIf_ap, sEx_ap, sFor_ap, eLc_ap, wipe_nil, wipe_cons, tsY_ap, iZ_ap, fzS_ow, fzS_sh, fzS_no, fz_ap, augS_sh, sAug_ap, appS_ow, sApp_ap, ends_nx, ends_ct, ends_bk, ends_rt, ends_ex, opAdd_ii, opSub_ii, opNeg_i, opLe_ii, opLt_ii, opGt_ii, opGe_ii, opLen_l, opLen_t, opIx_l, opIx_t, opCut_l, opCut_t, opTuple_l, opTuple_t, opList_l, opList_t, opMax_ii, opInt_b, opInt_i, opEq_bb, opNe_bb, opEq_ii, opNe_ii, opNe_ss, opEq_ss, opIs_n, opIs_bb, atI_0, atI_1, atI_2, atI_3, eCallB_ap, atomR_i, atomR_b, atomR_n, atomR_s, fit0, fit1, fit2, fit3, fit4, fit5, fit6, fit7, fit8, fit9, fit10, fit11, fit12, fit13, fit14, fit15, fit16, fit17, fit18, fit19, fit20, fit21, fit22, fit23, fit24, fit25, fit26, fit27, fit28, fit29, fit30, fit31, fit32, fit33, fit34, fit35, fit36, fit37, fit38, fit39, fit40, List.getElem?_cons_zero, List.getElem?_cons_succ, List.set_cons_zero, List.set_cons_succ, if_true, if_false, Bool.false_eq_true, List.length_cons, List.length_nil, List.length_map, Bool.true_and, Bool.and_true, Bool.false_and, Bool.and_false, Bool.not_true, Bool.not_false, eq_self, Nat.reduceEqDiff, Nat.reduceAdd]
  | true =>
    cases c <;> try rfl
    rename_i x
    simp only [bind_ok, bind_ex, bind_bad, fb_ok, fb_ex, fb_bad, opt_some, opt_none, go_nx, go_bk, go_ct, go_rt, go_ex, go_bad, sq_go, fin_rt, fin_nx, fin_ex, val_sh, bor_sh, bor_ow, eV_ap, eB_ap, eC_ap, b1_ap, b2_ap, thn3_t, thn3_f, b3_ap, tru_bl, tb_ap, tAndB_ap, tOrB_ap, tNotB_ap, eAnd_ap, eOr_ap, eNot_ap, eIf_ap, aNil_ap, aCons_ap, eTup_ap, eLst_ap, eCall_ap, oN_ap, oint_ok, oS_ap, eSl_ap, iS_ap, items_lst, items_tup, iR1_ap, iR2_ap, enD_lst, iE_ap, gS_ap, gNil_ap, gCons_ap, gT_ap, sNx_ap, sBk_ap, sCt_ap, sFz_ap, sSet_ap, sNew_ap, nSl_lst, nSl_tup, nSl_int, nSl_dic, sAsg_ap, sRet_ap, sRetN_ap, sIf_ap, sEx_ap, sFor_ap, eLc_ap, wipe_nil, wipe_cons, tsY_ap, iZ_ap, fzS_ow, fzS_sh, fzS_no, fz_ap, augS_sh, sAug_ap, appS_ow, sApp_ap, ends_nx, ends_ct, ends_bk, ends_rt, ends_ex, opAdd_ii, opSub_ii, opNeg_i, opLe_ii, opLt_ii, opGt_ii, opGe_ii, opLen_l, opLen_t, opIx_l, opIx_t, opCut_l, opCut_t, opTuple_l, opTuple_t, opList_l, opList_t, opMax_ii, opInt_b, opInt_i, opEq_bb, opNe_bb, opEq_ii, opNe_ii, opNe_ss, opEq_ss, opIs_n, opIs_bb, atI_0, atI_1, atI_2, atI_3, eCallB_ap, atomR_i, atomR_b, atomR_n, atomR_s, fit0, fit1, fit2, fit3, fit4, fit5, fit6, fit7, fit8, fit9, fit10, fit11, fit12, fit13, fit14, fit15, fit16, fit17, fit18, fit19, fit20, fit21, fit22, fit23, fit24, fit25, fit26, fit27, fit28, fit29, fit30, fit31, fit32, fit33, fit34, fit35, fit36, fit37, fit38, fit39, fit40, List.getElem?_cons_zero, List.getElem?_cons_succ, List.set_cons_zero, List.set_cons_succ, if_true, if_false, Bool.false_eq_true, List.length_cons, List.length_nil, List.length_map, Bool.true_and, Bool.and_true, Bool.false_and, Bool.and_false, Bool.not_true, Bool.not_false, eq_self, Nat.reduceEqDiff, Nat.reduceAdd, isStr, kinds_in (hc.2 x rfl).1]
/-- enumerate, from i on -/
def enF (i : Int) : List D → List D
  | [] => []
  | d :: r => .tup [.int i, d] :: enF (i + 1) r
theorem enF_eq (ds : List D) : ∀ i : Nat, List.zipWith (fun x y => D.tup [x, y]) ((List.range' i ds.length).map fun j => .int (j : Nat)) ds = enF (i : Int) ds := by
  induction ds with
  | nil => intro i; rfl
  | cons d r ih =>
    intro i
    rw [List.length_cons, List.range'_succ, List.map_cons, List.zipWith_cons_cons, ih (i + 1)]
    rfl
theorem enumD_eq (ds : List D) : enumD ds = enF 0 ds := by
  unfold enumD zipD
  rw [List.range_eq_range']
  exact enF_eq ds 0
/-- a box: its name, size, kind -/
theorem box_inv {d : D} (h : boxB d = true) : ∃ (n k : Str) (z : Int), d = .tup [.str n, .int z, .str k] ∧ nameB (.str n) = true ∧ 1 ≤ z ∧ z ≤ 4 ∧ kindB (.str k) = true := by
  unfold boxB at h
  split at h
  · rename_i a b c
    rw [Bool.and_eq_true, Bool.and_eq_true] at h
    obtain ⟨h1, h2, h3⟩ := h
    cases a <;> try (cases h1; done)
    cases b <;> try (cases h2; done)
    cases c <;> try (cases h3; done)
    rename_i n z k
    simp only [numB, Bool.and_eq_true, decide_eq_true_eq] at h2
    exact ⟨n, k, z, rfl, h1, h2.1, h2.2, h3⟩
  · cases h
theorem name_strOk {n : Str} (h : nameB (.str n) = true) : PyData.strOk n = true := by
  unfold nameB at h
  rw [Bool.and_eq_true] at h
  unfold PyData.strOk
  rw [Array.all_eq_true']
  intro c hc
  have q := List.all_eq_true.mp h.2 c (by simpa using hc)
  rw [decide_eq_true_eq] at q
  have all : (letters.all fun c => decide (c < 0x110000)) = true := by decide +kernel
  exact List.all_eq_true.mp all c q
def nmOf : D → Str
  | .tup (.str n :: _) => n
  | _ => ""
def szOf : D → Int
  | .tup (_ :: .int z :: _) => z
  | _ => 1
def goodL (pre : List Str) : List D → Bool
  | [] => true
  | d :: r => boxB d && (!(pre.contains (nmOf d)) && goodL (pre ++ [nmOf d]) r)
def prodI (ds : List D) : Int := ds.foldl (fun a d => a * szOf d) 1
theorem good_box {ds : List D} : ∀ {pre : List Str}, goodL pre ds = true → ∀ d ∈ ds, boxB d = true := by
  induction ds with
  | nil => intro pre _ d hd; simp at hd
  | cons b r ih =>
    intro pre h d hd
    rw [goodL, Bool.and_eq_true, Bool.and_eq_true] at h
    rcases List.mem_cons.mp hd with rfl | hd
    · exact h.1
    · exact ih h.2.2 d hd
/-- are boxes -/
def arB : D → Bool
  | .lst ds => decide (1 ≤ (ds.length : Int)) && decide ((ds.length : Int) ≤ 6) && (goodL [] ds && decide (prodI ds ≤ 64))
  | _ => false
/-- a list's items, too, are fit to be looked at -/
def A3 (d : D) : Prop := plainD d = true ∧ ∀ xs, d = .lst xs → xs.length ≤ 100000 ∧ ∀ x ∈ xs, A2 x
theorem zip_range {α β γ : Type} (f : α → β → γ) (a : α) (b : β) {xs : List α} {ys : List β} (h : xs.length = ys.length) : List.zipWith f xs ys = (List.range ys.length).map fun i => f (xs.getD i a) (ys.getD i b) := by
  refine List.ext_getElem (by simp [h]) fun i h1 h2 => ?_
  simp at h1 h2
  have h3 : i < xs.length := by omega
  simp [List.getD_eq_getElem?_getD, h2, h3]
def stB (bs xs : List D) : Bool := (List.range bs.length).all fun i => numB 0 (szOf (bs.getD i .non) - 1) (xs.getD i .non)
/-- is a stand of these boxes -/
def isSt (bs : List D) : D → Bool
  | .tup xs => (xs.length == bs.length) && stB bs xs
  | _ => false
theorem getD_mem {α : Type} {xs : List α} {i : Nat} (a : α) (h : i < xs.length) : xs.getD i a ∈ xs := by
  rw [List.getD_eq_getElem?_getD, List.getElem?_eq_getElem h]
  exact List.getElem_mem h
theorem ne_len (a b : Nat) : (((a : Nat) : Int) != (b : Nat)) = !(a == b) := by
  rw [Bool.eq_iff_iff]
  simp
  omega
theorem enum_range {bs : List D} : enumD bs = (List.range bs.length).map fun (i : Nat) => D.tup [.int i, bs.getD i .non] := by
  unfold enumD zipD
  rw [zip_range _ .non .non (by simp)]
  refine List.map_congr_left fun i hi => ?_
  rw [List.mem_range] at hi
  simp [List.getD_eq_getElem?_getD, hi]
abbrev Bz := Bd 10 13
theorem bz_A1 {k : Nat} {d : D} (h : Bz k d) : A1 d := ⟨h.plain, fun x e => by
  subst e
  obtain ⟨a, b⟩ := Bd.str h
  exact ⟨a, by omega⟩⟩
theorem bz_A2 {k : Nat} {d : D} (h : Bz k d) : A2 d := ⟨bz_A1 h, fun xs e x hx => by
  subst e
  exact bz_A1 ((Bd.inT h).2 x hx)⟩
theorem bz_A3 {k : Nat} {d : D} (h : Bz k d) : A3 d := ⟨h.plain, fun xs e => by
  subst e
  obtain ⟨a, b⟩ := Bd.inL h
  exact ⟨by omega, fun x hx => bz_A2 (b x hx)⟩⟩
theorem pow30 : opPow (.int 10) (.int 30) = some (.int 1000000000000000000000000000000) := by
  unfold opPow
  dsimp only
  rw [if_pos (by decide +kernel)]
  simp
theorem bz_i {k : Nat} {i : Int} (h : i.natAbs < 10 ^ 40) : Bz k (.int i) := Bd.at h
theorem bz_s {k : Nat} {x : Str} (h : PyData.strOk x = true) (hl : x.length ≤ 10) : Bz k (.str x) := Bd.at ⟨h, hl⟩
theorem all1 {p : D → Prop} {a : D} (h : p a) : ∀ x ∈ [a], p x := fun x hx => by
  rw [List.mem_singleton] at hx
  subst hx
  exact h
theorem allC {p : D → Prop} {a : D} {l : List D} (h : p a) (hl : ∀ x ∈ l, p x) : ∀ x ∈ a :: l, p x := fun x hx => by
  rcases List.mem_cons.mp hx with rfl | hx
  · exact h
  · exact hl x hx
theorem all0 {p : D → Prop} : ∀ x ∈ ([] : List D), p x := fun x hx => by simp at hx
def oddL : List D := [.non, .bl true, .bl false, .str "", .str "s", .int 5, .int (-1), .tup [], .lst [], .dic [], .tup [.str "s"], .lst [.tup [.str "s", .int 2, .str "seen"]], .tup [.str "yes"], .int 1000000000000000000000000000000, .str "round", .tup [.int 0]]
theorem oddL_bz : ∀ d ∈ oddL, Bz 2 d := by
  have s : ∀ {k : Nat} {x : Str}, (PyData.strOk x && decide (x.length ≤ 10)) = true → Bz k (.str x) := fun {k x} h => by
    rw [Bool.and_eq_true, decide_eq_true_eq] at h
    exact bz_s h.1 h.2
  refine allC (.at trivial) (allC (.at trivial) (allC (.at trivial) (allC (s (by decide +kernel)) (allC (s (by decide +kernel)) (allC (bz_i (by decide)) (allC (bz_i (by decide)) (allC (Bd.tup (by decide) all0) (allC (Bd.lst (by decide) all0) (allC (.at rfl) (allC (Bd.tup (by decide) (all1 (s (by decide +kernel)))) (allC (Bd.lst (by decide) (all1 (Bd.tup (by decide) (allC (s (by decide +kernel)) (allC (bz_i (by decide)) (all1 (s (by decide +kernel)))))))) (allC (Bd.tup (by decide) (all1 (s (by decide +kernel)))) (allC (bz_i (by decide +kernel)) (allC (s (by decide +kernel)) (all1 (Bd.tup (by decide) (all1 (bz_i (by decide)))))))))))))))))))
/-- an int of a list -/
theorem atI_dig {l : List Int} {i : Int} (h0 : 0 ≤ i) (h1 : i < l.length) : atI (l.map D.int) i = some (.int (l.getD i.toNat 0)) := atI_ok (j := i.toNat) (by omega) (by
  rw [List.getElem?_map, List.getD_eq_getElem?_getD, List.getElem?_eq_getElem (by omega)]
  rfl)
theorem getD_nn {l : List Int} (h : ∀ x ∈ l, 0 ≤ x) (i : Nat) : 0 ≤ l.getD i 0 := by
  rw [List.getD_eq_getElem?_getD]
  cases e : l[i]? with
  | none => exact Int.le_refl 0
  | some x => exact h x (List.mem_of_getElem? e)
def names6 : List Str := ["a", "b", "box", "zzzzzz", "seen", "yes"]
def kinds3 : List Str := ["hidden", "seen", "given"]
/-- a box as drawn -/
def WBx (d : D) : Prop := ∃ (n k : Str) (z : Int), d = .tup [.str n, .int z, .str k] ∧ n ∈ names6 ∧ 1 ≤ z ∧ z ≤ 4 ∧ k ∈ kinds3
theorem n6_ok : ∀ n ∈ names6, nameB (.str n) = true ∧ PyData.strOk n = true ∧ n.length ≤ 10 := by decide +kernel
theorem k3_ok : ∀ n ∈ kinds3, kindB (.str n) = true ∧ PyData.strOk n = true ∧ n.length ≤ 10 := by decide +kernel
theorem WBx.box {d : D} (h : WBx d) : boxB d = true := by
  obtain ⟨n, k, z, rfl, a, b, c, e⟩ := h
  simp only [boxB, (n6_ok n a).1, (k3_ok k e).1, numB, decide_eq_true b, decide_eq_true c, Bool.and_self]
theorem WBx.bz {d : D} (h : WBx d) : Bz 1 d := by
  obtain ⟨n, k, z, rfl, a, b, c, e⟩ := h
  exact Bd.tup (by simp) (allC (bz_s (n6_ok n a).2.1 (n6_ok n a).2.2) (allC (bz_i (by omega)) (all1 (bz_s (k3_ok k e).2.1 (k3_ok k e).2.2))))
theorem range_i {i : Int} (h : 0 ≤ i) (h2 : i ≤ 16777216) : rangeD (.int i) = .ok (rng 0 i) := by
  have e : i = (i.toNat : Nat) := by omega
  rw [e, range_n (by omega)]
theorem wide_turn {l bs : List D} {m : Int} {i : Int} (hi : i = bs.length) : rng ((bs.length : Int) + 1) (1 + m) = rng (((bs ++ [D.non]).length : Nat) : Int) (1 + m) := by
  simp
theorem cut_lt (ds : List D) (i : Int) (h : 0 ≤ i) : (cutD ds none (some i)).length ≤ i.toNat := by
  obtain ⟨n, rfl⟩ := Int.eq_ofNat_of_zero_le h
  rw [cut_0n]
  simp
  omega
theorem cut_ge (ds : List D) (i : Int) (h : 0 ≤ i) : (cutD ds (some i) none).length = ds.length - i.toNat := by
  obtain ⟨n, rfl⟩ := Int.eq_ofNat_of_zero_le h
  rw [cut_n0]
  simp
theorem bz_cut {k : Nat} {bs : List D} {lo hi : Option Int} (h : ∀ b ∈ bs, Bz k b) : ∀ b ∈ cutD bs lo hi, Bz k b := fun b hb => h b (mem_cut hb)
theorem bz_app {k : Nat} {xs ys : List D} (h1 : ∀ b ∈ xs, Bz k b) (h2 : ∀ b ∈ ys, Bz k b) : ∀ b ∈ xs ++ ys, Bz k b := fun b hb => (List.mem_append.mp hb).elim (h1 b) (h2 b)
/-- signs behind a word -/
theorem items_lit {x : Str} {l : List Nat} (h : fits x.length = true) (e : x.cps.toList = l) : items (.str x) = .ok (l.map fun c => .str ⟨#[c]⟩) := by
  subst e
  exact if_pos h
theorem bz_up4 {k : Nat} {d : D} (h : Bz k d) (hk : k ≤ 4) : Bz 4 d := h.up hk
theorem bz3 {a b c : D} {k : Nat} (ha : Bz k a) (hb : Bz k b) (hc : Bz k c) : Bz (k + 1) (.tup [a, b, c]) := Bd.tup (by simp) (allC ha (allC hb (all1 hc)))
theorem pick_ok {k : Nat} (S : List D) (i : Int) (ρ : Lo) (h : 0 < S.length) (hS : ∀ v ∈ S, Bz k v) : ∃ v, (fb (R.opt (atI S (i % (S.length : Int)))) ρ fun d => .rt d).fin = .ok v ∧ Bz k v := by
  obtain ⟨v, hv, e⟩ := atI_mod (xs := S) i rfl h
  rw [e]
  exact ⟨v, rfl, hS v hv⟩
theorem pow20 : opPow (.int 10) (.int 20) = some (.int 100000000000000000000) := by
  unfold opPow
  dsimp only
  rw [if_pos (by decide +kernel)]
  simp
theorem getD_at {bs : List D} {i : Nat} (h : i < bs.length) : atI bs (i : Int) = some (bs.getD i .non) := atI_nat (by
  rw [List.getD_eq_getElem?_getD, List.getElem?_eq_getElem h]
  rfl)
theorem len_cut2 (ds : List D) (lo hi : Option Int) : (cutD ds lo hi).length ≤ ds.length := len_cut ds lo hi
/-- a slice of ints -/
theorem cut_map {l : List Int} {i j : Int} (h0 : 0 ≤ i) (h1 : i ≤ j) (h2 : j ≤ l.length) : cutD (l.map D.int) (some i) (some j) = ((l.drop i.toNat).take (j.toNat - i.toNat)).map D.int := by
  obtain ⟨n, rfl⟩ := Int.eq_ofNat_of_zero_le h0
  obtain ⟨m, rfl⟩ := Int.eq_ofNat_of_zero_le (show 0 ≤ j by omega)
  rw [cut_nn, List.length_map, Nat.min_eq_left (by omega), Nat.min_eq_left (by omega), List.map_take, List.map_drop]
  rfl
theorem cut_mapR {l : List Int} {i : Int} (h0 : 0 ≤ i) : cutD (l.map D.int) (some i) none = (l.drop i.toNat).map D.int := by
  obtain ⟨n, rfl⟩ := Int.eq_ofNat_of_zero_le h0
  rw [cut_n0, List.map_drop]
  rfl
theorem cut_mapL {l : List Int} {i : Int} (h0 : 0 ≤ i) : cutD (l.map D.int) none (some i) = (l.take i.toNat).map D.int := by
  obtain ⟨n, rfl⟩ := Int.eq_ofNat_of_zero_le h0
  rw [cut_0n, List.map_take]
  rfl
theorem bool_isi (b : Bool) : opIsi isBool (.bl b) = some (.bl true) := rfl
theorem bne_self (b : Bool) : (b != b) = false := by cases b <;> rfl
theorem bne_selfS (b : Str) : (b != b) = false := by
  rw [bne, beq_self_eq_true]
  rfl
theorem beq_selfB (b : Bool) : (b == b) = true := by cases b <;> rfl
theorem szOf_w {b : D} (h : WBx b) : 1 ≤ szOf b ∧ szOf b ≤ 4 := by
  obtain ⟨n, k, z, rfl, _, a, b, _⟩ := h
  exact ⟨a, b⟩
theorem stand_made {bs : List D} {l : List Int} (hb : ∀ b ∈ bs, WBx b) (h6 : bs.length ≤ 6) (hl : 26 ≤ l.length) (x0 x1 : Sl) : lcL (gT2 2 (gCons2 (gS 3) (gCons2 (gS 4) gNil2))) tsY (b2 (b2 (eV 1) (b2 (eC (.int 20)) (eV 3) opAdd) opIx) (b2 (eV 4) (eC (.int 1)) opIx) opMod) [.sh (.lst bs), .sh (.lst (l.map .int)), .no, .no, .no, .no, .no, .no] (enumD bs) =
    .ok ((List.range bs.length).map fun i => .int (l.getD (20 + i) 0 % szOf (bs.getD i .non))) := by
  rw [enum_range]
  refine lcL_encM _ _ fun i hi => ?_
  rw [List.mem_range] at hi
  obtain ⟨n, k, z, q, _, z1, z2, _⟩ := hb _ (getD_mem .non hi)
  rw [q]
  have e : (20 + (i : Int)).toNat = 20 + i := by omega
  exact ⟨_, rfl, by simp (disch := first | omega | (simp only [List.length_cons, List.length_nil, List.length_map, List.length_append, Nat.reduceAdd, Nat.reduceLeDiff]; done) | (simp only [List.length_cons, List.length_nil, List.length_map, List.length_append, Nat.reduceAdd, Nat.reduceLeDiff]; omega)) only [bind_ok, bind_ex, bind_bad, fb_ok, fb_ex, fb_bad, opt_some, opt_none, go_nx, go_bk, go_ct, go_rt, go_ex, go_bad, sq_go, fin_rt, fin_nx, fin_ex, val_sh, bor_sh, bor_ow, eV_ap, eB_ap, eC_ap, b1_ap, b2_ap, thn3_t, thn3_f, b3_ap, tru_bl, tb_ap, tAndB_ap, tOrB_ap, tNotB_ap, eAnd_ap, eOr_ap, eNot_ap, eIf_ap, aNil_ap, aCons_ap, eTup_ap, eLst_ap, eCall_ap, oN_ap, oint_ok, oS_ap, eSl_ap, iS_ap, items_lst, items_tup, iR1_ap, iR2_ap, enD_lst, iE_ap, gS_ap, gNil_ap, gCons_ap, gT_ap, sNx_ap, sBk_ap, sCt_ap, sFz_ap, sSet_ap, sNew_ap, nSl_lst, nSl_tup, nSl_int, nSl_dic, sAsg_ap, sRet_ap, sRetN_ap, sIf_ap, sEx_ap, sFor_ap, eLc_ap, wipe_nil, wipe_cons, tsY_ap, iZ_ap, fzS_ow, fzS_sh, fzS_no, fz_ap, augS_sh, sAug_ap, appS_ow, sApp_ap, ends_nx, ends_ct, ends_bk, ends_rt, ends_ex, opAdd_ii, opSub_ii, opNeg_i, opLe_ii, opLt_ii, opGt_ii, opGe_ii, opLen_l, opLen_t, opIx_l, opIx_t, opCut_l, opCut_t, opTuple_l, opTuple_t, opList_l, opList_t, opMax_ii, opInt_b, opInt_i, opEq_bb, opNe_bb, opEq_ii, opNe_ii, opNe_ss, opEq_ss, opIs_n, opIs_bb, atI_0, atI_1, atI_2, atI_3, eCallB_ap, atomR_i, atomR_b, atomR_n, atomR_s, fit0, fit1, fit2, fit3, fit4, fit5, fit6, fit7, fit8, fit9, fit10, fit11, fit12, fit13, fit14, fit15, fit16, fit17, fit18, fit19, fit20, fit21, fit22, fit23, fit24, fit25, fit26, fit27, fit28, fit29, fit30, fit31, fit32, fit33, fit34, fit35, fit36, fit37, fit38, fit39, fit40, List.getElem?_cons_zero, List.getElem?_cons_succ, List.set_cons_zero, List.set_cons_succ, if_true, if_false, Bool.false_eq_true, List.length_cons, List.length_nil, List.length_map, Bool.true_and, Bool.and_true, Bool.false_and, Bool.and_false, Bool.not_true, Bool.not_false, eq_self, Nat.reduceEqDiff, Nat.reduceAdd, atI_dig, opMod_ii, e]; rfl⟩
theorem stand_is {bs : List D} {l : List Int} (hb : ∀ b ∈ bs, WBx b) : isSt bs (.tup ((List.range bs.length).map fun i => .int (l.getD (20 + i) 0 % szOf (bs.getD i .non)))) = true := by
  unfold isSt stB
  dsimp only
  rw [List.length_map, List.length_range, beq_self_eq_true, Bool.true_and, List.all_eq_true]
  intro i hi
  rw [List.mem_range] at hi
  obtain ⟨z1, z2⟩ := szOf_w (hb _ (getD_mem .non hi))
  generalize hz : szOf (bs.getD i .non) = z at z1 z2
  have e : (((List.range bs.length).map fun i => D.int (l.getD (20 + i) 0 % szOf (bs.getD i .non))).getD i .non) = .int (l.getD (20 + i) 0 % z) := by
    rw [List.getD_eq_getElem?_getD, List.getElem?_map, List.getElem?_range hi]
    show D.int (l.getD (20 + i) 0 % szOf (bs.getD i .non)) = _
    rw [hz]
  rw [e]
  have h1 := Int.emod_nonneg (l.getD (20 + i) 0) (b := z) (by omega)
  have h2 := Int.emod_lt_of_pos (l.getD (20 + i) 0) (b := z) (by omega)
  simp only [numB, Bool.and_eq_true, decide_eq_true_eq]
  omega
/-! ### the law -/
theorem rep70 : opRep (.lst [.int 420]) (.int 70) = some (.lst ((List.replicate 70 420).map D.int)) := by
  unfold opRep
  dsimp only
  rw [if_pos (by decide +kernel)]
  rfl
theorem rep7 (b : Bool) : opRep (.lst [.int 7]) (.int (if b = true then 1 else 0)) = some (.lst ((if b = true then [7] else []).map D.int)) := by
  unfold opRep
  cases b
  · dsimp only
    rw [if_pos (by decide +kernel)]
    rfl
  · dsimp only
    rw [if_pos (by decide +kernel)]
    rfl
theorem dig_nn {sz l : List Int} (h : Dig sz l) : ∀ x ∈ l, 0 ≤ x := fun x hx => by
  obtain ⟨i, hi⟩ := List.getElem?_of_mem hx
  have hl : i < l.length := (List.getElem?_eq_some_iff.mp hi).1
  have hz : sz[i]? = some (sz[i]'(by rw [← h.1]; exact hl)) := List.getElem?_eq_getElem _
  exact (h.2 i x _ hi hz).1
theorem a1_s {x : Str} (h : (PyData.strOk x && decide (x.length ≤ 60)) = true) : A1 (.str x) := by
  rw [Bool.and_eq_true, decide_eq_true_eq] at h
  exact ⟨rfl, fun y e => by cases e; exact h⟩
theorem eq_nil_ints (ns : List Int) : opEq (.lst (ns.map .int)) (.lst []) = some (.bl (ns.map D.int).isEmpty) := opEq_nil (k := 0) (fun d hd => by
  obtain ⟨c, _, rfl⟩ := List.mem_map.mp hd
  exact lay_i _) (by omega)
theorem enF_nil {i : Int} {l : List Int} {r : List D} (h : r = enF i (l.map .int)) : (l = [] ∧ r = []) ∨ ∃ c t, l = c :: t ∧ r = .tup [.int i, .int c] :: enF (i + 1) (t.map .int) := by
  cases l with
  | nil => exact .inl ⟨rfl, h⟩
  | cons c t => exact .inr ⟨c, t, rfl, h⟩
theorem add_ints {xs ys : List Int} (h : xs.length + ys.length ≤ 16777216) : opAdd (.lst (xs.map .int)) (.lst (ys.map .int)) = some (.lst ((xs ++ ys).map .int)) := by
  rw [opAdd_lw (by simpa using h), List.map_append]
theorem a1_bz {d : D} (h : Bz 2 d) : A1 d := bz_A1 h
end VL

namespace VL
open PyProof.Rows PySem L2 PySem.Spec

/-! ### data: how long its repr is at most, how deep it is, whether it may be looked at -/
mutual
def wt : D → Nat
  | .non => 4
  | .bl _ => 5
  | .int _ => 47
  | .str x => 10 * x.length + 2
  | .lst xs => wtL xs + 3
  | .tup xs => wtL xs + 3
  | .dic _ => 2
  | .obj _ _ => 0
def wtL : List D → Nat
  | [] => 0
  | d :: r => wt d + 2 + wtL r
end
mutual
def dt : D → Bool
  | .non => true
  | .bl _ => true
  | .int i => decide (i.natAbs < 10 ^ 40)
  | .str x => PyData.strOk x && decide (x.length ≤ 60)
  | .lst xs => dtL xs
  | .tup xs => dtL xs
  | .dic kvs => kvs.isEmpty
  | .obj _ _ => false
def dtL : List D → Bool
  | [] => true
  | d :: r => dt d && dtL r
end
mutual
def dp : D → Nat
  | .lst xs => dpL xs + 1
  | .tup xs => dpL xs + 1
  | .dic _ => 1
  | .non => 0
  | .bl _ => 0
  | .int _ => 0
  | .str _ => 0
  | .obj _ _ => 0
def dpL : List D → Nat
  | [] => 0
  | d :: r => max (dp d) (dpL r)
end
theorem str_shown_le {x : Str} (h : PyData.strOk x = true) : (py (.str x)).shown.length ≤ 10 * x.length + 2 := by
  simp only [py, PyData.shown]
  exact StrLaws.reprText_len x fun c hc => by
    unfold PyData.strOk at h
    rw [Array.all_eq_true'] at h
    have h2 := h c (by simpa using hc)
    rw [decide_eq_true_eq] at h2
    exact Nat.lt_of_lt_of_le h2 (by decide)
mutual
theorem dt_rep : ∀ {d : D}, dt d = true → rok d = true ∧ (py d).showable = true ∧ (py d).shown.length ≤ wt d ∧ (py d).depth ≤ dp d
  | .non, _ => ⟨rfl, by simp [py, PyData.showable], by simp only [py, PyData.shown, wt]; decide, by simp [py, PyData.depth]⟩
  | .bl b, _ => ⟨rfl, by simp [py, PyData.showable], by simp only [py, PyData.shown, wt]; cases b <;> decide, by simp [py, PyData.depth]⟩
  | .int i, h => by
    have h : i.natAbs < 10 ^ 40 := by simpa [dt] using h
    refine ⟨rfl, by simp only [py, PyData.showable]; exact decide_eq_true (small_log h), ?_, by simp [py, PyData.depth]⟩
    simp only [py, PyData.shown, wt]
    have e := int_text_length_le10 (k := 40) (by decide) h
    rw [PySem.ofString_length]
    omega
  | .str x, h => by
    have h : PyData.strOk x = true ∧ x.length ≤ 60 := by simpa [dt] using h
    refine ⟨rfl, by simp [py, PyData.showable], ?_, by simp [py, PyData.depth]⟩
    simp only [wt]
    exact str_shown_le h.1
  | .dic kvs, h => by
    have h : kvs = [] := by simpa [dt] using h
    subst h
    exact ⟨rfl, by simp [py, PyData.showable, PyData.showableKv], by simp only [py, PyData.shown, PyData.shownKv, wt]; decide, by simp [py, PyData.depth, PyData.depthKv, dp]⟩
  | .lst xs, h => by
    obtain ⟨a, b, c, e⟩ := dtL_rep (ds := xs) (by simpa [dt] using h)
    have q1 := listText_le (PyData.shownAll (pyL xs))
    exact ⟨by simpa [rok] using a, by simp only [py, PyData.showable]; exact b, by simp only [py, PyData.shown, wt]; omega, by simp only [py, PyData.depth, dp]; omega⟩
  | .tup xs, h => by
    obtain ⟨a, b, c, e⟩ := dtL_rep (ds := xs) (by simpa [dt] using h)
    have q1 := tupleText_le (PyData.shownAll (pyL xs))
    exact ⟨by simpa [rok] using a, by simp only [py, PyData.showable]; exact b, by simp only [py, PyData.shown, wt]; omega, by simp only [py, PyData.depth, dp]; omega⟩
  | .obj _ _, h => by simp [dt] at h
theorem dtL_rep : ∀ {ds : List D}, dtL ds = true → rokL ds = true ∧ PyData.showableAll (pyL ds) = true ∧ piled (PyData.shownAll (pyL ds)) ≤ wtL ds ∧ PyData.depthAll (pyL ds) ≤ dpL ds
  | [], _ => ⟨rfl, by simp [pyL, PyData.showableAll], by simp [pyL, PyData.shownAll, piled], by simp [pyL, PyData.depthAll]⟩
  | d :: ds, h => by
    have h : dt d = true ∧ dtL ds = true := by simpa [dtL] using h
    obtain ⟨a, b, c, e⟩ := dt_rep h.1
    obtain ⟨a2, b2, c2, e2⟩ := dtL_rep h.2
    refine ⟨by simp [rokL, a, a2], by simp [pyL, PyData.showableAll, b, b2], ?_, ?_⟩
    · simp only [pyL, PyData.shownAll, piled_cons, wtL]
      omega
    · simp only [pyL, PyData.depthAll, dpL]
      omega
end
/-- data that may be shown and looked at -/
def Ok (w k : Nat) (d : D) : Prop := dt d = true ∧ wt d ≤ w ∧ dp d ≤ k
theorem Ok.up {w k w' k' : Nat} {d : D} (h : Ok w k d) (h1 : w ≤ w') (h2 : k ≤ k') : Ok w' k' d := ⟨h.1, Nat.le_trans h.2.1 h1, Nat.le_trans h.2.2 h2⟩
theorem Ok.rep {w k : Nat} {d : D} (h : Ok w k d) (hw : w ≤ 16777216) (hk : k ≤ 64) : opRepr d = some (.str (py d).shown) := by
  obtain ⟨a, b, c, e⟩ := dt_rep h.1
  obtain ⟨_, h2, h3⟩ := h
  unfold opRepr
  rw [a, b, fits_of (show (py d).shown.length ≤ 16777216 by omega), decide_eq_true (show (py d).depth ≤ 64 by omega)]
  rfl
theorem dtL_mem : ∀ {ds : List D}, dtL ds = true → ∀ d ∈ ds, dt d = true
  | [], _, _, h => by simp at h
  | d :: ds, h, x, hx => by
    have h : dt d = true ∧ dtL ds = true := by simpa [dtL] using h
    rcases List.mem_cons.mp hx with rfl | hx
    · exact h.1
    · exact dtL_mem h.2 x hx
theorem dtL_of : ∀ {ds : List D}, (∀ d ∈ ds, dt d = true) → dtL ds = true
  | [], _ => rfl
  | d :: ds, h => by
    rw [dtL, h d (by simp), dtL_of fun x hx => h x (by simp [hx])]
    rfl
theorem dt_t {xs : List D} (h : dt (.tup xs) = true) : ∀ x ∈ xs, dt x = true := dtL_mem (by simpa [dt] using h)
theorem dt_l {xs : List D} (h : dt (.lst xs) = true) : ∀ x ∈ xs, dt x = true := dtL_mem (by simpa [dt] using h)
theorem dt_plain {d : D} (h : dt d = true) : plainD d = true := by
  cases d <;> first | rfl | simp [dt] at h
theorem dt_s {x : Str} (h : dt (.str x) = true) : PyData.strOk x = true ∧ x.length ≤ 60 := by simpa [dt] using h
theorem dt_A1 {d : D} (h : dt d = true) : A1 d := ⟨dt_plain h, fun x e => by subst e; exact dt_s h⟩
theorem dt_A2 {d : D} (h : dt d = true) : A2 d := ⟨dt_A1 h, fun xs e x hx => by subst e; exact dt_A1 (dt_t h x hx)⟩
theorem wtL_le : ∀ {ds : List D} {w : Nat}, (∀ d ∈ ds, wt d ≤ w) → wtL ds ≤ ds.length * (w + 2)
  | [], _, _ => by simp [wtL]
  | d :: ds, w, h => by
    have a := wtL_le (ds := ds) fun x hx => h x (by simp [hx])
    have b := h d (by simp)
    simp only [wtL, List.length_cons, Nat.succ_mul]
    omega
theorem dpL_le : ∀ {ds : List D} {k : Nat}, (∀ d ∈ ds, dp d ≤ k) → dpL ds ≤ k
  | [], _, _ => by simp [dpL]
  | d :: ds, w, h => by
    have a := dpL_le (ds := ds) fun x hx => h x (by simp [hx])
    have b := h d (by simp)
    simp only [dpL]
    omega
theorem wt_mem : ∀ {ds : List D} {d : D}, d ∈ ds → wt d + 2 ≤ wtL ds
  | [], _, h => by simp at h
  | e :: ds, d, h => by
    simp only [wtL]
    rcases List.mem_cons.mp h with rfl | h
    · omega
    · have := wt_mem h; omega
theorem dp_mem : ∀ {ds : List D} {d : D}, d ∈ ds → dp d ≤ dpL ds
  | [], _, h => by simp at h
  | e :: ds, d, h => by
    simp only [dpL]
    rcases List.mem_cons.mp h with rfl | h
    · omega
    · have := dp_mem h; omega
theorem wtL_app : ∀ (xs ys : List D), wtL (xs ++ ys) = wtL xs + wtL ys
  | [], ys => by simp [wtL]
  | x :: xs, ys => by
    simp only [List.cons_append, wtL, wtL_app xs ys]
    omega
theorem dpL_app : ∀ (xs ys : List D), dpL (xs ++ ys) = max (dpL xs) (dpL ys)
  | [], ys => by simp [dpL]
  | x :: xs, ys => by
    simp only [List.cons_append, dpL, dpL_app xs ys]
    omega
theorem wtL_take : ∀ (n : Nat) (xs : List D), wtL (xs.take n) + wtL (xs.drop n) = wtL xs := fun n xs => by
  rw [← wtL_app, List.take_append_drop]
theorem dpL_take (n : Nat) (xs : List D) : dpL (xs.take n) ≤ dpL xs := dpL_le fun d hd => dp_mem (List.mem_of_mem_take hd)
theorem dpL_drop (n : Nat) (xs : List D) : dpL (xs.drop n) ≤ dpL xs := dpL_le fun d hd => dp_mem (List.mem_of_mem_drop hd)
theorem Ok.tup {w k : Nat} {xs : List D} (n : Nat) (hl : xs.length ≤ n) (h : ∀ x ∈ xs, Ok w k x) : Ok (n * (w + 2) + 3) (k + 1) (.tup xs) := by
  refine ⟨by simp only [dt]; exact dtL_of fun d hd => (h d hd).1, ?_, ?_⟩
  · have a := wtL_le fun d hd => (h d hd).2.1
    have b := Nat.mul_le_mul_right (w + 2) hl
    simp only [wt]
    omega
  · have a := dpL_le fun d hd => (h d hd).2.2
    simp only [dp]
    omega
theorem Ok.lst {w k : Nat} {xs : List D} (n : Nat) (hl : xs.length ≤ n) (h : ∀ x ∈ xs, Ok w k x) : Ok (n * (w + 2) + 3) (k + 1) (.lst xs) := by
  refine ⟨by simp only [dt]; exact dtL_of fun d hd => (h d hd).1, ?_, ?_⟩
  · have a := wtL_le fun d hd => (h d hd).2.1
    have b := Nat.mul_le_mul_right (w + 2) hl
    simp only [wt]
    omega
  · have a := dpL_le fun d hd => (h d hd).2.2
    simp only [dp]
    omega
/-- a text among written ones -/
theorem beq_c (a b : Str) : (a == b) = (b == a) := Bool.beq_comm
theorem any_lits (x : Str) (l : List Str) : ((l.map D.str).any fun z => z.eqv (.str x)) = l.any fun z => x == z := by
  induction l with
  | nil => rfl
  | cons y r ih => rw [List.map_cons, List.any_cons, List.any_cons, ih, eqv_ss, beq_c]
theorem in_lits {x : Str} (h : PyData.strOk x = true) (l : List Str) (hl : (l.all PyData.strOk) = true) : opIn (.str x) (.tup (l.map .str)) = some (.bl (l.any fun z => x == z)) := by
  unfold opIn isIn
  dsimp only
  rw [sha_of (lay_s h) (by omega), sha_of (k := 1) (lay_tup fun d hd => by
    obtain ⟨z, hz, rfl⟩ := List.mem_map.mp hd
    exact lay_s (List.all_eq_true.mp hl z hz)) (by omega), any_lits]
  rfl
theorem notIn_lits {x : Str} (h : PyData.strOk x = true) (l : List Str) (hl : (l.all PyData.strOk) = true) : opNotIn (.str x) (.tup (l.map .str)) = some (.bl (!l.any fun z => x == z)) := by
  have e := in_lits h l hl
  unfold opIn at e
  unfold opNotIn
  cases q : isIn (.str x) (.tup (l.map .str)) with
  | none => rw [q] at e; cases e
  | some b =>
    rw [q] at e
    have e : b = l.any fun z => x == z := by simpa using e
    rw [e]
    rfl
theorem notIn_strs {a : Str} {l : List Str} (h : PyData.strOk a = true) (hl : ∀ x ∈ l, PyData.strOk x = true) : opNotIn (.str a) (.lst (l.map .str)) = some (.bl (!l.contains a)) := by
  have e := in_strs h hl
  unfold opIn at e
  unfold opNotIn
  cases q : isIn (.str a) (.lst (l.map .str)) with
  | none => rw [q] at e; cases e
  | some b =>
    rw [q] at e
    have e : b = l.contains a := by simpa using e
    rw [e]
    rfl
theorem eq_tup0 (xs : List D) : opEq (.tup xs) (.tup []) = some (.bl xs.isEmpty) := by
  unfold opEq
  rw [if_pos (by simp [emT])]
  cases xs <;> simp [D.eqv, py, pyL, PyData.eqv, PyData.eqvAll]
theorem eq_lst0 (xs : List D) : opEq (.lst xs) (.lst []) = some (.bl xs.isEmpty) := by
  unfold opEq
  rw [if_pos (by simp [emL])]
  cases xs <;> simp [D.eqv, py, pyL, PyData.eqv, PyData.eqvAll]
/-- boxes: a name's place, its size -/
def nmsOf (bs : List D) : List Str := bs.map nmOf
def bxnB (bs : List D) : D → Bool
  | .str n => (nmsOf bs).contains n
  | _ => false
def szAt (bs : List D) (n : Str) : Int := szOf (bs.getD ((nmsOf bs).idxOf n) .non)
theorem contains_name {bs : List D} {n : Str} (hb : ∀ b ∈ bs, boxB b = true) (h : (nmsOf bs).contains n = true) : nameB (.str n) = true := by
  obtain ⟨b, hb2, rfl⟩ := List.mem_map.mp (List.contains_iff_mem.mp h)
  obtain ⟨n, k, z, rfl, q, _⟩ := box_inv (hb b hb2)
  exact q
theorem at_name {bs : List D} {n : Str} (hb : ∀ b ∈ bs, boxB b = true) (h : (nmsOf bs).contains n = true) : ∃ (z : Int) (k : Str), atI bs (((nmsOf bs).idxOf n : Nat) : Int) = some (.tup [.str n, .int z, .str k]) ∧ szAt bs n = z ∧ 1 ≤ z ∧ z ≤ 4 ∧ kindB (.str k) = true ∧ (nmsOf bs).idxOf n < bs.length := by
  have hm := List.contains_iff_mem.mp h
  have hl : (nmsOf bs).idxOf n < bs.length := by
    have := List.idxOf_lt_length_of_mem hm
    unfold nmsOf at this ⊢
    rwa [List.length_map] at this
  have e : bs[(nmsOf bs).idxOf n]? = some (bs[(nmsOf bs).idxOf n]) := List.getElem?_eq_getElem hl
  obtain ⟨m, k, z, q, _, z1, z2, kk⟩ := box_inv (hb _ (List.getElem_mem hl))
  have hn : nmOf (bs[(nmsOf bs).idxOf n]) = n := by
    have := List.getElem_idxOf (x := n) (xs := nmsOf bs) (by unfold nmsOf; rw [List.length_map]; exact hl)
    unfold nmsOf at this
    rw [List.getElem_map] at this
    exact this
  rw [q] at hn
  have hn : m = n := hn
  subst hn
  refine ⟨z, k, by rw [atI_nat e, q], ?_, z1, z2, kk, hl⟩
  unfold szAt
  rw [List.getD_eq_getElem?_getD, e, q]
  rfl
theorem findD_strs (n : Str) : ∀ (l : List Str) (i : Nat), findD (.str n) (l.map .str) i = if l.contains n = true then some (i + l.idxOf n) else none
  | [], i => by simp [findD]
  | x :: l, i => by
    simp only [List.map_cons, findD, eqv_ss, findD_strs n l (i + 1), List.contains_cons, List.idxOf_cons]
    by_cases h : (x == n) = true
    · have h2 : (n == x) = true := by rw [beq_c]; exact h
      simp [h, h2]
    · have h1 : (x == n) = false := by simpa using h
      have h2 : (n == x) = false := by rw [beq_c]; exact h1
      simp only [h1, h2, Bool.false_or, Bool.false_eq_true, if_false, cond_false]
      split
      · congr 1; omega
      · rfl
theorem index_strs {n : Str} {l : List Str} (h : PyData.strOk n = true) (hl : ∀ x ∈ l, PyData.strOk x = true) (hc : l.contains n = true) : opIndex (.lst (l.map .str)) (.str n) = some (.int ((l.idxOf n : Nat) : Int)) := by
  unfold opIndex
  dsimp only
  rw [sha_of (lay_s h) (by omega), sha_of (lay_strs hl) (by omega)]
  simp only [Bool.and_self, if_true]
  rw [findD_strs, if_pos hc, Nat.zero_add]
  rfl
/-- one part, two parts, a tuple of one to four -/
def one (f : D → Bool) : List D → Bool
  | [a] => f a
  | _ => false
def two (f : D → D → Bool) : List D → Bool
  | [a, b] => f a b
  | _ => false
def partsB (f : D → Bool) : D → Bool
  | .tup ps => decide (1 ≤ (ps.length : Int)) && (decide ((ps.length : Int) ≤ 4) && ps.all f)
  | _ => false
@[simp] theorem one_1 (f : D → Bool) (a : D) : one f [a] = f a := (rfl)
@[simp] theorem one_0 (f : D → Bool) : one f [] = false := (rfl)
@[simp] theorem one_2 (f : D → Bool) (a b : D) (r : List D) : one f (a :: b :: r) = false := (rfl)
@[simp] theorem two_2 (f : D → D → Bool) (a b : D) : two f [a, b] = f a b := (rfl)
@[simp] theorem two_0 (f : D → D → Bool) : two f [] = false := (rfl)
@[simp] theorem two_1 (f : D → D → Bool) (a : D) : two f [a] = false := (rfl)
@[simp] theorem two_3 (f : D → D → Bool) (a b c : D) (r : List D) : two f (a :: b :: c :: r) = false := (rfl)
def valB (bs : List D) : D → D → Bool
  | .str n, v => numB 0 (szAt bs n - 1) v
  | _, _ => false
/-- simple conditions -/
def smpB (bs : List D) (w : Str) (r : List D) : Bool := two (fun a b => bxnB bs a && (if (w == "is") = true then valB bs a b else bxnB bs b)) r
/-- conditions -/
def cnB (bs : List D) : Nat → D → Bool
  | 0, _ => false
  | k + 1, .tup (.str w :: r) =>
    if (w == "yes") = true then r.isEmpty
    else if ((w == "is") || (w == "like")) = true then smpB bs w r
    else if (w == "not") = true then one (cnB bs k) r
    else if ((w == "and") || (w == "or")) = true then one (partsB (cnB bs k)) r
    else false
  | _, _ => false
theorem cnB_t (bs : List D) (k : Nat) (w : Str) (r : List D) : cnB bs (k + 1) (.tup (.str w :: r)) = if (w == "yes") = true then r.isEmpty
    else if ((w == "is") || (w == "like")) = true then smpB bs w r
    else if (w == "not") = true then one (cnB bs k) r
    else if ((w == "and") || (w == "or")) = true then one (partsB (cnB bs k)) r
    else false := (rfl)
theorem nms_strOk {bs : List D} (hb : ∀ b ∈ bs, boxB b = true) : ∀ x ∈ nmsOf bs, PyData.strOk x = true := fun x hx => by
  obtain ⟨b, hb2, rfl⟩ := List.mem_map.mp hx
  obtain ⟨n, k, z, rfl, q, _⟩ := box_inv (hb b hb2)
  exact name_strOk q
def mtD (f : R D) (op : D → D → Option D) : D → R D
  | .lst ds => f.bind fun y => R.opt (op (.lst ds) y)
  | _ => .bad
@[simp] theorem eM_ap {ρ : Lo} (fa f : Lo → R D) (op : D → D → Option D) : eM fa f op ρ = (fa ρ).bind (mtD (f ρ) op) := by
  unfold eM mtD
  rfl
@[simp] theorem mtD_l (f : R D) (op : D → D → Option D) (ds : List D) : mtD f op (.lst ds) = f.bind fun y => R.opt (op (.lst ds) y) := (rfl)
@[simp] theorem opIsNot_n (a : D) : opIsNot a .non = some (.bl (!isNon a)) := by
  cases a <;> rfl
theorem int_s0 (k : Nat) : (((k + 1 : Nat) : Int) == 0) = false := beq_eq_false_iff_ne.mpr (by omega)
theorem int_s1 (k : Nat) : (((k + 1 : Nat) : Int) - 1) = (k : Int) := by omega
theorem len_not1 (n : Nat) : (((n + 1 + 1 : Nat) : Int) == 1) = false := beq_eq_false_iff_ne.mpr (by omega)
theorem n22 : (((2 : Nat) : Int) != 2) = false := rfl
theorem n2m (n : Nat) : (((n + 1 + 1 + 1 : Nat) : Int) != 2) = true := bne_iff_ne.mpr (by omega)
theorem getD_int {l : List Int} {i : Int} (h0 : 0 ≤ i) (h1 : i < l.length) : atI (l.map D.int) i = some (.int (l.getD i.toNat 0)) := atI_dig h0 h1
theorem sz_of : ∀ {bs : List D} {n k : Str} {z : Int}, (nmsOf bs).Nodup → .tup [.str n, .int z, .str k] ∈ bs → szAt bs n = z ∧ (nmsOf bs).contains n = true
  | [], _, _, _, _, h => by simp at h
  | b :: bs, n, k, z, hd, h => by
    have hd : nmOf b ∉ nmsOf bs ∧ (nmsOf bs).Nodup := by simpa [nmsOf] using hd
    have e0 : nmsOf (b :: bs) = nmOf b :: nmsOf bs := rfl
    rcases List.mem_cons.mp h with h | h
    · subst h
      refine ⟨?_, by rw [e0]; simp [nmOf]⟩
      unfold szAt
      rw [e0]
      simp [nmOf, szOf]
    · obtain ⟨e1, e2⟩ := sz_of hd.2 h
      have hn : n ∈ nmsOf bs := List.contains_iff_mem.mp e2
      have ne : nmOf b ≠ n := fun e => hd.1 (e ▸ hn)
      refine ⟨?_, by rw [e0]; simp [hn]⟩
      rw [← e1]
      unfold szAt
      have nb : (nmOf b == n) = false := beq_eq_false_iff_ne.mpr ne
      rw [e0, List.idxOf_cons, nb]
      rfl
theorem ok_s {x : Str} (h : (PyData.strOk x && decide (x.length ≤ 10)) = true) : Ok 102 0 (.str x) := by
  rw [Bool.and_eq_true, decide_eq_true_eq] at h
  refine ⟨?_, ?_, ?_⟩
  · simp only [dt, Bool.and_eq_true, decide_eq_true_eq]
    exact ⟨h.1, by omega⟩
  · simp only [wt]
    omega
  · simp [dp]
theorem ok_i {i : Int} (h : i.natAbs < 10 ^ 40) : Ok 102 0 (.int i) := ⟨by simp only [dt]; exact decide_eq_true h, by simp [wt], by simp [dp]⟩
theorem ok_i4 {i : Int} (h : -1000000 ≤ i) (h2 : i ≤ 1000000) : Ok 102 0 (.int i) := ok_i (by
  have : (10 : Nat) ^ 40 = 10000000000000000000000000000000000000000 := by decide
  omega)
theorem ok_b (b : Bool) : Ok 102 0 (.bl b) := ⟨by simp [dt], by simp [wt], by simp [dp]⟩
theorem ok_n : Ok 102 0 .non := ⟨by simp [dt], by simp [wt], by simp [dp]⟩
theorem Ok.nil {w k : Nat} (hw : 3 ≤ w) (hk : 1 ≤ k) : Ok w k (.tup []) := ⟨by simp [dt, dtL], by simpa [wt, wtL] using hw, by simpa [dp, dpL] using hk⟩
theorem Ok.t1 {w k w' k' : Nat} {a : D} (h1 : Ok w k a) (hw : w + 5 ≤ w') (hk : k + 1 ≤ k') : Ok w' k' (.tup [a]) := by
  obtain ⟨a1, a2, a3⟩ := h1
  exact ⟨by simp [dt, dtL, a1], by simp only [wt, wtL]; omega, by simp only [dp, dpL]; omega⟩
theorem Ok.t2 {w1 k1 w2 k2 w' k' : Nat} {a b : D} (h1 : Ok w1 k1 a) (h2 : Ok w2 k2 b) (hw : w1 + w2 + 7 ≤ w') (hk : k1 + 1 ≤ k') (hk2 : k2 + 1 ≤ k') : Ok w' k' (.tup [a, b]) := by
  obtain ⟨a1, a2, a3⟩ := h1
  obtain ⟨b1, b2, b3⟩ := h2
  exact ⟨by simp [dt, dtL, a1, b1], by simp only [wt, wtL]; omega, by simp only [dp, dpL]; omega⟩
theorem Ok.t3 {w1 k1 w2 k2 w3 k3 w' k' : Nat} {a b c : D} (h1 : Ok w1 k1 a) (h2 : Ok w2 k2 b) (h3 : Ok w3 k3 c) (hw : w1 + w2 + w3 + 9 ≤ w') (hk : k1 + 1 ≤ k') (hk2 : k2 + 1 ≤ k') (hk3 : k3 + 1 ≤ k') : Ok w' k' (.tup [a, b, c]) := by
  obtain ⟨a1, a2, a3⟩ := h1
  obtain ⟨b1, b2, b3⟩ := h2
  obtain ⟨c1, c2, c3⟩ := h3
  exact ⟨by simp [dt, dtL, a1, b1, c1], by simp only [wt, wtL]; omega, by simp only [dp, dpL]; omega⟩
theorem Ok.l1 {w k w' k' : Nat} {a : D} (h1 : Ok w k a) (hw : w + 5 ≤ w') (hk : k + 1 ≤ k') : Ok w' k' (.lst [a]) := by
  obtain ⟨a1, a2, a3⟩ := h1
  exact ⟨by simp [dt, dtL, a1], by simp only [wt, wtL]; omega, by simp only [dp, dpL]; omega⟩
theorem Ok.l2 {w1 k1 w2 k2 w' k' : Nat} {a b : D} (h1 : Ok w1 k1 a) (h2 : Ok w2 k2 b) (hw : w1 + w2 + 7 ≤ w') (hk : k1 + 1 ≤ k') (hk2 : k2 + 1 ≤ k') : Ok w' k' (.lst [a, b]) := by
  obtain ⟨a1, a2, a3⟩ := h1
  obtain ⟨b1, b2, b3⟩ := h2
  exact ⟨by simp [dt, dtL, a1, b1], by simp only [wt, wtL]; omega, by simp only [dp, dpL]; omega⟩
theorem oddL_ok : ∀ d ∈ oddL, Ok 400 2 d := by
  have h : (oddL.all fun d => dt d && (decide (wt d ≤ 400) && decide (dp d ≤ 2))) = true := by decide +kernel
  intro d hd
  have := List.all_eq_true.mp h d hd
  simp only [Bool.and_eq_true, decide_eq_true_eq] at this
  exact this
/-- small boxes: named a, b, c -/
def SBx (d : D) : Prop := ∃ (n k : Str) (z : Int), d = .tup [.str n, .int z, .str k] ∧ n ∈ (["a", "b", "c"] : List Str) ∧ 1 ≤ z ∧ z ≤ 4 ∧ k ∈ kinds3
def SBs (bs : List D) : Prop := 1 ≤ bs.length ∧ bs.length ≤ 3 ∧ (nmsOf bs).Nodup ∧ ∀ b ∈ bs, SBx b
theorem abc_ok : ∀ n ∈ (["a", "b", "c"] : List Str), nameB (.str n) = true ∧ (PyData.strOk n && decide (n.length ≤ 10)) = true := by decide +kernel
theorem k3_ok2 : ∀ n ∈ kinds3, kindB (.str n) = true ∧ (PyData.strOk n && decide (n.length ≤ 10)) = true := by decide +kernel
theorem SBx.box {d : D} (h : SBx d) : boxB d = true := by
  obtain ⟨n, k, z, rfl, a, b, c, e⟩ := h
  simp only [boxB, (abc_ok n a).1, (k3_ok k e).1, numB, decide_eq_true b, decide_eq_true c, Bool.and_self]
theorem SBx.ok {d : D} (h : SBx d) : Ok 400 1 d := by
  obtain ⟨n, k, z, rfl, a, b, c, e⟩ := h
  exact .t3 (ok_s (abc_ok n a).2) (ok_i4 (by omega) (by omega)) (ok_s (k3_ok2 k e).2) (by omega) (by omega) (by omega) (by omega)
theorem tOr_ok (a b : Bool) : (if a = true then R.ok true else R.ok b) = R.ok (a || b) := by cases a <;> rfl
theorem tAnd_ok (a b : Bool) : (if a = true then R.ok b else R.ok false) = R.ok (a && b) := by cases a <;> rfl
theorem mem_rng {a b : Int} {d : D} (h : d ∈ rng a b) : ∃ i : Int, d = .int i ∧ a ≤ i ∧ i < b := by
  unfold rng at h
  obtain ⟨j, hj, rfl⟩ := List.mem_map.mp h
  rw [List.mem_range] at hj
  exact ⟨_, rfl, by omega, by omega⟩
theorem len_rng (a b : Int) : (rng a b).length = (b - a).toNat := by
  unfold rng
  simp
/-- a comprehension whose elements are told one by one -/
theorem lcL_ex {asg : D → Lo → R Lo} {elt : Lo → R D} {ρ : Lo} (P : D → D → Prop) : ∀ {ds : List D}, (∀ d ∈ ds, ∃ ρ1 e, asg d ρ = .ok ρ1 ∧ elt ρ1 = .ok e ∧ P d e) → ∃ es, lcL asg tsY elt ρ ds = .ok es ∧ es.length = ds.length ∧ (∀ e ∈ es, ∃ d ∈ ds, P d e)
  | [], _ => ⟨[], rfl, rfl, fun e he => by simp at he⟩
  | d :: r, h => by
    obtain ⟨ρ1, e, e1, e2, p⟩ := h d (by simp)
    obtain ⟨es, q1, q2, q3⟩ := lcL_ex P (ds := r) fun z hz => h z (by simp [hz])
    refine ⟨e :: es, ?_, by simp [q2], fun x hx => ?_⟩
    · unfold lcL
      rw [e1]
      dsimp only
      rw [tsY_ap]
      dsimp only
      rw [e2, q1]
      rfl
    · rcases List.mem_cons.mp hx with rfl | hx
      · exact ⟨d, by simp, p⟩
      · obtain ⟨z, hz, pz⟩ := q3 x hx
        exact ⟨z, by simp [hz], pz⟩
theorem cn_yes (bs : List D) (k : Nat) : cnB bs (k + 1) (.tup [.str "yes"]) = true := by
  rw [cnB_t]; rfl
theorem cn_not (bs : List D) (k : Nat) (d : D) : cnB bs (k + 1) (.tup [.str "not", d]) = cnB bs k d := by
  rw [cnB_t]; rfl
theorem cn_is (bs : List D) (k : Nat) (a b : D) : cnB bs (k + 1) (.tup [.str "is", a, b]) = (bxnB bs a && valB bs a b) := by
  rw [cnB_t]; rfl
theorem cn_like (bs : List D) (k : Nat) (a b : D) : cnB bs (k + 1) (.tup [.str "like", a, b]) = (bxnB bs a && bxnB bs b) := by
  rw [cnB_t]; rfl
theorem cn_and (bs : List D) (k : Nat) (d : D) : cnB bs (k + 1) (.tup [.str "and", d]) = partsB (cnB bs k) d := by
  rw [cnB_t]; rfl
theorem cn_or (bs : List D) (k : Nat) (d : D) : cnB bs (k + 1) (.tup [.str "or", d]) = partsB (cnB bs k) d := by
  rw [cnB_t]; rfl
theorem partsB_ok {f : D → Bool} {es : List D} (h1 : 1 ≤ es.length) (h4 : es.length ≤ 4) (h : ∀ e ∈ es, f e = true) : partsB f (.tup es) = true := by
  unfold partsB
  dsimp only
  rw [decide_eq_true (show 1 ≤ (es.length : Int) by omega), decide_eq_true (show (es.length : Int) ≤ 4 by omega), List.all_eq_true.mpr h]
  rfl
def TW : Nat → Nat
  | 0 => 0
  | 1 => 400
  | k + 2 => 4 * (TW (k + 1) + 2) + 150
theorem TW_ge : ∀ k, 400 ≤ TW (k + 1)
  | 0 => Nat.le_refl _
  | k + 1 => by
    have := TW_ge k
    simp only [TW]
    omega
theorem numB_mod (x z : Int) (h : 1 ≤ z) : numB 0 (z - 1) (.int (x % z)) = true := by
  have h1 := Int.emod_nonneg x (b := z) (by omega)
  have h2 := Int.emod_lt_of_pos x (b := z) (by omega)
  simp only [numB, Bool.and_eq_true, decide_eq_true_eq]
  omega
theorem cn_inv {bs : List D} {k : Nat} {d : D} (h : cnB bs (k + 1) d = true) : ∃ (w : Str) (r : List D), d = .tup (.str w :: r) ∧ ((w = "not" ∧ ∃ a, r = [a] ∧ cnB bs k a = true) ∨
    ((w = "and" ∨ w = "or") ∧ ∃ ps, r = [.tup ps] ∧ 1 ≤ ps.length ∧ ps.length ≤ 4 ∧ ∀ p ∈ ps, cnB bs k p = true) ∨ (w = "yes" ∨ w = "is" ∨ w = "like")) := by
  cases d <;> try (cases h; done)
  rename_i xs
  cases xs with
  | nil => cases h
  | cons w r =>
    cases w <;> try (cases h; done)
    rename_i w
    refine ⟨w, r, rfl, ?_⟩
    rw [cnB_t] at h
    cases y : (w == "yes") with
    | true => exact .inr (.inr (.inl (by simpa using y)))
    | false =>
      cases il : ((w == "is") || (w == "like")) with
      | true =>
        rw [Bool.or_eq_true] at il
        rcases il with q | q
        · exact .inr (.inr (.inr (.inl (by simpa using q))))
        · exact .inr (.inr (.inr (.inr (by simpa using q))))
      | false =>
        cases n : (w == "not") with
        | true =>
          refine .inl ⟨by simpa using n, ?_⟩
          rw [y, il, n] at h
          match r, h with
          | [a], h => exact ⟨a, rfl, h⟩
        | false =>
          cases ao : ((w == "and") || (w == "or")) with
          | false =>
            rw [y, il, n, ao] at h
            cases h
          | true =>
            rw [y, il, n, ao] at h
            rw [Bool.or_eq_true] at ao
            refine .inr (.inl ⟨ao.imp (fun q => by simpa using q) (fun q => by simpa using q), ?_⟩)
            match r, h with
            | [a], h =>
              cases a <;> try (cases h; done)
              rename_i ps
              have h : (decide (1 ≤ (ps.length : Int)) && (decide ((ps.length : Int) ≤ 4) && ps.all fun p => cnB bs k p)) = true := h
              simp only [Bool.and_eq_true, decide_eq_true_eq, List.all_eq_true] at h
              exact ⟨ps, rfl, by omega, by omega, h.2.2⟩
theorem wtL_sub (a b : Nat) (ds : List D) : wtL ((ds.drop b).take a) ≤ wtL ds := by
  have h1 := wtL_take a (ds.drop b)
  have h2 := wtL_take b ds
  omega
theorem wtL_cut (ds : List D) (lo hi : Option Int) : wtL (cutD ds lo hi) ≤ wtL ds := by
  unfold cutD
  exact wtL_sub _ _ _
theorem dpL_cut (ds : List D) (lo hi : Option Int) : dpL (cutD ds lo hi) ≤ dpL ds := dpL_le fun d hd => dp_mem (mem_cut hd)
theorem dtL_cut {ds : List D} (lo hi : Option Int) (h : dtL ds = true) : dtL (cutD ds lo hi) = true := dtL_of fun d hd => dtL_mem h d (mem_cut hd)
theorem cutI_l (ds : List D) {i : Int} (h : 0 ≤ i) : cutD ds none (some i) = ds.take i.toNat := by
  obtain ⟨n, rfl⟩ := Int.eq_ofNat_of_zero_le h
  exact cut_0n _ _
theorem cutI_r (ds : List D) {i : Int} (h : 0 ≤ i) : cutD ds (some i) none = ds.drop i.toNat := by
  obtain ⟨n, rfl⟩ := Int.eq_ofNat_of_zero_le h
  exact cut_n0 _ _
theorem wtL_at : ∀ {ds : List D} {a : Nat} {p : D}, ds[a]? = some p → wtL ds = wtL (ds.take a) + (wt p + 2) + wtL (ds.drop (a + 1))
  | [], a, p, h => by simp at h
  | d :: ds, 0, p, h => by
    simp at h
    subst h
    simp [wtL]
  | d :: ds, a + 1, p, h => by
    have ih := wtL_at (ds := ds) (a := a) (p := p) (by simpa using h)
    simp only [List.take_succ_cons, List.drop_succ_cons, wtL]
    omega
theorem wtL_drop1 (ds : List D) (a : Nat) : wtL (ds.drop (a + 1)) ≤ wtL (ds.drop a) := by
  have h := wtL_take 1 (ds.drop a)
  rw [List.drop_drop] at h
  omega
theorem len_wt : ∀ ds : List D, 2 * ds.length ≤ wtL ds
  | [] => by simp [wtL]
  | d :: ds => by
    have := len_wt ds
    simp only [wtL, List.length_cons]
    omega
theorem dtL_app {xs ys : List D} (h1 : dtL xs = true) (h2 : dtL ys = true) : dtL (xs ++ ys) = true := dtL_of fun d hd => (List.mem_append.mp hd).elim (dtL_mem h1 d) (dtL_mem h2 d)
theorem dtL_take {xs : List D} (n : Nat) (h : dtL xs = true) : dtL (xs.take n) = true := dtL_of fun d hd => dtL_mem h d (List.mem_of_mem_take hd)
theorem dtL_drop {xs : List D} (n : Nat) (h : dtL xs = true) : dtL (xs.drop n) = true := dtL_of fun d hd => dtL_mem h d (List.mem_of_mem_drop hd)
theorem dt_tup {xs : List D} (h : dtL xs = true) : dt (.tup xs) = true := by simpa [dt] using h
theorem dt_lst {xs : List D} (h : dtL xs = true) : dt (.lst xs) = true := by simpa [dt] using h
/-- one thing put in another's stead -/
theorem put_ok {xs : List D} {a : Nat} {p r o : D} (hx : dtL xs = true) (hp : xs[a]? = some p) (hr : dt r = true) (h1 : wt r ≤ wt p + wt o + 2) (h2 : dp r ≤ dp p + dp o) : dtL (xs.take a ++ [r] ++ xs.drop (a + 1)) = true ∧ wtL (xs.take a ++ [r] ++ xs.drop (a + 1)) ≤ wtL xs + wt o + 2 ∧ dpL (xs.take a ++ [r] ++ xs.drop (a + 1)) ≤ dpL xs + dp o := by
  refine ⟨dtL_app (dtL_app (dtL_take a hx) (by simp [dtL, hr])) (dtL_drop _ hx), ?_, ?_⟩
  · rw [wtL_app, wtL_app, wtL_at hp]
    simp only [wtL]
    omega
  · have q := dp_mem (List.mem_of_getElem? hp)
    have q1 := dpL_take a xs
    have q2 := dpL_drop (a + 1) xs
    rw [dpL_app, dpL_app]
    simp only [dpL]
    omega
theorem names_lc {bs : List D} (hb : ∀ b ∈ bs, boxB b = true) {asg : D → Lo → R Lo} {elt : Lo → R D} {ρ : Lo} (h : ∀ (n : Str) (x : List D), ∃ ρ1, asg (.tup (.str n :: x)) ρ = .ok ρ1 ∧ elt ρ1 = .ok (.str n)) : lcL asg tsY elt ρ bs = .ok ((nmsOf bs).map .str) := by
  rw [lcL_map (fun d => .str (nmOf d)) fun d hd => by
    obtain ⟨n, k, z, rfl, _⟩ := box_inv (hb d hd)
    exact h n _]
  unfold nmsOf
  rw [List.map_map]
  rfl
/-! ### stores, dicts -/
@[simp] theorem gTl_ap {ρ : Lo} (n : Nat) (g : List D → Lo → R Lo) (ds : List D) : gT2 n g (.lst ds) ρ = if ds.length = n then g ds ρ else .bad := (rfl)
def Sl.lnt : Option Sl → R D
  | some (.sh d) => .ok d
  | some (.ow (.lst ds)) => .ok (.lst ds)
  | _ => .bad
@[simp] theorem lnt_sh (d : D) : Sl.lnt (some (.sh d)) = .ok d := (rfl)
@[simp] theorem lnt_ow (ds : List D) : Sl.lnt (some (.ow (.lst ds))) = .ok (.lst ds) := (rfl)
@[simp] theorem eBl_ap {ρ : Lo} (i : Nat) : eBl i ρ = Sl.lnt ρ[i]? := by
  unfold eBl Sl.lnt
  split <;> simp_all
def putR (k v : D) (i : Nat) (ρ : Lo) : Fl := fb (R.opt (putS k v ρ[i]?)) ρ fun d => .nx (ρ.set i (.ow d))
def putF (fi fe : R D) (i : Nat) (ρ : Lo) : Bool → Fl
  | true => fb fe ρ fun v => fb fi ρ fun k => putR k v i ρ
  | false => .bad
@[simp] theorem sPut_ap {ρ : Lo} (i : Nat) (fi fe : Lo → R D) : sPut i fi fe ρ = putF (fi ρ) (fe ρ) i ρ (isOwn ρ[i]?) := by
  unfold sPut putF putR
  cases isOwn ρ[i]? <;> rfl
@[simp] theorem putF_t {ρ : Lo} (i : Nat) (fi fe : R D) : putF fi fe i ρ true = fb fe ρ fun v => fb fi ρ fun k => putR k v i ρ := (rfl)
@[simp] theorem putR_ap {ρ : Lo} (i : Nat) (k v : D) : putR k v i ρ = fb (R.opt (putS k v ρ[i]?)) ρ fun d => .nx (ρ.set i (.ow d)) := (rfl)
@[simp] theorem isOwn_ow (d : D) : isOwn (some (.ow d)) = true := (rfl)
@[simp] theorem putS_l (j : Int) (v : D) (ds : List D) : putS (.int j) v (some (.ow (.lst ds))) = (ixN ds.length j).map fun n => .lst (ds.set n v) := (rfl)
@[simp] theorem putS_ds (x : Str) (v : D) (kvs : List (D × D)) : putS (.str x) v (some (.ow (.dic kvs))) = if fits (kvs.length + 1) = true then some (.dic (dput kvs (.str x) v)) else none := (rfl)
@[simp] theorem putS_di (x : Int) (v : D) (kvs : List (D × D)) : putS (.int x) v (some (.ow (.dic kvs))) = if fits (kvs.length + 1) = true then some (.dic (dput kvs (.int x) v)) else none := (rfl)
@[simp] theorem opDGet_s (x : Str) (kvs : List (D × D)) : opDGet (.dic kvs) (.str x) = dget kvs (.str x) := (rfl)
@[simp] theorem opDGet_i (x : Int) (kvs : List (D × D)) : opDGet (.dic kvs) (.int x) = dget kvs (.int x) := (rfl)
@[simp] theorem opDIn_s (x : Str) (kvs : List (D × D)) : opDIn (.str x) (.dic kvs) = some (.bl (kvs.any fun p => p.1.eqv (.str x))) := (rfl)
@[simp] theorem opDNotIn_s (x : Str) (kvs : List (D × D)) : opDNotIn (.str x) (.dic kvs) = some (.bl (!kvs.any fun p => p.1.eqv (.str x))) := (rfl)
@[simp] theorem opRev_l (ds : List D) : opRev (.lst ds) = some (.lst ds.reverse) := (rfl)
@[simp] theorem opRev_t (ds : List D) : opRev (.tup ds) = some (.tup ds.reverse) := (rfl)
def parF (ρ : Lo) (i j : Nat) : List D → Fl
  | [d, e] => .nx ((ρ.set i (.sh d)).set j (.sh e))
  | _ => .bad
@[simp] theorem sPar_ap {ρ : Lo} (i j : Nat) (f : Lo → R (List D)) : sPar i j f ρ = fb (f ρ) ρ (parF ρ i j) := (rfl)
@[simp] theorem parF_2 (ρ : Lo) (i j : Nat) (d e : D) : parF ρ i j [d, e] = .nx ((ρ.set i (.sh d)).set j (.sh e)) := (rfl)
theorem items_dic {kvs : List (D × D)} (h : kvs.length ≤ 16777216) : items (.dic kvs) = .ok (kvs.map (·.1)) := if_pos (fits_of h)
/-! ### get, dict, len of a set -/
def getF (fb fc : R D) (d : D) : Bool → R D
  | true => fb.bind fun k => fc.bind fun z => dgetOr k z d
  | false => .bad
@[simp] theorem eGet2_ap {ρ : Lo} (fa f g : Lo → R D) : eGet2 fa f g ρ = (fa ρ).bind fun d => getF (f ρ) (g ρ) d (isDic d) := by
  unfold eGet2 getF
  congr 1
  funext d
  cases isDic d <;> rfl
@[simp] theorem eGet1_ap {ρ : Lo} (fa f : Lo → R D) : eGet1 fa f ρ = (fa ρ).bind fun d => getF (f ρ) (.ok .non) d (isDic d) := by
  unfold eGet1 getF
  congr 1
  funext d
  cases isDic d <;> rfl
@[simp] theorem getF_t (f g : R D) (d : D) : getF f g d true = f.bind fun k => g.bind fun z => dgetOr k z d := (rfl)
@[simp] theorem isDic_d (kvs : List (D × D)) : isDic (.dic kvs) = true := (rfl)
@[simp] theorem dgetOr_s (x : Str) (z : D) (kvs : List (D × D)) : dgetOr (.str x) z (.dic kvs) = .ok ((dget kvs (.str x)).getD z) := (rfl)
@[simp] theorem dgetOr_i (x : Int) (z : D) (kvs : List (D × D)) : dgetOr (.int x) z (.dic kvs) = .ok ((dget kvs (.int x)).getD z) := (rfl)
@[simp] theorem eLenSc_ap {ρ : Lo} (it : Lo → R (List D)) (asg : D → Lo → R Lo) (tst : Lo → R Bool) (elt : Lo → R D) (vs : List Nat) : eLenSc it asg tst elt vs ρ = (it ρ).bind fun ds => (lcL asg tst elt (wipeL ρ vs) ds).bind lenSetD := (rfl)
end VL

namespace VL
open PyProof.Rows PySem L2 PySem.Spec

/-! ### changes -/
inductive Sr where
  | to (v : Int) | of (m : Str) | on (k : Int)
def srD : Sr → D
  | .to v => .tup [.str "to", .int v]
  | .of m => .tup [.str "of", .str m]
  | .on k => .tup [.str "on", .int k]
def chD (c : Str × Sr) : D := .tup [.str c.1, srD c.2]
def plc (bs : List D) (n : Str) : Nat := (nmsOf bs).idxOf n
def told (bs : List D) (st : List Int) (n : Str) : Sr → Int
  | .to v => v
  | .of m => st.getD (plc bs m) 0
  | .on k => (st.getD (plc bs n) 0 + k) % szAt bs n
def chg1 (bs : List D) (st acc : List Int) (c : Str × Sr) : List Int := acc.set (plc bs c.1) (told bs st c.1 c.2)
def chg (bs : List D) (cs : List (Str × Sr)) (st : List Int) : List Int := cs.foldl (chg1 bs st) st
/-- fit to be made -/
def okC (bs : List D) (c : Str × Sr) : Prop := (nmsOf bs).contains c.1 = true ∧ match c.2 with
  | .to v => 0 ≤ v ∧ v ≤ 4
  | .of m => (nmsOf bs).contains m = true
  | .on k => 0 ≤ k ∧ k ≤ 4
theorem plc_lt {bs : List D} {n : Str} (h : (nmsOf bs).contains n = true) : plc bs n < bs.length := by
  have := List.idxOf_lt_length_of_mem (List.contains_iff_mem.mp h)
  unfold plc nmsOf at *
  rwa [List.length_map] at this
theorem plc_inj {bs : List D} {n m : Str} (h : (nmsOf bs).contains n = true) (h2 : (nmsOf bs).contains m = true) (e : plc bs n = plc bs m) : n = m := by
  have l1 := List.idxOf_lt_length_of_mem (List.contains_iff_mem.mp h)
  have l2 := List.idxOf_lt_length_of_mem (List.contains_iff_mem.mp h2)
  have e1 := List.getElem_idxOf l1
  have e2 := List.getElem_idxOf l2
  rw [← e1, ← e2]
  unfold plc at e
  congr 1
theorem chg_len (bs : List D) (st : List Int) : ∀ (cs : List (Str × Sr)) (acc : List Int), (cs.foldl (chg1 bs st) acc).length = acc.length
  | [], _ => rfl
  | c :: cs, acc => by
    rw [List.foldl_cons, chg_len bs st cs]
    unfold chg1
    simp
theorem ixN_nat {n i : Nat} (h : i < n) : ixN n (i : Int) = some i := by
  unfold ixN
  rw [if_pos (by omega), if_pos (by omega), Int.toNat_natCast]
theorem at_ints {st : List Int} {i : Nat} (h : i < st.length) : atI (st.map D.int) (i : Int) = some (.int (st.getD i 0)) := atI_nat (by
  rw [List.getElem?_map, List.getElem?_eq_getElem h, List.getD_eq_getElem?_getD, List.getElem?_eq_getElem h]
  rfl)
theorem set_ints (st : List Int) (i : Nat) (v : Int) : (st.map D.int).set i (.int v) = (st.set i v).map D.int := by
  rw [List.map_set]
/-- one change ahead of others -/
theorem chg1_comm {bs : List D} {st acc : List Int} {c d : Str × Sr} (hc : (nmsOf bs).contains c.1 = true) (hd : (nmsOf bs).contains d.1 = true) (h : c.1 ≠ d.1) : chg1 bs st (chg1 bs st acc c) d = chg1 bs st (chg1 bs st acc d) c := by
  unfold chg1
  exact List.set_comm _ _ fun e => h (plc_inj hc hd e)
theorem chg_front {bs : List D} {st : List Int} {c : Str × Sr} (hc : (nmsOf bs).contains c.1 = true) : ∀ (cs : List (Str × Sr)) (acc : List Int), (∀ d ∈ cs, (nmsOf bs).contains d.1 = true ∧ c.1 ≠ d.1) → cs.foldl (chg1 bs st) (chg1 bs st acc c) = chg1 bs st (cs.foldl (chg1 bs st) acc) c
  | [], _, _ => rfl
  | d :: cs, acc, h => by
    rw [List.foldl_cons, List.foldl_cons, chg1_comm hc (h d (by simp)).1 (h d (by simp)).2]
    exact chg_front hc cs _ fun e he => h e (by simp [he])
theorem chg_rev {bs : List D} {st : List Int} : ∀ (cs : List (Str × Sr)) (acc : List Int), (∀ c ∈ cs, (nmsOf bs).contains c.1 = true) → (cs.map (·.1)).Nodup → cs.reverse.foldl (chg1 bs st) acc = cs.foldl (chg1 bs st) acc
  | [], _, _, _ => rfl
  | c :: cs, acc, h, hn => by
    rw [List.map_cons, List.nodup_cons] at hn
    rw [List.reverse_cons, List.foldl_append, List.foldl_cons, List.foldl_nil, chg_rev cs acc (fun d hd => h d (by simp [hd])) hn.2, List.foldl_cons]
    exact (chg_front (h c (by simp)) cs acc fun d hd => ⟨h d (by simp [hd]), fun e => hn.1 (by rw [e]; exact List.mem_map_of_mem hd)⟩).symm
theorem chg_mem {bs : List D} {st : List Int} {lo hi : Int} (hs : ∀ x ∈ st, lo ≤ x ∧ x ≤ hi) : ∀ (cs : List (Str × Sr)) (acc : List Int), (∀ c ∈ cs, lo ≤ told bs st c.1 c.2 ∧ told bs st c.1 c.2 ≤ hi) → (∀ x ∈ acc, lo ≤ x ∧ x ≤ hi) → ∀ x ∈ cs.foldl (chg1 bs st) acc, lo ≤ x ∧ x ≤ hi
  | [], _, _, h => h
  | c :: cs, acc, hc, h => by
    rw [List.foldl_cons]
    refine chg_mem hs cs _ (fun d hd => hc d (by simp [hd])) fun x hx => ?_
    unfold chg1 at hx
    rcases List.mem_or_eq_of_mem_set hx with hx | rfl
    · exact h x hx
    · exact hc c (by simp)
theorem getD_le {st : List Int} {lo hi : Int} (h0 : lo ≤ 0 ∧ 0 ≤ hi) (hs : ∀ x ∈ st, lo ≤ x ∧ x ≤ hi) (i : Nat) : lo ≤ st.getD i 0 ∧ st.getD i 0 ≤ hi := by
  rw [List.getD_eq_getElem?_getD]
  cases e : st[i]? with
  | none => exact h0
  | some x => exact hs x (List.mem_of_getElem? e)
theorem told_le {bs : List D} {st : List Int} {c : Str × Sr} (hb : ∀ b ∈ bs, boxB b = true) (hs : ∀ x ∈ st, 0 ≤ x ∧ x ≤ 4) (hc : okC bs c) : 0 ≤ told bs st c.1 c.2 ∧ told bs st c.1 c.2 ≤ 4 := by
  obtain ⟨n, s⟩ := c
  obtain ⟨h1, h2⟩ := hc
  cases s with
  | to v => exact h2
  | of m => exact getD_le (by omega) hs _
  | on k =>
    obtain ⟨z, kd, e1, e2, z1, z4, _⟩ := at_name hb h1
    simp only [told]
    rw [e2]
    have a := Int.emod_nonneg (st.getD (plc bs n) 0 + k) (b := z) (by omega)
    have b := Int.emod_lt_of_pos (st.getD (plc bs n) 0 + k) (b := z) (by omega)
    omega
/-! ### dicts by names -/
def encC (cs : List (Str × Sr)) : List (D × D) := cs.map fun c => (.str c.1, srD c.2)
def putC (cs : List (Str × Sr)) (n : Str) (s : Sr) : List (Str × Sr) := if (cs.any fun c => c.1 == n) = true then cs.map fun c => if (c.1 == n) = true then (c.1, s) else c else cs ++ [(n, s)]
theorem dput_enc (cs : List (Str × Sr)) (n : Str) (s : Sr) : dput (encC cs) (.str n) (srD s) = encC (putC cs n s) := by
  unfold dput putC encC
  have e : ((cs.map fun c => (D.str c.1, srD c.2)).any fun p => p.1.eqv (.str n)) = cs.any fun c => c.1 == n := by
    rw [List.any_map]
    congr 1
  rw [e]
  by_cases q : (cs.any fun c => c.1 == n) = true
  · rw [if_pos q, if_pos q, List.map_map, List.map_map]
    refine List.map_congr_left fun c _ => ?_
    simp only [Function.comp, eqv_ss]
    by_cases z : (c.1 == n) = true
    · simp [z]
    · simp [z]
  · rw [if_neg q, if_neg q, List.map_append]
    rfl
theorem putC_names (cs : List (Str × Sr)) (n : Str) (s : Sr) : (putC cs n s).map (·.1) = if (cs.any fun c => c.1 == n) = true then cs.map (·.1) else cs.map (·.1) ++ [n] := by
  unfold putC
  by_cases q : (cs.any fun c => c.1 == n) = true
  · rw [if_pos q, if_pos q, List.map_map]
    refine List.map_congr_left fun c _ => ?_
    simp only [Function.comp]
    split <;> rfl
  · rw [if_neg q, if_neg q, List.map_append]
    rfl
theorem putC_nodup {cs : List (Str × Sr)} {n : Str} {s : Sr} (h : (cs.map (·.1)).Nodup) : ((putC cs n s).map (·.1)).Nodup := by
  rw [putC_names]
  by_cases q : (cs.any fun c => c.1 == n) = true
  · rw [if_pos q]; exact h
  · rw [if_neg q]
    refine List.nodup_append.mpr ⟨h, by simp, fun a ha b hb => ?_⟩
    rw [List.mem_singleton] at hb
    subst hb
    rintro rfl
    obtain ⟨c, hc, e⟩ := List.mem_map.mp ha
    exact q (List.any_eq_true.mpr ⟨c, hc, by rw [e]; exact beq_self_eq_true _⟩)
theorem putC_len (cs : List (Str × Sr)) (n : Str) (s : Sr) : (putC cs n s).length ≤ cs.length + 1 := by
  unfold putC
  split <;> simp
theorem putC_ok {bs : List D} {cs : List (Str × Sr)} {n : Str} {s : Sr} (h : ∀ c ∈ cs, okC bs c) (hn : okC bs (n, s)) : ∀ c ∈ putC cs n s, okC bs c := by
  intro c hc
  unfold putC at hc
  split at hc
  · obtain ⟨d, hd, rfl⟩ := List.mem_map.mp hc
    by_cases q : (d.1 == n) = true
    · rw [if_pos q]
      have e : d.1 = n := by simpa using q
      rw [e]; exact hn
    · rw [if_neg q]; exact h d hd
  · rw [List.mem_append, List.mem_singleton] at hc
    rcases hc with hc | rfl
    · exact h c hc
    · exact hn
theorem dget_enc : ∀ {cs : List (Str × Sr)} {c : Str × Sr}, (cs.map (·.1)).Nodup → c ∈ cs → dget (encC cs) (.str c.1) = some (srD c.2)
  | [], _, _, h => by simp at h
  | d :: cs, c, hn, h => by
    rw [List.map_cons, List.nodup_cons] at hn
    unfold dget encC
    rw [List.map_cons, List.find?_cons, eqv_ss]
    rcases List.mem_cons.mp h with rfl | h
    · simp
    · have ne : (d.1 == c.1) = false := beq_eq_false_iff_ne.mpr fun e => hn.1 (by rw [e]; exact List.mem_map_of_mem h)
      rw [ne]
      exact dget_enc hn.2 h
theorem srD_ok {bs : List D} {c : Str × Sr} (hb : ∀ b ∈ bs, boxB b = true) (hc : okC bs c) : Ok 500 2 (chD c) := by
  obtain ⟨n, s⟩ := c
  obtain ⟨h1, h2⟩ := hc
  have nm : ∀ {n : Str}, (nmsOf bs).contains n = true → Ok 102 0 (.str n) := fun {n} h => by
    have q := contains_name hb h
    have l : n.length ≤ 6 := by
      unfold nameB at q
      simp only [Bool.and_eq_true, decide_eq_true_eq] at q
      omega
    exact ok_s (by rw [name_strOk q, decide_eq_true (show n.length ≤ 10 by omega)]; rfl)
  have w : ∀ {x : Str}, (PyData.strOk x && decide (x.length ≤ 10)) = true → Ok 102 0 (.str x) := fun h => ok_s h
  cases s with
  | to v => exact .t2 (nm h1) (Ok.t2 (w' := 300) (k' := 1) (w (by decide +kernel)) (ok_i4 (by omega) (by omega)) (by omega) (by omega) (by omega)) (by omega) (by omega) (by omega)
  | of m => exact .t2 (nm h1) (Ok.t2 (w' := 300) (k' := 1) (w (by decide +kernel)) (nm h2) (by omega) (by omega) (by omega)) (by omega) (by omega) (by omega)
  | on k => exact .t2 (nm h1) (Ok.t2 (w' := 300) (k' := 1) (w (by decide +kernel)) (ok_i4 (by omega) (by omega)) (by omega) (by omega) (by omega)) (by omega) (by omega) (by omega)
theorem ints_ok {l : List Int} (n : Nat) (hl : l.length ≤ n) (h : ∀ x ∈ l, -1000 ≤ x ∧ x ≤ 1000) : Ok (n * 104 + 3) 1 (.tup (l.map .int)) := Ok.tup n (by simpa using hl) fun d hd => by
  obtain ⟨x, hx, rfl⟩ := List.mem_map.mp hd
  have := h x hx
  exact ok_i4 (by omega) (by omega)
theorem eqvAll_ints : ∀ a b : List Int, PyData.eqvAll (pyL (a.map .int)) (pyL (b.map .int)) = (a == b)
  | [], [] => by simp [pyL, PyData.eqvAll]
  | [], y :: b => by simp [pyL, PyData.eqvAll]
  | x :: a, [] => by simp [pyL, PyData.eqvAll]
  | x :: a, y :: b => by
    simp only [List.map_cons, pyL, PyData.eqvAll, eqvAll_ints a b, py, PyData.eqv]
    rfl
theorem eqv_tints (a b : List Int) : D.eqv (.tup (a.map .int)) (.tup (b.map .int)) = (a == b) := by
  unfold D.eqv
  rw [py, py, PyData.eqv]
  exact eqvAll_ints a b
theorem lay_tints (l : List Int) : Lay 1 (.tup (l.map .int)) := lay_tup fun d hd => by
  obtain ⟨x, hx, rfl⟩ := List.mem_map.mp hd
  exact lay_i x
theorem ne_tints (a b : List Int) : opNe (.tup (a.map .int)) (.tup (b.map .int)) = some (.bl (a != b)) := by
  rw [opNe_sh (lay_tints a) (lay_tints b) (by omega) (by omega), eqv_tints]
  rfl
theorem eq_tints (a b : List Int) : opEq (.tup (a.map .int)) (.tup (b.map .int)) = some (.bl (a == b)) := by
  rw [opEq_sh (lay_tints a) (lay_tints b) (by omega) (by omega), eqv_tints]
end VL

namespace VL
open PyProof.Rows PySem L2 PySem.Spec

/-! ### changes or none -/
def freshL (seen : List Str) : List Str → Bool
  | [] => true
  | x :: r => !(seen.contains x) && freshL (seen ++ [x]) r
theorem hasK_inr (x : Str) (l : List Str) : hasK (.inr x) (l.map Sum.inr : List Key) = l.contains x := by
  rw [Bool.eq_iff_iff, hasK_iff, List.contains_iff_mem, List.mem_map]
  exact ⟨fun ⟨y, hy, e⟩ => by cases e; exact hy, fun h => ⟨x, h, rfl⟩⟩
theorem nub_fresh : ∀ (l acc : List Str), ((nubK (acc.map Sum.inr : List Key) (l.map Sum.inr)).length == acc.length + l.length) = freshL acc l
  | [], acc => by simp [nubK, freshL]
  | x :: l, acc => by
    have e : nubK (acc.map Sum.inr : List Key) ((x :: l).map Sum.inr) = if hasK (.inr x) (acc.map Sum.inr : List Key) = true then nubK (acc.map Sum.inr : List Key) (l.map Sum.inr) else nubK ((acc.map Sum.inr : List Key) ++ [.inr x]) (l.map Sum.inr) := rfl
    rw [e, hasK_inr]
    unfold freshL
    cases c : acc.contains x with
    | true =>
      have := nubK_len (l.map Sum.inr) (acc.map Sum.inr : List Key)
      simp only [List.length_map] at this
      simp only [if_true, Bool.not_true, Bool.false_and, List.length_cons]
      exact beq_eq_false_iff_ne.mpr (by omega)
    | false =>
      have ih := nub_fresh l (acc ++ [x])
      rw [List.map_append] at ih
      simp only [List.length_append, List.length_cons, List.length_nil, List.map_cons, List.map_nil] at ih
      simp only [Bool.false_eq_true, if_false, Bool.not_false, Bool.true_and, List.length_cons]
      rw [← ih]
      congr 1
      omega
theorem keysD_strs : ∀ l : List Str, keysD (l.map D.str) = some (l.map Sum.inr)
  | [] => rfl
  | x :: l => by
    have e : keysD ((x :: l).map D.str) = (kyD (.str x)).bind fun k => (keysD (l.map D.str)).map (k :: ·) := rfl
    rw [e, keysD_strs l]
    rfl
theorem lenSet_strs {l : List Str} (h : l.length < 4000) : lenSetD (l.map D.str) = .ok (.int ((nubK [] (l.map Sum.inr)).length : Nat)) := by
  unfold lenSetD
  rw [keysD_strs]
  dsimp only
  rw [if_pos (decide_eq_true (by simpa using h))]
def sOf : D → Str
  | .str x => x
  | _ => ""
def kdAt (bs : List D) (n : Str) : D := match bs.getD (plc bs n) .non with
  | .tup [_, _, k] => k
  | _ => .non
def srcB (bs : List D) (n : Str) : D → Bool
  | .tup (.str w :: r) => one (fun x => if (w == "to") = true then numB 0 (szAt bs n - 1) x else if (w == "on") = true then numB 1 3 x else (w == "of") && (bxnB bs x && decide (szAt bs (sOf x) ≤ szAt bs n))) r
  | _ => false
def isGiven : D → Bool
  | .str k => k == "given"
  | _ => false
def chgB (bs : List D) : D → Bool
  | .tup (.str n :: r) => one (fun s => (nmsOf bs).contains n && (!(isGiven (kdAt bs n)) && srcB bs n s)) r
  | _ => false
def nm0 : D → Str
  | .tup (.str n :: _) => n
  | _ => ""
def arC (bs : List D) : D → Bool
  | .tup cs => decide ((cs.length : Int) ≤ 4) && (cs.all (chgB bs) && freshL [] (cs.map nm0))
  | _ => false
theorem kd_at {bs : List D} {n : Str} (hb : ∀ b ∈ bs, boxB b = true) (h : (nmsOf bs).contains n = true) : ∃ (z : Int) (k : Str), atI bs ((plc bs n : Nat) : Int) = some (.tup [.str n, .int z, .str k]) ∧ szAt bs n = z ∧ kdAt bs n = .str k ∧ 1 ≤ z ∧ z ≤ 4 := by
  obtain ⟨z, k, e1, e2, z1, z4, kk, hl⟩ := at_name hb h
  refine ⟨z, k, e1, e2, ?_, z1, z4⟩
  have e3 := getD_at (bs := bs) hl
  have e1' : atI bs (((nmsOf bs).idxOf n : Nat) : Int) = some (.tup [.str n, .int z, .str k]) := e1
  rw [e3] at e1'
  have e4 : bs.getD ((nmsOf bs).idxOf n) .non = .tup [.str n, .int z, .str k] := Option.some.inj e1'
  unfold kdAt plc
  rw [e4]
/-- the law's loop -/
def lawL (bs : List D) (seen : List Str) : List D → Bool
  | [] => true
  | c :: r => chgB bs c && (!(seen.contains (nm0 c)) && lawL bs (seen ++ [nm0 c]) r)
theorem lawL_eq (bs : List D) : ∀ (cs : List D) (seen : List Str), lawL bs seen cs = (cs.all (chgB bs) && freshL seen (cs.map nm0))
  | [], seen => rfl
  | c :: cs, seen => by
    unfold lawL
    rw [lawL_eq bs cs, List.all_cons, List.map_cons, freshL]
    cases chgB bs c <;> cases seen.contains (nm0 c) <;> cases cs.all (chgB bs) <;> simp
/-! ### sizes by name, as a dict -/
def szDict (bs : List D) : List (D × D) := bs.map fun b => (.str (nmOf b), .int (szOf b))
theorem dput_app {kvs : List (D × D)} {n : Str} {v : D} (h : ∀ p ∈ kvs, ∃ m : Str, p.1 = .str m ∧ m ≠ n) : dput kvs (.str n) v = kvs ++ [(.str n, v)] := by
  unfold dput
  have e : (kvs.any fun p => p.1.eqv (.str n)) = false := by
    rw [List.any_eq_false]
    intro p hp q
    obtain ⟨m, e, ne⟩ := h p hp
    rw [e, eqv_ss] at q
    exact ne (by simpa using q)
  rw [e]
  rfl
theorem merge_fresh : ∀ (bs : List D) (acc : List D), (nmsOf (acc ++ bs)).Nodup → mergeD (szDict acc) (bs.map fun b => ((.inr (nmOf b) : Key), D.int (szOf b))) = szDict (acc ++ bs)
  | [], acc, _ => by simp [mergeD]
  | b :: bs, acc, h => by
    have e : mergeD (szDict acc) ((b :: bs).map fun b => ((.inr (nmOf b) : Key), D.int (szOf b))) = mergeD (dput (szDict acc) (.str (nmOf b)) (.int (szOf b))) (bs.map fun b => ((.inr (nmOf b) : Key), D.int (szOf b))) := rfl
    rw [e, dput_app fun p hp => by
      obtain ⟨c, hc, rfl⟩ := List.mem_map.mp hp
      refine ⟨nmOf c, rfl, fun e => ?_⟩
      unfold nmsOf at h
      rw [List.map_append, List.map_cons, List.nodup_append] at h
      exact h.2.2 (nmOf c) (List.mem_map_of_mem hc) (nmOf b) (by simp) e]
    have e2 : szDict acc ++ [(.str (nmOf b), .int (szOf b))] = szDict (acc ++ [b]) := by unfold szDict; rw [List.map_append]; rfl
    rw [e2, merge_fresh bs (acc ++ [b]) (by rw [List.append_assoc]; exact h), List.append_assoc]
    rfl
theorem dget_sz : ∀ (bs : List D) (n : Str), dget (szDict bs) (.str n) = if (nmsOf bs).contains n = true then some (.int (szAt bs n)) else none
  | [], n => by simp [dget, szDict, nmsOf]
  | b :: bs, n => by
    have e0 : nmsOf (b :: bs) = nmOf b :: nmsOf bs := rfl
    have ih := dget_sz bs n
    unfold dget szDict at ih ⊢
    rw [List.map_cons, List.find?_cons, eqv_ss, e0, List.contains_cons]
    by_cases q : nmOf b = n
    · have q1 : (nmOf b == n) = true := beq_iff_eq.mpr q
      have q2 : (n == nmOf b) = true := beq_iff_eq.mpr q.symm
      rw [q1, q2]
      simp only [Bool.true_or, if_true, Option.map_some]
      unfold szAt
      rw [e0, List.idxOf_cons, q1]
      rfl
    · have q1 : (nmOf b == n) = false := beq_eq_false_iff_ne.mpr q
      have q2 : (n == nmOf b) = false := beq_eq_false_iff_ne.mpr fun e => q e.symm
      rw [q1, q2, Bool.false_or, ih]
      unfold szAt
      rw [e0, List.idxOf_cons, q1]
      rfl
theorem pairs_sz : ∀ bs : List D, (∀ b ∈ bs, boxB b = true) → pairsD (bs.map fun b => .tup [.str (nmOf b), .int (szOf b)]) = some (bs.map fun b => ((.inr (nmOf b) : Key), D.int (szOf b)))
  | [], _ => rfl
  | b :: bs, h => by
    have e : pairsD ((b :: bs).map fun b => D.tup [.str (nmOf b), .int (szOf b)]) = (pairD (.tup [.str (nmOf b), .int (szOf b)])).bind fun p => (pairsD (bs.map fun b => D.tup [.str (nmOf b), .int (szOf b)])).map (p :: ·) := rfl
    rw [e, pairs_sz bs fun c hc => h c (by simp [hc])]
    rfl
theorem opDict_sz {bs : List D} (hb : ∀ b ∈ bs, boxB b = true) (hn : (nmsOf bs).Nodup) : opDict (.lst (bs.map fun b => .tup [.str (nmOf b), .int (szOf b)])) = some (.dic (szDict bs)) := by
  have e : opDict (.lst (bs.map fun b => D.tup [.str (nmOf b), .int (szOf b)])) = (pairsD (bs.map fun b => D.tup [.str (nmOf b), .int (szOf b)])).map fun ps => .dic (mergeD [] ps) := rfl
  rw [e, pairs_sz bs hb]
  have := merge_fresh bs [] (by simpa using hn)
  simp only [Option.map_some]
  rw [show mergeD [] (bs.map fun b => ((.inr (nmOf b) : Key), D.int (szOf b))) = szDict bs from this]
theorem names6_rot : ∀ r < 6, ((List.range 6).map fun k => names6.getD ((k + r) % 6) "").Nodup := by decide +kernel
theorem rot_nodup {d m : Nat} (hm : m ≤ 6) : ((List.range m).map fun k => names6.getD ((k + d) % 6) "").Nodup := by
  have h := names6_rot (d % 6) (Nat.mod_lt _ (by omega))
  have e : ((List.range 6).map fun k => names6.getD ((k + d % 6) % 6) "") = (List.range 6).map fun k => names6.getD ((k + d) % 6) "" := List.map_congr_left fun k _ => by
    congr 1
    omega
  rw [e] at h
  refine List.Nodup.sublist ?_ h
  refine List.Sublist.map _ ?_
  have e2 : List.range 6 = List.range m ++ (List.range 6).drop m := by
    have := (List.take_append_drop m (List.range 6)).symm
    rw [List.take_range, Nat.min_eq_left hm] at this
    exact this
  rw [e2]
  exact List.sublist_append_left _ _
end VL

namespace VL
open PyProof.Rows PySem L2 PySem.Spec

/-! ### evaluation: starred targets, update, sorted -/
section
variable {ρ : Lo} {i j : Nat} {x a b : D} {es es2 : List (D × D)}
def starK (i j : Nat) (ρ : Lo) (d : D) : Fl := match seqD d with
  | some (x :: xs) => if decide (xs.length ≤ 16000) = true then .nx ((ρ.set i (.sh x)).set j (.ow (.lst xs))) else .bad
  | _ => .bad
@[simp] theorem sStar_ap (fa : Lo → R D) : sStar i j fa ρ = fb (fa ρ) ρ (starK i j ρ) := (rfl)
@[simp] theorem starK1 : starK i j ρ (.tup [x]) = .nx ((ρ.set i (.sh x)).set j (.ow (.lst []))) := (rfl)
@[simp] theorem starK2 : starK i j ρ (.tup [x, a]) = .nx ((ρ.set i (.sh x)).set j (.ow (.lst [a]))) := (rfl)
@[simp] theorem starK3 : starK i j ρ (.tup [x, a, b]) = .nx ((ρ.set i (.sh x)).set j (.ow (.lst [a, b]))) := (rfl)
def updK (i : Nat) (ρ : Lo) (r : R D) : Option Sl → Fl
  | some (.ow (.dic es)) => fb r ρ fun d => match d with
    | .dic es2 => if fits (es.length + es2.length) = true then .nx (ρ.set i (.ow (.dic (updD es es2)))) else .bad
    | _ => .bad
  | _ => .bad
@[simp] theorem sUpd_ap (f : Lo → R D) : sUpd i f ρ = updK i ρ (f ρ) ρ[i]? := by
  unfold sUpd updK
  cases ρ[i]? with
  | none => rfl
  | some s => cases s with
    | ow d => cases d <;> rfl
    | _ => rfl
theorem updK_ok (h : es.length + es2.length ≤ 16777216) : updK i ρ (.ok (.dic es2)) (some (.ow (.dic es))) = .nx (ρ.set i (.ow (.dic (updD es es2)))) := if_pos (fits_of h)
@[simp] theorem eSortSc_ap (it : Lo → R (List D)) (asg : D → Lo → R Lo) (tst : Lo → R Bool) (f2 : Lo → R (List D)) (vs : List Nat) : eSortSc it asg tst f2 vs ρ = (forD it asg tst f2 vs ρ).bind sortSetD := (rfl)
@[simp] theorem forD_ap (it : Lo → R (List D)) (asg : D → Lo → R Lo) (tst : Lo → R Bool) (f2 : Lo → R (List D)) (vs : List Nat) : forD it asg tst f2 vs ρ = (it ρ).bind fun ds => lcF asg tst f2 (wipeL ρ vs) ds := (rfl)
@[simp] theorem oneD_ap (fe : Lo → R D) : oneD fe ρ = (fe ρ).bind fun d => .ok [d] := (rfl)
end
end VL

namespace VL
open PyProof.Rows PySem L2 PySem.Spec

/-! ### conditions, typed -/
inductive Cn where
  | yes
  | is (n : Str) (v : Int)
  | like (a b : Str)
  | not (c : Cn)
  | all (cs : List Cn)
  | any (cs : List Cn)
mutual
def enC : Cn → D
  | .yes => .tup [.str "yes"]
  | .is n v => .tup [.str "is", .str n, .int v]
  | .like a b => .tup [.str "like", .str a, .str b]
  | .not c => .tup [.str "not", enC c]
  | .all cs => .tup [.str "and", .tup (enL cs)]
  | .any cs => .tup [.str "or", .tup (enL cs)]
def enL : List Cn → List D
  | [] => []
  | c :: cs => enC c :: enL cs
end
theorem enL_map : ∀ cs : List Cn, enL cs = cs.map enC
  | [] => by simp [enL]
  | c :: cs => by simp [enL, enL_map cs]
mutual
def den (pl : Str → Nat) (st : List Int) : Cn → Bool
  | .yes => true
  | .is n v => st.getD (pl n) 0 == v
  | .like a b => st.getD (pl a) 0 == st.getD (pl b) 0
  | .not c => !den pl st c
  | .all cs => (denL pl st cs).all id
  | .any cs => (denL pl st cs).any id
def denL (pl : Str → Nat) (st : List Int) : List Cn → List Bool
  | [] => []
  | c :: cs => den pl st c :: denL pl st cs
end
theorem denL_map (pl : Str → Nat) (st : List Int) : ∀ cs : List Cn, denL pl st cs = cs.map (den pl st)
  | [] => by simp [denL]
  | c :: cs => by simp [denL, denL_map pl st cs]
mutual
def nmsC : Cn → List Str
  | .yes => []
  | .is n _ => [n]
  | .like a b => srtS (addsX [] [a, b])
  | .not c => nmsC c
  | .all cs => srtS (addsX [] (nmsL cs))
  | .any cs => srtS (addsX [] (nmsL cs))
def nmsL : List Cn → List Str
  | [] => []
  | c :: cs => nmsC c ++ nmsL cs
end
theorem nmsL_map : ∀ cs : List Cn, nmsL cs = cs.flatMap nmsC
  | [] => by simp [nmsL]
  | c :: cs => by simp [nmsL, nmsL_map cs]
theorem nmsC_not (c : Cn) : nmsC (.not c) = nmsC c := by rw [nmsC]
theorem nmsC_all (cs : List Cn) : nmsC (.all cs) = srtS (addsX [] (nmsL cs)) := by rw [nmsC]
theorem nmsC_any (cs : List Cn) : nmsC (.any cs) = srtS (addsX [] (nmsL cs)) := by rw [nmsC]
/-- names among ns, at most k deep -/
def wfC (ns : List Str) : Nat → Cn → Prop
  | 0, _ => False
  | k + 1, c => match c with
    | .yes => True
    | .is n _ => n ∈ ns
    | .like a b => a ∈ ns ∧ b ∈ ns
    | .not c => wfC ns k c
    | .all cs => cs.length ≤ 4 ∧ ∀ c ∈ cs, wfC ns k c
    | .any cs => cs.length ≤ 4 ∧ ∀ c ∈ cs, wfC ns k c
theorem wfC_up {ns : List Str} : ∀ {k : Nat} {c : Cn}, wfC ns k c → wfC ns (k + 1) c
  | 0, _, h => h.elim
  | k + 1, .yes, _ => trivial
  | k + 1, .is _ _, h => h
  | k + 1, .like _ _, h => h
  | k + 1, .not c, h => wfC_up (k := k) (c := c) h
  | k + 1, .all cs, h => ⟨h.1, fun c hc => wfC_up (h.2 c hc)⟩
  | k + 1, .any cs, h => ⟨h.1, fun c hc => wfC_up (h.2 c hc)⟩
theorem wfC_le {ns : List Str} {k j : Nat} {c : Cn} (h : wfC ns k c) (hj : k ≤ j) : wfC ns j c := by
  induction hj with
  | refl => exact h
  | step _ ih => exact wfC_up ih
/-! ### sets of texts -/
theorem mem_addX {l : List Str} {x y : Str} : y ∈ addX l x ↔ y ∈ l ∨ y = x := by
  unfold addX
  split
  · rename_i h
    exact ⟨.inl, fun z => z.elim id fun e => e ▸ h⟩
  · rw [List.mem_cons]
    exact Or.comm
theorem nodup_addX {l : List Str} {x : Str} (h : l.Nodup) : (addX l x).Nodup := by
  unfold addX
  split
  · exact h
  · rename_i n
    exact List.nodup_cons.mpr ⟨n, h⟩
theorem mem_addsX {y : Str} : ∀ {xs l : List Str}, y ∈ addsX l xs ↔ y ∈ l ∨ y ∈ xs
  | [], l => by simp [addsX]
  | x :: xs, l => by
    show y ∈ addsX (addX l x) xs ↔ _
    rw [mem_addsX, mem_addX, List.mem_cons, or_assoc]
theorem nodup_addsX : ∀ {xs l : List Str}, l.Nodup → (addsX l xs).Nodup
  | [], l, h => h
  | x :: xs, l, h => nodup_addsX (xs := xs) (nodup_addX h)
theorem perm_of_mem {l m : List Str} (h1 : l.Nodup) (h2 : m.Nodup) (h : ∀ x, x ∈ l ↔ x ∈ m) : l.Perm m := by
  have a := perm_of_sub h1 (fun x hx => (h x).mp hx)
  have sub : ∀ {l m : List Str}, l.Nodup → (∀ x ∈ l, x ∈ m) → l.length ≤ m.length := fun {l} => by
    induction l with
    | nil => intro m _ _; exact Nat.zero_le _
    | cons x l ih =>
      intro m d s
      obtain ⟨d1, d2⟩ := List.nodup_cons.mp d
      have hx : x ∈ m := s x List.mem_cons_self
      have q := ih (m := m.erase x) d2 fun y hy => (List.mem_erase_of_ne fun e : y = x => d1 (e ▸ hy)).mpr (s y (List.mem_cons_of_mem _ hy))
      have e := (List.perm_cons_erase hx).length_eq
      rw [List.length_cons] at e ⊢
      omega
  exact a (sub h2 fun x hx => (h x).mpr hx)
theorem len_sub {l m : List Str} (h : l.Nodup) (s : ∀ x ∈ l, x ∈ m) : l.length ≤ m.length := by
  have e : (m.filter fun x => l.contains x).length ≤ m.length := List.length_filter_le _ _
  induction l generalizing m with
  | nil => exact Nat.zero_le _
  | cons x l ih =>
    obtain ⟨d1, d2⟩ := List.nodup_cons.mp h
    have hx : x ∈ m := s x List.mem_cons_self
    have q := ih (m := m.erase x) d2 (fun y hy => (List.mem_erase_of_ne fun e : y = x => d1 (e ▸ hy)).mpr (s y (List.mem_cons_of_mem _ hy))) (List.length_filter_le _ _)
    have e := (List.perm_cons_erase hx).length_eq
    rw [List.length_cons] at e ⊢
    omega
theorem srtS_mem {l : List Str} {x : Str} : x ∈ srtS l ↔ x ∈ l := (srtS_perm l).mem_iff
theorem srtS_nodup {l : List Str} (h : l.Nodup) : (srtS l).Nodup := (srtS_perm l).nodup_iff.mpr h
theorem srtS_idem (l : List Str) : srtS (srtS l) = srtS l := srtS_congr (srtS_perm l)
theorem srtS_one (x : Str) : srtS [x] = [x] := by
  have h := (srtS_perm [x]).length_eq
  have m : x ∈ srtS [x] := srtS_mem.mpr (by simp)
  match hq : srtS [x], h, m with
  | [y], _, m =>
    simp at m
    rw [m]
theorem srtS_nil : srtS [] = [] := List.eq_nil_of_length_eq_zero ((srtS_perm []).length_eq)
/-- the names: each once, in order, of those among the boxes' -/
theorem nms_ok {ns : List Str} : ∀ {k : Nat} {c : Cn}, wfC ns k c → (nmsC c).Nodup ∧ srtS (nmsC c) = nmsC c ∧ ∀ x ∈ nmsC c, x ∈ ns
  | 0, _, h => h.elim
  | k + 1, .yes, _ => by
    unfold nmsC
    exact ⟨List.nodup_nil, srtS_nil, fun x hx => by simp at hx⟩
  | k + 1, .is n v, h => by
    unfold nmsC
    exact ⟨by simp, srtS_one n, fun x hx => by rw [List.mem_singleton.mp hx]; exact h⟩
  | k + 1, .like a b, h => by
    unfold nmsC
    refine ⟨srtS_nodup (nodup_addsX List.nodup_nil), srtS_idem _, fun x hx => ?_⟩
    rw [srtS_mem, mem_addsX] at hx
    rcases hx with hx | hx
    · simp at hx
    · simp only [List.mem_cons, List.not_mem_nil, or_false] at hx
      rcases hx with rfl | rfl
      · exact h.1
      · exact h.2
  | k + 1, .not c, h => by
    unfold nmsC
    exact nms_ok (k := k) (c := c) h
  | k + 1, .all cs, h => by
    unfold nmsC
    refine ⟨srtS_nodup (nodup_addsX List.nodup_nil), srtS_idem _, fun x hx => ?_⟩
    rw [srtS_mem, mem_addsX, nmsL_map, List.mem_flatMap] at hx
    rcases hx with hx | ⟨c, hc, hx⟩
    · simp at hx
    · exact (nms_ok (h.2 c hc)).2.2 x hx
  | k + 1, .any cs, h => by
    unfold nmsC
    refine ⟨srtS_nodup (nodup_addsX List.nodup_nil), srtS_idem _, fun x hx => ?_⟩
    rw [srtS_mem, mem_addsX, nmsL_map, List.mem_flatMap] at hx
    rcases hx with hx | ⟨c, hc, hx⟩
    · simp at hx
    · exact (nms_ok (h.2 c hc)).2.2 x hx
theorem strsD_map : ∀ xs : List Str, strsD (xs.map .str) = some xs
  | [] => rfl
  | x :: xs => by
    show (strsD (xs.map .str)).map (x :: ·) = _
    rw [strsD_map xs]; rfl
theorem stepsX_map : ∀ (xs l : List Str), l.length + xs.length < 3999 → stepsD stepX l (xs.map .str) = some (addsX l xs)
  | [], l, _ => rfl
  | x :: xs, l, h => by
    simp only [List.length_cons] at h
    show (stepX l (.str x)).bind (fun b => stepsD stepX b (xs.map .str)) = _
    have e : stepX l (.str x) = some (addX l x) := if_pos (decide_eq_true (by omega))
    rw [e]
    refine stepsX_map xs (addX l x) ?_
    have q : (addX l x).length ≤ l.length + 1 := by
      unfold addX
      split
      · omega
      · simp
    omega
theorem sortSet_ok {xs : List Str} (h : xs.length < 3999) (h2 : (addsX [] xs).length < 64) : sortSetD (xs.map .str) = .ok (.lst ((srtS (addsX [] xs)).map .str)) := by
  unfold sortSetD
  rw [stepsX_map xs [] (by simpa using h)]
  exact if_pos (decide_eq_true h2)
theorem opSortSet_ok {xs : List Str} (h : xs.length < 3999) (h2 : (addsX [] xs).length < 64) : opSortSet (.lst (xs.map .str)) = some (.lst ((srtS (addsX [] xs)).map .str)) := by
  unfold opSortSet
  dsimp only
  rw [strsD_map]
  exact if_pos (decide_eq_true ⟨h, h2⟩)
theorem lcF_gen {asg : D → Lo → R Lo} {tl : Lo → R (List D)} {ρ : Lo} (g : D → List D) : ∀ {ds : List D}, (∀ d ∈ ds, ∃ ρ1, asg d ρ = .ok ρ1 ∧ tl ρ1 = .ok (g d)) → lcF asg tsY tl ρ ds = .ok (ds.flatMap g)
  | [], _ => rfl
  | d :: ds, h => by
    obtain ⟨ρ1, e1, e2⟩ := h d (by simp)
    unfold lcF
    rw [e1]
    show (match tl ρ1 with
      | .ok e => (lcF asg tsY tl ρ ds).bind fun es => .ok (e ++ es)
      | _ => .bad) = _
    rw [e2, lcF_gen g fun z hz => h z (by simp [hz])]
    rfl
theorem lcF_genM {α : Type} {asg : D → Lo → R Lo} {tl : Lo → R (List D)} {ρ : Lo} (enc : α → D) (g : α → List D) : ∀ {l : List α}, (∀ a ∈ l, ∃ ρ1, asg (enc a) ρ = .ok ρ1 ∧ tl ρ1 = .ok (g a)) → lcF asg tsY tl ρ (l.map enc) = .ok (l.flatMap g)
  | [], _ => rfl
  | d :: ds, h => by
    obtain ⟨ρ1, e1, e2⟩ := h d (by simp)
    rw [List.map_cons]
    unfold lcF
    rw [e1]
    show (match tl ρ1 with
      | .ok e => (lcF asg tsY tl ρ (ds.map enc)).bind fun es => .ok (e ++ es)
      | _ => .bad) = _
    rw [e2, lcF_genM enc g fun z hz => h z (by simp [hz])]
    rfl
/-! ### dicts of names -/
def nmD (es : List Str) : List (D × D) := es.map fun n => (.str n, .bl true)
def mrg (es xs : List Str) : List Str := xs.foldl (fun a n => if a.contains n = true then a else a ++ [n]) es
theorem dput_nm (es : List Str) (n : Str) : dput (nmD es) (.str n) (.bl true) = nmD (if es.contains n = true then es else es ++ [n]) := by
  have e : ∀ m : Str, (D.str m).eqv (.str n) = (m == n) := fun m => by
    have q := eqv_kD (.inr m) (.inr n)
    have q : (D.str m).eqv (.str n) = decide ((Sum.inr m : Key) = Sum.inr n) := q
    rw [q]
    by_cases h : m = n
    · rw [h, decide_eq_true rfl, beq_self_eq_true]
    · rw [decide_eq_false fun z => h (Sum.inr.inj z), beq_eq_false_iff_ne.mpr h]
  have any : (nmD es).any (fun p => p.1.eqv (.str n)) = es.contains n := by
    unfold nmD
    rw [List.any_map]
    induction es with
    | nil => rfl
    | cons m es ih =>
      rw [List.any_cons, ih, List.contains_cons]
      show ((D.str m).eqv (.str n) || _) = _
      rw [e, beq_c]
  unfold dput
  rw [any]
  by_cases h : es.contains n = true
  · rw [if_pos h, if_pos h]
    unfold nmD
    rw [List.map_map]
    refine List.map_congr_left fun m _ => ?_
    show (if (D.str m).eqv (.str n) = true then _ else _) = _
    split <;> rfl
  · rw [if_neg h, if_neg h]
    unfold nmD
    rw [List.map_append]
    rfl
theorem updD_nm : ∀ (xs es : List Str), updD (nmD es) (nmD xs) = nmD (mrg es xs)
  | [], es => rfl
  | x :: xs, es => by
    show updD (dput (nmD es) (.str x) (.bl true)) (nmD xs) = _
    rw [dput_nm, updD_nm xs]
    rfl
theorem mrg_mem {y : Str} : ∀ {xs es : List Str}, y ∈ mrg es xs ↔ y ∈ es ∨ y ∈ xs
  | [], es => by simp [mrg]
  | x :: xs, es => by
    show y ∈ mrg (if es.contains x = true then es else es ++ [x]) xs ↔ _
    rw [mrg_mem, List.mem_cons]
    split
    · rename_i h
      have h := List.contains_iff_mem.mp h
      constructor
      · rintro (a | a)
        · exact .inl a
        · exact .inr (.inr a)
      · rintro (a | rfl | a)
        · exact .inl a
        · exact .inl h
        · exact .inr a
    · rw [List.mem_append, List.mem_singleton, or_assoc]
theorem mrg_nodup : ∀ {xs es : List Str}, es.Nodup → (mrg es xs).Nodup
  | [], es, h => h
  | x :: xs, es, h => by
    show (mrg (if es.contains x = true then es else es ++ [x]) xs).Nodup
    refine mrg_nodup ?_
    split
    · exact h
    · rename_i n
      rw [List.nodup_append]
      refine ⟨h, by simp, fun a ha b hb e => ?_⟩
      rw [List.mem_singleton.mp hb] at e
      exact n (List.contains_iff_mem.mpr (e ▸ ha))
theorem sorted_nm {es : List Str} (h : es.length < 64) : opSorted (.dic (nmD es)) = some (.lst ((srtS es).map .str)) := by
  have e : (nmD es).map (·.1) = es.map .str := by
    unfold nmD
    rw [List.map_map]
    rfl
  unfold opSorted
  dsimp only
  rw [e, strsD_map]
  exact if_pos (decide_eq_true h)
end VL

namespace K03
open PyProof.Rows PySem L2 PySem.Spec VL
/-! ### what the defs tell -/
def b_place_of : Lo → Fl := (sq (sFor (iE (eV 0)) (gT2 2 (gCons2 (gS 2) (gCons2 (gS 3) gNil2))) (sIf (tb (b2 (b2 (eV 3) (eC (.int 0)) opIx) (eV 1) opEq)) (sRet (eV 2)) sNx))
  (sRet (eC .non)))
def f_place_of : List D → R D := runF b_place_of 4
theorem e_place_of (a0 a1 : D) : f_place_of [a0, a1] = (b_place_of [.sh a0, .sh a1, .no, .no]).fin := runF_fin _ _ _

def b_law_numbers : Lo → Fl := (sq (sSet 3 (b2 (eV 0) (b2 (b1 (eC (.int 1)) opNeg) (eV 0) opSub) opMax))
  (sq (sSet 4 (eV 3))
  (sq (sNew 5 (eLst aNil))
  (sq (sFor (iR1 (b1 (eV 2) opLen)) (gS 6) (sIf (tAndB (tb (b2 (eV 3) (b2 (eC (.int 10)) (eC (.int 18)) opPow) opGe)) (tb (b2 (eV 4) (eC (.int 0)) opGt))) (sq (sApp 5 (b2 (eV 4) (b2 (eV 2) (eV 6) opIx) opMod))
  (sSet 4 (b2 (eV 4) (b2 (eV 2) (eV 6) opIx) opDiv))) (sq (sSet 7 (b2 (b2 (b2 (b2 (b2 (eV 3) (eC (.int 2147483629)) opMod) (b2 (eC (.int 7919)) (eV 1) opMul) opAdd) (eC (.int 1)) opAdd) (eC (.int 3)) opPow) (eC (.int 2147483647)) opMod))
  (sq (sSet 7 (b2 (b2 (b2 (eV 7) (b2 (eC (.int 104729)) (b2 (eV 6) (eC (.int 1)) opAdd) opMul) opAdd) (b2 (eV 6) (eC (.int 3)) opAdd) opMul) (eC (.int 2147483629)) opMod))
  (sq (sSet 7 (b2 (b2 (b2 (b2 (eV 7) (eC (.int 5)) opPow) (eC (.int 2147483647)) opMod) (eC (.int 48271)) opMul) (eC (.int 2147483629)) opMod))
  (sApp 5 (b2 (b2 (eV 7) (eC (.int 16)) opDiv) (b2 (eV 2) (eV 6) opIx) opMod)))))))
  (sFz 5 (sRet (eV 5)))))))
def f_law_numbers : List D → R D := runF b_law_numbers 8
theorem e_law_numbers (a0 a1 a2 : D) : f_law_numbers [a0, a1, a2] = (b_law_numbers [.sh a0, .sh a1, .sh a2, .no, .no, .no, .no, .no]).fin := runF_fin _ _ _

def b_law_small_boxes : Lo → Fl := (sq (sSet 1 (eLst (aCons (eC (.str "hidden")) (aCons (eC (.str "seen")) (aCons (eC (.str "given")) aNil)))))
  (sq (sNew 2 (eLst aNil))
  (sq (sFor (iR1 (b2 (eC (.int 1)) (b2 (b2 (eV 0) (eC (.int 0)) opIx) (eC (.int 3)) opMod) opAdd)) (gS 3) (sApp 2 (eTup (aCons (b2 (eC (.str "abc")) (eV 3) opIx) (aCons (b2 (eC (.int 1)) (b2 (b2 (eV 0) (b2 (eC (.int 1)) (b2 (eC (.int 2)) (eV 3) opMul) opAdd) opIx) (eC (.int 4)) opMod) opAdd) (aCons (b2 (eV 1) (b2 (b2 (eV 0) (b2 (eC (.int 2)) (b2 (eC (.int 2)) (eV 3) opMul) opAdd) opIx) (eC (.int 3)) opMod) opIx) aNil))))))
  (sFz 2 (sRet (eV 2))))))
def f_law_small_boxes : List D → R D := runF b_law_small_boxes 4
theorem e_law_small_boxes (a0 : D) : f_law_small_boxes [a0] = (b_law_small_boxes [.sh a0, .no, .no, .no]).fin := runF_fin _ _ _

def b_law_at : Lo → Fl := (sRet (eM (eLc (iS (eV 0)) (gS 2) tsY (b2 (eV 2) (eC (.int 0)) opIx) [2]) (eV 1) opIndex))
def f_law_at : List D → R D := runF b_law_at 3
theorem e_law_at (a0 a1 : D) : f_law_at [a0, a1] = (b_law_at [.sh a0, .sh a1, .no]).fin := runF_fin _ _ _

def b_law_stands : Lo → Fl := (sq (sSet 1 (eLst (aCons (eTup aNil) aNil)))
  (sq (sFor (iS (eV 0)) (gT2 3 (gCons2 (gS 2) (gCons2 (gS 3) (gCons2 (gS 4) gNil2)))) (sq (sSet 5 (eLst aNil))
  (sq (sFor (iS (eV 1)) (gS 6) (sSet 5 (b2 (eV 5) (eLc (iR1 (eV 3)) (gS 7) tsY (b2 (eV 6) (eTup (aCons (eV 7) aNil)) opAdd) [7]) opAdd)))
  (sSet 1 (eV 5)))))
  (sRet (eV 1))))
def f_law_stands : List D → R D := runF b_law_stands 8
theorem e_law_stands (a0 : D) : f_law_stands [a0] = (b_law_stands [.sh a0, .no, .no, .no, .no, .no, .no, .no]).fin := runF_fin _ _ _

def b_names_in (r : List D → R D) : Lo → Fl := (sq (sStar 1 2 (eV 0))
  (sq (sIf (tb (b2 (eV 1) (eC (.str "yes")) opEq)) (sRet (eLst aNil)) sNx)
  (sq (sIf (tb (b2 (eV 1) (eC (.str "is")) opEq)) (sRet (eLst (aCons (b2 (eB 2) (eC (.int 0)) opIx) aNil))) sNx)
  (sq (sIf (tb (b2 (eV 1) (eC (.str "like")) opEq)) (sRet (b1 (eB 2) opSortSet)) sNx)
  (sq (sIf (tb (b2 (eV 1) (eC (.str "not")) opEq)) (sRet (eCall r (aCons (b2 (eB 2) (eC (.int 0)) opIx) aNil))) sNx)
  (sRet (eSortSc (iS (b2 (eB 2) (eC (.int 0)) opIx)) (gS 3) tsY (forD (iS (eCall r (aCons (eV 3) aNil))) (gS 4) tsY (oneD (eV 4)) [4]) [3, 4])))))))
def fr_names_in : Nat → List D → R D := recF b_names_in 5
def f_names_in : List D → R D := fr_names_in 12
theorem e_names_in (j : Nat) (a0 : D) : fr_names_in (j + 1) [a0] = (b_names_in (fr_names_in j) [.sh a0, .no, .no, .no, .no]).fin := runF_fin _ _ _

def b_law_tree (r : List D → R D) : Lo → Fl := (sq (sSet 3 (b2 (eV 1) (b2 (b2 (eV 0) (eC (.int 1)) opIx) (b1 (eV 1) opLen) opMod) opIx))
  (sq (sSet 4 (b2 (eV 1) (b2 (b2 (eV 0) (eC (.int 2)) opIx) (b1 (eV 1) opLen) opMod) opIx))
  (sq (sSet 5 (b2 (b2 (eV 0) (eC (.int 0)) opIx) (eC (.int 8)) opMod))
  (sq (sIf (tOrB (tb (b2 (eV 5) (eC (.int 2)) opLt)) (tb (b2 (eV 2) (eC (.int 1)) opEq))) (sRet (b2 (eLst (aCons (eTup (aCons (eC (.str "yes")) aNil)) (aCons (eTup (aCons (eC (.str "is")) (aCons (b2 (eV 3) (eC (.int 0)) opIx) (aCons (b2 (b2 (eV 0) (eC (.int 3)) opIx) (b2 (eV 3) (eC (.int 1)) opIx) opMod) aNil)))) (aCons (eTup (aCons (eC (.str "like")) (aCons (b2 (eV 3) (eC (.int 0)) opIx) (aCons (b2 (eV 4) (eC (.int 0)) opIx) aNil)))) aNil)))) (b2 (b2 (b2 (eV 0) (eC (.int 0)) opIx) (eC (.int 8)) opDiv) (eC (.int 3)) opMod) opIx)) sNx)
  (sq (sIf (tb (b2 (eV 5) (eC (.int 4)) opLt)) (sRet (eTup (aCons (eC (.str "not")) (aCons (eCall r (aCons (eSl (eV 0) (oS (eC (.int 4))) oN) (aCons (eV 1) (aCons (b2 (eV 2) (eC (.int 1)) opSub) aNil)))) aNil)))) sNx)
  (sq (sSet 6 (b2 (eC (.int 1)) (b2 (b2 (eV 0) (eC (.int 3)) opIx) (b2 (eLst (aCons (eC (.int 2)) (aCons (eC (.int 4)) aNil))) (b1 (b2 (eV 2) (eC (.int 4)) opLt) opInt) opIx) opMod) opAdd))
  (sq (sSet 7 (b1 (eLc (iR1 (eV 6)) (gS 8) tsY (eCall r (aCons (eSl (eV 0) (oS (b2 (eC (.int 4)) (b2 (eC (.int 3)) (eV 8) opMul) opAdd)) oN) (aCons (eV 1) (aCons (b2 (eV 2) (eC (.int 1)) opSub) aNil)))) [8]) opTuple))
  (sRet (eTup (aCons (b2 (eLst (aCons (eC (.str "and")) (aCons (eC (.str "or")) aNil))) (b2 (eV 5) (eC (.int 2)) opMod) opIx) (aCons (eV 7) aNil)))))))))))
def fr_law_tree : Nat → List D → R D := recF b_law_tree 9
def f_law_tree : List D → R D := fr_law_tree 12
theorem e_law_tree (j : Nat) (a0 a1 a2 : D) : fr_law_tree (j + 1) [a0, a1, a2] = (b_law_tree (fr_law_tree j) [.sh a0, .sh a1, .sh a2, .no, .no, .no, .no, .no, .no]).fin := runF_fin _ _ _

def b_law_names (r : List D → R D) : Lo → Fl := (sq (sIf (tb (b2 (b2 (eV 0) (eC (.int 0)) opIx) (eC (.str "yes")) opEq)) (sRet (eC (.dic []))) sNx)
  (sq (sIf (tb (b2 (b2 (eV 0) (eC (.int 0)) opIx) (eTup (aCons (eC (.str "is")) (aCons (eC (.str "like")) aNil))) opIn)) (sRet (b1 (eLc (iS (eSl (eV 0) (oS (eC (.int 1))) oN)) (gS 1) (tb (b1 (eV 1) (opIsi isStr))) (eTup (aCons (eV 1) (aCons (eC (.bl true)) aNil))) [1]) opDict)) sNx)
  (sq (sSet 2 (b2 (eV 0) (eC (.int 1)) opIx))
  (sq (sIf (tb (b2 (b2 (eV 0) (eC (.int 0)) opIx) (eC (.str "not")) opEq)) (sSet 2 (eTup (aCons (b2 (eV 0) (eC (.int 1)) opIx) aNil))) sNx)
  (sq (sNew 3 (eC (.dic [])))
  (sq (sFor (iS (eV 2)) (gS 4) (sUpd 3 (eCall r (aCons (eV 4) aNil))))
  (sFz 3 (sRet (eV 3)))))))))
def fr_law_names : Nat → List D → R D := recF b_law_names 5
def f_law_names : List D → R D := fr_law_names 12
theorem e_law_names (j : Nat) (a0 : D) : fr_law_names (j + 1) [a0] = (b_law_names (fr_law_names j) [.sh a0, .no, .no, .no, .no]).fin := runF_fin _ _ _

def b_holds (r : List D → R D) : Lo → Fl := (sq (sStar 3 4 (eV 1))
  (sq (sIf (tb (b2 (eV 3) (eC (.str "yes")) opEq)) (sRet (eC (.bl true))) sNx)
  (sq (sIf (tb (b2 (eV 3) (eC (.str "is")) opEq)) (sRet (b2 (b2 (eV 2) (eCall f_place_of (aCons (eV 0) (aCons (b2 (eB 4) (eC (.int 0)) opIx) aNil))) opIx) (b2 (eB 4) (eC (.int 1)) opIx) opEq)) sNx)
  (sq (sIf (tb (b2 (eV 3) (eC (.str "like")) opEq)) (sRet (b2 (b2 (eV 2) (eCall f_place_of (aCons (eV 0) (aCons (b2 (eB 4) (eC (.int 0)) opIx) aNil))) opIx) (b2 (eV 2) (eCall f_place_of (aCons (eV 0) (aCons (b2 (eB 4) (eC (.int 1)) opIx) aNil))) opIx) opEq)) sNx)
  (sq (sIf (tb (b2 (eV 3) (eC (.str "not")) opEq)) (sRet (eNot (eCall r (aCons (eV 0) (aCons (b2 (eB 4) (eC (.int 0)) opIx) (aCons (eV 2) aNil)))))) sNx)
  (sq (sNew 5 (eLc (iS (b2 (eB 4) (eC (.int 0)) opIx)) (gS 6) tsY (eCall r (aCons (eV 0) (aCons (eV 6) (aCons (eV 2) aNil)))) [6]))
  (sq (sIf (tb (b2 (eV 3) (eC (.str "and")) opEq)) (sRet (b1 (eB 5) opAll)) sNx)
  (sRet (b1 (eB 5) opAny)))))))))
def fr_holds : Nat → List D → R D := recF b_holds 7
def f_holds : List D → R D := fr_holds 12
theorem e_holds (j : Nat) (a0 a1 a2 : D) : fr_holds (j + 1) [a0, a1, a2] = (b_holds (fr_holds j) [.sh a0, .sh a1, .sh a2, .no, .no, .no, .no]).fin := runF_fin _ _ _

def b_law_holds (r : List D → R D) : Lo → Fl := (sq (sIf (tb (b2 (b2 (eV 1) (eC (.int 0)) opIx) (eC (.str "yes")) opEq)) (sRet (eC (.bl true))) sNx)
  (sq (sIf (tb (b2 (b2 (eV 1) (eC (.int 0)) opIx) (eC (.str "is")) opEq)) (sRet (b2 (b2 (eV 2) (eCall f_law_at (aCons (eV 0) (aCons (b2 (eV 1) (eC (.int 1)) opIx) aNil))) opIx) (b2 (eV 1) (eC (.int 2)) opIx) opEq)) sNx)
  (sq (sIf (tb (b2 (b2 (eV 1) (eC (.int 0)) opIx) (eC (.str "like")) opEq)) (sRet (b2 (b2 (eV 2) (eCall f_law_at (aCons (eV 0) (aCons (b2 (eV 1) (eC (.int 1)) opIx) aNil))) opIx) (b2 (eV 2) (eCall f_law_at (aCons (eV 0) (aCons (b2 (eV 1) (eC (.int 2)) opIx) aNil))) opIx) opEq)) sNx)
  (sq (sIf (tb (b2 (b2 (eV 1) (eC (.int 0)) opIx) (eC (.str "not")) opEq)) (sRet (eNot (eCall r (aCons (eV 0) (aCons (b2 (eV 1) (eC (.int 1)) opIx) (aCons (eV 2) aNil)))))) sNx)
  (sq (sNew 3 (eLc (iS (b2 (eV 1) (eC (.int 1)) opIx)) (gS 4) tsY (eCall r (aCons (eV 0) (aCons (eV 4) (aCons (eV 2) aNil)))) [4]))
  (sRet (b2 (eLst (aCons (b1 (eB 3) opAny) (aCons (b1 (eB 3) opAll) aNil))) (b1 (b2 (b2 (eV 1) (eC (.int 0)) opIx) (eC (.str "and")) opEq) opInt) opIx)))))))
def fr_law_holds : Nat → List D → R D := recF b_law_holds 5
def f_law_holds : List D → R D := fr_law_holds 12
theorem e_law_holds (j : Nat) (a0 a1 a2 : D) : fr_law_holds (j + 1) [a0, a1, a2] = (b_law_holds (fr_law_holds j) [.sh a0, .sh a1, .sh a2, .no, .no]).fin := runF_fin _ _ _

def b_law_right : Lo → Fl := (sq (sFor (iR1 (eC (.int 2))) (gS 2) (sq (sNew 3 (eCall f_names_in (aCons (eV 1) aNil)))
  (sq (sIf (tb (b2 (b1 (eB 3) opRepr) (b1 (b1 (eCall f_law_names (aCons (eV 1) aNil)) opSorted) opRepr) opNe)) (sRet (eC (.bl false))) sNx)
  (sApp 3 (eC .non)))))
  (sq (sFor (iS (eCall f_law_stands (aCons (eV 0) aNil))) (gS 4) (sq (sSet 5 (eCall f_holds (aCons (eV 0) (aCons (eV 1) (aCons (eV 4) aNil)))))
  (sq (sIf (tOrB (tNotB (tb (b1 (eV 5) (opIsi isBool)))) (tb (b2 (eV 5) (eCall f_law_holds (aCons (eV 0) (aCons (eV 1) (aCons (eV 4) aNil)))) opNe))) (sRet (eC (.bl false))) sNx)
  (sq (sIf (tb (b2 (eCall f_holds (aCons (eV 0) (aCons (eTup (aCons (eC (.str "not")) (aCons (eV 1) aNil))) (aCons (eV 4) aNil)))) (eV 5) opEq)) (sRet (eC (.bl false))) sNx)
  (sq (sIf (tb (b2 (eCall f_holds (aCons (eV 0) (aCons (eTup (aCons (eC (.str "and")) (aCons (eTup (aCons (eV 1) (aCons (eTup (aCons (eC (.str "yes")) aNil)) aNil))) aNil))) (aCons (eV 4) aNil)))) (eV 5) opNe)) (sRet (eC (.bl false))) sNx)
  (sq (sIf (tb (b2 (eCall f_holds (aCons (eV 0) (aCons (eTup (aCons (eC (.str "or")) (aCons (eTup (aCons (eTup (aCons (eC (.str "not")) (aCons (eTup (aCons (eC (.str "yes")) aNil)) aNil))) (aCons (eV 1) aNil))) aNil))) (aCons (eV 4) aNil)))) (eV 5) opNe)) (sRet (eC (.bl false))) sNx)
  (sIf (tAndB (tb (b2 (b2 (eV 1) (eC (.int 0)) opIx) (eTup (aCons (eC (.str "and")) (aCons (eC (.str "or")) aNil))) opIn)) (tb (b2 (eCall f_holds (aCons (eV 0) (aCons (eTup (aCons (b2 (eV 1) (eC (.int 0)) opIx) (aCons (b1 (b2 (eV 1) (eC (.int 1)) opIx) opRev) aNil))) (aCons (eV 4) aNil)))) (eV 5) opNe))) (sRet (eC (.bl false))) sNx)))))))
  (sRet (eC (.bl true)))))
def f_law_right : List D → R D := runF b_law_right 6
theorem e_law_right (a0 a1 : D) : f_law_right [a0, a1] = (b_law_right [.sh a0, .sh a1, .no, .no, .no, .no]).fin := runF_fin _ _ _

def b_law : Lo → Fl := (sq (sFor (iE (b2 (eSl (eV 0) oN (oS (eC (.int 12)))) (b2 (eLst (aCons (eC (.int 7)) aNil)) (b1 (b2 (eV 0) (eLst aNil) opEq) opInt) opRep) opAdd)) (gT2 2 (gCons2 (gS 1) (gCons2 (gS 2) gNil2))) (sq (sSet 3 (eCall f_law_numbers (aCons (eV 2) (aCons (b2 (eC (.int 300)) (eV 1) opAdd) (aCons (b2 (eLst (aCons (eC (.int 420)) aNil)) (eC (.int 70)) opRep) aNil)))))
  (sq (sSet 4 (eCall f_law_small_boxes (aCons (eSl (eV 3) (oS (eC (.int 60))) oN) aNil)))
  (sq (sSet 5 (b1 (eV 4) opRepr))
  (sFor (iR1 (eC (.int 3))) (gS 6) (sIf (tOrB (tNotB (tb (eCall f_law_right (aCons (eV 4) (aCons (eCall f_law_tree (aCons (eSl (eV 3) (oS (b2 (eC (.int 6)) (eV 6) opMul)) oN) (aCons (eV 4) (aCons (eC (.int 4)) aNil)))) aNil))))) (tb (b2 (b1 (eV 4) opRepr) (eV 5) opNe))) (sRet (eC (.bl false))) sNx))))))
  (sRet (eC (.bl true))))
def f_law : List D → R D := runF b_law 7
theorem e_law (a0 : D) : f_law [a0] = (b_law [.sh a0, .no, .no, .no, .no, .no, .no]).fin := runF_fin _ _ _

end K03

namespace K03
open PyProof.Rows PySem L2 PySem.Spec VL
theorem numbers_ok (c s : Int) (hs : 0 ≤ s ∧ s ≤ 1000000) (sz : List Int) (hp : ∀ z ∈ sz, 0 < z ∧ z < 1073741824) (hl : sz.length ≤ 100000) : ∃ l : List Int, f_law_numbers [.int c, .int s, .lst (sz.map .int)] = .ok (.lst (l.map .int)) ∧ Dig sz l := by
  rw [e_law_numbers]
  unfold b_law_numbers
  simp only [bind_ok, bind_ex, bind_bad, fb_ok, fb_ex, fb_bad, opt_some, opt_none, go_nx, go_bk, go_ct, go_rt, go_ex, go_bad, sq_go, fin_rt, fin_nx, fin_ex, val_sh, bor_sh, bor_ow, eV_ap, eB_ap, eC_ap, b1_ap, b2_ap, thn3_t, thn3_f, b3_ap, tru_bl, tb_ap, tAndB_ap, tOrB_ap, tNotB_ap, eAnd_ap, eOr_ap, eNot_ap, eIf_ap, aNil_ap, aCons_ap, eTup_ap, eLst_ap, eCall_ap, oN_ap, oint_ok, oS_ap, eSl_ap, iS_ap, items_lst, items_tup, iR1_ap, iR2_ap, enD_lst, iE_ap, gS_ap, gNil_ap, gCons_ap, gT_ap, sNx_ap, sBk_ap, sCt_ap, sFz_ap, sSet_ap, sNew_ap, nSl_lst, nSl_tup, nSl_int, nSl_dic, sAsg_ap, sRet_ap, sRetN_ap, sIf_ap, sEx_ap, sFor_ap, eLc_ap, wipe_nil, wipe_cons, tsY_ap, iZ_ap, fzS_ow, fzS_sh, fzS_no, fz_ap, augS_sh, sAug_ap, appS_ow, sApp_ap, ends_nx, ends_ct, ends_bk, ends_rt, ends_ex, opAdd_ii, opSub_ii, opNeg_i, opLe_ii, opLt_ii, opGt_ii, opGe_ii, opLen_l, opLen_t, opIx_l, opIx_t, opCut_l, opCut_t, opTuple_l, opTuple_t, opList_l, opList_t, opMax_ii, opInt_b, opInt_i, opEq_bb, opNe_bb, opEq_ii, opNe_ii, opNe_ss, opEq_ss, opIs_n, opIs_bb, atI_0, atI_1, atI_2, atI_3, eCallB_ap, atomR_i, atomR_b, atomR_n, atomR_s, fit0, fit1, fit2, fit3, fit4, fit5, fit6, fit7, fit8, fit9, fit10, fit11, fit12, fit13, fit14, fit15, fit16, fit17, fit18, fit19, fit20, fit21, fit22, fit23, fit24, fit25, fit26, fit27, fit28, fit29, fit30, fit31, fit32, fit33, fit34, fit35, fit36, fit37, fit38, fit39, fit40, one_1, one_0, one_2, two_2, two_0, two_1, two_3, eM_ap, mtD_l, opIsNot_n, gTl_ap, lnt_sh, lnt_ow, eBl_ap, sPut_ap, putF_t, putR_ap, isOwn_ow, putS_l, putS_ds, putS_di, opDGet_s, opDGet_i, opDIn_s, opDNotIn_s, opRev_l, opRev_t, sPar_ap, parF_2, eGet2_ap, eGet1_ap, getF_t, isDic_d, dgetOr_s, dgetOr_i, eLenSc_ap, sStar_ap, starK1, starK2, starK3, sUpd_ap, eSortSc_ap, forD_ap, oneD_ap, List.getElem?_cons_zero, List.getElem?_cons_succ, List.set_cons_zero, List.set_cons_succ, if_true, if_false, Bool.false_eq_true, List.length_cons, List.length_nil, List.length_map, Bool.true_and, Bool.and_true, Bool.false_and, Bool.and_false, Bool.not_true, Bool.not_false, eq_self, Nat.reduceEqDiff, Nat.reduceAdd, fits_of (show 0 ≤ 16777216 by omega), range_n (show sz.length ≤ 16777216 by omega)]
  generalize hn : (if -1 - c > c then -1 - c else c) = n
  have hn0 : 0 ≤ n := by
    rw [← hn]
    split <;> omega
  clear hn
  generalize hg : (sFz 5 (sRet (eV 5)) : Lo → Fl) = g
  refine (forL_post (Post := fun r => ∃ l : List Int, (r.go g).fin = .ok (.lst (l.map .int)) ∧ Dig sz l) (NumP c s n sz) (fun d r ρ h => ?_) (fun ρ h => ?_) ⟨[], n, .no, .no, by simp, rfl, rfl, rfl, fun i x z h => by simp at h⟩ :)
  · obtain ⟨l, lf, x6, x7, h1, h2, rfl, hd⟩ := h
    by_cases hlt : l.length < sz.length
    · rw [rng_cons (by omega)] at h2
      cases h2
      refine ⟨_, rfl, ?_⟩
      have hz : sz[l.length]? = some sz[l.length] := by simp [hlt]
      obtain ⟨zp, zl⟩ := hp sz[l.length] (List.getElem_mem hlt)
      generalize sz[l.length] = z at hz zp zl
      have ax : atI (sz.map D.int) (l.length : Int) = some (.int z) := atI_nat (by simp [hz])
      have m1 := Int.emod_nonneg n (b := 2147483629) (by omega)
      have m2 := Int.emod_lt_of_pos n (b := 2147483629) (by omega)
      have d16 : (0 : Int) < 16 ∧ (16 : Int) < 1073741824 := by omega
      have fl := fits_of (show l.length + 1 ≤ 16777216 by omega)
      simp only [bind_ok, bind_ex, bind_bad, fb_ok, fb_ex, fb_bad, opt_some, opt_none, go_nx, go_bk, go_ct, go_rt, go_ex, go_bad, sq_go, fin_rt, fin_nx, fin_ex, val_sh, bor_sh, bor_ow, eV_ap, eB_ap, eC_ap, b1_ap, b2_ap, thn3_t, thn3_f, b3_ap, tru_bl, tb_ap, tAndB_ap, tOrB_ap, tNotB_ap, eAnd_ap, eOr_ap, eNot_ap, eIf_ap, aNil_ap, aCons_ap, eTup_ap, eLst_ap, eCall_ap, oN_ap, oint_ok, oS_ap, eSl_ap, iS_ap, items_lst, items_tup, iR1_ap, iR2_ap, enD_lst, iE_ap, gS_ap, gNil_ap, gCons_ap, gT_ap, sNx_ap, sBk_ap, sCt_ap, sFz_ap, sSet_ap, sNew_ap, nSl_lst, nSl_tup, nSl_int, nSl_dic, sAsg_ap, sRet_ap, sRetN_ap, sIf_ap, sEx_ap, sFor_ap, eLc_ap, wipe_nil, wipe_cons, tsY_ap, iZ_ap, fzS_ow, fzS_sh, fzS_no, fz_ap, augS_sh, sAug_ap, appS_ow, sApp_ap, ends_nx, ends_ct, ends_bk, ends_rt, ends_ex, opAdd_ii, opSub_ii, opNeg_i, opLe_ii, opLt_ii, opGt_ii, opGe_ii, opLen_l, opLen_t, opIx_l, opIx_t, opCut_l, opCut_t, opTuple_l, opTuple_t, opList_l, opList_t, opMax_ii, opInt_b, opInt_i, opEq_bb, opNe_bb, opEq_ii, opNe_ii, opNe_ss, opEq_ss, opIs_n, opIs_bb, atI_0, atI_1, atI_2, atI_3, eCallB_ap, atomR_i, atomR_b, atomR_n, atomR_s, fit0, fit1, fit2, fit3, fit4, fit5, fit6, fit7, fit8, fit9, fit10, fit11, fit12, fit13, fit14, fit15, fit16, fit17, fit18, fit19, fit20, fit21, fit22, fit23, fit24, fit25, fit26, fit27, fit28, fit29, fit30, fit31, fit32, fit33, fit34, fit35, fit36, fit37, fit38, fit39, fit40, one_1, one_0, one_2, two_2, two_0, two_1, two_3, eM_ap, mtD_l, opIsNot_n, gTl_ap, lnt_sh, lnt_ow, eBl_ap, sPut_ap, putF_t, putR_ap, isOwn_ow, putS_l, putS_ds, putS_di, opDGet_s, opDGet_i, opDIn_s, opDNotIn_s, opRev_l, opRev_t, sPar_ap, parF_2, eGet2_ap, eGet1_ap, getF_t, isDic_d, dgetOr_s, dgetOr_i, eLenSc_ap, sStar_ap, starK1, starK2, starK3, sUpd_ap, eSortSc_ap, forD_ap, oneD_ap, List.getElem?_cons_zero, List.getElem?_cons_succ, List.set_cons_zero, List.set_cons_succ, if_true, if_false, Bool.false_eq_true, List.length_cons, List.length_nil, List.length_map, Bool.true_and, Bool.and_true, Bool.false_and, Bool.and_false, Bool.not_true, Bool.not_false, eq_self, Nat.reduceEqDiff, Nat.reduceAdd, pow18]
      by_cases hc : (decide (1000000000000000000 ≤ n) = true ∧ decide (0 < lf) = true)
      · simp only [hc.1, hc.2, bind_ok, bind_ex, bind_bad, fb_ok, fb_ex, fb_bad, opt_some, opt_none, go_nx, go_bk, go_ct, go_rt, go_ex, go_bad, sq_go, fin_rt, fin_nx, fin_ex, val_sh, bor_sh, bor_ow, eV_ap, eB_ap, eC_ap, b1_ap, b2_ap, thn3_t, thn3_f, b3_ap, tru_bl, tb_ap, tAndB_ap, tOrB_ap, tNotB_ap, eAnd_ap, eOr_ap, eNot_ap, eIf_ap, aNil_ap, aCons_ap, eTup_ap, eLst_ap, eCall_ap, oN_ap, oint_ok, oS_ap, eSl_ap, iS_ap, items_lst, items_tup, iR1_ap, iR2_ap, enD_lst, iE_ap, gS_ap, gNil_ap, gCons_ap, gT_ap, sNx_ap, sBk_ap, sCt_ap, sFz_ap, sSet_ap, sNew_ap, nSl_lst, nSl_tup, nSl_int, nSl_dic, sAsg_ap, sRet_ap, sRetN_ap, sIf_ap, sEx_ap, sFor_ap, eLc_ap, wipe_nil, wipe_cons, tsY_ap, iZ_ap, fzS_ow, fzS_sh, fzS_no, fz_ap, augS_sh, sAug_ap, appS_ow, sApp_ap, ends_nx, ends_ct, ends_bk, ends_rt, ends_ex, opAdd_ii, opSub_ii, opNeg_i, opLe_ii, opLt_ii, opGt_ii, opGe_ii, opLen_l, opLen_t, opIx_l, opIx_t, opCut_l, opCut_t, opTuple_l, opTuple_t, opList_l, opList_t, opMax_ii, opInt_b, opInt_i, opEq_bb, opNe_bb, opEq_ii, opNe_ii, opNe_ss, opEq_ss, opIs_n, opIs_bb, atI_0, atI_1, atI_2, atI_3, eCallB_ap, atomR_i, atomR_b, atomR_n, atomR_s, fit0, fit1, fit2, fit3, fit4, fit5, fit6, fit7, fit8, fit9, fit10, fit11, fit12, fit13, fit14, fit15, fit16, fit17, fit18, fit19, fit20, fit21, fit22, fit23, fit24, fit25, fit26, fit27, fit28, fit29, fit30, fit31, fit32, fit33, fit34, fit35, fit36, fit37, fit38, fit39, fit40, one_1, one_0, one_2, two_2, two_0, two_1, two_3, eM_ap, mtD_l, opIsNot_n, gTl_ap, lnt_sh, lnt_ow, eBl_ap, sPut_ap, putF_t, putR_ap, isOwn_ow, putS_l, putS_ds, putS_di, opDGet_s, opDGet_i, opDIn_s, opDNotIn_s, opRev_l, opRev_t, sPar_ap, parF_2, eGet2_ap, eGet1_ap, getF_t, isDic_d, dgetOr_s, dgetOr_i, eLenSc_ap, sStar_ap, starK1, starK2, starK3, sUpd_ap, eSortSc_ap, forD_ap, oneD_ap, List.getElem?_cons_zero, List.getElem?_cons_succ, List.set_cons_zero, List.set_cons_succ, if_true, if_false, Bool.false_eq_true, List.length_cons, List.length_nil, List.length_map, Bool.true_and, Bool.and_true, Bool.false_and, Bool.and_false, Bool.not_true, Bool.not_false, eq_self, Nat.reduceEqDiff, Nat.reduceAdd, ax, opMod_ii zp, opDiv_ii ⟨zp, zl⟩, fl]
        exact num_key hd hz ⟨Int.emod_nonneg _ (by omega), Int.emod_lt_of_pos _ zp⟩
      · have hcc : (if decide (1000000000000000000 ≤ n) = true then (R.ok (decide (0 < lf)) : R Bool) else .ok false) = .ok false := by
          split
          · rename_i q
            rw [Bool.eq_false_iff.mpr fun z => hc ⟨q, z⟩]
          · rfl
        rw [hcc]
        simp only [bind_ok, bind_ex, bind_bad, fb_ok, fb_ex, fb_bad, opt_some, opt_none, go_nx, go_bk, go_ct, go_rt, go_ex, go_bad, sq_go, fin_rt, fin_nx, fin_ex, val_sh, bor_sh, bor_ow, eV_ap, eB_ap, eC_ap, b1_ap, b2_ap, thn3_t, thn3_f, b3_ap, tru_bl, tb_ap, tAndB_ap, tOrB_ap, tNotB_ap, eAnd_ap, eOr_ap, eNot_ap, eIf_ap, aNil_ap, aCons_ap, eTup_ap, eLst_ap, eCall_ap, oN_ap, oint_ok, oS_ap, eSl_ap, iS_ap, items_lst, items_tup, iR1_ap, iR2_ap, enD_lst, iE_ap, gS_ap, gNil_ap, gCons_ap, gT_ap, sNx_ap, sBk_ap, sCt_ap, sFz_ap, sSet_ap, sNew_ap, nSl_lst, nSl_tup, nSl_int, nSl_dic, sAsg_ap, sRet_ap, sRetN_ap, sIf_ap, sEx_ap, sFor_ap, eLc_ap, wipe_nil, wipe_cons, tsY_ap, iZ_ap, fzS_ow, fzS_sh, fzS_no, fz_ap, augS_sh, sAug_ap, appS_ow, sApp_ap, ends_nx, ends_ct, ends_bk, ends_rt, ends_ex, opAdd_ii, opSub_ii, opNeg_i, opLe_ii, opLt_ii, opGt_ii, opGe_ii, opLen_l, opLen_t, opIx_l, opIx_t, opCut_l, opCut_t, opTuple_l, opTuple_t, opList_l, opList_t, opMax_ii, opInt_b, opInt_i, opEq_bb, opNe_bb, opEq_ii, opNe_ii, opNe_ss, opEq_ss, opIs_n, opIs_bb, atI_0, atI_1, atI_2, atI_3, eCallB_ap, atomR_i, atomR_b, atomR_n, atomR_s, fit0, fit1, fit2, fit3, fit4, fit5, fit6, fit7, fit8, fit9, fit10, fit11, fit12, fit13, fit14, fit15, fit16, fit17, fit18, fit19, fit20, fit21, fit22, fit23, fit24, fit25, fit26, fit27, fit28, fit29, fit30, fit31, fit32, fit33, fit34, fit35, fit36, fit37, fit38, fit39, fit40, one_1, one_0, one_2, two_2, two_0, two_1, two_3, eM_ap, mtD_l, opIsNot_n, gTl_ap, lnt_sh, lnt_ow, eBl_ap, sPut_ap, putF_t, putR_ap, isOwn_ow, putS_l, putS_ds, putS_di, opDGet_s, opDGet_i, opDIn_s, opDNotIn_s, opRev_l, opRev_t, sPar_ap, parF_2, eGet2_ap, eGet1_ap, getF_t, isDic_d, dgetOr_s, dgetOr_i, eLenSc_ap, sStar_ap, starK1, starK2, starK3, sUpd_ap, eSortSc_ap, forD_ap, oneD_ap, List.getElem?_cons_zero, List.getElem?_cons_succ, List.set_cons_zero, List.set_cons_succ, if_true, if_false, Bool.false_eq_true, List.length_cons, List.length_nil, List.length_map, Bool.true_and, Bool.and_true, Bool.false_and, Bool.and_false, Bool.not_true, Bool.not_false, eq_self, Nat.reduceEqDiff, Nat.reduceAdd, ax, opMod_ii (show (0 : Int) < 2147483629 by omega), opMod_ii (show (0 : Int) < 2147483647 by omega), opMod_ii zp, opDiv_ii d16, mul_l s (show (0 : Int) ≤ 7919 by omega) (by omega), pow_ok (b := n % 2147483629 + 7919 * s + 1) (e := 3) (by omega) (by omega) (by omega) (by omega), mul_l _ (show (0 : Int) ≤ 104729 by omega) (by omega), mul_r _ (show 0 ≤ (l.length : Int) + 3 by omega) (by omega)]
        generalize ((((n % 2147483629 + 7919 * s + 1) ^ (3 : Int).toNat % 2147483647 + 104729 * ((l.length : Int) + 1)) * ((l.length : Int) + 3))) = w
        have w1 := Int.emod_nonneg w (b := 2147483629) (by omega)
        have w2 := Int.emod_lt_of_pos w (b := 2147483629) (by omega)
        simp only [bind_ok, bind_ex, bind_bad, fb_ok, fb_ex, fb_bad, opt_some, opt_none, go_nx, go_bk, go_ct, go_rt, go_ex, go_bad, sq_go, fin_rt, fin_nx, fin_ex, val_sh, bor_sh, bor_ow, eV_ap, eB_ap, eC_ap, b1_ap, b2_ap, thn3_t, thn3_f, b3_ap, tru_bl, tb_ap, tAndB_ap, tOrB_ap, tNotB_ap, eAnd_ap, eOr_ap, eNot_ap, eIf_ap, aNil_ap, aCons_ap, eTup_ap, eLst_ap, eCall_ap, oN_ap, oint_ok, oS_ap, eSl_ap, iS_ap, items_lst, items_tup, iR1_ap, iR2_ap, enD_lst, iE_ap, gS_ap, gNil_ap, gCons_ap, gT_ap, sNx_ap, sBk_ap, sCt_ap, sFz_ap, sSet_ap, sNew_ap, nSl_lst, nSl_tup, nSl_int, nSl_dic, sAsg_ap, sRet_ap, sRetN_ap, sIf_ap, sEx_ap, sFor_ap, eLc_ap, wipe_nil, wipe_cons, tsY_ap, iZ_ap, fzS_ow, fzS_sh, fzS_no, fz_ap, augS_sh, sAug_ap, appS_ow, sApp_ap, ends_nx, ends_ct, ends_bk, ends_rt, ends_ex, opAdd_ii, opSub_ii, opNeg_i, opLe_ii, opLt_ii, opGt_ii, opGe_ii, opLen_l, opLen_t, opIx_l, opIx_t, opCut_l, opCut_t, opTuple_l, opTuple_t, opList_l, opList_t, opMax_ii, opInt_b, opInt_i, opEq_bb, opNe_bb, opEq_ii, opNe_ii, opNe_ss, opEq_ss, opIs_n, opIs_bb, atI_0, atI_1, atI_2, atI_3, eCallB_ap, atomR_i, atomR_b, atomR_n, atomR_s, fit0, fit1, fit2, fit3, fit4, fit5, fit6, fit7, fit8, fit9, fit10, fit11, fit12, fit13, fit14, fit15, fit16, fit17, fit18, fit19, fit20, fit21, fit22, fit23, fit24, fit25, fit26, fit27, fit28, fit29, fit30, fit31, fit32, fit33, fit34, fit35, fit36, fit37, fit38, fit39, fit40, one_1, one_0, one_2, two_2, two_0, two_1, two_3, eM_ap, mtD_l, opIsNot_n, gTl_ap, lnt_sh, lnt_ow, eBl_ap, sPut_ap, putF_t, putR_ap, isOwn_ow, putS_l, putS_ds, putS_di, opDGet_s, opDGet_i, opDIn_s, opDNotIn_s, opRev_l, opRev_t, sPar_ap, parF_2, eGet2_ap, eGet1_ap, getF_t, isDic_d, dgetOr_s, dgetOr_i, eLenSc_ap, sStar_ap, starK1, starK2, starK3, sUpd_ap, eSortSc_ap, forD_ap, oneD_ap, List.getElem?_cons_zero, List.getElem?_cons_succ, List.set_cons_zero, List.set_cons_succ, if_true, if_false, Bool.false_eq_true, List.length_cons, List.length_nil, List.length_map, Bool.true_and, Bool.and_true, Bool.false_and, Bool.and_false, Bool.not_true, Bool.not_false, eq_self, Nat.reduceEqDiff, Nat.reduceAdd, ax, pow_ok (b := w % 2147483629) (e := 5) (by omega) (by omega) (by omega) (by omega), opMod_ii (show (0 : Int) < 2147483629 by omega), opMod_ii (show (0 : Int) < 2147483647 by omega), mul_r _ (show (0 : Int) ≤ 48271 by omega) (by omega), opMod_ii zp, opDiv_ii d16, fl]
        exact num_key hd hz ⟨Int.emod_nonneg _ (by omega), Int.emod_lt_of_pos _ zp⟩
    · rw [rng_nil (by omega)] at h2
      cases h2
  · obtain ⟨l, lf, x6, x7, h1, h2, rfl, hd⟩ := h
    have e : l.length = sz.length := by
      by_cases hlt : l.length < sz.length
      · rw [rng_cons (by omega)] at h2
        cases h2
      · omega
    refine ⟨l, ?_, by rw [e, List.take_length] at hd; exact hd⟩
    subst hg
    simp only [bind_ok, bind_ex, bind_bad, fb_ok, fb_ex, fb_bad, opt_some, opt_none, go_nx, go_bk, go_ct, go_rt, go_ex, go_bad, sq_go, fin_rt, fin_nx, fin_ex, val_sh, bor_sh, bor_ow, eV_ap, eB_ap, eC_ap, b1_ap, b2_ap, thn3_t, thn3_f, b3_ap, tru_bl, tb_ap, tAndB_ap, tOrB_ap, tNotB_ap, eAnd_ap, eOr_ap, eNot_ap, eIf_ap, aNil_ap, aCons_ap, eTup_ap, eLst_ap, eCall_ap, oN_ap, oint_ok, oS_ap, eSl_ap, iS_ap, items_lst, items_tup, iR1_ap, iR2_ap, enD_lst, iE_ap, gS_ap, gNil_ap, gCons_ap, gT_ap, sNx_ap, sBk_ap, sCt_ap, sFz_ap, sSet_ap, sNew_ap, nSl_lst, nSl_tup, nSl_int, nSl_dic, sAsg_ap, sRet_ap, sRetN_ap, sIf_ap, sEx_ap, sFor_ap, eLc_ap, wipe_nil, wipe_cons, tsY_ap, iZ_ap, fzS_ow, fzS_sh, fzS_no, fz_ap, augS_sh, sAug_ap, appS_ow, sApp_ap, ends_nx, ends_ct, ends_bk, ends_rt, ends_ex, opAdd_ii, opSub_ii, opNeg_i, opLe_ii, opLt_ii, opGt_ii, opGe_ii, opLen_l, opLen_t, opIx_l, opIx_t, opCut_l, opCut_t, opTuple_l, opTuple_t, opList_l, opList_t, opMax_ii, opInt_b, opInt_i, opEq_bb, opNe_bb, opEq_ii, opNe_ii, opNe_ss, opEq_ss, opIs_n, opIs_bb, atI_0, atI_1, atI_2, atI_3, eCallB_ap, atomR_i, atomR_b, atomR_n, atomR_s, fit0, fit1, fit2, fit3, fit4, fit5, fit6, fit7, fit8, fit9, fit10, fit11, fit12, fit13, fit14, fit15, fit16, fit17, fit18, fit19, fit20, fit21, fit22, fit23, fit24, fit25, fit26, fit27, fit28, fit29, fit30, fit31, fit32, fit33, fit34, fit35, fit36, fit37, fit38, fit39, fit40, one_1, one_0, one_2, two_2, two_0, two_1, two_3, eM_ap, mtD_l, opIsNot_n, gTl_ap, lnt_sh, lnt_ow, eBl_ap, sPut_ap, putF_t, putR_ap, isOwn_ow, putS_l, putS_ds, putS_di, opDGet_s, opDGet_i, opDIn_s, opDNotIn_s, opRev_l, opRev_t, sPar_ap, parF_2, eGet2_ap, eGet1_ap, getF_t, isDic_d, dgetOr_s, dgetOr_i, eLenSc_ap, sStar_ap, starK1, starK2, starK3, sUpd_ap, eSortSc_ap, forD_ap, oneD_ap, List.getElem?_cons_zero, List.getElem?_cons_succ, List.set_cons_zero, List.set_cons_succ, if_true, if_false, Bool.false_eq_true, List.length_cons, List.length_nil, List.length_map, Bool.true_and, Bool.and_true, Bool.false_and, Bool.and_false, Bool.not_true, Bool.not_false, eq_self, Nat.reduceEqDiff, Nat.reduceAdd]

def plD (bs : List D) (n : Str) : D := if (nmsOf bs).contains n = true then .int (((nmsOf bs).idxOf n : Nat) : Int) else .non
theorem plD_hit {p t : List D} {m n : Str} {x : List D} (h3 : (nmsOf p).contains n = false) (c : (m == n) = true) : plD (p ++ .tup (.str m :: x) :: t) n = .int (p.length : Nat) := by
  have e : m = n := by simpa using c
  subst e
  have hm : m ∉ nmsOf p := fun z => by rw [List.contains_iff_mem.mpr z] at h3; cases h3
  unfold plD
  have e1 : nmsOf (p ++ .tup (.str m :: x) :: t) = nmsOf p ++ m :: nmsOf t := by simp [nmsOf, nmOf]
  rw [e1, if_pos (List.contains_iff_mem.mpr (by simp)), List.idxOf_append, if_neg hm]
  simp [nmsOf]
theorem nms_app {p : List D} {m n : Str} {x : List D} (h3 : (nmsOf p).contains n = false) (c : (m == n) = false) : (nmsOf (p ++ [.tup (.str m :: x)])).contains n = false := by
  have e1 : nmsOf (p ++ [.tup (.str m :: x)]) = nmsOf p ++ [m] := by simp [nmsOf, nmOf]
  have c2 : (n == m) = false := by rw [beq_c]; exact c
  rw [e1, Bool.eq_false_iff]
  intro z
  have z := List.contains_iff_mem.mp z
  rw [List.mem_append, List.mem_singleton] at z
  rcases z with z | z
  · rw [List.contains_iff_mem.mpr z] at h3; cases h3
  · subst z; simp at c2
theorem place_ok {bs : List D} {n : Str} (hb : ∀ b ∈ bs, boxB b = true) : f_place_of [.lst bs, .str n] = .ok (plD bs n) := by
  rw [e_place_of]
  unfold b_place_of
  simp only [bind_ok, bind_ex, bind_bad, fb_ok, fb_ex, fb_bad, opt_some, opt_none, go_nx, go_bk, go_ct, go_rt, go_ex, go_bad, sq_go, fin_rt, fin_nx, fin_ex, val_sh, bor_sh, bor_ow, eV_ap, eB_ap, eC_ap, b1_ap, b2_ap, thn3_t, thn3_f, b3_ap, tru_bl, tb_ap, tAndB_ap, tOrB_ap, tNotB_ap, eAnd_ap, eOr_ap, eNot_ap, eIf_ap, aNil_ap, aCons_ap, eTup_ap, eLst_ap, eCall_ap, oN_ap, oint_ok, oS_ap, eSl_ap, iS_ap, items_lst, items_tup, iR1_ap, iR2_ap, enD_lst, iE_ap, gS_ap, gNil_ap, gCons_ap, gT_ap, sNx_ap, sBk_ap, sCt_ap, sFz_ap, sSet_ap, sNew_ap, nSl_lst, nSl_tup, nSl_int, nSl_dic, sAsg_ap, sRet_ap, sRetN_ap, sIf_ap, sEx_ap, sFor_ap, eLc_ap, wipe_nil, wipe_cons, tsY_ap, iZ_ap, fzS_ow, fzS_sh, fzS_no, fz_ap, augS_sh, sAug_ap, appS_ow, sApp_ap, ends_nx, ends_ct, ends_bk, ends_rt, ends_ex, opAdd_ii, opSub_ii, opNeg_i, opLe_ii, opLt_ii, opGt_ii, opGe_ii, opLen_l, opLen_t, opIx_l, opIx_t, opCut_l, opCut_t, opTuple_l, opTuple_t, opList_l, opList_t, opMax_ii, opInt_b, opInt_i, opEq_bb, opNe_bb, opEq_ii, opNe_ii, opNe_ss, opEq_ss, opIs_n, opIs_bb, atI_0, atI_1, atI_2, atI_3, eCallB_ap, atomR_i, atomR_b, atomR_n, atomR_s, fit0, fit1, fit2, fit3, fit4, fit5, fit6, fit7, fit8, fit9, fit10, fit11, fit12, fit13, fit14, fit15, fit16, fit17, fit18, fit19, fit20, fit21, fit22, fit23, fit24, fit25, fit26, fit27, fit28, fit29, fit30, fit31, fit32, fit33, fit34, fit35, fit36, fit37, fit38, fit39, fit40, one_1, one_0, one_2, two_2, two_0, two_1, two_3, eM_ap, mtD_l, opIsNot_n, gTl_ap, lnt_sh, lnt_ow, eBl_ap, sPut_ap, putF_t, putR_ap, isOwn_ow, putS_l, putS_ds, putS_di, opDGet_s, opDGet_i, opDIn_s, opDNotIn_s, opRev_l, opRev_t, sPar_ap, parF_2, eGet2_ap, eGet1_ap, getF_t, isDic_d, dgetOr_s, dgetOr_i, eLenSc_ap, sStar_ap, starK1, starK2, starK3, sUpd_ap, eSortSc_ap, forD_ap, oneD_ap, List.getElem?_cons_zero, List.getElem?_cons_succ, List.set_cons_zero, List.set_cons_succ, if_true, if_false, Bool.false_eq_true, List.length_cons, List.length_nil, List.length_map, Bool.true_and, Bool.and_true, Bool.false_and, Bool.and_false, Bool.not_true, Bool.not_false, eq_self, Nat.reduceEqDiff, Nat.reduceAdd, enumD_eq]
  generalize hg : (sRet (eC .non) : Lo → Fl) = g
  refine (forL_post (Post := fun r => (r.go g).fin = .ok (plD bs n))
    (fun r ρ => ∃ (p t : List D) (x2 x3 : Sl), r = enF p.length t ∧ bs = p ++ t ∧ (nmsOf p).contains n = false ∧ ρ = [.sh (.lst bs), .sh (.str n), x2, x3])
    (fun d r ρ q => ?_) (fun ρ q => ?_) ⟨[], bs, .no, .no, rfl, rfl, rfl, rfl⟩ :)
  · obtain ⟨p, t, x2, x3, h1, rfl, h3, rfl⟩ := q
    cases t with
    | nil => cases h1
    | cons b t =>
      cases h1
      refine ⟨_, rfl, ?_⟩
      obtain ⟨m, k, z, rfl, hn, _⟩ := box_inv (hb b (by simp))
      simp only [bind_ok, bind_ex, bind_bad, fb_ok, fb_ex, fb_bad, opt_some, opt_none, go_nx, go_bk, go_ct, go_rt, go_ex, go_bad, sq_go, fin_rt, fin_nx, fin_ex, val_sh, bor_sh, bor_ow, eV_ap, eB_ap, eC_ap, b1_ap, b2_ap, thn3_t, thn3_f, b3_ap, tru_bl, tb_ap, tAndB_ap, tOrB_ap, tNotB_ap, eAnd_ap, eOr_ap, eNot_ap, eIf_ap, aNil_ap, aCons_ap, eTup_ap, eLst_ap, eCall_ap, oN_ap, oint_ok, oS_ap, eSl_ap, iS_ap, items_lst, items_tup, iR1_ap, iR2_ap, enD_lst, iE_ap, gS_ap, gNil_ap, gCons_ap, gT_ap, sNx_ap, sBk_ap, sCt_ap, sFz_ap, sSet_ap, sNew_ap, nSl_lst, nSl_tup, nSl_int, nSl_dic, sAsg_ap, sRet_ap, sRetN_ap, sIf_ap, sEx_ap, sFor_ap, eLc_ap, wipe_nil, wipe_cons, tsY_ap, iZ_ap, fzS_ow, fzS_sh, fzS_no, fz_ap, augS_sh, sAug_ap, appS_ow, sApp_ap, ends_nx, ends_ct, ends_bk, ends_rt, ends_ex, opAdd_ii, opSub_ii, opNeg_i, opLe_ii, opLt_ii, opGt_ii, opGe_ii, opLen_l, opLen_t, opIx_l, opIx_t, opCut_l, opCut_t, opTuple_l, opTuple_t, opList_l, opList_t, opMax_ii, opInt_b, opInt_i, opEq_bb, opNe_bb, opEq_ii, opNe_ii, opNe_ss, opEq_ss, opIs_n, opIs_bb, atI_0, atI_1, atI_2, atI_3, eCallB_ap, atomR_i, atomR_b, atomR_n, atomR_s, fit0, fit1, fit2, fit3, fit4, fit5, fit6, fit7, fit8, fit9, fit10, fit11, fit12, fit13, fit14, fit15, fit16, fit17, fit18, fit19, fit20, fit21, fit22, fit23, fit24, fit25, fit26, fit27, fit28, fit29, fit30, fit31, fit32, fit33, fit34, fit35, fit36, fit37, fit38, fit39, fit40, one_1, one_0, one_2, two_2, two_0, two_1, two_3, eM_ap, mtD_l, opIsNot_n, gTl_ap, lnt_sh, lnt_ow, eBl_ap, sPut_ap, putF_t, putR_ap, isOwn_ow, putS_l, putS_ds, putS_di, opDGet_s, opDGet_i, opDIn_s, opDNotIn_s, opRev_l, opRev_t, sPar_ap, parF_2, eGet2_ap, eGet1_ap, getF_t, isDic_d, dgetOr_s, dgetOr_i, eLenSc_ap, sStar_ap, starK1, starK2, starK3, sUpd_ap, eSortSc_ap, forD_ap, oneD_ap, List.getElem?_cons_zero, List.getElem?_cons_succ, List.set_cons_zero, List.set_cons_succ, if_true, if_false, Bool.false_eq_true, List.length_cons, List.length_nil, List.length_map, Bool.true_and, Bool.and_true, Bool.false_and, Bool.and_false, Bool.not_true, Bool.not_false, eq_self, Nat.reduceEqDiff, Nat.reduceAdd]
      cases c : (m == n) with
      | true =>
        subst hg
        simp only [bind_ok, bind_ex, bind_bad, fb_ok, fb_ex, fb_bad, opt_some, opt_none, go_nx, go_bk, go_ct, go_rt, go_ex, go_bad, sq_go, fin_rt, fin_nx, fin_ex, val_sh, bor_sh, bor_ow, eV_ap, eB_ap, eC_ap, b1_ap, b2_ap, thn3_t, thn3_f, b3_ap, tru_bl, tb_ap, tAndB_ap, tOrB_ap, tNotB_ap, eAnd_ap, eOr_ap, eNot_ap, eIf_ap, aNil_ap, aCons_ap, eTup_ap, eLst_ap, eCall_ap, oN_ap, oint_ok, oS_ap, eSl_ap, iS_ap, items_lst, items_tup, iR1_ap, iR2_ap, enD_lst, iE_ap, gS_ap, gNil_ap, gCons_ap, gT_ap, sNx_ap, sBk_ap, sCt_ap, sFz_ap, sSet_ap, sNew_ap, nSl_lst, nSl_tup, nSl_int, nSl_dic, sAsg_ap, sRet_ap, sRetN_ap, sIf_ap, sEx_ap, sFor_ap, eLc_ap, wipe_nil, wipe_cons, tsY_ap, iZ_ap, fzS_ow, fzS_sh, fzS_no, fz_ap, augS_sh, sAug_ap, appS_ow, sApp_ap, ends_nx, ends_ct, ends_bk, ends_rt, ends_ex, opAdd_ii, opSub_ii, opNeg_i, opLe_ii, opLt_ii, opGt_ii, opGe_ii, opLen_l, opLen_t, opIx_l, opIx_t, opCut_l, opCut_t, opTuple_l, opTuple_t, opList_l, opList_t, opMax_ii, opInt_b, opInt_i, opEq_bb, opNe_bb, opEq_ii, opNe_ii, opNe_ss, opEq_ss, opIs_n, opIs_bb, atI_0, atI_1, atI_2, atI_3, eCallB_ap, atomR_i, atomR_b, atomR_n, atomR_s, fit0, fit1, fit2, fit3, fit4, fit5, fit6, fit7, fit8, fit9, fit10, fit11, fit12, fit13, fit14, fit15, fit16, fit17, fit18, fit19, fit20, fit21, fit22, fit23, fit24, fit25, fit26, fit27, fit28, fit29, fit30, fit31, fit32, fit33, fit34, fit35, fit36, fit37, fit38, fit39, fit40, one_1, one_0, one_2, two_2, two_0, two_1, two_3, eM_ap, mtD_l, opIsNot_n, gTl_ap, lnt_sh, lnt_ow, eBl_ap, sPut_ap, putF_t, putR_ap, isOwn_ow, putS_l, putS_ds, putS_di, opDGet_s, opDGet_i, opDIn_s, opDNotIn_s, opRev_l, opRev_t, sPar_ap, parF_2, eGet2_ap, eGet1_ap, getF_t, isDic_d, dgetOr_s, dgetOr_i, eLenSc_ap, sStar_ap, starK1, starK2, starK3, sUpd_ap, eSortSc_ap, forD_ap, oneD_ap, List.getElem?_cons_zero, List.getElem?_cons_succ, List.set_cons_zero, List.set_cons_succ, if_true, if_false, Bool.false_eq_true, List.length_cons, List.length_nil, List.length_map, Bool.true_and, Bool.and_true, Bool.false_and, Bool.and_false, Bool.not_true, Bool.not_false, eq_self, Nat.reduceEqDiff, Nat.reduceAdd]
        rw [plD_hit h3 c]
      | false =>
        simp only [bind_ok, bind_ex, bind_bad, fb_ok, fb_ex, fb_bad, opt_some, opt_none, go_nx, go_bk, go_ct, go_rt, go_ex, go_bad, sq_go, fin_rt, fin_nx, fin_ex, val_sh, bor_sh, bor_ow, eV_ap, eB_ap, eC_ap, b1_ap, b2_ap, thn3_t, thn3_f, b3_ap, tru_bl, tb_ap, tAndB_ap, tOrB_ap, tNotB_ap, eAnd_ap, eOr_ap, eNot_ap, eIf_ap, aNil_ap, aCons_ap, eTup_ap, eLst_ap, eCall_ap, oN_ap, oint_ok, oS_ap, eSl_ap, iS_ap, items_lst, items_tup, iR1_ap, iR2_ap, enD_lst, iE_ap, gS_ap, gNil_ap, gCons_ap, gT_ap, sNx_ap, sBk_ap, sCt_ap, sFz_ap, sSet_ap, sNew_ap, nSl_lst, nSl_tup, nSl_int, nSl_dic, sAsg_ap, sRet_ap, sRetN_ap, sIf_ap, sEx_ap, sFor_ap, eLc_ap, wipe_nil, wipe_cons, tsY_ap, iZ_ap, fzS_ow, fzS_sh, fzS_no, fz_ap, augS_sh, sAug_ap, appS_ow, sApp_ap, ends_nx, ends_ct, ends_bk, ends_rt, ends_ex, opAdd_ii, opSub_ii, opNeg_i, opLe_ii, opLt_ii, opGt_ii, opGe_ii, opLen_l, opLen_t, opIx_l, opIx_t, opCut_l, opCut_t, opTuple_l, opTuple_t, opList_l, opList_t, opMax_ii, opInt_b, opInt_i, opEq_bb, opNe_bb, opEq_ii, opNe_ii, opNe_ss, opEq_ss, opIs_n, opIs_bb, atI_0, atI_1, atI_2, atI_3, eCallB_ap, atomR_i, atomR_b, atomR_n, atomR_s, fit0, fit1, fit2, fit3, fit4, fit5, fit6, fit7, fit8, fit9, fit10, fit11, fit12, fit13, fit14, fit15, fit16, fit17, fit18, fit19, fit20, fit21, fit22, fit23, fit24, fit25, fit26, fit27, fit28, fit29, fit30, fit31, fit32, fit33, fit34, fit35, fit36, fit37, fit38, fit39, fit40, one_1, one_0, one_2, two_2, two_0, two_1, two_3, eM_ap, mtD_l, opIsNot_n, gTl_ap, lnt_sh, lnt_ow, eBl_ap, sPut_ap, putF_t, putR_ap, isOwn_ow, putS_l, putS_ds, putS_di, opDGet_s, opDGet_i, opDIn_s, opDNotIn_s, opRev_l, opRev_t, sPar_ap, parF_2, eGet2_ap, eGet1_ap, getF_t, isDic_d, dgetOr_s, dgetOr_i, eLenSc_ap, sStar_ap, starK1, starK2, starK3, sUpd_ap, eSortSc_ap, forD_ap, oneD_ap, List.getElem?_cons_zero, List.getElem?_cons_succ, List.set_cons_zero, List.set_cons_succ, if_true, if_false, Bool.false_eq_true, List.length_cons, List.length_nil, List.length_map, Bool.true_and, Bool.and_true, Bool.false_and, Bool.and_false, Bool.not_true, Bool.not_false, eq_self, Nat.reduceEqDiff, Nat.reduceAdd]
        exact ⟨p ++ [.tup [.str m, .int z, .str k]], t, _, _, by simp, by simp, nms_app h3 c, rfl⟩
  · obtain ⟨p, t, x2, x3, h1, rfl, h3, rfl⟩ := q
    cases t with
    | nil =>
      subst hg
      rw [List.append_nil] at *
      simp only [bind_ok, bind_ex, bind_bad, fb_ok, fb_ex, fb_bad, opt_some, opt_none, go_nx, go_bk, go_ct, go_rt, go_ex, go_bad, sq_go, fin_rt, fin_nx, fin_ex, val_sh, bor_sh, bor_ow, eV_ap, eB_ap, eC_ap, b1_ap, b2_ap, thn3_t, thn3_f, b3_ap, tru_bl, tb_ap, tAndB_ap, tOrB_ap, tNotB_ap, eAnd_ap, eOr_ap, eNot_ap, eIf_ap, aNil_ap, aCons_ap, eTup_ap, eLst_ap, eCall_ap, oN_ap, oint_ok, oS_ap, eSl_ap, iS_ap, items_lst, items_tup, iR1_ap, iR2_ap, enD_lst, iE_ap, gS_ap, gNil_ap, gCons_ap, gT_ap, sNx_ap, sBk_ap, sCt_ap, sFz_ap, sSet_ap, sNew_ap, nSl_lst, nSl_tup, nSl_int, nSl_dic, sAsg_ap, sRet_ap, sRetN_ap, sIf_ap, sEx_ap, sFor_ap, eLc_ap, wipe_nil, wipe_cons, tsY_ap, iZ_ap, fzS_ow, fzS_sh, fzS_no, fz_ap, augS_sh, sAug_ap, appS_ow, sApp_ap, ends_nx, ends_ct, ends_bk, ends_rt, ends_ex, opAdd_ii, opSub_ii, opNeg_i, opLe_ii, opLt_ii, opGt_ii, opGe_ii, opLen_l, opLen_t, opIx_l, opIx_t, opCut_l, opCut_t, opTuple_l, opTuple_t, opList_l, opList_t, opMax_ii, opInt_b, opInt_i, opEq_bb, opNe_bb, opEq_ii, opNe_ii, opNe_ss, opEq_ss, opIs_n, opIs_bb, atI_0, atI_1, atI_2, atI_3, eCallB_ap, atomR_i, atomR_b, atomR_n, atomR_s, fit0, fit1, fit2, fit3, fit4, fit5, fit6, fit7, fit8, fit9, fit10, fit11, fit12, fit13, fit14, fit15, fit16, fit17, fit18, fit19, fit20, fit21, fit22, fit23, fit24, fit25, fit26, fit27, fit28, fit29, fit30, fit31, fit32, fit33, fit34, fit35, fit36, fit37, fit38, fit39, fit40, one_1, one_0, one_2, two_2, two_0, two_1, two_3, eM_ap, mtD_l, opIsNot_n, gTl_ap, lnt_sh, lnt_ow, eBl_ap, sPut_ap, putF_t, putR_ap, isOwn_ow, putS_l, putS_ds, putS_di, opDGet_s, opDGet_i, opDIn_s, opDNotIn_s, opRev_l, opRev_t, sPar_ap, parF_2, eGet2_ap, eGet1_ap, getF_t, isDic_d, dgetOr_s, dgetOr_i, eLenSc_ap, sStar_ap, starK1, starK2, starK3, sUpd_ap, eSortSc_ap, forD_ap, oneD_ap, List.getElem?_cons_zero, List.getElem?_cons_succ, List.set_cons_zero, List.set_cons_succ, if_true, if_false, Bool.false_eq_true, List.length_cons, List.length_nil, List.length_map, Bool.true_and, Bool.and_true, Bool.false_and, Bool.and_false, Bool.not_true, Bool.not_false, eq_self, Nat.reduceEqDiff, Nat.reduceAdd, plD, h3]
    | cons => cases h1

theorem abc_at {k : Nat} (h : k < 3) : opIx (.str "abc") (.int (k : Nat)) = some (.str ((["a", "b", "c"] : List Str).getD k "")) := by
  match k, h with
  | 0, _ => rfl
  | 1, _ => rfl
  | 2, _ => rfl
theorem abc_new {bs : List D} {k : Str} {z : Int} (h : nmsOf bs = (["a", "b", "c"] : List Str).take bs.length) (hl : bs.length < 3) : nmsOf (bs ++ [.tup [.str ((["a", "b", "c"] : List Str).getD bs.length ""), .int z, .str k]]) = (["a", "b", "c"] : List Str).take (bs.length + 1) := by
  have e : nmsOf (bs ++ [.tup [.str ((["a", "b", "c"] : List Str).getD bs.length ""), .int z, .str k]]) = nmsOf bs ++ [(["a", "b", "c"] : List Str).getD bs.length ""] := by simp [nmsOf, nmOf]
  rw [e, h]
  generalize bs.length = n at hl
  match n, hl with
  | 0, _ => rfl
  | 1, _ => rfl
  | 2, _ => rfl
theorem small_ok {l : List Int} (hl : 7 ≤ l.length) (hn : ∀ x ∈ l, 0 ≤ x) : ∃ bs, f_law_small_boxes [.lst (l.map .int)] = .ok (.lst bs) ∧ SBs bs := by
  rw [e_law_small_boxes]
  unfold b_law_small_boxes
  have m1 := Int.emod_nonneg (l.getD (0 : Int).toNat 0) (b := 3) (by omega)
  have m2 := Int.emod_lt_of_pos (l.getD (0 : Int).toNat 0) (b := 3) (by omega)
  simp (disch := first | omega | (simp only [List.length_cons, List.length_nil, List.length_map, List.length_append, Nat.reduceAdd, Nat.reduceLeDiff]; done) | (simp only [List.length_cons, List.length_nil, List.length_map, List.length_append, Nat.reduceAdd, Nat.reduceLeDiff]; omega)) only [bind_ok, bind_ex, bind_bad, fb_ok, fb_ex, fb_bad, opt_some, opt_none, go_nx, go_bk, go_ct, go_rt, go_ex, go_bad, sq_go, fin_rt, fin_nx, fin_ex, val_sh, bor_sh, bor_ow, eV_ap, eB_ap, eC_ap, b1_ap, b2_ap, thn3_t, thn3_f, b3_ap, tru_bl, tb_ap, tAndB_ap, tOrB_ap, tNotB_ap, eAnd_ap, eOr_ap, eNot_ap, eIf_ap, aNil_ap, aCons_ap, eTup_ap, eLst_ap, eCall_ap, oN_ap, oint_ok, oS_ap, eSl_ap, iS_ap, items_lst, items_tup, iR1_ap, iR2_ap, enD_lst, iE_ap, gS_ap, gNil_ap, gCons_ap, gT_ap, sNx_ap, sBk_ap, sCt_ap, sFz_ap, sSet_ap, sNew_ap, nSl_lst, nSl_tup, nSl_int, nSl_dic, sAsg_ap, sRet_ap, sRetN_ap, sIf_ap, sEx_ap, sFor_ap, eLc_ap, wipe_nil, wipe_cons, tsY_ap, iZ_ap, fzS_ow, fzS_sh, fzS_no, fz_ap, augS_sh, sAug_ap, appS_ow, sApp_ap, ends_nx, ends_ct, ends_bk, ends_rt, ends_ex, opAdd_ii, opSub_ii, opNeg_i, opLe_ii, opLt_ii, opGt_ii, opGe_ii, opLen_l, opLen_t, opIx_l, opIx_t, opCut_l, opCut_t, opTuple_l, opTuple_t, opList_l, opList_t, opMax_ii, opInt_b, opInt_i, opEq_bb, opNe_bb, opEq_ii, opNe_ii, opNe_ss, opEq_ss, opIs_n, opIs_bb, atI_0, atI_1, atI_2, atI_3, eCallB_ap, atomR_i, atomR_b, atomR_n, atomR_s, fit0, fit1, fit2, fit3, fit4, fit5, fit6, fit7, fit8, fit9, fit10, fit11, fit12, fit13, fit14, fit15, fit16, fit17, fit18, fit19, fit20, fit21, fit22, fit23, fit24, fit25, fit26, fit27, fit28, fit29, fit30, fit31, fit32, fit33, fit34, fit35, fit36, fit37, fit38, fit39, fit40, one_1, one_0, one_2, two_2, two_0, two_1, two_3, eM_ap, mtD_l, opIsNot_n, gTl_ap, lnt_sh, lnt_ow, eBl_ap, sPut_ap, putF_t, putR_ap, isOwn_ow, putS_l, putS_ds, putS_di, opDGet_s, opDGet_i, opDIn_s, opDNotIn_s, opRev_l, opRev_t, sPar_ap, parF_2, eGet2_ap, eGet1_ap, getF_t, isDic_d, dgetOr_s, dgetOr_i, eLenSc_ap, sStar_ap, starK1, starK2, starK3, sUpd_ap, eSortSc_ap, forD_ap, oneD_ap, List.getElem?_cons_zero, List.getElem?_cons_succ, List.set_cons_zero, List.set_cons_succ, if_true, if_false, Bool.false_eq_true, List.length_cons, List.length_nil, List.length_map, Bool.true_and, Bool.and_true, Bool.false_and, Bool.and_false, Bool.not_true, Bool.not_false, eq_self, Nat.reduceEqDiff, Nat.reduceAdd, fits_of, opMod_ii, atI_dig, range_i]
  generalize l.getD (0 : Int).toNat 0 % 3 = m at m1 m2
  generalize hg : (sFz 2 (sRet (eV 2)) : Lo → Fl) = g
  refine (forL_post (Post := fun r => ∃ bs, (r.go g).fin = .ok (.lst bs) ∧ SBs bs)
    (fun r ρ => ∃ (bs : List D) (x3 : Sl), r = rng bs.length (1 + m) ∧ (bs.length : Int) ≤ 1 + m ∧ (∀ b ∈ bs, SBx b) ∧ nmsOf bs = (["a", "b", "c"] : List Str).take bs.length ∧ ρ = [.sh (.lst (l.map .int)), .sh (.lst [.str "hidden", .str "seen", .str "given"]), .ow (.lst bs), x3])
    (fun d r ρ q => ?_) (fun ρ q => ?_) ⟨[], .no, rfl, by simp; omega, fun b hb => by simp at hb, rfl, rfl⟩ :)
  · obtain ⟨bs, x3, h1, h2, h3, h4, rfl⟩ := q
    by_cases hlt : (bs.length : Int) < 1 + m
    · rw [rng_cons hlt] at h1
      cases h1
      refine ⟨_, rfl, ?_⟩
      have h3l : bs.length < 3 := by omega
      obtain ⟨k, hk1, hk2⟩ := atI_mod (xs := kinds3.map D.str) (l.getD (2 + 2 * (bs.length : Int)).toNat 0) (n := 3) rfl (by decide)
      obtain ⟨k, hk3, rfl⟩ := List.mem_map.mp hk1
      have z1 := Int.emod_nonneg (l.getD (1 + 2 * (bs.length : Int)).toNat 0) (b := 4) (by omega)
      have z2 := Int.emod_lt_of_pos (l.getD (1 + 2 * (bs.length : Int)).toNat 0) (b := 4) (by omega)
      simp only [kinds3, List.map_cons, List.map_nil] at hk2
      simp (disch := first | omega | (simp only [List.length_cons, List.length_nil, List.length_map, List.length_append, Nat.reduceAdd, Nat.reduceLeDiff]; done) | (simp only [List.length_cons, List.length_nil, List.length_map, List.length_append, Nat.reduceAdd, Nat.reduceLeDiff]; omega)) only [bind_ok, bind_ex, bind_bad, fb_ok, fb_ex, fb_bad, opt_some, opt_none, go_nx, go_bk, go_ct, go_rt, go_ex, go_bad, sq_go, fin_rt, fin_nx, fin_ex, val_sh, bor_sh, bor_ow, eV_ap, eB_ap, eC_ap, b1_ap, b2_ap, thn3_t, thn3_f, b3_ap, tru_bl, tb_ap, tAndB_ap, tOrB_ap, tNotB_ap, eAnd_ap, eOr_ap, eNot_ap, eIf_ap, aNil_ap, aCons_ap, eTup_ap, eLst_ap, eCall_ap, oN_ap, oint_ok, oS_ap, eSl_ap, iS_ap, items_lst, items_tup, iR1_ap, iR2_ap, enD_lst, iE_ap, gS_ap, gNil_ap, gCons_ap, gT_ap, sNx_ap, sBk_ap, sCt_ap, sFz_ap, sSet_ap, sNew_ap, nSl_lst, nSl_tup, nSl_int, nSl_dic, sAsg_ap, sRet_ap, sRetN_ap, sIf_ap, sEx_ap, sFor_ap, eLc_ap, wipe_nil, wipe_cons, tsY_ap, iZ_ap, fzS_ow, fzS_sh, fzS_no, fz_ap, augS_sh, sAug_ap, appS_ow, sApp_ap, ends_nx, ends_ct, ends_bk, ends_rt, ends_ex, opAdd_ii, opSub_ii, opNeg_i, opLe_ii, opLt_ii, opGt_ii, opGe_ii, opLen_l, opLen_t, opIx_l, opIx_t, opCut_l, opCut_t, opTuple_l, opTuple_t, opList_l, opList_t, opMax_ii, opInt_b, opInt_i, opEq_bb, opNe_bb, opEq_ii, opNe_ii, opNe_ss, opEq_ss, opIs_n, opIs_bb, atI_0, atI_1, atI_2, atI_3, eCallB_ap, atomR_i, atomR_b, atomR_n, atomR_s, fit0, fit1, fit2, fit3, fit4, fit5, fit6, fit7, fit8, fit9, fit10, fit11, fit12, fit13, fit14, fit15, fit16, fit17, fit18, fit19, fit20, fit21, fit22, fit23, fit24, fit25, fit26, fit27, fit28, fit29, fit30, fit31, fit32, fit33, fit34, fit35, fit36, fit37, fit38, fit39, fit40, one_1, one_0, one_2, two_2, two_0, two_1, two_3, eM_ap, mtD_l, opIsNot_n, gTl_ap, lnt_sh, lnt_ow, eBl_ap, sPut_ap, putF_t, putR_ap, isOwn_ow, putS_l, putS_ds, putS_di, opDGet_s, opDGet_i, opDIn_s, opDNotIn_s, opRev_l, opRev_t, sPar_ap, parF_2, eGet2_ap, eGet1_ap, getF_t, isDic_d, dgetOr_s, dgetOr_i, eLenSc_ap, sStar_ap, starK1, starK2, starK3, sUpd_ap, eSortSc_ap, forD_ap, oneD_ap, List.getElem?_cons_zero, List.getElem?_cons_succ, List.set_cons_zero, List.set_cons_succ, if_true, if_false, Bool.false_eq_true, List.length_cons, List.length_nil, List.length_map, Bool.true_and, Bool.and_true, Bool.false_and, Bool.and_false, Bool.not_true, Bool.not_false, eq_self, Nat.reduceEqDiff, Nat.reduceAdd, fits_of, opMod_ii, atI_dig, mul_l, mul_r, abc_at h3l, hk2]
      generalize l.getD (1 + 2 * (bs.length : Int)).toNat 0 % 4 = z at z1 z2
      refine ⟨bs ++ [.tup [.str ((["a", "b", "c"] : List Str).getD bs.length ""), .int (1 + z), .str k]], .sh (.int bs.length), by simp, by simp; omega, fun b hb => ?_, by rw [List.length_append]; exact abc_new h4 h3l, rfl⟩
      rw [List.mem_append, List.mem_singleton] at hb
      rcases hb with hb | rfl
      · exact h3 b hb
      · refine ⟨_, k, 1 + z, rfl, ?_, by omega, by omega, hk3⟩
        generalize bs.length = n at h3l
        match n, h3l with
        | 0, _ => simp
        | 1, _ => simp
        | 2, _ => simp
    · rw [rng_nil (by omega)] at h1
      cases h1
  · obtain ⟨bs, x3, h1, h2, h3, h4, rfl⟩ := q
    subst hg
    have e : (bs.length : Int) = 1 + m := by
      by_cases q : (bs.length : Int) < 1 + m
      · rw [rng_cons q] at h1
        cases h1
      · omega
    refine ⟨bs, by simp only [bind_ok, bind_ex, bind_bad, fb_ok, fb_ex, fb_bad, opt_some, opt_none, go_nx, go_bk, go_ct, go_rt, go_ex, go_bad, sq_go, fin_rt, fin_nx, fin_ex, val_sh, bor_sh, bor_ow, eV_ap, eB_ap, eC_ap, b1_ap, b2_ap, thn3_t, thn3_f, b3_ap, tru_bl, tb_ap, tAndB_ap, tOrB_ap, tNotB_ap, eAnd_ap, eOr_ap, eNot_ap, eIf_ap, aNil_ap, aCons_ap, eTup_ap, eLst_ap, eCall_ap, oN_ap, oint_ok, oS_ap, eSl_ap, iS_ap, items_lst, items_tup, iR1_ap, iR2_ap, enD_lst, iE_ap, gS_ap, gNil_ap, gCons_ap, gT_ap, sNx_ap, sBk_ap, sCt_ap, sFz_ap, sSet_ap, sNew_ap, nSl_lst, nSl_tup, nSl_int, nSl_dic, sAsg_ap, sRet_ap, sRetN_ap, sIf_ap, sEx_ap, sFor_ap, eLc_ap, wipe_nil, wipe_cons, tsY_ap, iZ_ap, fzS_ow, fzS_sh, fzS_no, fz_ap, augS_sh, sAug_ap, appS_ow, sApp_ap, ends_nx, ends_ct, ends_bk, ends_rt, ends_ex, opAdd_ii, opSub_ii, opNeg_i, opLe_ii, opLt_ii, opGt_ii, opGe_ii, opLen_l, opLen_t, opIx_l, opIx_t, opCut_l, opCut_t, opTuple_l, opTuple_t, opList_l, opList_t, opMax_ii, opInt_b, opInt_i, opEq_bb, opNe_bb, opEq_ii, opNe_ii, opNe_ss, opEq_ss, opIs_n, opIs_bb, atI_0, atI_1, atI_2, atI_3, eCallB_ap, atomR_i, atomR_b, atomR_n, atomR_s, fit0, fit1, fit2, fit3, fit4, fit5, fit6, fit7, fit8, fit9, fit10, fit11, fit12, fit13, fit14, fit15, fit16, fit17, fit18, fit19, fit20, fit21, fit22, fit23, fit24, fit25, fit26, fit27, fit28, fit29, fit30, fit31, fit32, fit33, fit34, fit35, fit36, fit37, fit38, fit39, fit40, one_1, one_0, one_2, two_2, two_0, two_1, two_3, eM_ap, mtD_l, opIsNot_n, gTl_ap, lnt_sh, lnt_ow, eBl_ap, sPut_ap, putF_t, putR_ap, isOwn_ow, putS_l, putS_ds, putS_di, opDGet_s, opDGet_i, opDIn_s, opDNotIn_s, opRev_l, opRev_t, sPar_ap, parF_2, eGet2_ap, eGet1_ap, getF_t, isDic_d, dgetOr_s, dgetOr_i, eLenSc_ap, sStar_ap, starK1, starK2, starK3, sUpd_ap, eSortSc_ap, forD_ap, oneD_ap, List.getElem?_cons_zero, List.getElem?_cons_succ, List.set_cons_zero, List.set_cons_succ, if_true, if_false, Bool.false_eq_true, List.length_cons, List.length_nil, List.length_map, Bool.true_and, Bool.and_true, Bool.false_and, Bool.and_false, Bool.not_true, Bool.not_false, eq_self, Nat.reduceEqDiff, Nat.reduceAdd], by omega, by omega, ?_, h3⟩
    rw [h4]
    exact List.Nodup.sublist (List.take_sublist _ _) (by decide +kernel)

theorem law_at_ok {bs : List D} {n : Str} (hb : ∀ b ∈ bs, boxB b = true) (h : (nmsOf bs).contains n = true) : f_law_at [.lst bs, .str n] = .ok (.int (plc bs n : Nat)) := by
  rw [e_law_at]
  unfold b_law_at
  simp only [bind_ok, bind_ex, bind_bad, fb_ok, fb_ex, fb_bad, opt_some, opt_none, go_nx, go_bk, go_ct, go_rt, go_ex, go_bad, sq_go, fin_rt, fin_nx, fin_ex, val_sh, bor_sh, bor_ow, eV_ap, eB_ap, eC_ap, b1_ap, b2_ap, thn3_t, thn3_f, b3_ap, tru_bl, tb_ap, tAndB_ap, tOrB_ap, tNotB_ap, eAnd_ap, eOr_ap, eNot_ap, eIf_ap, aNil_ap, aCons_ap, eTup_ap, eLst_ap, eCall_ap, oN_ap, oint_ok, oS_ap, eSl_ap, iS_ap, items_lst, items_tup, iR1_ap, iR2_ap, enD_lst, iE_ap, gS_ap, gNil_ap, gCons_ap, gT_ap, sNx_ap, sBk_ap, sCt_ap, sFz_ap, sSet_ap, sNew_ap, nSl_lst, nSl_tup, nSl_int, nSl_dic, sAsg_ap, sRet_ap, sRetN_ap, sIf_ap, sEx_ap, sFor_ap, eLc_ap, wipe_nil, wipe_cons, tsY_ap, iZ_ap, fzS_ow, fzS_sh, fzS_no, fz_ap, augS_sh, sAug_ap, appS_ow, sApp_ap, ends_nx, ends_ct, ends_bk, ends_rt, ends_ex, opAdd_ii, opSub_ii, opNeg_i, opLe_ii, opLt_ii, opGt_ii, opGe_ii, opLen_l, opLen_t, opIx_l, opIx_t, opCut_l, opCut_t, opTuple_l, opTuple_t, opList_l, opList_t, opMax_ii, opInt_b, opInt_i, opEq_bb, opNe_bb, opEq_ii, opNe_ii, opNe_ss, opEq_ss, opIs_n, opIs_bb, atI_0, atI_1, atI_2, atI_3, eCallB_ap, atomR_i, atomR_b, atomR_n, atomR_s, fit0, fit1, fit2, fit3, fit4, fit5, fit6, fit7, fit8, fit9, fit10, fit11, fit12, fit13, fit14, fit15, fit16, fit17, fit18, fit19, fit20, fit21, fit22, fit23, fit24, fit25, fit26, fit27, fit28, fit29, fit30, fit31, fit32, fit33, fit34, fit35, fit36, fit37, fit38, fit39, fit40, one_1, one_0, one_2, two_2, two_0, two_1, two_3, eM_ap, mtD_l, opIsNot_n, gTl_ap, lnt_sh, lnt_ow, eBl_ap, sPut_ap, putF_t, putR_ap, isOwn_ow, putS_l, putS_ds, putS_di, opDGet_s, opDGet_i, opDIn_s, opDNotIn_s, opRev_l, opRev_t, sPar_ap, parF_2, eGet2_ap, eGet1_ap, getF_t, isDic_d, dgetOr_s, dgetOr_i, eLenSc_ap, sStar_ap, starK1, starK2, starK3, sUpd_ap, eSortSc_ap, forD_ap, oneD_ap, List.getElem?_cons_zero, List.getElem?_cons_succ, List.set_cons_zero, List.set_cons_succ, if_true, if_false, Bool.false_eq_true, List.length_cons, List.length_nil, List.length_map, Bool.true_and, Bool.and_true, Bool.false_and, Bool.and_false, Bool.not_true, Bool.not_false, eq_self, Nat.reduceEqDiff, Nat.reduceAdd]
  rw [names_lc hb fun n x => by exact ⟨_, rfl, by simp only [bind_ok, bind_ex, bind_bad, fb_ok, fb_ex, fb_bad, opt_some, opt_none, go_nx, go_bk, go_ct, go_rt, go_ex, go_bad, sq_go, fin_rt, fin_nx, fin_ex, val_sh, bor_sh, bor_ow, eV_ap, eB_ap, eC_ap, b1_ap, b2_ap, thn3_t, thn3_f, b3_ap, tru_bl, tb_ap, tAndB_ap, tOrB_ap, tNotB_ap, eAnd_ap, eOr_ap, eNot_ap, eIf_ap, aNil_ap, aCons_ap, eTup_ap, eLst_ap, eCall_ap, oN_ap, oint_ok, oS_ap, eSl_ap, iS_ap, items_lst, items_tup, iR1_ap, iR2_ap, enD_lst, iE_ap, gS_ap, gNil_ap, gCons_ap, gT_ap, sNx_ap, sBk_ap, sCt_ap, sFz_ap, sSet_ap, sNew_ap, nSl_lst, nSl_tup, nSl_int, nSl_dic, sAsg_ap, sRet_ap, sRetN_ap, sIf_ap, sEx_ap, sFor_ap, eLc_ap, wipe_nil, wipe_cons, tsY_ap, iZ_ap, fzS_ow, fzS_sh, fzS_no, fz_ap, augS_sh, sAug_ap, appS_ow, sApp_ap, ends_nx, ends_ct, ends_bk, ends_rt, ends_ex, opAdd_ii, opSub_ii, opNeg_i, opLe_ii, opLt_ii, opGt_ii, opGe_ii, opLen_l, opLen_t, opIx_l, opIx_t, opCut_l, opCut_t, opTuple_l, opTuple_t, opList_l, opList_t, opMax_ii, opInt_b, opInt_i, opEq_bb, opNe_bb, opEq_ii, opNe_ii, opNe_ss, opEq_ss, opIs_n, opIs_bb, atI_0, atI_1, atI_2, atI_3, eCallB_ap, atomR_i, atomR_b, atomR_n, atomR_s, fit0, fit1, fit2, fit3, fit4, fit5, fit6, fit7, fit8, fit9, fit10, fit11, fit12, fit13, fit14, fit15, fit16, fit17, fit18, fit19, fit20, fit21, fit22, fit23, fit24, fit25, fit26, fit27, fit28, fit29, fit30, fit31, fit32, fit33, fit34, fit35, fit36, fit37, fit38, fit39, fit40, one_1, one_0, one_2, two_2, two_0, two_1, two_3, eM_ap, mtD_l, opIsNot_n, gTl_ap, lnt_sh, lnt_ow, eBl_ap, sPut_ap, putF_t, putR_ap, isOwn_ow, putS_l, putS_ds, putS_di, opDGet_s, opDGet_i, opDIn_s, opDNotIn_s, opRev_l, opRev_t, sPar_ap, parF_2, eGet2_ap, eGet1_ap, getF_t, isDic_d, dgetOr_s, dgetOr_i, eLenSc_ap, sStar_ap, starK1, starK2, starK3, sUpd_ap, eSortSc_ap, forD_ap, oneD_ap, List.getElem?_cons_zero, List.getElem?_cons_succ, List.set_cons_zero, List.set_cons_succ, if_true, if_false, Bool.false_eq_true, List.length_cons, List.length_nil, List.length_map, Bool.true_and, Bool.and_true, Bool.false_and, Bool.and_false, Bool.not_true, Bool.not_false, eq_self, Nat.reduceEqDiff, Nat.reduceAdd]⟩]
  simp only [bind_ok, bind_ex, bind_bad, fb_ok, fb_ex, fb_bad, opt_some, opt_none, go_nx, go_bk, go_ct, go_rt, go_ex, go_bad, sq_go, fin_rt, fin_nx, fin_ex, val_sh, bor_sh, bor_ow, eV_ap, eB_ap, eC_ap, b1_ap, b2_ap, thn3_t, thn3_f, b3_ap, tru_bl, tb_ap, tAndB_ap, tOrB_ap, tNotB_ap, eAnd_ap, eOr_ap, eNot_ap, eIf_ap, aNil_ap, aCons_ap, eTup_ap, eLst_ap, eCall_ap, oN_ap, oint_ok, oS_ap, eSl_ap, iS_ap, items_lst, items_tup, iR1_ap, iR2_ap, enD_lst, iE_ap, gS_ap, gNil_ap, gCons_ap, gT_ap, sNx_ap, sBk_ap, sCt_ap, sFz_ap, sSet_ap, sNew_ap, nSl_lst, nSl_tup, nSl_int, nSl_dic, sAsg_ap, sRet_ap, sRetN_ap, sIf_ap, sEx_ap, sFor_ap, eLc_ap, wipe_nil, wipe_cons, tsY_ap, iZ_ap, fzS_ow, fzS_sh, fzS_no, fz_ap, augS_sh, sAug_ap, appS_ow, sApp_ap, ends_nx, ends_ct, ends_bk, ends_rt, ends_ex, opAdd_ii, opSub_ii, opNeg_i, opLe_ii, opLt_ii, opGt_ii, opGe_ii, opLen_l, opLen_t, opIx_l, opIx_t, opCut_l, opCut_t, opTuple_l, opTuple_t, opList_l, opList_t, opMax_ii, opInt_b, opInt_i, opEq_bb, opNe_bb, opEq_ii, opNe_ii, opNe_ss, opEq_ss, opIs_n, opIs_bb, atI_0, atI_1, atI_2, atI_3, eCallB_ap, atomR_i, atomR_b, atomR_n, atomR_s, fit0, fit1, fit2, fit3, fit4, fit5, fit6, fit7, fit8, fit9, fit10, fit11, fit12, fit13, fit14, fit15, fit16, fit17, fit18, fit19, fit20, fit21, fit22, fit23, fit24, fit25, fit26, fit27, fit28, fit29, fit30, fit31, fit32, fit33, fit34, fit35, fit36, fit37, fit38, fit39, fit40, one_1, one_0, one_2, two_2, two_0, two_1, two_3, eM_ap, mtD_l, opIsNot_n, gTl_ap, lnt_sh, lnt_ow, eBl_ap, sPut_ap, putF_t, putR_ap, isOwn_ow, putS_l, putS_ds, putS_di, opDGet_s, opDGet_i, opDIn_s, opDNotIn_s, opRev_l, opRev_t, sPar_ap, parF_2, eGet2_ap, eGet1_ap, getF_t, isDic_d, dgetOr_s, dgetOr_i, eLenSc_ap, sStar_ap, starK1, starK2, starK3, sUpd_ap, eSortSc_ap, forD_ap, oneD_ap, List.getElem?_cons_zero, List.getElem?_cons_succ, List.set_cons_zero, List.set_cons_succ, if_true, if_false, Bool.false_eq_true, List.length_cons, List.length_nil, List.length_map, Bool.true_and, Bool.and_true, Bool.false_and, Bool.and_false, Bool.not_true, Bool.not_false, eq_self, Nat.reduceEqDiff, Nat.reduceAdd, index_strs (name_strOk (contains_name hb h)) (nms_strOk hb) h]
  rfl

theorem plD_of {bs : List D} {n : Str} (h : n ∈ nmsOf bs) : plD bs n = .int (plc bs n : Nat) := if_pos (List.contains_iff_mem.mpr h)
theorem st_at {bs : List D} {st : List Int} {n : Str} (hl : st.length = bs.length) (h : n ∈ nmsOf bs) : atI (st.map D.int) (plc bs n : Nat) = some (.int (st.getD (plc bs n) 0)) := by
  have q := plc_lt (List.contains_iff_mem.mpr h)
  rw [atI_dig (by omega) (by omega), Int.toNat_natCast]
theorem wds : ((("is" : Str) == "yes") = false ∧ (("like" : Str) == "yes") = false ∧ (("not" : Str) == "yes") = false ∧ (("and" : Str) == "yes") = false ∧ (("or" : Str) == "yes") = false) ∧
    ((("like" : Str) == "is") = false ∧ (("not" : Str) == "is") = false ∧ (("and" : Str) == "is") = false ∧ (("or" : Str) == "is") = false) ∧
    ((("not" : Str) == "like") = false ∧ (("and" : Str) == "like") = false ∧ (("or" : Str) == "like") = false) ∧ ((("and" : Str) == "not") = false ∧ (("or" : Str) == "not") = false) ∧ (("or" : Str) == "and") = false := by decide +kernel
theorem holds_ok {bs : List D} {st : List Int} (hb : ∀ b ∈ bs, boxB b = true) (hl : st.length = bs.length) : ∀ (k j : Nat) (c : Cn), wfC (nmsOf bs) k c → k ≤ j → fr_holds j [.lst bs, enC c, .tup (st.map .int)] = .ok (.bl (den (plc bs) st c)) := fun k => by
  induction k with
  | zero => intro j c h; exact h.elim
  | succ k ih =>
    intro j c h hj
    obtain ⟨j, rfl⟩ : ∃ i, j = i + 1 := ⟨j - 1, by omega⟩
    rw [e_holds]
    unfold b_holds
    obtain ⟨⟨y1, y2, y3, y4, y5⟩, ⟨i2, i3, i4, i5⟩, ⟨l3, l4, l5⟩, ⟨n4, n5⟩, o5⟩ := wds
    cases c with
    | yes => simp only [enC, den, bind_ok, bind_ex, bind_bad, fb_ok, fb_ex, fb_bad, opt_some, opt_none, go_nx, go_bk, go_ct, go_rt, go_ex, go_bad, sq_go, fin_rt, fin_nx, fin_ex, val_sh, bor_sh, bor_ow, eV_ap, eB_ap, eC_ap, b1_ap, b2_ap, thn3_t, thn3_f, b3_ap, tru_bl, tb_ap, tAndB_ap, tOrB_ap, tNotB_ap, eAnd_ap, eOr_ap, eNot_ap, eIf_ap, aNil_ap, aCons_ap, eTup_ap, eLst_ap, eCall_ap, oN_ap, oint_ok, oS_ap, eSl_ap, iS_ap, items_lst, items_tup, iR1_ap, iR2_ap, enD_lst, iE_ap, gS_ap, gNil_ap, gCons_ap, gT_ap, sNx_ap, sBk_ap, sCt_ap, sFz_ap, sSet_ap, sNew_ap, nSl_lst, nSl_tup, nSl_int, nSl_dic, sAsg_ap, sRet_ap, sRetN_ap, sIf_ap, sEx_ap, sFor_ap, eLc_ap, wipe_nil, wipe_cons, tsY_ap, iZ_ap, fzS_ow, fzS_sh, fzS_no, fz_ap, augS_sh, sAug_ap, appS_ow, sApp_ap, ends_nx, ends_ct, ends_bk, ends_rt, ends_ex, opAdd_ii, opSub_ii, opNeg_i, opLe_ii, opLt_ii, opGt_ii, opGe_ii, opLen_l, opLen_t, opIx_l, opIx_t, opCut_l, opCut_t, opTuple_l, opTuple_t, opList_l, opList_t, opMax_ii, opInt_b, opInt_i, opEq_bb, opNe_bb, opEq_ii, opNe_ii, opNe_ss, opEq_ss, opIs_n, opIs_bb, atI_0, atI_1, atI_2, atI_3, eCallB_ap, atomR_i, atomR_b, atomR_n, atomR_s, fit0, fit1, fit2, fit3, fit4, fit5, fit6, fit7, fit8, fit9, fit10, fit11, fit12, fit13, fit14, fit15, fit16, fit17, fit18, fit19, fit20, fit21, fit22, fit23, fit24, fit25, fit26, fit27, fit28, fit29, fit30, fit31, fit32, fit33, fit34, fit35, fit36, fit37, fit38, fit39, fit40, one_1, one_0, one_2, two_2, two_0, two_1, two_3, eM_ap, mtD_l, opIsNot_n, gTl_ap, lnt_sh, lnt_ow, eBl_ap, sPut_ap, putF_t, putR_ap, isOwn_ow, putS_l, putS_ds, putS_di, opDGet_s, opDGet_i, opDIn_s, opDNotIn_s, opRev_l, opRev_t, sPar_ap, parF_2, eGet2_ap, eGet1_ap, getF_t, isDic_d, dgetOr_s, dgetOr_i, eLenSc_ap, sStar_ap, starK1, starK2, starK3, sUpd_ap, eSortSc_ap, forD_ap, oneD_ap, List.getElem?_cons_zero, List.getElem?_cons_succ, List.set_cons_zero, List.set_cons_succ, if_true, if_false, Bool.false_eq_true, List.length_cons, List.length_nil, List.length_map, Bool.true_and, Bool.and_true, Bool.false_and, Bool.and_false, Bool.not_true, Bool.not_false, eq_self, Nat.reduceEqDiff, Nat.reduceAdd, beq_self_eq_true]
    | is n v => simp only [enC, den, bind_ok, bind_ex, bind_bad, fb_ok, fb_ex, fb_bad, opt_some, opt_none, go_nx, go_bk, go_ct, go_rt, go_ex, go_bad, sq_go, fin_rt, fin_nx, fin_ex, val_sh, bor_sh, bor_ow, eV_ap, eB_ap, eC_ap, b1_ap, b2_ap, thn3_t, thn3_f, b3_ap, tru_bl, tb_ap, tAndB_ap, tOrB_ap, tNotB_ap, eAnd_ap, eOr_ap, eNot_ap, eIf_ap, aNil_ap, aCons_ap, eTup_ap, eLst_ap, eCall_ap, oN_ap, oint_ok, oS_ap, eSl_ap, iS_ap, items_lst, items_tup, iR1_ap, iR2_ap, enD_lst, iE_ap, gS_ap, gNil_ap, gCons_ap, gT_ap, sNx_ap, sBk_ap, sCt_ap, sFz_ap, sSet_ap, sNew_ap, nSl_lst, nSl_tup, nSl_int, nSl_dic, sAsg_ap, sRet_ap, sRetN_ap, sIf_ap, sEx_ap, sFor_ap, eLc_ap, wipe_nil, wipe_cons, tsY_ap, iZ_ap, fzS_ow, fzS_sh, fzS_no, fz_ap, augS_sh, sAug_ap, appS_ow, sApp_ap, ends_nx, ends_ct, ends_bk, ends_rt, ends_ex, opAdd_ii, opSub_ii, opNeg_i, opLe_ii, opLt_ii, opGt_ii, opGe_ii, opLen_l, opLen_t, opIx_l, opIx_t, opCut_l, opCut_t, opTuple_l, opTuple_t, opList_l, opList_t, opMax_ii, opInt_b, opInt_i, opEq_bb, opNe_bb, opEq_ii, opNe_ii, opNe_ss, opEq_ss, opIs_n, opIs_bb, atI_0, atI_1, atI_2, atI_3, eCallB_ap, atomR_i, atomR_b, atomR_n, atomR_s, fit0, fit1, fit2, fit3, fit4, fit5, fit6, fit7, fit8, fit9, fit10, fit11, fit12, fit13, fit14, fit15, fit16, fit17, fit18, fit19, fit20, fit21, fit22, fit23, fit24, fit25, fit26, fit27, fit28, fit29, fit30, fit31, fit32, fit33, fit34, fit35, fit36, fit37, fit38, fit39, fit40, one_1, one_0, one_2, two_2, two_0, two_1, two_3, eM_ap, mtD_l, opIsNot_n, gTl_ap, lnt_sh, lnt_ow, eBl_ap, sPut_ap, putF_t, putR_ap, isOwn_ow, putS_l, putS_ds, putS_di, opDGet_s, opDGet_i, opDIn_s, opDNotIn_s, opRev_l, opRev_t, sPar_ap, parF_2, eGet2_ap, eGet1_ap, getF_t, isDic_d, dgetOr_s, dgetOr_i, eLenSc_ap, sStar_ap, starK1, starK2, starK3, sUpd_ap, eSortSc_ap, forD_ap, oneD_ap, List.getElem?_cons_zero, List.getElem?_cons_succ, List.set_cons_zero, List.set_cons_succ, if_true, if_false, Bool.false_eq_true, List.length_cons, List.length_nil, List.length_map, Bool.true_and, Bool.and_true, Bool.false_and, Bool.and_false, Bool.not_true, Bool.not_false, eq_self, Nat.reduceEqDiff, Nat.reduceAdd, y1, beq_self_eq_true, place_ok hb, plD_of h, st_at hl h]
    | like a b => simp only [enC, den, bind_ok, bind_ex, bind_bad, fb_ok, fb_ex, fb_bad, opt_some, opt_none, go_nx, go_bk, go_ct, go_rt, go_ex, go_bad, sq_go, fin_rt, fin_nx, fin_ex, val_sh, bor_sh, bor_ow, eV_ap, eB_ap, eC_ap, b1_ap, b2_ap, thn3_t, thn3_f, b3_ap, tru_bl, tb_ap, tAndB_ap, tOrB_ap, tNotB_ap, eAnd_ap, eOr_ap, eNot_ap, eIf_ap, aNil_ap, aCons_ap, eTup_ap, eLst_ap, eCall_ap, oN_ap, oint_ok, oS_ap, eSl_ap, iS_ap, items_lst, items_tup, iR1_ap, iR2_ap, enD_lst, iE_ap, gS_ap, gNil_ap, gCons_ap, gT_ap, sNx_ap, sBk_ap, sCt_ap, sFz_ap, sSet_ap, sNew_ap, nSl_lst, nSl_tup, nSl_int, nSl_dic, sAsg_ap, sRet_ap, sRetN_ap, sIf_ap, sEx_ap, sFor_ap, eLc_ap, wipe_nil, wipe_cons, tsY_ap, iZ_ap, fzS_ow, fzS_sh, fzS_no, fz_ap, augS_sh, sAug_ap, appS_ow, sApp_ap, ends_nx, ends_ct, ends_bk, ends_rt, ends_ex, opAdd_ii, opSub_ii, opNeg_i, opLe_ii, opLt_ii, opGt_ii, opGe_ii, opLen_l, opLen_t, opIx_l, opIx_t, opCut_l, opCut_t, opTuple_l, opTuple_t, opList_l, opList_t, opMax_ii, opInt_b, opInt_i, opEq_bb, opNe_bb, opEq_ii, opNe_ii, opNe_ss, opEq_ss, opIs_n, opIs_bb, atI_0, atI_1, atI_2, atI_3, eCallB_ap, atomR_i, atomR_b, atomR_n, atomR_s, fit0, fit1, fit2, fit3, fit4, fit5, fit6, fit7, fit8, fit9, fit10, fit11, fit12, fit13, fit14, fit15, fit16, fit17, fit18, fit19, fit20, fit21, fit22, fit23, fit24, fit25, fit26, fit27, fit28, fit29, fit30, fit31, fit32, fit33, fit34, fit35, fit36, fit37, fit38, fit39, fit40, one_1, one_0, one_2, two_2, two_0, two_1, two_3, eM_ap, mtD_l, opIsNot_n, gTl_ap, lnt_sh, lnt_ow, eBl_ap, sPut_ap, putF_t, putR_ap, isOwn_ow, putS_l, putS_ds, putS_di, opDGet_s, opDGet_i, opDIn_s, opDNotIn_s, opRev_l, opRev_t, sPar_ap, parF_2, eGet2_ap, eGet1_ap, getF_t, isDic_d, dgetOr_s, dgetOr_i, eLenSc_ap, sStar_ap, starK1, starK2, starK3, sUpd_ap, eSortSc_ap, forD_ap, oneD_ap, List.getElem?_cons_zero, List.getElem?_cons_succ, List.set_cons_zero, List.set_cons_succ, if_true, if_false, Bool.false_eq_true, List.length_cons, List.length_nil, List.length_map, Bool.true_and, Bool.and_true, Bool.false_and, Bool.and_false, Bool.not_true, Bool.not_false, eq_self, Nat.reduceEqDiff, Nat.reduceAdd, y2, i2, beq_self_eq_true, place_ok hb, plD_of h.1, plD_of h.2, st_at hl h.1, st_at hl h.2]
    | not c => simp only [enC, den, bind_ok, bind_ex, bind_bad, fb_ok, fb_ex, fb_bad, opt_some, opt_none, go_nx, go_bk, go_ct, go_rt, go_ex, go_bad, sq_go, fin_rt, fin_nx, fin_ex, val_sh, bor_sh, bor_ow, eV_ap, eB_ap, eC_ap, b1_ap, b2_ap, thn3_t, thn3_f, b3_ap, tru_bl, tb_ap, tAndB_ap, tOrB_ap, tNotB_ap, eAnd_ap, eOr_ap, eNot_ap, eIf_ap, aNil_ap, aCons_ap, eTup_ap, eLst_ap, eCall_ap, oN_ap, oint_ok, oS_ap, eSl_ap, iS_ap, items_lst, items_tup, iR1_ap, iR2_ap, enD_lst, iE_ap, gS_ap, gNil_ap, gCons_ap, gT_ap, sNx_ap, sBk_ap, sCt_ap, sFz_ap, sSet_ap, sNew_ap, nSl_lst, nSl_tup, nSl_int, nSl_dic, sAsg_ap, sRet_ap, sRetN_ap, sIf_ap, sEx_ap, sFor_ap, eLc_ap, wipe_nil, wipe_cons, tsY_ap, iZ_ap, fzS_ow, fzS_sh, fzS_no, fz_ap, augS_sh, sAug_ap, appS_ow, sApp_ap, ends_nx, ends_ct, ends_bk, ends_rt, ends_ex, opAdd_ii, opSub_ii, opNeg_i, opLe_ii, opLt_ii, opGt_ii, opGe_ii, opLen_l, opLen_t, opIx_l, opIx_t, opCut_l, opCut_t, opTuple_l, opTuple_t, opList_l, opList_t, opMax_ii, opInt_b, opInt_i, opEq_bb, opNe_bb, opEq_ii, opNe_ii, opNe_ss, opEq_ss, opIs_n, opIs_bb, atI_0, atI_1, atI_2, atI_3, eCallB_ap, atomR_i, atomR_b, atomR_n, atomR_s, fit0, fit1, fit2, fit3, fit4, fit5, fit6, fit7, fit8, fit9, fit10, fit11, fit12, fit13, fit14, fit15, fit16, fit17, fit18, fit19, fit20, fit21, fit22, fit23, fit24, fit25, fit26, fit27, fit28, fit29, fit30, fit31, fit32, fit33, fit34, fit35, fit36, fit37, fit38, fit39, fit40, one_1, one_0, one_2, two_2, two_0, two_1, two_3, eM_ap, mtD_l, opIsNot_n, gTl_ap, lnt_sh, lnt_ow, eBl_ap, sPut_ap, putF_t, putR_ap, isOwn_ow, putS_l, putS_ds, putS_di, opDGet_s, opDGet_i, opDIn_s, opDNotIn_s, opRev_l, opRev_t, sPar_ap, parF_2, eGet2_ap, eGet1_ap, getF_t, isDic_d, dgetOr_s, dgetOr_i, eLenSc_ap, sStar_ap, starK1, starK2, starK3, sUpd_ap, eSortSc_ap, forD_ap, oneD_ap, List.getElem?_cons_zero, List.getElem?_cons_succ, List.set_cons_zero, List.set_cons_succ, if_true, if_false, Bool.false_eq_true, List.length_cons, List.length_nil, List.length_map, Bool.true_and, Bool.and_true, Bool.false_and, Bool.and_false, Bool.not_true, Bool.not_false, eq_self, Nat.reduceEqDiff, Nat.reduceAdd, y3, i3, l3, beq_self_eq_true, ih j c h (by omega)]
    | all cs =>
      have e := lcL_encM (asg := gS 6) (elt := eCall (fr_holds j) (aCons (eV 0) (aCons (eV 6) (aCons (eV 2) aNil)))) (ρ := [.sh (.lst bs), .sh (.tup [.str "and", .tup (cs.map enC)]), .sh (.tup (st.map .int)), .sh (.str "and"), .ow (.lst [.tup (cs.map enC)]), .no, .no]) enC (fun c => .bl (den (plc bs) st c)) (l := cs)
        fun c hc => ⟨_, rfl, by simp only [bind_ok, bind_ex, bind_bad, fb_ok, fb_ex, fb_bad, opt_some, opt_none, go_nx, go_bk, go_ct, go_rt, go_ex, go_bad, sq_go, fin_rt, fin_nx, fin_ex, val_sh, bor_sh, bor_ow, eV_ap, eB_ap, eC_ap, b1_ap, b2_ap, thn3_t, thn3_f, b3_ap, tru_bl, tb_ap, tAndB_ap, tOrB_ap, tNotB_ap, eAnd_ap, eOr_ap, eNot_ap, eIf_ap, aNil_ap, aCons_ap, eTup_ap, eLst_ap, eCall_ap, oN_ap, oint_ok, oS_ap, eSl_ap, iS_ap, items_lst, items_tup, iR1_ap, iR2_ap, enD_lst, iE_ap, gS_ap, gNil_ap, gCons_ap, gT_ap, sNx_ap, sBk_ap, sCt_ap, sFz_ap, sSet_ap, sNew_ap, nSl_lst, nSl_tup, nSl_int, nSl_dic, sAsg_ap, sRet_ap, sRetN_ap, sIf_ap, sEx_ap, sFor_ap, eLc_ap, wipe_nil, wipe_cons, tsY_ap, iZ_ap, fzS_ow, fzS_sh, fzS_no, fz_ap, augS_sh, sAug_ap, appS_ow, sApp_ap, ends_nx, ends_ct, ends_bk, ends_rt, ends_ex, opAdd_ii, opSub_ii, opNeg_i, opLe_ii, opLt_ii, opGt_ii, opGe_ii, opLen_l, opLen_t, opIx_l, opIx_t, opCut_l, opCut_t, opTuple_l, opTuple_t, opList_l, opList_t, opMax_ii, opInt_b, opInt_i, opEq_bb, opNe_bb, opEq_ii, opNe_ii, opNe_ss, opEq_ss, opIs_n, opIs_bb, atI_0, atI_1, atI_2, atI_3, eCallB_ap, atomR_i, atomR_b, atomR_n, atomR_s, fit0, fit1, fit2, fit3, fit4, fit5, fit6, fit7, fit8, fit9, fit10, fit11, fit12, fit13, fit14, fit15, fit16, fit17, fit18, fit19, fit20, fit21, fit22, fit23, fit24, fit25, fit26, fit27, fit28, fit29, fit30, fit31, fit32, fit33, fit34, fit35, fit36, fit37, fit38, fit39, fit40, one_1, one_0, one_2, two_2, two_0, two_1, two_3, eM_ap, mtD_l, opIsNot_n, gTl_ap, lnt_sh, lnt_ow, eBl_ap, sPut_ap, putF_t, putR_ap, isOwn_ow, putS_l, putS_ds, putS_di, opDGet_s, opDGet_i, opDIn_s, opDNotIn_s, opRev_l, opRev_t, sPar_ap, parF_2, eGet2_ap, eGet1_ap, getF_t, isDic_d, dgetOr_s, dgetOr_i, eLenSc_ap, sStar_ap, starK1, starK2, starK3, sUpd_ap, eSortSc_ap, forD_ap, oneD_ap, List.getElem?_cons_zero, List.getElem?_cons_succ, List.set_cons_zero, List.set_cons_succ, if_true, if_false, Bool.false_eq_true, List.length_cons, List.length_nil, List.length_map, Bool.true_and, Bool.and_true, Bool.false_and, Bool.and_false, Bool.not_true, Bool.not_false, eq_self, Nat.reduceEqDiff, Nat.reduceAdd, ih j c (h.2 c hc) (by omega)]⟩
      have m : cs.map (fun c => D.bl (den (plc bs) st c)) = (denL (plc bs) st cs).map .bl := by rw [denL_map, List.map_map]; rfl
      simp only [enC, den, enL_map, bind_ok, bind_ex, bind_bad, fb_ok, fb_ex, fb_bad, opt_some, opt_none, go_nx, go_bk, go_ct, go_rt, go_ex, go_bad, sq_go, fin_rt, fin_nx, fin_ex, val_sh, bor_sh, bor_ow, eV_ap, eB_ap, eC_ap, b1_ap, b2_ap, thn3_t, thn3_f, b3_ap, tru_bl, tb_ap, tAndB_ap, tOrB_ap, tNotB_ap, eAnd_ap, eOr_ap, eNot_ap, eIf_ap, aNil_ap, aCons_ap, eTup_ap, eLst_ap, eCall_ap, oN_ap, oint_ok, oS_ap, eSl_ap, iS_ap, items_lst, items_tup, iR1_ap, iR2_ap, enD_lst, iE_ap, gS_ap, gNil_ap, gCons_ap, gT_ap, sNx_ap, sBk_ap, sCt_ap, sFz_ap, sSet_ap, sNew_ap, nSl_lst, nSl_tup, nSl_int, nSl_dic, sAsg_ap, sRet_ap, sRetN_ap, sIf_ap, sEx_ap, sFor_ap, eLc_ap, wipe_nil, wipe_cons, tsY_ap, iZ_ap, fzS_ow, fzS_sh, fzS_no, fz_ap, augS_sh, sAug_ap, appS_ow, sApp_ap, ends_nx, ends_ct, ends_bk, ends_rt, ends_ex, opAdd_ii, opSub_ii, opNeg_i, opLe_ii, opLt_ii, opGt_ii, opGe_ii, opLen_l, opLen_t, opIx_l, opIx_t, opCut_l, opCut_t, opTuple_l, opTuple_t, opList_l, opList_t, opMax_ii, opInt_b, opInt_i, opEq_bb, opNe_bb, opEq_ii, opNe_ii, opNe_ss, opEq_ss, opIs_n, opIs_bb, atI_0, atI_1, atI_2, atI_3, eCallB_ap, atomR_i, atomR_b, atomR_n, atomR_s, fit0, fit1, fit2, fit3, fit4, fit5, fit6, fit7, fit8, fit9, fit10, fit11, fit12, fit13, fit14, fit15, fit16, fit17, fit18, fit19, fit20, fit21, fit22, fit23, fit24, fit25, fit26, fit27, fit28, fit29, fit30, fit31, fit32, fit33, fit34, fit35, fit36, fit37, fit38, fit39, fit40, one_1, one_0, one_2, two_2, two_0, two_1, two_3, eM_ap, mtD_l, opIsNot_n, gTl_ap, lnt_sh, lnt_ow, eBl_ap, sPut_ap, putF_t, putR_ap, isOwn_ow, putS_l, putS_ds, putS_di, opDGet_s, opDGet_i, opDIn_s, opDNotIn_s, opRev_l, opRev_t, sPar_ap, parF_2, eGet2_ap, eGet1_ap, getF_t, isDic_d, dgetOr_s, dgetOr_i, eLenSc_ap, sStar_ap, starK1, starK2, starK3, sUpd_ap, eSortSc_ap, forD_ap, oneD_ap, List.getElem?_cons_zero, List.getElem?_cons_succ, List.set_cons_zero, List.set_cons_succ, if_true, if_false, Bool.false_eq_true, List.length_cons, List.length_nil, List.length_map, Bool.true_and, Bool.and_true, Bool.false_and, Bool.and_false, Bool.not_true, Bool.not_false, eq_self, Nat.reduceEqDiff, Nat.reduceAdd, y4, i4, l4, n4, beq_self_eq_true, e, m, opAll_b]
    | any cs =>
      have e := lcL_encM (asg := gS 6) (elt := eCall (fr_holds j) (aCons (eV 0) (aCons (eV 6) (aCons (eV 2) aNil)))) (ρ := [.sh (.lst bs), .sh (.tup [.str "or", .tup (cs.map enC)]), .sh (.tup (st.map .int)), .sh (.str "or"), .ow (.lst [.tup (cs.map enC)]), .no, .no]) enC (fun c => .bl (den (plc bs) st c)) (l := cs)
        fun c hc => ⟨_, rfl, by simp only [bind_ok, bind_ex, bind_bad, fb_ok, fb_ex, fb_bad, opt_some, opt_none, go_nx, go_bk, go_ct, go_rt, go_ex, go_bad, sq_go, fin_rt, fin_nx, fin_ex, val_sh, bor_sh, bor_ow, eV_ap, eB_ap, eC_ap, b1_ap, b2_ap, thn3_t, thn3_f, b3_ap, tru_bl, tb_ap, tAndB_ap, tOrB_ap, tNotB_ap, eAnd_ap, eOr_ap, eNot_ap, eIf_ap, aNil_ap, aCons_ap, eTup_ap, eLst_ap, eCall_ap, oN_ap, oint_ok, oS_ap, eSl_ap, iS_ap, items_lst, items_tup, iR1_ap, iR2_ap, enD_lst, iE_ap, gS_ap, gNil_ap, gCons_ap, gT_ap, sNx_ap, sBk_ap, sCt_ap, sFz_ap, sSet_ap, sNew_ap, nSl_lst, nSl_tup, nSl_int, nSl_dic, sAsg_ap, sRet_ap, sRetN_ap, sIf_ap, sEx_ap, sFor_ap, eLc_ap, wipe_nil, wipe_cons, tsY_ap, iZ_ap, fzS_ow, fzS_sh, fzS_no, fz_ap, augS_sh, sAug_ap, appS_ow, sApp_ap, ends_nx, ends_ct, ends_bk, ends_rt, ends_ex, opAdd_ii, opSub_ii, opNeg_i, opLe_ii, opLt_ii, opGt_ii, opGe_ii, opLen_l, opLen_t, opIx_l, opIx_t, opCut_l, opCut_t, opTuple_l, opTuple_t, opList_l, opList_t, opMax_ii, opInt_b, opInt_i, opEq_bb, opNe_bb, opEq_ii, opNe_ii, opNe_ss, opEq_ss, opIs_n, opIs_bb, atI_0, atI_1, atI_2, atI_3, eCallB_ap, atomR_i, atomR_b, atomR_n, atomR_s, fit0, fit1, fit2, fit3, fit4, fit5, fit6, fit7, fit8, fit9, fit10, fit11, fit12, fit13, fit14, fit15, fit16, fit17, fit18, fit19, fit20, fit21, fit22, fit23, fit24, fit25, fit26, fit27, fit28, fit29, fit30, fit31, fit32, fit33, fit34, fit35, fit36, fit37, fit38, fit39, fit40, one_1, one_0, one_2, two_2, two_0, two_1, two_3, eM_ap, mtD_l, opIsNot_n, gTl_ap, lnt_sh, lnt_ow, eBl_ap, sPut_ap, putF_t, putR_ap, isOwn_ow, putS_l, putS_ds, putS_di, opDGet_s, opDGet_i, opDIn_s, opDNotIn_s, opRev_l, opRev_t, sPar_ap, parF_2, eGet2_ap, eGet1_ap, getF_t, isDic_d, dgetOr_s, dgetOr_i, eLenSc_ap, sStar_ap, starK1, starK2, starK3, sUpd_ap, eSortSc_ap, forD_ap, oneD_ap, List.getElem?_cons_zero, List.getElem?_cons_succ, List.set_cons_zero, List.set_cons_succ, if_true, if_false, Bool.false_eq_true, List.length_cons, List.length_nil, List.length_map, Bool.true_and, Bool.and_true, Bool.false_and, Bool.and_false, Bool.not_true, Bool.not_false, eq_self, Nat.reduceEqDiff, Nat.reduceAdd, ih j c (h.2 c hc) (by omega)]⟩
      have m : cs.map (fun c => D.bl (den (plc bs) st c)) = (denL (plc bs) st cs).map .bl := by rw [denL_map, List.map_map]; rfl
      simp only [enC, den, enL_map, bind_ok, bind_ex, bind_bad, fb_ok, fb_ex, fb_bad, opt_some, opt_none, go_nx, go_bk, go_ct, go_rt, go_ex, go_bad, sq_go, fin_rt, fin_nx, fin_ex, val_sh, bor_sh, bor_ow, eV_ap, eB_ap, eC_ap, b1_ap, b2_ap, thn3_t, thn3_f, b3_ap, tru_bl, tb_ap, tAndB_ap, tOrB_ap, tNotB_ap, eAnd_ap, eOr_ap, eNot_ap, eIf_ap, aNil_ap, aCons_ap, eTup_ap, eLst_ap, eCall_ap, oN_ap, oint_ok, oS_ap, eSl_ap, iS_ap, items_lst, items_tup, iR1_ap, iR2_ap, enD_lst, iE_ap, gS_ap, gNil_ap, gCons_ap, gT_ap, sNx_ap, sBk_ap, sCt_ap, sFz_ap, sSet_ap, sNew_ap, nSl_lst, nSl_tup, nSl_int, nSl_dic, sAsg_ap, sRet_ap, sRetN_ap, sIf_ap, sEx_ap, sFor_ap, eLc_ap, wipe_nil, wipe_cons, tsY_ap, iZ_ap, fzS_ow, fzS_sh, fzS_no, fz_ap, augS_sh, sAug_ap, appS_ow, sApp_ap, ends_nx, ends_ct, ends_bk, ends_rt, ends_ex, opAdd_ii, opSub_ii, opNeg_i, opLe_ii, opLt_ii, opGt_ii, opGe_ii, opLen_l, opLen_t, opIx_l, opIx_t, opCut_l, opCut_t, opTuple_l, opTuple_t, opList_l, opList_t, opMax_ii, opInt_b, opInt_i, opEq_bb, opNe_bb, opEq_ii, opNe_ii, opNe_ss, opEq_ss, opIs_n, opIs_bb, atI_0, atI_1, atI_2, atI_3, eCallB_ap, atomR_i, atomR_b, atomR_n, atomR_s, fit0, fit1, fit2, fit3, fit4, fit5, fit6, fit7, fit8, fit9, fit10, fit11, fit12, fit13, fit14, fit15, fit16, fit17, fit18, fit19, fit20, fit21, fit22, fit23, fit24, fit25, fit26, fit27, fit28, fit29, fit30, fit31, fit32, fit33, fit34, fit35, fit36, fit37, fit38, fit39, fit40, one_1, one_0, one_2, two_2, two_0, two_1, two_3, eM_ap, mtD_l, opIsNot_n, gTl_ap, lnt_sh, lnt_ow, eBl_ap, sPut_ap, putF_t, putR_ap, isOwn_ow, putS_l, putS_ds, putS_di, opDGet_s, opDGet_i, opDIn_s, opDNotIn_s, opRev_l, opRev_t, sPar_ap, parF_2, eGet2_ap, eGet1_ap, getF_t, isDic_d, dgetOr_s, dgetOr_i, eLenSc_ap, sStar_ap, starK1, starK2, starK3, sUpd_ap, eSortSc_ap, forD_ap, oneD_ap, List.getElem?_cons_zero, List.getElem?_cons_succ, List.set_cons_zero, List.set_cons_succ, if_true, if_false, Bool.false_eq_true, List.length_cons, List.length_nil, List.length_map, Bool.true_and, Bool.and_true, Bool.false_and, Bool.and_false, Bool.not_true, Bool.not_false, eq_self, Nat.reduceEqDiff, Nat.reduceAdd, y5, i5, l5, n5, o5, beq_self_eq_true, e, m, opAny_b]

theorem law_holds_ok {bs : List D} {st : List Int} (hb : ∀ b ∈ bs, boxB b = true) (hl : st.length = bs.length) : ∀ (k j : Nat) (c : Cn), wfC (nmsOf bs) k c → k ≤ j → fr_law_holds j [.lst bs, enC c, .tup (st.map .int)] = .ok (.bl (den (plc bs) st c)) := fun k => by
  induction k with
  | zero => intro j c h; exact h.elim
  | succ k ih =>
    intro j c h hj
    obtain ⟨j, rfl⟩ : ∃ i, j = i + 1 := ⟨j - 1, by omega⟩
    rw [e_law_holds]
    unfold b_law_holds
    obtain ⟨⟨y1, y2, y3, y4, y5⟩, ⟨i2, i3, i4, i5⟩, ⟨l3, l4, l5⟩, ⟨n4, n5⟩, o5⟩ := wds
    have at1 : ∀ {n : Str}, n ∈ nmsOf bs → f_law_at [.lst bs, .str n] = .ok (.int (plc bs n : Nat)) := fun h => law_at_ok hb (List.contains_iff_mem.mpr h)
    cases c with
    | yes => simp only [enC, den, bind_ok, bind_ex, bind_bad, fb_ok, fb_ex, fb_bad, opt_some, opt_none, go_nx, go_bk, go_ct, go_rt, go_ex, go_bad, sq_go, fin_rt, fin_nx, fin_ex, val_sh, bor_sh, bor_ow, eV_ap, eB_ap, eC_ap, b1_ap, b2_ap, thn3_t, thn3_f, b3_ap, tru_bl, tb_ap, tAndB_ap, tOrB_ap, tNotB_ap, eAnd_ap, eOr_ap, eNot_ap, eIf_ap, aNil_ap, aCons_ap, eTup_ap, eLst_ap, eCall_ap, oN_ap, oint_ok, oS_ap, eSl_ap, iS_ap, items_lst, items_tup, iR1_ap, iR2_ap, enD_lst, iE_ap, gS_ap, gNil_ap, gCons_ap, gT_ap, sNx_ap, sBk_ap, sCt_ap, sFz_ap, sSet_ap, sNew_ap, nSl_lst, nSl_tup, nSl_int, nSl_dic, sAsg_ap, sRet_ap, sRetN_ap, sIf_ap, sEx_ap, sFor_ap, eLc_ap, wipe_nil, wipe_cons, tsY_ap, iZ_ap, fzS_ow, fzS_sh, fzS_no, fz_ap, augS_sh, sAug_ap, appS_ow, sApp_ap, ends_nx, ends_ct, ends_bk, ends_rt, ends_ex, opAdd_ii, opSub_ii, opNeg_i, opLe_ii, opLt_ii, opGt_ii, opGe_ii, opLen_l, opLen_t, opIx_l, opIx_t, opCut_l, opCut_t, opTuple_l, opTuple_t, opList_l, opList_t, opMax_ii, opInt_b, opInt_i, opEq_bb, opNe_bb, opEq_ii, opNe_ii, opNe_ss, opEq_ss, opIs_n, opIs_bb, atI_0, atI_1, atI_2, atI_3, eCallB_ap, atomR_i, atomR_b, atomR_n, atomR_s, fit0, fit1, fit2, fit3, fit4, fit5, fit6, fit7, fit8, fit9, fit10, fit11, fit12, fit13, fit14, fit15, fit16, fit17, fit18, fit19, fit20, fit21, fit22, fit23, fit24, fit25, fit26, fit27, fit28, fit29, fit30, fit31, fit32, fit33, fit34, fit35, fit36, fit37, fit38, fit39, fit40, one_1, one_0, one_2, two_2, two_0, two_1, two_3, eM_ap, mtD_l, opIsNot_n, gTl_ap, lnt_sh, lnt_ow, eBl_ap, sPut_ap, putF_t, putR_ap, isOwn_ow, putS_l, putS_ds, putS_di, opDGet_s, opDGet_i, opDIn_s, opDNotIn_s, opRev_l, opRev_t, sPar_ap, parF_2, eGet2_ap, eGet1_ap, getF_t, isDic_d, dgetOr_s, dgetOr_i, eLenSc_ap, sStar_ap, starK1, starK2, starK3, sUpd_ap, eSortSc_ap, forD_ap, oneD_ap, List.getElem?_cons_zero, List.getElem?_cons_succ, List.set_cons_zero, List.set_cons_succ, if_true, if_false, Bool.false_eq_true, List.length_cons, List.length_nil, List.length_map, Bool.true_and, Bool.and_true, Bool.false_and, Bool.and_false, Bool.not_true, Bool.not_false, eq_self, Nat.reduceEqDiff, Nat.reduceAdd, beq_self_eq_true]
    | is n v => simp only [enC, den, bind_ok, bind_ex, bind_bad, fb_ok, fb_ex, fb_bad, opt_some, opt_none, go_nx, go_bk, go_ct, go_rt, go_ex, go_bad, sq_go, fin_rt, fin_nx, fin_ex, val_sh, bor_sh, bor_ow, eV_ap, eB_ap, eC_ap, b1_ap, b2_ap, thn3_t, thn3_f, b3_ap, tru_bl, tb_ap, tAndB_ap, tOrB_ap, tNotB_ap, eAnd_ap, eOr_ap, eNot_ap, eIf_ap, aNil_ap, aCons_ap, eTup_ap, eLst_ap, eCall_ap, oN_ap, oint_ok, oS_ap, eSl_ap, iS_ap, items_lst, items_tup, iR1_ap, iR2_ap, enD_lst, iE_ap, gS_ap, gNil_ap, gCons_ap, gT_ap, sNx_ap, sBk_ap, sCt_ap, sFz_ap, sSet_ap, sNew_ap, nSl_lst, nSl_tup, nSl_int, nSl_dic, sAsg_ap, sRet_ap, sRetN_ap, sIf_ap, sEx_ap, sFor_ap, eLc_ap, wipe_nil, wipe_cons, tsY_ap, iZ_ap, fzS_ow, fzS_sh, fzS_no, fz_ap, augS_sh, sAug_ap, appS_ow, sApp_ap, ends_nx, ends_ct, ends_bk, ends_rt, ends_ex, opAdd_ii, opSub_ii, opNeg_i, opLe_ii, opLt_ii, opGt_ii, opGe_ii, opLen_l, opLen_t, opIx_l, opIx_t, opCut_l, opCut_t, opTuple_l, opTuple_t, opList_l, opList_t, opMax_ii, opInt_b, opInt_i, opEq_bb, opNe_bb, opEq_ii, opNe_ii, opNe_ss, opEq_ss, opIs_n, opIs_bb, atI_0, atI_1, atI_2, atI_3, eCallB_ap, atomR_i, atomR_b, atomR_n, atomR_s, fit0, fit1, fit2, fit3, fit4, fit5, fit6, fit7, fit8, fit9, fit10, fit11, fit12, fit13, fit14, fit15, fit16, fit17, fit18, fit19, fit20, fit21, fit22, fit23, fit24, fit25, fit26, fit27, fit28, fit29, fit30, fit31, fit32, fit33, fit34, fit35, fit36, fit37, fit38, fit39, fit40, one_1, one_0, one_2, two_2, two_0, two_1, two_3, eM_ap, mtD_l, opIsNot_n, gTl_ap, lnt_sh, lnt_ow, eBl_ap, sPut_ap, putF_t, putR_ap, isOwn_ow, putS_l, putS_ds, putS_di, opDGet_s, opDGet_i, opDIn_s, opDNotIn_s, opRev_l, opRev_t, sPar_ap, parF_2, eGet2_ap, eGet1_ap, getF_t, isDic_d, dgetOr_s, dgetOr_i, eLenSc_ap, sStar_ap, starK1, starK2, starK3, sUpd_ap, eSortSc_ap, forD_ap, oneD_ap, List.getElem?_cons_zero, List.getElem?_cons_succ, List.set_cons_zero, List.set_cons_succ, if_true, if_false, Bool.false_eq_true, List.length_cons, List.length_nil, List.length_map, Bool.true_and, Bool.and_true, Bool.false_and, Bool.and_false, Bool.not_true, Bool.not_false, eq_self, Nat.reduceEqDiff, Nat.reduceAdd, y1, beq_self_eq_true, at1 h, st_at hl h]
    | like a b => simp only [enC, den, bind_ok, bind_ex, bind_bad, fb_ok, fb_ex, fb_bad, opt_some, opt_none, go_nx, go_bk, go_ct, go_rt, go_ex, go_bad, sq_go, fin_rt, fin_nx, fin_ex, val_sh, bor_sh, bor_ow, eV_ap, eB_ap, eC_ap, b1_ap, b2_ap, thn3_t, thn3_f, b3_ap, tru_bl, tb_ap, tAndB_ap, tOrB_ap, tNotB_ap, eAnd_ap, eOr_ap, eNot_ap, eIf_ap, aNil_ap, aCons_ap, eTup_ap, eLst_ap, eCall_ap, oN_ap, oint_ok, oS_ap, eSl_ap, iS_ap, items_lst, items_tup, iR1_ap, iR2_ap, enD_lst, iE_ap, gS_ap, gNil_ap, gCons_ap, gT_ap, sNx_ap, sBk_ap, sCt_ap, sFz_ap, sSet_ap, sNew_ap, nSl_lst, nSl_tup, nSl_int, nSl_dic, sAsg_ap, sRet_ap, sRetN_ap, sIf_ap, sEx_ap, sFor_ap, eLc_ap, wipe_nil, wipe_cons, tsY_ap, iZ_ap, fzS_ow, fzS_sh, fzS_no, fz_ap, augS_sh, sAug_ap, appS_ow, sApp_ap, ends_nx, ends_ct, ends_bk, ends_rt, ends_ex, opAdd_ii, opSub_ii, opNeg_i, opLe_ii, opLt_ii, opGt_ii, opGe_ii, opLen_l, opLen_t, opIx_l, opIx_t, opCut_l, opCut_t, opTuple_l, opTuple_t, opList_l, opList_t, opMax_ii, opInt_b, opInt_i, opEq_bb, opNe_bb, opEq_ii, opNe_ii, opNe_ss, opEq_ss, opIs_n, opIs_bb, atI_0, atI_1, atI_2, atI_3, eCallB_ap, atomR_i, atomR_b, atomR_n, atomR_s, fit0, fit1, fit2, fit3, fit4, fit5, fit6, fit7, fit8, fit9, fit10, fit11, fit12, fit13, fit14, fit15, fit16, fit17, fit18, fit19, fit20, fit21, fit22, fit23, fit24, fit25, fit26, fit27, fit28, fit29, fit30, fit31, fit32, fit33, fit34, fit35, fit36, fit37, fit38, fit39, fit40, one_1, one_0, one_2, two_2, two_0, two_1, two_3, eM_ap, mtD_l, opIsNot_n, gTl_ap, lnt_sh, lnt_ow, eBl_ap, sPut_ap, putF_t, putR_ap, isOwn_ow, putS_l, putS_ds, putS_di, opDGet_s, opDGet_i, opDIn_s, opDNotIn_s, opRev_l, opRev_t, sPar_ap, parF_2, eGet2_ap, eGet1_ap, getF_t, isDic_d, dgetOr_s, dgetOr_i, eLenSc_ap, sStar_ap, starK1, starK2, starK3, sUpd_ap, eSortSc_ap, forD_ap, oneD_ap, List.getElem?_cons_zero, List.getElem?_cons_succ, List.set_cons_zero, List.set_cons_succ, if_true, if_false, Bool.false_eq_true, List.length_cons, List.length_nil, List.length_map, Bool.true_and, Bool.and_true, Bool.false_and, Bool.and_false, Bool.not_true, Bool.not_false, eq_self, Nat.reduceEqDiff, Nat.reduceAdd, y2, i2, beq_self_eq_true, at1 h.1, at1 h.2, st_at hl h.1, st_at hl h.2]
    | not c => simp only [enC, den, bind_ok, bind_ex, bind_bad, fb_ok, fb_ex, fb_bad, opt_some, opt_none, go_nx, go_bk, go_ct, go_rt, go_ex, go_bad, sq_go, fin_rt, fin_nx, fin_ex, val_sh, bor_sh, bor_ow, eV_ap, eB_ap, eC_ap, b1_ap, b2_ap, thn3_t, thn3_f, b3_ap, tru_bl, tb_ap, tAndB_ap, tOrB_ap, tNotB_ap, eAnd_ap, eOr_ap, eNot_ap, eIf_ap, aNil_ap, aCons_ap, eTup_ap, eLst_ap, eCall_ap, oN_ap, oint_ok, oS_ap, eSl_ap, iS_ap, items_lst, items_tup, iR1_ap, iR2_ap, enD_lst, iE_ap, gS_ap, gNil_ap, gCons_ap, gT_ap, sNx_ap, sBk_ap, sCt_ap, sFz_ap, sSet_ap, sNew_ap, nSl_lst, nSl_tup, nSl_int, nSl_dic, sAsg_ap, sRet_ap, sRetN_ap, sIf_ap, sEx_ap, sFor_ap, eLc_ap, wipe_nil, wipe_cons, tsY_ap, iZ_ap, fzS_ow, fzS_sh, fzS_no, fz_ap, augS_sh, sAug_ap, appS_ow, sApp_ap, ends_nx, ends_ct, ends_bk, ends_rt, ends_ex, opAdd_ii, opSub_ii, opNeg_i, opLe_ii, opLt_ii, opGt_ii, opGe_ii, opLen_l, opLen_t, opIx_l, opIx_t, opCut_l, opCut_t, opTuple_l, opTuple_t, opList_l, opList_t, opMax_ii, opInt_b, opInt_i, opEq_bb, opNe_bb, opEq_ii, opNe_ii, opNe_ss, opEq_ss, opIs_n, opIs_bb, atI_0, atI_1, atI_2, atI_3, eCallB_ap, atomR_i, atomR_b, atomR_n, atomR_s, fit0, fit1, fit2, fit3, fit4, fit5, fit6, fit7, fit8, fit9, fit10, fit11, fit12, fit13, fit14, fit15, fit16, fit17, fit18, fit19, fit20, fit21, fit22, fit23, fit24, fit25, fit26, fit27, fit28, fit29, fit30, fit31, fit32, fit33, fit34, fit35, fit36, fit37, fit38, fit39, fit40, one_1, one_0, one_2, two_2, two_0, two_1, two_3, eM_ap, mtD_l, opIsNot_n, gTl_ap, lnt_sh, lnt_ow, eBl_ap, sPut_ap, putF_t, putR_ap, isOwn_ow, putS_l, putS_ds, putS_di, opDGet_s, opDGet_i, opDIn_s, opDNotIn_s, opRev_l, opRev_t, sPar_ap, parF_2, eGet2_ap, eGet1_ap, getF_t, isDic_d, dgetOr_s, dgetOr_i, eLenSc_ap, sStar_ap, starK1, starK2, starK3, sUpd_ap, eSortSc_ap, forD_ap, oneD_ap, List.getElem?_cons_zero, List.getElem?_cons_succ, List.set_cons_zero, List.set_cons_succ, if_true, if_false, Bool.false_eq_true, List.length_cons, List.length_nil, List.length_map, Bool.true_and, Bool.and_true, Bool.false_and, Bool.and_false, Bool.not_true, Bool.not_false, eq_self, Nat.reduceEqDiff, Nat.reduceAdd, y3, i3, l3, beq_self_eq_true, ih j c h (by omega)]
    | all cs =>
      have e := lcL_encM (asg := gS 4) (elt := eCall (fr_law_holds j) (aCons (eV 0) (aCons (eV 4) (aCons (eV 2) aNil)))) (ρ := [.sh (.lst bs), .sh (.tup [.str "and", .tup (cs.map enC)]), .sh (.tup (st.map .int)), .no, .no]) enC (fun c => .bl (den (plc bs) st c)) (l := cs)
        fun c hc => ⟨_, rfl, by simp only [bind_ok, bind_ex, bind_bad, fb_ok, fb_ex, fb_bad, opt_some, opt_none, go_nx, go_bk, go_ct, go_rt, go_ex, go_bad, sq_go, fin_rt, fin_nx, fin_ex, val_sh, bor_sh, bor_ow, eV_ap, eB_ap, eC_ap, b1_ap, b2_ap, thn3_t, thn3_f, b3_ap, tru_bl, tb_ap, tAndB_ap, tOrB_ap, tNotB_ap, eAnd_ap, eOr_ap, eNot_ap, eIf_ap, aNil_ap, aCons_ap, eTup_ap, eLst_ap, eCall_ap, oN_ap, oint_ok, oS_ap, eSl_ap, iS_ap, items_lst, items_tup, iR1_ap, iR2_ap, enD_lst, iE_ap, gS_ap, gNil_ap, gCons_ap, gT_ap, sNx_ap, sBk_ap, sCt_ap, sFz_ap, sSet_ap, sNew_ap, nSl_lst, nSl_tup, nSl_int, nSl_dic, sAsg_ap, sRet_ap, sRetN_ap, sIf_ap, sEx_ap, sFor_ap, eLc_ap, wipe_nil, wipe_cons, tsY_ap, iZ_ap, fzS_ow, fzS_sh, fzS_no, fz_ap, augS_sh, sAug_ap, appS_ow, sApp_ap, ends_nx, ends_ct, ends_bk, ends_rt, ends_ex, opAdd_ii, opSub_ii, opNeg_i, opLe_ii, opLt_ii, opGt_ii, opGe_ii, opLen_l, opLen_t, opIx_l, opIx_t, opCut_l, opCut_t, opTuple_l, opTuple_t, opList_l, opList_t, opMax_ii, opInt_b, opInt_i, opEq_bb, opNe_bb, opEq_ii, opNe_ii, opNe_ss, opEq_ss, opIs_n, opIs_bb, atI_0, atI_1, atI_2, atI_3, eCallB_ap, atomR_i, atomR_b, atomR_n, atomR_s, fit0, fit1, fit2, fit3, fit4, fit5, fit6, fit7, fit8, fit9, fit10, fit11, fit12, fit13, fit14, fit15, fit16, fit17, fit18, fit19, fit20, fit21, fit22, fit23, fit24, fit25, fit26, fit27, fit28, fit29, fit30, fit31, fit32, fit33, fit34, fit35, fit36, fit37, fit38, fit39, fit40, one_1, one_0, one_2, two_2, two_0, two_1, two_3, eM_ap, mtD_l, opIsNot_n, gTl_ap, lnt_sh, lnt_ow, eBl_ap, sPut_ap, putF_t, putR_ap, isOwn_ow, putS_l, putS_ds, putS_di, opDGet_s, opDGet_i, opDIn_s, opDNotIn_s, opRev_l, opRev_t, sPar_ap, parF_2, eGet2_ap, eGet1_ap, getF_t, isDic_d, dgetOr_s, dgetOr_i, eLenSc_ap, sStar_ap, starK1, starK2, starK3, sUpd_ap, eSortSc_ap, forD_ap, oneD_ap, List.getElem?_cons_zero, List.getElem?_cons_succ, List.set_cons_zero, List.set_cons_succ, if_true, if_false, Bool.false_eq_true, List.length_cons, List.length_nil, List.length_map, Bool.true_and, Bool.and_true, Bool.false_and, Bool.and_false, Bool.not_true, Bool.not_false, eq_self, Nat.reduceEqDiff, Nat.reduceAdd, ih j c (h.2 c hc) (by omega)]⟩
      have m : cs.map (fun c => D.bl (den (plc bs) st c)) = (denL (plc bs) st cs).map .bl := by rw [denL_map, List.map_map]; rfl
      simp only [enC, den, enL_map, bind_ok, bind_ex, bind_bad, fb_ok, fb_ex, fb_bad, opt_some, opt_none, go_nx, go_bk, go_ct, go_rt, go_ex, go_bad, sq_go, fin_rt, fin_nx, fin_ex, val_sh, bor_sh, bor_ow, eV_ap, eB_ap, eC_ap, b1_ap, b2_ap, thn3_t, thn3_f, b3_ap, tru_bl, tb_ap, tAndB_ap, tOrB_ap, tNotB_ap, eAnd_ap, eOr_ap, eNot_ap, eIf_ap, aNil_ap, aCons_ap, eTup_ap, eLst_ap, eCall_ap, oN_ap, oint_ok, oS_ap, eSl_ap, iS_ap, items_lst, items_tup, iR1_ap, iR2_ap, enD_lst, iE_ap, gS_ap, gNil_ap, gCons_ap, gT_ap, sNx_ap, sBk_ap, sCt_ap, sFz_ap, sSet_ap, sNew_ap, nSl_lst, nSl_tup, nSl_int, nSl_dic, sAsg_ap, sRet_ap, sRetN_ap, sIf_ap, sEx_ap, sFor_ap, eLc_ap, wipe_nil, wipe_cons, tsY_ap, iZ_ap, fzS_ow, fzS_sh, fzS_no, fz_ap, augS_sh, sAug_ap, appS_ow, sApp_ap, ends_nx, ends_ct, ends_bk, ends_rt, ends_ex, opAdd_ii, opSub_ii, opNeg_i, opLe_ii, opLt_ii, opGt_ii, opGe_ii, opLen_l, opLen_t, opIx_l, opIx_t, opCut_l, opCut_t, opTuple_l, opTuple_t, opList_l, opList_t, opMax_ii, opInt_b, opInt_i, opEq_bb, opNe_bb, opEq_ii, opNe_ii, opNe_ss, opEq_ss, opIs_n, opIs_bb, atI_0, atI_1, atI_2, atI_3, eCallB_ap, atomR_i, atomR_b, atomR_n, atomR_s, fit0, fit1, fit2, fit3, fit4, fit5, fit6, fit7, fit8, fit9, fit10, fit11, fit12, fit13, fit14, fit15, fit16, fit17, fit18, fit19, fit20, fit21, fit22, fit23, fit24, fit25, fit26, fit27, fit28, fit29, fit30, fit31, fit32, fit33, fit34, fit35, fit36, fit37, fit38, fit39, fit40, one_1, one_0, one_2, two_2, two_0, two_1, two_3, eM_ap, mtD_l, opIsNot_n, gTl_ap, lnt_sh, lnt_ow, eBl_ap, sPut_ap, putF_t, putR_ap, isOwn_ow, putS_l, putS_ds, putS_di, opDGet_s, opDGet_i, opDIn_s, opDNotIn_s, opRev_l, opRev_t, sPar_ap, parF_2, eGet2_ap, eGet1_ap, getF_t, isDic_d, dgetOr_s, dgetOr_i, eLenSc_ap, sStar_ap, starK1, starK2, starK3, sUpd_ap, eSortSc_ap, forD_ap, oneD_ap, List.getElem?_cons_zero, List.getElem?_cons_succ, List.set_cons_zero, List.set_cons_succ, if_true, if_false, Bool.false_eq_true, List.length_cons, List.length_nil, List.length_map, Bool.true_and, Bool.and_true, Bool.false_and, Bool.and_false, Bool.not_true, Bool.not_false, eq_self, Nat.reduceEqDiff, Nat.reduceAdd, y4, i4, l4, n4, beq_self_eq_true, e, m, opAll_b, opAny_b]
    | any cs =>
      have e := lcL_encM (asg := gS 4) (elt := eCall (fr_law_holds j) (aCons (eV 0) (aCons (eV 4) (aCons (eV 2) aNil)))) (ρ := [.sh (.lst bs), .sh (.tup [.str "or", .tup (cs.map enC)]), .sh (.tup (st.map .int)), .no, .no]) enC (fun c => .bl (den (plc bs) st c)) (l := cs)
        fun c hc => ⟨_, rfl, by simp only [bind_ok, bind_ex, bind_bad, fb_ok, fb_ex, fb_bad, opt_some, opt_none, go_nx, go_bk, go_ct, go_rt, go_ex, go_bad, sq_go, fin_rt, fin_nx, fin_ex, val_sh, bor_sh, bor_ow, eV_ap, eB_ap, eC_ap, b1_ap, b2_ap, thn3_t, thn3_f, b3_ap, tru_bl, tb_ap, tAndB_ap, tOrB_ap, tNotB_ap, eAnd_ap, eOr_ap, eNot_ap, eIf_ap, aNil_ap, aCons_ap, eTup_ap, eLst_ap, eCall_ap, oN_ap, oint_ok, oS_ap, eSl_ap, iS_ap, items_lst, items_tup, iR1_ap, iR2_ap, enD_lst, iE_ap, gS_ap, gNil_ap, gCons_ap, gT_ap, sNx_ap, sBk_ap, sCt_ap, sFz_ap, sSet_ap, sNew_ap, nSl_lst, nSl_tup, nSl_int, nSl_dic, sAsg_ap, sRet_ap, sRetN_ap, sIf_ap, sEx_ap, sFor_ap, eLc_ap, wipe_nil, wipe_cons, tsY_ap, iZ_ap, fzS_ow, fzS_sh, fzS_no, fz_ap, augS_sh, sAug_ap, appS_ow, sApp_ap, ends_nx, ends_ct, ends_bk, ends_rt, ends_ex, opAdd_ii, opSub_ii, opNeg_i, opLe_ii, opLt_ii, opGt_ii, opGe_ii, opLen_l, opLen_t, opIx_l, opIx_t, opCut_l, opCut_t, opTuple_l, opTuple_t, opList_l, opList_t, opMax_ii, opInt_b, opInt_i, opEq_bb, opNe_bb, opEq_ii, opNe_ii, opNe_ss, opEq_ss, opIs_n, opIs_bb, atI_0, atI_1, atI_2, atI_3, eCallB_ap, atomR_i, atomR_b, atomR_n, atomR_s, fit0, fit1, fit2, fit3, fit4, fit5, fit6, fit7, fit8, fit9, fit10, fit11, fit12, fit13, fit14, fit15, fit16, fit17, fit18, fit19, fit20, fit21, fit22, fit23, fit24, fit25, fit26, fit27, fit28, fit29, fit30, fit31, fit32, fit33, fit34, fit35, fit36, fit37, fit38, fit39, fit40, one_1, one_0, one_2, two_2, two_0, two_1, two_3, eM_ap, mtD_l, opIsNot_n, gTl_ap, lnt_sh, lnt_ow, eBl_ap, sPut_ap, putF_t, putR_ap, isOwn_ow, putS_l, putS_ds, putS_di, opDGet_s, opDGet_i, opDIn_s, opDNotIn_s, opRev_l, opRev_t, sPar_ap, parF_2, eGet2_ap, eGet1_ap, getF_t, isDic_d, dgetOr_s, dgetOr_i, eLenSc_ap, sStar_ap, starK1, starK2, starK3, sUpd_ap, eSortSc_ap, forD_ap, oneD_ap, List.getElem?_cons_zero, List.getElem?_cons_succ, List.set_cons_zero, List.set_cons_succ, if_true, if_false, Bool.false_eq_true, List.length_cons, List.length_nil, List.length_map, Bool.true_and, Bool.and_true, Bool.false_and, Bool.and_false, Bool.not_true, Bool.not_false, eq_self, Nat.reduceEqDiff, Nat.reduceAdd, ih j c (h.2 c hc) (by omega)]⟩
      have m : cs.map (fun c => D.bl (den (plc bs) st c)) = (denL (plc bs) st cs).map .bl := by rw [denL_map, List.map_map]; rfl
      simp only [enC, den, enL_map, bind_ok, bind_ex, bind_bad, fb_ok, fb_ex, fb_bad, opt_some, opt_none, go_nx, go_bk, go_ct, go_rt, go_ex, go_bad, sq_go, fin_rt, fin_nx, fin_ex, val_sh, bor_sh, bor_ow, eV_ap, eB_ap, eC_ap, b1_ap, b2_ap, thn3_t, thn3_f, b3_ap, tru_bl, tb_ap, tAndB_ap, tOrB_ap, tNotB_ap, eAnd_ap, eOr_ap, eNot_ap, eIf_ap, aNil_ap, aCons_ap, eTup_ap, eLst_ap, eCall_ap, oN_ap, oint_ok, oS_ap, eSl_ap, iS_ap, items_lst, items_tup, iR1_ap, iR2_ap, enD_lst, iE_ap, gS_ap, gNil_ap, gCons_ap, gT_ap, sNx_ap, sBk_ap, sCt_ap, sFz_ap, sSet_ap, sNew_ap, nSl_lst, nSl_tup, nSl_int, nSl_dic, sAsg_ap, sRet_ap, sRetN_ap, sIf_ap, sEx_ap, sFor_ap, eLc_ap, wipe_nil, wipe_cons, tsY_ap, iZ_ap, fzS_ow, fzS_sh, fzS_no, fz_ap, augS_sh, sAug_ap, appS_ow, sApp_ap, ends_nx, ends_ct, ends_bk, ends_rt, ends_ex, opAdd_ii, opSub_ii, opNeg_i, opLe_ii, opLt_ii, opGt_ii, opGe_ii, opLen_l, opLen_t, opIx_l, opIx_t, opCut_l, opCut_t, opTuple_l, opTuple_t, opList_l, opList_t, opMax_ii, opInt_b, opInt_i, opEq_bb, opNe_bb, opEq_ii, opNe_ii, opNe_ss, opEq_ss, opIs_n, opIs_bb, atI_0, atI_1, atI_2, atI_3, eCallB_ap, atomR_i, atomR_b, atomR_n, atomR_s, fit0, fit1, fit2, fit3, fit4, fit5, fit6, fit7, fit8, fit9, fit10, fit11, fit12, fit13, fit14, fit15, fit16, fit17, fit18, fit19, fit20, fit21, fit22, fit23, fit24, fit25, fit26, fit27, fit28, fit29, fit30, fit31, fit32, fit33, fit34, fit35, fit36, fit37, fit38, fit39, fit40, one_1, one_0, one_2, two_2, two_0, two_1, two_3, eM_ap, mtD_l, opIsNot_n, gTl_ap, lnt_sh, lnt_ow, eBl_ap, sPut_ap, putF_t, putR_ap, isOwn_ow, putS_l, putS_ds, putS_di, opDGet_s, opDGet_i, opDIn_s, opDNotIn_s, opRev_l, opRev_t, sPar_ap, parF_2, eGet2_ap, eGet1_ap, getF_t, isDic_d, dgetOr_s, dgetOr_i, eLenSc_ap, sStar_ap, starK1, starK2, starK3, sUpd_ap, eSortSc_ap, forD_ap, oneD_ap, List.getElem?_cons_zero, List.getElem?_cons_succ, List.set_cons_zero, List.set_cons_succ, if_true, if_false, Bool.false_eq_true, List.length_cons, List.length_nil, List.length_map, Bool.true_and, Bool.and_true, Bool.false_and, Bool.and_false, Bool.not_true, Bool.not_false, eq_self, Nat.reduceEqDiff, Nat.reduceAdd, y5, i5, l5, n5, o5, beq_self_eq_true, e, m, opAll_b, opAny_b]

theorem nmsL_len {ns : List Str} {k : Nat} (h3 : ns.length ≤ 3) : ∀ {cs : List Cn}, (∀ c ∈ cs, wfC ns k c) → (nmsL cs).length ≤ 3 * cs.length
  | [], _ => by simp [nmsL]
  | c :: cs, h => by
    have a := nms_ok (h c (by simp))
    have q := len_sub a.1 a.2.2
    have r := nmsL_len h3 fun z hz => h z (List.mem_cons_of_mem _ hz)
    simp only [nmsL, List.length_append, List.length_cons]
    omega
theorem adds_small {ns xs : List Str} (h3 : ns.length ≤ 3) (h : ∀ x ∈ xs, x ∈ ns) : (addsX [] xs).length < 64 := by
  have q := len_sub (m := ns) (nodup_addsX (xs := xs) List.nodup_nil) fun x hx => by
    rw [mem_addsX] at hx
    rcases hx with hx | hx
    · simp at hx
    · exact h x hx
  omega
theorem names_ok {ns : List Str} (h3 : ns.length ≤ 3) : ∀ (k j : Nat) (c : Cn), wfC ns k c → k ≤ j → fr_names_in j [enC c] = .ok (.lst ((nmsC c).map .str)) := fun k => by
  induction k with
  | zero => intro j c h; exact h.elim
  | succ k ih =>
    intro j c h hj
    obtain ⟨j, rfl⟩ : ∃ i, j = i + 1 := ⟨j - 1, by omega⟩
    rw [e_names_in]
    unfold b_names_in
    obtain ⟨⟨y1, y2, y3, y4, y5⟩, ⟨i2, i3, i4, i5⟩, ⟨l3, l4, l5⟩, ⟨n4, n5⟩, o5⟩ := wds
    have inner : ∀ {c : Cn} {ρ : Lo} {x4 : Sl}, wfC ns k c → ∀ {a b d e : Sl}, fr_names_in j [enC c] = .ok (.lst ((nmsC c).map .str)) → forD (iS (eCall (fr_names_in j) (aCons (eV 3) aNil))) (gS 4) tsY (oneD (eV 4)) [4] [a, b, d, .sh (enC c), e] = .ok ((nmsC c).map .str) := fun {c ρ x4} hc {a b d e} hn => by
      simp only [bind_ok, bind_ex, bind_bad, fb_ok, fb_ex, fb_bad, opt_some, opt_none, go_nx, go_bk, go_ct, go_rt, go_ex, go_bad, sq_go, fin_rt, fin_nx, fin_ex, val_sh, bor_sh, bor_ow, eV_ap, eB_ap, eC_ap, b1_ap, b2_ap, thn3_t, thn3_f, b3_ap, tru_bl, tb_ap, tAndB_ap, tOrB_ap, tNotB_ap, eAnd_ap, eOr_ap, eNot_ap, eIf_ap, aNil_ap, aCons_ap, eTup_ap, eLst_ap, eCall_ap, oN_ap, oint_ok, oS_ap, eSl_ap, iS_ap, items_lst, items_tup, iR1_ap, iR2_ap, enD_lst, iE_ap, gS_ap, gNil_ap, gCons_ap, gT_ap, sNx_ap, sBk_ap, sCt_ap, sFz_ap, sSet_ap, sNew_ap, nSl_lst, nSl_tup, nSl_int, nSl_dic, sAsg_ap, sRet_ap, sRetN_ap, sIf_ap, sEx_ap, sFor_ap, eLc_ap, wipe_nil, wipe_cons, tsY_ap, iZ_ap, fzS_ow, fzS_sh, fzS_no, fz_ap, augS_sh, sAug_ap, appS_ow, sApp_ap, ends_nx, ends_ct, ends_bk, ends_rt, ends_ex, opAdd_ii, opSub_ii, opNeg_i, opLe_ii, opLt_ii, opGt_ii, opGe_ii, opLen_l, opLen_t, opIx_l, opIx_t, opCut_l, opCut_t, opTuple_l, opTuple_t, opList_l, opList_t, opMax_ii, opInt_b, opInt_i, opEq_bb, opNe_bb, opEq_ii, opNe_ii, opNe_ss, opEq_ss, opIs_n, opIs_bb, atI_0, atI_1, atI_2, atI_3, eCallB_ap, atomR_i, atomR_b, atomR_n, atomR_s, fit0, fit1, fit2, fit3, fit4, fit5, fit6, fit7, fit8, fit9, fit10, fit11, fit12, fit13, fit14, fit15, fit16, fit17, fit18, fit19, fit20, fit21, fit22, fit23, fit24, fit25, fit26, fit27, fit28, fit29, fit30, fit31, fit32, fit33, fit34, fit35, fit36, fit37, fit38, fit39, fit40, one_1, one_0, one_2, two_2, two_0, two_1, two_3, eM_ap, mtD_l, opIsNot_n, gTl_ap, lnt_sh, lnt_ow, eBl_ap, sPut_ap, putF_t, putR_ap, isOwn_ow, putS_l, putS_ds, putS_di, opDGet_s, opDGet_i, opDIn_s, opDNotIn_s, opRev_l, opRev_t, sPar_ap, parF_2, eGet2_ap, eGet1_ap, getF_t, isDic_d, dgetOr_s, dgetOr_i, eLenSc_ap, sStar_ap, starK1, starK2, starK3, sUpd_ap, eSortSc_ap, forD_ap, oneD_ap, List.getElem?_cons_zero, List.getElem?_cons_succ, List.set_cons_zero, List.set_cons_succ, if_true, if_false, Bool.false_eq_true, List.length_cons, List.length_nil, List.length_map, Bool.true_and, Bool.and_true, Bool.false_and, Bool.and_false, Bool.not_true, Bool.not_false, eq_self, Nat.reduceEqDiff, Nat.reduceAdd, hn]
      rw [lcF_gen fun d => [d]]
      · simp
      · intro d hd
        exact ⟨_, rfl, by simp only [bind_ok, bind_ex, bind_bad, fb_ok, fb_ex, fb_bad, opt_some, opt_none, go_nx, go_bk, go_ct, go_rt, go_ex, go_bad, sq_go, fin_rt, fin_nx, fin_ex, val_sh, bor_sh, bor_ow, eV_ap, eB_ap, eC_ap, b1_ap, b2_ap, thn3_t, thn3_f, b3_ap, tru_bl, tb_ap, tAndB_ap, tOrB_ap, tNotB_ap, eAnd_ap, eOr_ap, eNot_ap, eIf_ap, aNil_ap, aCons_ap, eTup_ap, eLst_ap, eCall_ap, oN_ap, oint_ok, oS_ap, eSl_ap, iS_ap, items_lst, items_tup, iR1_ap, iR2_ap, enD_lst, iE_ap, gS_ap, gNil_ap, gCons_ap, gT_ap, sNx_ap, sBk_ap, sCt_ap, sFz_ap, sSet_ap, sNew_ap, nSl_lst, nSl_tup, nSl_int, nSl_dic, sAsg_ap, sRet_ap, sRetN_ap, sIf_ap, sEx_ap, sFor_ap, eLc_ap, wipe_nil, wipe_cons, tsY_ap, iZ_ap, fzS_ow, fzS_sh, fzS_no, fz_ap, augS_sh, sAug_ap, appS_ow, sApp_ap, ends_nx, ends_ct, ends_bk, ends_rt, ends_ex, opAdd_ii, opSub_ii, opNeg_i, opLe_ii, opLt_ii, opGt_ii, opGe_ii, opLen_l, opLen_t, opIx_l, opIx_t, opCut_l, opCut_t, opTuple_l, opTuple_t, opList_l, opList_t, opMax_ii, opInt_b, opInt_i, opEq_bb, opNe_bb, opEq_ii, opNe_ii, opNe_ss, opEq_ss, opIs_n, opIs_bb, atI_0, atI_1, atI_2, atI_3, eCallB_ap, atomR_i, atomR_b, atomR_n, atomR_s, fit0, fit1, fit2, fit3, fit4, fit5, fit6, fit7, fit8, fit9, fit10, fit11, fit12, fit13, fit14, fit15, fit16, fit17, fit18, fit19, fit20, fit21, fit22, fit23, fit24, fit25, fit26, fit27, fit28, fit29, fit30, fit31, fit32, fit33, fit34, fit35, fit36, fit37, fit38, fit39, fit40, one_1, one_0, one_2, two_2, two_0, two_1, two_3, eM_ap, mtD_l, opIsNot_n, gTl_ap, lnt_sh, lnt_ow, eBl_ap, sPut_ap, putF_t, putR_ap, isOwn_ow, putS_l, putS_ds, putS_di, opDGet_s, opDGet_i, opDIn_s, opDNotIn_s, opRev_l, opRev_t, sPar_ap, parF_2, eGet2_ap, eGet1_ap, getF_t, isDic_d, dgetOr_s, dgetOr_i, eLenSc_ap, sStar_ap, starK1, starK2, starK3, sUpd_ap, eSortSc_ap, forD_ap, oneD_ap, List.getElem?_cons_zero, List.getElem?_cons_succ, List.set_cons_zero, List.set_cons_succ, if_true, if_false, Bool.false_eq_true, List.length_cons, List.length_nil, List.length_map, Bool.true_and, Bool.and_true, Bool.false_and, Bool.and_false, Bool.not_true, Bool.not_false, eq_self, Nat.reduceEqDiff, Nat.reduceAdd]⟩
    have outer : ∀ {cs : List Cn} {a b d x y : Sl}, (∀ c ∈ cs, wfC ns k c) → lcF (gS 3) tsY (forD (iS (eCall (fr_names_in j) (aCons (eV 3) aNil))) (gS 4) tsY (oneD (eV 4)) [4]) [a, b, d, x, y] (cs.map enC) = .ok ((nmsL cs).map .str) := fun {cs a b d x y} hc => by
      rw [lcF_genM enC fun c => (nmsC c).map .str]
      · rw [nmsL_map, List.map_flatMap]
      · intro c hcc
        exact ⟨_, rfl, inner (ρ := []) (x4 := .no) (hc c hcc) (ih j c (hc c hcc) (by omega))⟩
    cases c with
    | yes => simp only [enC, nmsC, bind_ok, bind_ex, bind_bad, fb_ok, fb_ex, fb_bad, opt_some, opt_none, go_nx, go_bk, go_ct, go_rt, go_ex, go_bad, sq_go, fin_rt, fin_nx, fin_ex, val_sh, bor_sh, bor_ow, eV_ap, eB_ap, eC_ap, b1_ap, b2_ap, thn3_t, thn3_f, b3_ap, tru_bl, tb_ap, tAndB_ap, tOrB_ap, tNotB_ap, eAnd_ap, eOr_ap, eNot_ap, eIf_ap, aNil_ap, aCons_ap, eTup_ap, eLst_ap, eCall_ap, oN_ap, oint_ok, oS_ap, eSl_ap, iS_ap, items_lst, items_tup, iR1_ap, iR2_ap, enD_lst, iE_ap, gS_ap, gNil_ap, gCons_ap, gT_ap, sNx_ap, sBk_ap, sCt_ap, sFz_ap, sSet_ap, sNew_ap, nSl_lst, nSl_tup, nSl_int, nSl_dic, sAsg_ap, sRet_ap, sRetN_ap, sIf_ap, sEx_ap, sFor_ap, eLc_ap, wipe_nil, wipe_cons, tsY_ap, iZ_ap, fzS_ow, fzS_sh, fzS_no, fz_ap, augS_sh, sAug_ap, appS_ow, sApp_ap, ends_nx, ends_ct, ends_bk, ends_rt, ends_ex, opAdd_ii, opSub_ii, opNeg_i, opLe_ii, opLt_ii, opGt_ii, opGe_ii, opLen_l, opLen_t, opIx_l, opIx_t, opCut_l, opCut_t, opTuple_l, opTuple_t, opList_l, opList_t, opMax_ii, opInt_b, opInt_i, opEq_bb, opNe_bb, opEq_ii, opNe_ii, opNe_ss, opEq_ss, opIs_n, opIs_bb, atI_0, atI_1, atI_2, atI_3, eCallB_ap, atomR_i, atomR_b, atomR_n, atomR_s, fit0, fit1, fit2, fit3, fit4, fit5, fit6, fit7, fit8, fit9, fit10, fit11, fit12, fit13, fit14, fit15, fit16, fit17, fit18, fit19, fit20, fit21, fit22, fit23, fit24, fit25, fit26, fit27, fit28, fit29, fit30, fit31, fit32, fit33, fit34, fit35, fit36, fit37, fit38, fit39, fit40, one_1, one_0, one_2, two_2, two_0, two_1, two_3, eM_ap, mtD_l, opIsNot_n, gTl_ap, lnt_sh, lnt_ow, eBl_ap, sPut_ap, putF_t, putR_ap, isOwn_ow, putS_l, putS_ds, putS_di, opDGet_s, opDGet_i, opDIn_s, opDNotIn_s, opRev_l, opRev_t, sPar_ap, parF_2, eGet2_ap, eGet1_ap, getF_t, isDic_d, dgetOr_s, dgetOr_i, eLenSc_ap, sStar_ap, starK1, starK2, starK3, sUpd_ap, eSortSc_ap, forD_ap, oneD_ap, List.getElem?_cons_zero, List.getElem?_cons_succ, List.set_cons_zero, List.set_cons_succ, if_true, if_false, Bool.false_eq_true, List.length_cons, List.length_nil, List.length_map, Bool.true_and, Bool.and_true, Bool.false_and, Bool.and_false, Bool.not_true, Bool.not_false, eq_self, Nat.reduceEqDiff, Nat.reduceAdd, beq_self_eq_true, List.map_nil]
    | is n v => simp only [enC, nmsC, bind_ok, bind_ex, bind_bad, fb_ok, fb_ex, fb_bad, opt_some, opt_none, go_nx, go_bk, go_ct, go_rt, go_ex, go_bad, sq_go, fin_rt, fin_nx, fin_ex, val_sh, bor_sh, bor_ow, eV_ap, eB_ap, eC_ap, b1_ap, b2_ap, thn3_t, thn3_f, b3_ap, tru_bl, tb_ap, tAndB_ap, tOrB_ap, tNotB_ap, eAnd_ap, eOr_ap, eNot_ap, eIf_ap, aNil_ap, aCons_ap, eTup_ap, eLst_ap, eCall_ap, oN_ap, oint_ok, oS_ap, eSl_ap, iS_ap, items_lst, items_tup, iR1_ap, iR2_ap, enD_lst, iE_ap, gS_ap, gNil_ap, gCons_ap, gT_ap, sNx_ap, sBk_ap, sCt_ap, sFz_ap, sSet_ap, sNew_ap, nSl_lst, nSl_tup, nSl_int, nSl_dic, sAsg_ap, sRet_ap, sRetN_ap, sIf_ap, sEx_ap, sFor_ap, eLc_ap, wipe_nil, wipe_cons, tsY_ap, iZ_ap, fzS_ow, fzS_sh, fzS_no, fz_ap, augS_sh, sAug_ap, appS_ow, sApp_ap, ends_nx, ends_ct, ends_bk, ends_rt, ends_ex, opAdd_ii, opSub_ii, opNeg_i, opLe_ii, opLt_ii, opGt_ii, opGe_ii, opLen_l, opLen_t, opIx_l, opIx_t, opCut_l, opCut_t, opTuple_l, opTuple_t, opList_l, opList_t, opMax_ii, opInt_b, opInt_i, opEq_bb, opNe_bb, opEq_ii, opNe_ii, opNe_ss, opEq_ss, opIs_n, opIs_bb, atI_0, atI_1, atI_2, atI_3, eCallB_ap, atomR_i, atomR_b, atomR_n, atomR_s, fit0, fit1, fit2, fit3, fit4, fit5, fit6, fit7, fit8, fit9, fit10, fit11, fit12, fit13, fit14, fit15, fit16, fit17, fit18, fit19, fit20, fit21, fit22, fit23, fit24, fit25, fit26, fit27, fit28, fit29, fit30, fit31, fit32, fit33, fit34, fit35, fit36, fit37, fit38, fit39, fit40, one_1, one_0, one_2, two_2, two_0, two_1, two_3, eM_ap, mtD_l, opIsNot_n, gTl_ap, lnt_sh, lnt_ow, eBl_ap, sPut_ap, putF_t, putR_ap, isOwn_ow, putS_l, putS_ds, putS_di, opDGet_s, opDGet_i, opDIn_s, opDNotIn_s, opRev_l, opRev_t, sPar_ap, parF_2, eGet2_ap, eGet1_ap, getF_t, isDic_d, dgetOr_s, dgetOr_i, eLenSc_ap, sStar_ap, starK1, starK2, starK3, sUpd_ap, eSortSc_ap, forD_ap, oneD_ap, List.getElem?_cons_zero, List.getElem?_cons_succ, List.set_cons_zero, List.set_cons_succ, if_true, if_false, Bool.false_eq_true, List.length_cons, List.length_nil, List.length_map, Bool.true_and, Bool.and_true, Bool.false_and, Bool.and_false, Bool.not_true, Bool.not_false, eq_self, Nat.reduceEqDiff, Nat.reduceAdd, y1, beq_self_eq_true, List.map_cons, List.map_nil]
    | like a b =>
      have e := opSortSet_ok (xs := [a, b]) (by simp) (adds_small h3 fun x hx => by
        simp only [List.mem_cons, List.not_mem_nil, or_false] at hx
        rcases hx with rfl | rfl
        · exact h.1
        · exact h.2)
      rw [List.map_cons, List.map_cons, List.map_nil] at e
      simp only [enC, nmsC, bind_ok, bind_ex, bind_bad, fb_ok, fb_ex, fb_bad, opt_some, opt_none, go_nx, go_bk, go_ct, go_rt, go_ex, go_bad, sq_go, fin_rt, fin_nx, fin_ex, val_sh, bor_sh, bor_ow, eV_ap, eB_ap, eC_ap, b1_ap, b2_ap, thn3_t, thn3_f, b3_ap, tru_bl, tb_ap, tAndB_ap, tOrB_ap, tNotB_ap, eAnd_ap, eOr_ap, eNot_ap, eIf_ap, aNil_ap, aCons_ap, eTup_ap, eLst_ap, eCall_ap, oN_ap, oint_ok, oS_ap, eSl_ap, iS_ap, items_lst, items_tup, iR1_ap, iR2_ap, enD_lst, iE_ap, gS_ap, gNil_ap, gCons_ap, gT_ap, sNx_ap, sBk_ap, sCt_ap, sFz_ap, sSet_ap, sNew_ap, nSl_lst, nSl_tup, nSl_int, nSl_dic, sAsg_ap, sRet_ap, sRetN_ap, sIf_ap, sEx_ap, sFor_ap, eLc_ap, wipe_nil, wipe_cons, tsY_ap, iZ_ap, fzS_ow, fzS_sh, fzS_no, fz_ap, augS_sh, sAug_ap, appS_ow, sApp_ap, ends_nx, ends_ct, ends_bk, ends_rt, ends_ex, opAdd_ii, opSub_ii, opNeg_i, opLe_ii, opLt_ii, opGt_ii, opGe_ii, opLen_l, opLen_t, opIx_l, opIx_t, opCut_l, opCut_t, opTuple_l, opTuple_t, opList_l, opList_t, opMax_ii, opInt_b, opInt_i, opEq_bb, opNe_bb, opEq_ii, opNe_ii, opNe_ss, opEq_ss, opIs_n, opIs_bb, atI_0, atI_1, atI_2, atI_3, eCallB_ap, atomR_i, atomR_b, atomR_n, atomR_s, fit0, fit1, fit2, fit3, fit4, fit5, fit6, fit7, fit8, fit9, fit10, fit11, fit12, fit13, fit14, fit15, fit16, fit17, fit18, fit19, fit20, fit21, fit22, fit23, fit24, fit25, fit26, fit27, fit28, fit29, fit30, fit31, fit32, fit33, fit34, fit35, fit36, fit37, fit38, fit39, fit40, one_1, one_0, one_2, two_2, two_0, two_1, two_3, eM_ap, mtD_l, opIsNot_n, gTl_ap, lnt_sh, lnt_ow, eBl_ap, sPut_ap, putF_t, putR_ap, isOwn_ow, putS_l, putS_ds, putS_di, opDGet_s, opDGet_i, opDIn_s, opDNotIn_s, opRev_l, opRev_t, sPar_ap, parF_2, eGet2_ap, eGet1_ap, getF_t, isDic_d, dgetOr_s, dgetOr_i, eLenSc_ap, sStar_ap, starK1, starK2, starK3, sUpd_ap, eSortSc_ap, forD_ap, oneD_ap, List.getElem?_cons_zero, List.getElem?_cons_succ, List.set_cons_zero, List.set_cons_succ, if_true, if_false, Bool.false_eq_true, List.length_cons, List.length_nil, List.length_map, Bool.true_and, Bool.and_true, Bool.false_and, Bool.and_false, Bool.not_true, Bool.not_false, eq_self, Nat.reduceEqDiff, Nat.reduceAdd, y2, i2, beq_self_eq_true, e]
    | not c => simp only [enC, nmsC, bind_ok, bind_ex, bind_bad, fb_ok, fb_ex, fb_bad, opt_some, opt_none, go_nx, go_bk, go_ct, go_rt, go_ex, go_bad, sq_go, fin_rt, fin_nx, fin_ex, val_sh, bor_sh, bor_ow, eV_ap, eB_ap, eC_ap, b1_ap, b2_ap, thn3_t, thn3_f, b3_ap, tru_bl, tb_ap, tAndB_ap, tOrB_ap, tNotB_ap, eAnd_ap, eOr_ap, eNot_ap, eIf_ap, aNil_ap, aCons_ap, eTup_ap, eLst_ap, eCall_ap, oN_ap, oint_ok, oS_ap, eSl_ap, iS_ap, items_lst, items_tup, iR1_ap, iR2_ap, enD_lst, iE_ap, gS_ap, gNil_ap, gCons_ap, gT_ap, sNx_ap, sBk_ap, sCt_ap, sFz_ap, sSet_ap, sNew_ap, nSl_lst, nSl_tup, nSl_int, nSl_dic, sAsg_ap, sRet_ap, sRetN_ap, sIf_ap, sEx_ap, sFor_ap, eLc_ap, wipe_nil, wipe_cons, tsY_ap, iZ_ap, fzS_ow, fzS_sh, fzS_no, fz_ap, augS_sh, sAug_ap, appS_ow, sApp_ap, ends_nx, ends_ct, ends_bk, ends_rt, ends_ex, opAdd_ii, opSub_ii, opNeg_i, opLe_ii, opLt_ii, opGt_ii, opGe_ii, opLen_l, opLen_t, opIx_l, opIx_t, opCut_l, opCut_t, opTuple_l, opTuple_t, opList_l, opList_t, opMax_ii, opInt_b, opInt_i, opEq_bb, opNe_bb, opEq_ii, opNe_ii, opNe_ss, opEq_ss, opIs_n, opIs_bb, atI_0, atI_1, atI_2, atI_3, eCallB_ap, atomR_i, atomR_b, atomR_n, atomR_s, fit0, fit1, fit2, fit3, fit4, fit5, fit6, fit7, fit8, fit9, fit10, fit11, fit12, fit13, fit14, fit15, fit16, fit17, fit18, fit19, fit20, fit21, fit22, fit23, fit24, fit25, fit26, fit27, fit28, fit29, fit30, fit31, fit32, fit33, fit34, fit35, fit36, fit37, fit38, fit39, fit40, one_1, one_0, one_2, two_2, two_0, two_1, two_3, eM_ap, mtD_l, opIsNot_n, gTl_ap, lnt_sh, lnt_ow, eBl_ap, sPut_ap, putF_t, putR_ap, isOwn_ow, putS_l, putS_ds, putS_di, opDGet_s, opDGet_i, opDIn_s, opDNotIn_s, opRev_l, opRev_t, sPar_ap, parF_2, eGet2_ap, eGet1_ap, getF_t, isDic_d, dgetOr_s, dgetOr_i, eLenSc_ap, sStar_ap, starK1, starK2, starK3, sUpd_ap, eSortSc_ap, forD_ap, oneD_ap, List.getElem?_cons_zero, List.getElem?_cons_succ, List.set_cons_zero, List.set_cons_succ, if_true, if_false, Bool.false_eq_true, List.length_cons, List.length_nil, List.length_map, Bool.true_and, Bool.and_true, Bool.false_and, Bool.and_false, Bool.not_true, Bool.not_false, eq_self, Nat.reduceEqDiff, Nat.reduceAdd, y3, i3, l3, beq_self_eq_true, ih j c h (by omega)]
    | all cs =>
      have q := nmsL_len h3 h.2
      have h1 := h.1
      have e := sortSet_ok (xs := nmsL cs) (by omega) (adds_small h3 fun x hx => by
        rw [nmsL_map, List.mem_flatMap] at hx
        obtain ⟨c, hc, hx⟩ := hx
        exact (nms_ok (h.2 c hc)).2.2 x hx)
      simp only [enC, nmsC, enL_map, bind_ok, bind_ex, bind_bad, fb_ok, fb_ex, fb_bad, opt_some, opt_none, go_nx, go_bk, go_ct, go_rt, go_ex, go_bad, sq_go, fin_rt, fin_nx, fin_ex, val_sh, bor_sh, bor_ow, eV_ap, eB_ap, eC_ap, b1_ap, b2_ap, thn3_t, thn3_f, b3_ap, tru_bl, tb_ap, tAndB_ap, tOrB_ap, tNotB_ap, eAnd_ap, eOr_ap, eNot_ap, eIf_ap, aNil_ap, aCons_ap, eTup_ap, eLst_ap, eCall_ap, oN_ap, oint_ok, oS_ap, eSl_ap, iS_ap, items_lst, items_tup, iR1_ap, iR2_ap, enD_lst, iE_ap, gS_ap, gNil_ap, gCons_ap, gT_ap, sNx_ap, sBk_ap, sCt_ap, sFz_ap, sSet_ap, sNew_ap, nSl_lst, nSl_tup, nSl_int, nSl_dic, sAsg_ap, sRet_ap, sRetN_ap, sIf_ap, sEx_ap, sFor_ap, eLc_ap, wipe_nil, wipe_cons, tsY_ap, iZ_ap, fzS_ow, fzS_sh, fzS_no, fz_ap, augS_sh, sAug_ap, appS_ow, sApp_ap, ends_nx, ends_ct, ends_bk, ends_rt, ends_ex, opAdd_ii, opSub_ii, opNeg_i, opLe_ii, opLt_ii, opGt_ii, opGe_ii, opLen_l, opLen_t, opIx_l, opIx_t, opCut_l, opCut_t, opTuple_l, opTuple_t, opList_l, opList_t, opMax_ii, opInt_b, opInt_i, opEq_bb, opNe_bb, opEq_ii, opNe_ii, opNe_ss, opEq_ss, opIs_n, opIs_bb, atI_0, atI_1, atI_2, atI_3, eCallB_ap, atomR_i, atomR_b, atomR_n, atomR_s, fit0, fit1, fit2, fit3, fit4, fit5, fit6, fit7, fit8, fit9, fit10, fit11, fit12, fit13, fit14, fit15, fit16, fit17, fit18, fit19, fit20, fit21, fit22, fit23, fit24, fit25, fit26, fit27, fit28, fit29, fit30, fit31, fit32, fit33, fit34, fit35, fit36, fit37, fit38, fit39, fit40, one_1, one_0, one_2, two_2, two_0, two_1, two_3, eM_ap, mtD_l, opIsNot_n, gTl_ap, lnt_sh, lnt_ow, eBl_ap, sPut_ap, putF_t, putR_ap, isOwn_ow, putS_l, putS_ds, putS_di, opDGet_s, opDGet_i, opDIn_s, opDNotIn_s, opRev_l, opRev_t, sPar_ap, parF_2, eGet2_ap, eGet1_ap, getF_t, isDic_d, dgetOr_s, dgetOr_i, eLenSc_ap, sStar_ap, starK1, starK2, starK3, sUpd_ap, eSortSc_ap, forD_ap, oneD_ap, List.getElem?_cons_zero, List.getElem?_cons_succ, List.set_cons_zero, List.set_cons_succ, if_true, if_false, Bool.false_eq_true, List.length_cons, List.length_nil, List.length_map, Bool.true_and, Bool.and_true, Bool.false_and, Bool.and_false, Bool.not_true, Bool.not_false, eq_self, Nat.reduceEqDiff, Nat.reduceAdd, y4, i4, l4, n4, beq_self_eq_true]
      rw [outer h.2]
      simp only [bind_ok, bind_ex, bind_bad, fb_ok, fb_ex, fb_bad, opt_some, opt_none, go_nx, go_bk, go_ct, go_rt, go_ex, go_bad, sq_go, fin_rt, fin_nx, fin_ex, val_sh, bor_sh, bor_ow, eV_ap, eB_ap, eC_ap, b1_ap, b2_ap, thn3_t, thn3_f, b3_ap, tru_bl, tb_ap, tAndB_ap, tOrB_ap, tNotB_ap, eAnd_ap, eOr_ap, eNot_ap, eIf_ap, aNil_ap, aCons_ap, eTup_ap, eLst_ap, eCall_ap, oN_ap, oint_ok, oS_ap, eSl_ap, iS_ap, items_lst, items_tup, iR1_ap, iR2_ap, enD_lst, iE_ap, gS_ap, gNil_ap, gCons_ap, gT_ap, sNx_ap, sBk_ap, sCt_ap, sFz_ap, sSet_ap, sNew_ap, nSl_lst, nSl_tup, nSl_int, nSl_dic, sAsg_ap, sRet_ap, sRetN_ap, sIf_ap, sEx_ap, sFor_ap, eLc_ap, wipe_nil, wipe_cons, tsY_ap, iZ_ap, fzS_ow, fzS_sh, fzS_no, fz_ap, augS_sh, sAug_ap, appS_ow, sApp_ap, ends_nx, ends_ct, ends_bk, ends_rt, ends_ex, opAdd_ii, opSub_ii, opNeg_i, opLe_ii, opLt_ii, opGt_ii, opGe_ii, opLen_l, opLen_t, opIx_l, opIx_t, opCut_l, opCut_t, opTuple_l, opTuple_t, opList_l, opList_t, opMax_ii, opInt_b, opInt_i, opEq_bb, opNe_bb, opEq_ii, opNe_ii, opNe_ss, opEq_ss, opIs_n, opIs_bb, atI_0, atI_1, atI_2, atI_3, eCallB_ap, atomR_i, atomR_b, atomR_n, atomR_s, fit0, fit1, fit2, fit3, fit4, fit5, fit6, fit7, fit8, fit9, fit10, fit11, fit12, fit13, fit14, fit15, fit16, fit17, fit18, fit19, fit20, fit21, fit22, fit23, fit24, fit25, fit26, fit27, fit28, fit29, fit30, fit31, fit32, fit33, fit34, fit35, fit36, fit37, fit38, fit39, fit40, one_1, one_0, one_2, two_2, two_0, two_1, two_3, eM_ap, mtD_l, opIsNot_n, gTl_ap, lnt_sh, lnt_ow, eBl_ap, sPut_ap, putF_t, putR_ap, isOwn_ow, putS_l, putS_ds, putS_di, opDGet_s, opDGet_i, opDIn_s, opDNotIn_s, opRev_l, opRev_t, sPar_ap, parF_2, eGet2_ap, eGet1_ap, getF_t, isDic_d, dgetOr_s, dgetOr_i, eLenSc_ap, sStar_ap, starK1, starK2, starK3, sUpd_ap, eSortSc_ap, forD_ap, oneD_ap, List.getElem?_cons_zero, List.getElem?_cons_succ, List.set_cons_zero, List.set_cons_succ, if_true, if_false, Bool.false_eq_true, List.length_cons, List.length_nil, List.length_map, Bool.true_and, Bool.and_true, Bool.false_and, Bool.and_false, Bool.not_true, Bool.not_false, eq_self, Nat.reduceEqDiff, Nat.reduceAdd, e]
    | any cs =>
      have q := nmsL_len h3 h.2
      have h1 := h.1
      have e := sortSet_ok (xs := nmsL cs) (by omega) (adds_small h3 fun x hx => by
        rw [nmsL_map, List.mem_flatMap] at hx
        obtain ⟨c, hc, hx⟩ := hx
        exact (nms_ok (h.2 c hc)).2.2 x hx)
      simp only [enC, nmsC, enL_map, bind_ok, bind_ex, bind_bad, fb_ok, fb_ex, fb_bad, opt_some, opt_none, go_nx, go_bk, go_ct, go_rt, go_ex, go_bad, sq_go, fin_rt, fin_nx, fin_ex, val_sh, bor_sh, bor_ow, eV_ap, eB_ap, eC_ap, b1_ap, b2_ap, thn3_t, thn3_f, b3_ap, tru_bl, tb_ap, tAndB_ap, tOrB_ap, tNotB_ap, eAnd_ap, eOr_ap, eNot_ap, eIf_ap, aNil_ap, aCons_ap, eTup_ap, eLst_ap, eCall_ap, oN_ap, oint_ok, oS_ap, eSl_ap, iS_ap, items_lst, items_tup, iR1_ap, iR2_ap, enD_lst, iE_ap, gS_ap, gNil_ap, gCons_ap, gT_ap, sNx_ap, sBk_ap, sCt_ap, sFz_ap, sSet_ap, sNew_ap, nSl_lst, nSl_tup, nSl_int, nSl_dic, sAsg_ap, sRet_ap, sRetN_ap, sIf_ap, sEx_ap, sFor_ap, eLc_ap, wipe_nil, wipe_cons, tsY_ap, iZ_ap, fzS_ow, fzS_sh, fzS_no, fz_ap, augS_sh, sAug_ap, appS_ow, sApp_ap, ends_nx, ends_ct, ends_bk, ends_rt, ends_ex, opAdd_ii, opSub_ii, opNeg_i, opLe_ii, opLt_ii, opGt_ii, opGe_ii, opLen_l, opLen_t, opIx_l, opIx_t, opCut_l, opCut_t, opTuple_l, opTuple_t, opList_l, opList_t, opMax_ii, opInt_b, opInt_i, opEq_bb, opNe_bb, opEq_ii, opNe_ii, opNe_ss, opEq_ss, opIs_n, opIs_bb, atI_0, atI_1, atI_2, atI_3, eCallB_ap, atomR_i, atomR_b, atomR_n, atomR_s, fit0, fit1, fit2, fit3, fit4, fit5, fit6, fit7, fit8, fit9, fit10, fit11, fit12, fit13, fit14, fit15, fit16, fit17, fit18, fit19, fit20, fit21, fit22, fit23, fit24, fit25, fit26, fit27, fit28, fit29, fit30, fit31, fit32, fit33, fit34, fit35, fit36, fit37, fit38, fit39, fit40, one_1, one_0, one_2, two_2, two_0, two_1, two_3, eM_ap, mtD_l, opIsNot_n, gTl_ap, lnt_sh, lnt_ow, eBl_ap, sPut_ap, putF_t, putR_ap, isOwn_ow, putS_l, putS_ds, putS_di, opDGet_s, opDGet_i, opDIn_s, opDNotIn_s, opRev_l, opRev_t, sPar_ap, parF_2, eGet2_ap, eGet1_ap, getF_t, isDic_d, dgetOr_s, dgetOr_i, eLenSc_ap, sStar_ap, starK1, starK2, starK3, sUpd_ap, eSortSc_ap, forD_ap, oneD_ap, List.getElem?_cons_zero, List.getElem?_cons_succ, List.set_cons_zero, List.set_cons_succ, if_true, if_false, Bool.false_eq_true, List.length_cons, List.length_nil, List.length_map, Bool.true_and, Bool.and_true, Bool.false_and, Bool.and_false, Bool.not_true, Bool.not_false, eq_self, Nat.reduceEqDiff, Nat.reduceAdd, y5, i5, l5, n5, o5, beq_self_eq_true]
      rw [outer h.2]
      simp only [bind_ok, bind_ex, bind_bad, fb_ok, fb_ex, fb_bad, opt_some, opt_none, go_nx, go_bk, go_ct, go_rt, go_ex, go_bad, sq_go, fin_rt, fin_nx, fin_ex, val_sh, bor_sh, bor_ow, eV_ap, eB_ap, eC_ap, b1_ap, b2_ap, thn3_t, thn3_f, b3_ap, tru_bl, tb_ap, tAndB_ap, tOrB_ap, tNotB_ap, eAnd_ap, eOr_ap, eNot_ap, eIf_ap, aNil_ap, aCons_ap, eTup_ap, eLst_ap, eCall_ap, oN_ap, oint_ok, oS_ap, eSl_ap, iS_ap, items_lst, items_tup, iR1_ap, iR2_ap, enD_lst, iE_ap, gS_ap, gNil_ap, gCons_ap, gT_ap, sNx_ap, sBk_ap, sCt_ap, sFz_ap, sSet_ap, sNew_ap, nSl_lst, nSl_tup, nSl_int, nSl_dic, sAsg_ap, sRet_ap, sRetN_ap, sIf_ap, sEx_ap, sFor_ap, eLc_ap, wipe_nil, wipe_cons, tsY_ap, iZ_ap, fzS_ow, fzS_sh, fzS_no, fz_ap, augS_sh, sAug_ap, appS_ow, sApp_ap, ends_nx, ends_ct, ends_bk, ends_rt, ends_ex, opAdd_ii, opSub_ii, opNeg_i, opLe_ii, opLt_ii, opGt_ii, opGe_ii, opLen_l, opLen_t, opIx_l, opIx_t, opCut_l, opCut_t, opTuple_l, opTuple_t, opList_l, opList_t, opMax_ii, opInt_b, opInt_i, opEq_bb, opNe_bb, opEq_ii, opNe_ii, opNe_ss, opEq_ss, opIs_n, opIs_bb, atI_0, atI_1, atI_2, atI_3, eCallB_ap, atomR_i, atomR_b, atomR_n, atomR_s, fit0, fit1, fit2, fit3, fit4, fit5, fit6, fit7, fit8, fit9, fit10, fit11, fit12, fit13, fit14, fit15, fit16, fit17, fit18, fit19, fit20, fit21, fit22, fit23, fit24, fit25, fit26, fit27, fit28, fit29, fit30, fit31, fit32, fit33, fit34, fit35, fit36, fit37, fit38, fit39, fit40, one_1, one_0, one_2, two_2, two_0, two_1, two_3, eM_ap, mtD_l, opIsNot_n, gTl_ap, lnt_sh, lnt_ow, eBl_ap, sPut_ap, putF_t, putR_ap, isOwn_ow, putS_l, putS_ds, putS_di, opDGet_s, opDGet_i, opDIn_s, opDNotIn_s, opRev_l, opRev_t, sPar_ap, parF_2, eGet2_ap, eGet1_ap, getF_t, isDic_d, dgetOr_s, dgetOr_i, eLenSc_ap, sStar_ap, starK1, starK2, starK3, sUpd_ap, eSortSc_ap, forD_ap, oneD_ap, List.getElem?_cons_zero, List.getElem?_cons_succ, List.set_cons_zero, List.set_cons_succ, if_true, if_false, Bool.false_eq_true, List.length_cons, List.length_nil, List.length_map, Bool.true_and, Bool.and_true, Bool.false_and, Bool.and_false, Bool.not_true, Bool.not_false, eq_self, Nat.reduceEqDiff, Nat.reduceAdd, e]

theorem win : opIn (.str "is") (.tup [.str "is", .str "like"]) = some (.bl true) ∧ opIn (.str "like") (.tup [.str "is", .str "like"]) = some (.bl true) ∧ opIn (.str "not") (.tup [.str "is", .str "like"]) = some (.bl false) ∧ opIn (.str "and") (.tup [.str "is", .str "like"]) = some (.bl false) ∧ opIn (.str "or") (.tup [.str "is", .str "like"]) = some (.bl false) := by
  have h : ∀ x : Str, PyData.strOk x = true → opIn (.str x) (.tup [.str "is", .str "like"]) = some (.bl ((["is", "like"] : List Str).any fun z => x == z)) := fun x hx => in_lits hx ["is", "like"] (by decide +kernel)
  refine ⟨?_, ?_, ?_, ?_, ?_⟩ <;> (rw [h _ (by decide +kernel)]; congr 2)
theorem law_names_ok {ns : List Str} (h3 : ns.length ≤ 3) : ∀ (k j : Nat) (c : Cn), wfC ns k c → k ≤ j → ∃ es, fr_law_names j [enC c] = .ok (.dic (nmD es)) ∧ es.Nodup ∧ ∀ x, x ∈ es ↔ x ∈ nmsC c := fun k => by
  induction k with
  | zero => intro j c h; exact h.elim
  | succ k ih =>
    intro j c h hj
    obtain ⟨j, rfl⟩ : ∃ i, j = i + 1 := ⟨j - 1, by omega⟩
    rw [e_law_names]
    unfold b_law_names
    obtain ⟨⟨y1, y2, y3, y4, y5⟩, ⟨i2, i3, i4, i5⟩, ⟨l3, l4, l5⟩, ⟨n4, n5⟩, o5⟩ := wds
    obtain ⟨w1, w2, w3, w4, w5⟩ := win
    have few : ∀ {c : Cn} {es : List Str}, wfC ns k c → es.Nodup → (∀ x, x ∈ es ↔ x ∈ nmsC c) → es.length ≤ 3 := fun {c es} hc hd hm => by
      have q := len_sub (m := ns) hd fun x hx => (nms_ok hc).2.2 x ((hm x).mp hx)
      omega
    -- the loop over the parts
    have loop : ∀ (cs : List Cn) (w : D) (x1 x2 : Sl), (∀ c ∈ cs, wfC ns k c) → ∃ es, (((forL (gS 4) (sUpd 3 (eCall (fr_law_names j) (aCons (eV 4) aNil))) (cs.map enC) [.sh w, x1, x2, .ow (.dic (nmD [])), .no]).go (sFz 3 (sRet (eV 3)))).fin = .ok (.dic (nmD es))) ∧ es.Nodup ∧ ∀ x, x ∈ es ↔ ∃ c ∈ cs, x ∈ nmsC c := fun cs w x1 x2 hcs => by
      generalize hg : (sFz 3 (sRet (eV 3)) : Lo → Fl) = g
      refine (forL_post (Post := fun r => ∃ es, (r.go g).fin = .ok (.dic (nmD es)) ∧ es.Nodup ∧ ∀ x, x ∈ es ↔ ∃ c ∈ cs, x ∈ nmsC c)
        (fun r ρ => ∃ (p t : List Cn) (es : List Str) (x4 : Sl), r = t.map enC ∧ cs = p ++ t ∧ es.Nodup ∧ (∀ x, x ∈ es ↔ ∃ c ∈ p, x ∈ nmsC c) ∧ ρ = [.sh w, x1, x2, .ow (.dic (nmD es)), x4])
        (fun d r ρ q => ?_) (fun ρ q => ?_) ⟨[], cs, [], .no, rfl, rfl, List.nodup_nil, fun x => by simp, rfl⟩ :)
      · obtain ⟨p, t, es, x4, h1, h2, h4, h5, rfl⟩ := q
        cases t with
        | nil => cases h1
        | cons c t =>
          cases h1
          refine ⟨_, rfl, ?_⟩
          have hc : wfC ns k c := hcs c (by rw [h2]; simp)
          obtain ⟨xs, a1, a2, a3⟩ := ih j c hc (by omega)
          have f1 := few hc a2 a3
          have f2 : es.length ≤ 3 := by
            have q := len_sub (m := ns) h4 fun x hx => by
              obtain ⟨c, hc, hx⟩ := (h5 x).mp hx
              exact (nms_ok (hcs c (by rw [h2]; simp [hc]))).2.2 x hx
            omega
          have u := updK_ok (i := 3) (ρ := [.sh w, x1, x2, .ow (.dic (nmD es)), .sh (enC c)]) (es := nmD es) (es2 := nmD xs) (by unfold nmD; rw [List.length_map, List.length_map]; omega)
          simp only [bind_ok, bind_ex, bind_bad, fb_ok, fb_ex, fb_bad, opt_some, opt_none, go_nx, go_bk, go_ct, go_rt, go_ex, go_bad, sq_go, fin_rt, fin_nx, fin_ex, val_sh, bor_sh, bor_ow, eV_ap, eB_ap, eC_ap, b1_ap, b2_ap, thn3_t, thn3_f, b3_ap, tru_bl, tb_ap, tAndB_ap, tOrB_ap, tNotB_ap, eAnd_ap, eOr_ap, eNot_ap, eIf_ap, aNil_ap, aCons_ap, eTup_ap, eLst_ap, eCall_ap, oN_ap, oint_ok, oS_ap, eSl_ap, iS_ap, items_lst, items_tup, iR1_ap, iR2_ap, enD_lst, iE_ap, gS_ap, gNil_ap, gCons_ap, gT_ap, sNx_ap, sBk_ap, sCt_ap, sFz_ap, sSet_ap, sNew_ap, nSl_lst, nSl_tup, nSl_int, nSl_dic, sAsg_ap, sRet_ap, sRetN_ap, sIf_ap, sEx_ap, sFor_ap, eLc_ap, wipe_nil, wipe_cons, tsY_ap, iZ_ap, fzS_ow, fzS_sh, fzS_no, fz_ap, augS_sh, sAug_ap, appS_ow, sApp_ap, ends_nx, ends_ct, ends_bk, ends_rt, ends_ex, opAdd_ii, opSub_ii, opNeg_i, opLe_ii, opLt_ii, opGt_ii, opGe_ii, opLen_l, opLen_t, opIx_l, opIx_t, opCut_l, opCut_t, opTuple_l, opTuple_t, opList_l, opList_t, opMax_ii, opInt_b, opInt_i, opEq_bb, opNe_bb, opEq_ii, opNe_ii, opNe_ss, opEq_ss, opIs_n, opIs_bb, atI_0, atI_1, atI_2, atI_3, eCallB_ap, atomR_i, atomR_b, atomR_n, atomR_s, fit0, fit1, fit2, fit3, fit4, fit5, fit6, fit7, fit8, fit9, fit10, fit11, fit12, fit13, fit14, fit15, fit16, fit17, fit18, fit19, fit20, fit21, fit22, fit23, fit24, fit25, fit26, fit27, fit28, fit29, fit30, fit31, fit32, fit33, fit34, fit35, fit36, fit37, fit38, fit39, fit40, one_1, one_0, one_2, two_2, two_0, two_1, two_3, eM_ap, mtD_l, opIsNot_n, gTl_ap, lnt_sh, lnt_ow, eBl_ap, sPut_ap, putF_t, putR_ap, isOwn_ow, putS_l, putS_ds, putS_di, opDGet_s, opDGet_i, opDIn_s, opDNotIn_s, opRev_l, opRev_t, sPar_ap, parF_2, eGet2_ap, eGet1_ap, getF_t, isDic_d, dgetOr_s, dgetOr_i, eLenSc_ap, sStar_ap, starK1, starK2, starK3, sUpd_ap, eSortSc_ap, forD_ap, oneD_ap, List.getElem?_cons_zero, List.getElem?_cons_succ, List.set_cons_zero, List.set_cons_succ, if_true, if_false, Bool.false_eq_true, List.length_cons, List.length_nil, List.length_map, Bool.true_and, Bool.and_true, Bool.false_and, Bool.and_false, Bool.not_true, Bool.not_false, eq_self, Nat.reduceEqDiff, Nat.reduceAdd, a1]
          rw [u, updD_nm]
          refine ⟨p ++ [c], t, mrg es xs, _, rfl, by rw [h2, List.append_assoc]; rfl, mrg_nodup h4, fun x => ?_, rfl⟩
          rw [mrg_mem, h5, a3]
          constructor
          · rintro (⟨c', hc', hx⟩ | hx)
            · exact ⟨c', by simp [hc'], hx⟩
            · exact ⟨c, by simp, hx⟩
          · rintro ⟨c', hc', hx⟩
            rw [List.mem_append, List.mem_singleton] at hc'
            rcases hc' with hc' | rfl
            · exact .inl ⟨c', hc', hx⟩
            · exact .inr hx
      · obtain ⟨p, t, es, x4, h1, h2, h4, h5, rfl⟩ := q
        cases t with
        | nil =>
          subst hg
          rw [List.append_nil] at h2
          subst h2
          exact ⟨es, by simp only [bind_ok, bind_ex, bind_bad, fb_ok, fb_ex, fb_bad, opt_some, opt_none, go_nx, go_bk, go_ct, go_rt, go_ex, go_bad, sq_go, fin_rt, fin_nx, fin_ex, val_sh, bor_sh, bor_ow, eV_ap, eB_ap, eC_ap, b1_ap, b2_ap, thn3_t, thn3_f, b3_ap, tru_bl, tb_ap, tAndB_ap, tOrB_ap, tNotB_ap, eAnd_ap, eOr_ap, eNot_ap, eIf_ap, aNil_ap, aCons_ap, eTup_ap, eLst_ap, eCall_ap, oN_ap, oint_ok, oS_ap, eSl_ap, iS_ap, items_lst, items_tup, iR1_ap, iR2_ap, enD_lst, iE_ap, gS_ap, gNil_ap, gCons_ap, gT_ap, sNx_ap, sBk_ap, sCt_ap, sFz_ap, sSet_ap, sNew_ap, nSl_lst, nSl_tup, nSl_int, nSl_dic, sAsg_ap, sRet_ap, sRetN_ap, sIf_ap, sEx_ap, sFor_ap, eLc_ap, wipe_nil, wipe_cons, tsY_ap, iZ_ap, fzS_ow, fzS_sh, fzS_no, fz_ap, augS_sh, sAug_ap, appS_ow, sApp_ap, ends_nx, ends_ct, ends_bk, ends_rt, ends_ex, opAdd_ii, opSub_ii, opNeg_i, opLe_ii, opLt_ii, opGt_ii, opGe_ii, opLen_l, opLen_t, opIx_l, opIx_t, opCut_l, opCut_t, opTuple_l, opTuple_t, opList_l, opList_t, opMax_ii, opInt_b, opInt_i, opEq_bb, opNe_bb, opEq_ii, opNe_ii, opNe_ss, opEq_ss, opIs_n, opIs_bb, atI_0, atI_1, atI_2, atI_3, eCallB_ap, atomR_i, atomR_b, atomR_n, atomR_s, fit0, fit1, fit2, fit3, fit4, fit5, fit6, fit7, fit8, fit9, fit10, fit11, fit12, fit13, fit14, fit15, fit16, fit17, fit18, fit19, fit20, fit21, fit22, fit23, fit24, fit25, fit26, fit27, fit28, fit29, fit30, fit31, fit32, fit33, fit34, fit35, fit36, fit37, fit38, fit39, fit40, one_1, one_0, one_2, two_2, two_0, two_1, two_3, eM_ap, mtD_l, opIsNot_n, gTl_ap, lnt_sh, lnt_ow, eBl_ap, sPut_ap, putF_t, putR_ap, isOwn_ow, putS_l, putS_ds, putS_di, opDGet_s, opDGet_i, opDIn_s, opDNotIn_s, opRev_l, opRev_t, sPar_ap, parF_2, eGet2_ap, eGet1_ap, getF_t, isDic_d, dgetOr_s, dgetOr_i, eLenSc_ap, sStar_ap, starK1, starK2, starK3, sUpd_ap, eSortSc_ap, forD_ap, oneD_ap, List.getElem?_cons_zero, List.getElem?_cons_succ, List.set_cons_zero, List.set_cons_succ, if_true, if_false, Bool.false_eq_true, List.length_cons, List.length_nil, List.length_map, Bool.true_and, Bool.and_true, Bool.false_and, Bool.and_false, Bool.not_true, Bool.not_false, eq_self, Nat.reduceEqDiff, Nat.reduceAdd], h4, h5⟩
        | cons => cases h1
    cases c with
    | yes => exact ⟨[], by simp only [enC, bind_ok, bind_ex, bind_bad, fb_ok, fb_ex, fb_bad, opt_some, opt_none, go_nx, go_bk, go_ct, go_rt, go_ex, go_bad, sq_go, fin_rt, fin_nx, fin_ex, val_sh, bor_sh, bor_ow, eV_ap, eB_ap, eC_ap, b1_ap, b2_ap, thn3_t, thn3_f, b3_ap, tru_bl, tb_ap, tAndB_ap, tOrB_ap, tNotB_ap, eAnd_ap, eOr_ap, eNot_ap, eIf_ap, aNil_ap, aCons_ap, eTup_ap, eLst_ap, eCall_ap, oN_ap, oint_ok, oS_ap, eSl_ap, iS_ap, items_lst, items_tup, iR1_ap, iR2_ap, enD_lst, iE_ap, gS_ap, gNil_ap, gCons_ap, gT_ap, sNx_ap, sBk_ap, sCt_ap, sFz_ap, sSet_ap, sNew_ap, nSl_lst, nSl_tup, nSl_int, nSl_dic, sAsg_ap, sRet_ap, sRetN_ap, sIf_ap, sEx_ap, sFor_ap, eLc_ap, wipe_nil, wipe_cons, tsY_ap, iZ_ap, fzS_ow, fzS_sh, fzS_no, fz_ap, augS_sh, sAug_ap, appS_ow, sApp_ap, ends_nx, ends_ct, ends_bk, ends_rt, ends_ex, opAdd_ii, opSub_ii, opNeg_i, opLe_ii, opLt_ii, opGt_ii, opGe_ii, opLen_l, opLen_t, opIx_l, opIx_t, opCut_l, opCut_t, opTuple_l, opTuple_t, opList_l, opList_t, opMax_ii, opInt_b, opInt_i, opEq_bb, opNe_bb, opEq_ii, opNe_ii, opNe_ss, opEq_ss, opIs_n, opIs_bb, atI_0, atI_1, atI_2, atI_3, eCallB_ap, atomR_i, atomR_b, atomR_n, atomR_s, fit0, fit1, fit2, fit3, fit4, fit5, fit6, fit7, fit8, fit9, fit10, fit11, fit12, fit13, fit14, fit15, fit16, fit17, fit18, fit19, fit20, fit21, fit22, fit23, fit24, fit25, fit26, fit27, fit28, fit29, fit30, fit31, fit32, fit33, fit34, fit35, fit36, fit37, fit38, fit39, fit40, one_1, one_0, one_2, two_2, two_0, two_1, two_3, eM_ap, mtD_l, opIsNot_n, gTl_ap, lnt_sh, lnt_ow, eBl_ap, sPut_ap, putF_t, putR_ap, isOwn_ow, putS_l, putS_ds, putS_di, opDGet_s, opDGet_i, opDIn_s, opDNotIn_s, opRev_l, opRev_t, sPar_ap, parF_2, eGet2_ap, eGet1_ap, getF_t, isDic_d, dgetOr_s, dgetOr_i, eLenSc_ap, sStar_ap, starK1, starK2, starK3, sUpd_ap, eSortSc_ap, forD_ap, oneD_ap, List.getElem?_cons_zero, List.getElem?_cons_succ, List.set_cons_zero, List.set_cons_succ, if_true, if_false, Bool.false_eq_true, List.length_cons, List.length_nil, List.length_map, Bool.true_and, Bool.and_true, Bool.false_and, Bool.and_false, Bool.not_true, Bool.not_false, eq_self, Nat.reduceEqDiff, Nat.reduceAdd, beq_self_eq_true]; rfl, List.nodup_nil, fun x => by simp [nmsC]⟩
    | is n v =>
      have cut : opCut (some 1) none (.tup [.str "is", .str n, .int v]) = some (.tup [.str n, .int v]) := rfl
      have e := lcL_ok (asg := gS 1) (tst := tb (b1 (eV 1) (opIsi isStr))) (elt := eTup (aCons (eV 1) (aCons (eC (.bl true)) aNil))) (ρ := [.sh (.tup [.str "is", .str n, .int v]), .no, .no, .no, .no]) isStr (fun d => .tup [d, .bl true]) (ds := [.str n, .int v]) fun d hd => by
        simp only [List.mem_cons, List.not_mem_nil, or_false] at hd
        rcases hd with rfl | rfl
        · exact ⟨_, rfl, by simp only [bind_ok, bind_ex, bind_bad, fb_ok, fb_ex, fb_bad, opt_some, opt_none, go_nx, go_bk, go_ct, go_rt, go_ex, go_bad, sq_go, fin_rt, fin_nx, fin_ex, val_sh, bor_sh, bor_ow, eV_ap, eB_ap, eC_ap, b1_ap, b2_ap, thn3_t, thn3_f, b3_ap, tru_bl, tb_ap, tAndB_ap, tOrB_ap, tNotB_ap, eAnd_ap, eOr_ap, eNot_ap, eIf_ap, aNil_ap, aCons_ap, eTup_ap, eLst_ap, eCall_ap, oN_ap, oint_ok, oS_ap, eSl_ap, iS_ap, items_lst, items_tup, iR1_ap, iR2_ap, enD_lst, iE_ap, gS_ap, gNil_ap, gCons_ap, gT_ap, sNx_ap, sBk_ap, sCt_ap, sFz_ap, sSet_ap, sNew_ap, nSl_lst, nSl_tup, nSl_int, nSl_dic, sAsg_ap, sRet_ap, sRetN_ap, sIf_ap, sEx_ap, sFor_ap, eLc_ap, wipe_nil, wipe_cons, tsY_ap, iZ_ap, fzS_ow, fzS_sh, fzS_no, fz_ap, augS_sh, sAug_ap, appS_ow, sApp_ap, ends_nx, ends_ct, ends_bk, ends_rt, ends_ex, opAdd_ii, opSub_ii, opNeg_i, opLe_ii, opLt_ii, opGt_ii, opGe_ii, opLen_l, opLen_t, opIx_l, opIx_t, opCut_l, opCut_t, opTuple_l, opTuple_t, opList_l, opList_t, opMax_ii, opInt_b, opInt_i, opEq_bb, opNe_bb, opEq_ii, opNe_ii, opNe_ss, opEq_ss, opIs_n, opIs_bb, atI_0, atI_1, atI_2, atI_3, eCallB_ap, atomR_i, atomR_b, atomR_n, atomR_s, fit0, fit1, fit2, fit3, fit4, fit5, fit6, fit7, fit8, fit9, fit10, fit11, fit12, fit13, fit14, fit15, fit16, fit17, fit18, fit19, fit20, fit21, fit22, fit23, fit24, fit25, fit26, fit27, fit28, fit29, fit30, fit31, fit32, fit33, fit34, fit35, fit36, fit37, fit38, fit39, fit40, one_1, one_0, one_2, two_2, two_0, two_1, two_3, eM_ap, mtD_l, opIsNot_n, gTl_ap, lnt_sh, lnt_ow, eBl_ap, sPut_ap, putF_t, putR_ap, isOwn_ow, putS_l, putS_ds, putS_di, opDGet_s, opDGet_i, opDIn_s, opDNotIn_s, opRev_l, opRev_t, sPar_ap, parF_2, eGet2_ap, eGet1_ap, getF_t, isDic_d, dgetOr_s, dgetOr_i, eLenSc_ap, sStar_ap, starK1, starK2, starK3, sUpd_ap, eSortSc_ap, forD_ap, oneD_ap, List.getElem?_cons_zero, List.getElem?_cons_succ, List.set_cons_zero, List.set_cons_succ, if_true, if_false, Bool.false_eq_true, List.length_cons, List.length_nil, List.length_map, Bool.true_and, Bool.and_true, Bool.false_and, Bool.and_false, Bool.not_true, Bool.not_false, eq_self, Nat.reduceEqDiff, Nat.reduceAdd]; rfl, fun _ => by simp only [bind_ok, bind_ex, bind_bad, fb_ok, fb_ex, fb_bad, opt_some, opt_none, go_nx, go_bk, go_ct, go_rt, go_ex, go_bad, sq_go, fin_rt, fin_nx, fin_ex, val_sh, bor_sh, bor_ow, eV_ap, eB_ap, eC_ap, b1_ap, b2_ap, thn3_t, thn3_f, b3_ap, tru_bl, tb_ap, tAndB_ap, tOrB_ap, tNotB_ap, eAnd_ap, eOr_ap, eNot_ap, eIf_ap, aNil_ap, aCons_ap, eTup_ap, eLst_ap, eCall_ap, oN_ap, oint_ok, oS_ap, eSl_ap, iS_ap, items_lst, items_tup, iR1_ap, iR2_ap, enD_lst, iE_ap, gS_ap, gNil_ap, gCons_ap, gT_ap, sNx_ap, sBk_ap, sCt_ap, sFz_ap, sSet_ap, sNew_ap, nSl_lst, nSl_tup, nSl_int, nSl_dic, sAsg_ap, sRet_ap, sRetN_ap, sIf_ap, sEx_ap, sFor_ap, eLc_ap, wipe_nil, wipe_cons, tsY_ap, iZ_ap, fzS_ow, fzS_sh, fzS_no, fz_ap, augS_sh, sAug_ap, appS_ow, sApp_ap, ends_nx, ends_ct, ends_bk, ends_rt, ends_ex, opAdd_ii, opSub_ii, opNeg_i, opLe_ii, opLt_ii, opGt_ii, opGe_ii, opLen_l, opLen_t, opIx_l, opIx_t, opCut_l, opCut_t, opTuple_l, opTuple_t, opList_l, opList_t, opMax_ii, opInt_b, opInt_i, opEq_bb, opNe_bb, opEq_ii, opNe_ii, opNe_ss, opEq_ss, opIs_n, opIs_bb, atI_0, atI_1, atI_2, atI_3, eCallB_ap, atomR_i, atomR_b, atomR_n, atomR_s, fit0, fit1, fit2, fit3, fit4, fit5, fit6, fit7, fit8, fit9, fit10, fit11, fit12, fit13, fit14, fit15, fit16, fit17, fit18, fit19, fit20, fit21, fit22, fit23, fit24, fit25, fit26, fit27, fit28, fit29, fit30, fit31, fit32, fit33, fit34, fit35, fit36, fit37, fit38, fit39, fit40, one_1, one_0, one_2, two_2, two_0, two_1, two_3, eM_ap, mtD_l, opIsNot_n, gTl_ap, lnt_sh, lnt_ow, eBl_ap, sPut_ap, putF_t, putR_ap, isOwn_ow, putS_l, putS_ds, putS_di, opDGet_s, opDGet_i, opDIn_s, opDNotIn_s, opRev_l, opRev_t, sPar_ap, parF_2, eGet2_ap, eGet1_ap, getF_t, isDic_d, dgetOr_s, dgetOr_i, eLenSc_ap, sStar_ap, starK1, starK2, starK3, sUpd_ap, eSortSc_ap, forD_ap, oneD_ap, List.getElem?_cons_zero, List.getElem?_cons_succ, List.set_cons_zero, List.set_cons_succ, if_true, if_false, Bool.false_eq_true, List.length_cons, List.length_nil, List.length_map, Bool.true_and, Bool.and_true, Bool.false_and, Bool.and_false, Bool.not_true, Bool.not_false, eq_self, Nat.reduceEqDiff, Nat.reduceAdd]⟩
        · exact ⟨_, rfl, by simp only [bind_ok, bind_ex, bind_bad, fb_ok, fb_ex, fb_bad, opt_some, opt_none, go_nx, go_bk, go_ct, go_rt, go_ex, go_bad, sq_go, fin_rt, fin_nx, fin_ex, val_sh, bor_sh, bor_ow, eV_ap, eB_ap, eC_ap, b1_ap, b2_ap, thn3_t, thn3_f, b3_ap, tru_bl, tb_ap, tAndB_ap, tOrB_ap, tNotB_ap, eAnd_ap, eOr_ap, eNot_ap, eIf_ap, aNil_ap, aCons_ap, eTup_ap, eLst_ap, eCall_ap, oN_ap, oint_ok, oS_ap, eSl_ap, iS_ap, items_lst, items_tup, iR1_ap, iR2_ap, enD_lst, iE_ap, gS_ap, gNil_ap, gCons_ap, gT_ap, sNx_ap, sBk_ap, sCt_ap, sFz_ap, sSet_ap, sNew_ap, nSl_lst, nSl_tup, nSl_int, nSl_dic, sAsg_ap, sRet_ap, sRetN_ap, sIf_ap, sEx_ap, sFor_ap, eLc_ap, wipe_nil, wipe_cons, tsY_ap, iZ_ap, fzS_ow, fzS_sh, fzS_no, fz_ap, augS_sh, sAug_ap, appS_ow, sApp_ap, ends_nx, ends_ct, ends_bk, ends_rt, ends_ex, opAdd_ii, opSub_ii, opNeg_i, opLe_ii, opLt_ii, opGt_ii, opGe_ii, opLen_l, opLen_t, opIx_l, opIx_t, opCut_l, opCut_t, opTuple_l, opTuple_t, opList_l, opList_t, opMax_ii, opInt_b, opInt_i, opEq_bb, opNe_bb, opEq_ii, opNe_ii, opNe_ss, opEq_ss, opIs_n, opIs_bb, atI_0, atI_1, atI_2, atI_3, eCallB_ap, atomR_i, atomR_b, atomR_n, atomR_s, fit0, fit1, fit2, fit3, fit4, fit5, fit6, fit7, fit8, fit9, fit10, fit11, fit12, fit13, fit14, fit15, fit16, fit17, fit18, fit19, fit20, fit21, fit22, fit23, fit24, fit25, fit26, fit27, fit28, fit29, fit30, fit31, fit32, fit33, fit34, fit35, fit36, fit37, fit38, fit39, fit40, one_1, one_0, one_2, two_2, two_0, two_1, two_3, eM_ap, mtD_l, opIsNot_n, gTl_ap, lnt_sh, lnt_ow, eBl_ap, sPut_ap, putF_t, putR_ap, isOwn_ow, putS_l, putS_ds, putS_di, opDGet_s, opDGet_i, opDIn_s, opDNotIn_s, opRev_l, opRev_t, sPar_ap, parF_2, eGet2_ap, eGet1_ap, getF_t, isDic_d, dgetOr_s, dgetOr_i, eLenSc_ap, sStar_ap, starK1, starK2, starK3, sUpd_ap, eSortSc_ap, forD_ap, oneD_ap, List.getElem?_cons_zero, List.getElem?_cons_succ, List.set_cons_zero, List.set_cons_succ, if_true, if_false, Bool.false_eq_true, List.length_cons, List.length_nil, List.length_map, Bool.true_and, Bool.and_true, Bool.false_and, Bool.and_false, Bool.not_true, Bool.not_false, eq_self, Nat.reduceEqDiff, Nat.reduceAdd]; rfl, fun _ => by simp only [bind_ok, bind_ex, bind_bad, fb_ok, fb_ex, fb_bad, opt_some, opt_none, go_nx, go_bk, go_ct, go_rt, go_ex, go_bad, sq_go, fin_rt, fin_nx, fin_ex, val_sh, bor_sh, bor_ow, eV_ap, eB_ap, eC_ap, b1_ap, b2_ap, thn3_t, thn3_f, b3_ap, tru_bl, tb_ap, tAndB_ap, tOrB_ap, tNotB_ap, eAnd_ap, eOr_ap, eNot_ap, eIf_ap, aNil_ap, aCons_ap, eTup_ap, eLst_ap, eCall_ap, oN_ap, oint_ok, oS_ap, eSl_ap, iS_ap, items_lst, items_tup, iR1_ap, iR2_ap, enD_lst, iE_ap, gS_ap, gNil_ap, gCons_ap, gT_ap, sNx_ap, sBk_ap, sCt_ap, sFz_ap, sSet_ap, sNew_ap, nSl_lst, nSl_tup, nSl_int, nSl_dic, sAsg_ap, sRet_ap, sRetN_ap, sIf_ap, sEx_ap, sFor_ap, eLc_ap, wipe_nil, wipe_cons, tsY_ap, iZ_ap, fzS_ow, fzS_sh, fzS_no, fz_ap, augS_sh, sAug_ap, appS_ow, sApp_ap, ends_nx, ends_ct, ends_bk, ends_rt, ends_ex, opAdd_ii, opSub_ii, opNeg_i, opLe_ii, opLt_ii, opGt_ii, opGe_ii, opLen_l, opLen_t, opIx_l, opIx_t, opCut_l, opCut_t, opTuple_l, opTuple_t, opList_l, opList_t, opMax_ii, opInt_b, opInt_i, opEq_bb, opNe_bb, opEq_ii, opNe_ii, opNe_ss, opEq_ss, opIs_n, opIs_bb, atI_0, atI_1, atI_2, atI_3, eCallB_ap, atomR_i, atomR_b, atomR_n, atomR_s, fit0, fit1, fit2, fit3, fit4, fit5, fit6, fit7, fit8, fit9, fit10, fit11, fit12, fit13, fit14, fit15, fit16, fit17, fit18, fit19, fit20, fit21, fit22, fit23, fit24, fit25, fit26, fit27, fit28, fit29, fit30, fit31, fit32, fit33, fit34, fit35, fit36, fit37, fit38, fit39, fit40, one_1, one_0, one_2, two_2, two_0, two_1, two_3, eM_ap, mtD_l, opIsNot_n, gTl_ap, lnt_sh, lnt_ow, eBl_ap, sPut_ap, putF_t, putR_ap, isOwn_ow, putS_l, putS_ds, putS_di, opDGet_s, opDGet_i, opDIn_s, opDNotIn_s, opRev_l, opRev_t, sPar_ap, parF_2, eGet2_ap, eGet1_ap, getF_t, isDic_d, dgetOr_s, dgetOr_i, eLenSc_ap, sStar_ap, starK1, starK2, starK3, sUpd_ap, eSortSc_ap, forD_ap, oneD_ap, List.getElem?_cons_zero, List.getElem?_cons_succ, List.set_cons_zero, List.set_cons_succ, if_true, if_false, Bool.false_eq_true, List.length_cons, List.length_nil, List.length_map, Bool.true_and, Bool.and_true, Bool.false_and, Bool.and_false, Bool.not_true, Bool.not_false, eq_self, Nat.reduceEqDiff, Nat.reduceAdd]⟩
      refine ⟨[n], ?_, by simp, fun x => by simp [nmsC]⟩
      simp only [enC, bind_ok, bind_ex, bind_bad, fb_ok, fb_ex, fb_bad, opt_some, opt_none, go_nx, go_bk, go_ct, go_rt, go_ex, go_bad, sq_go, fin_rt, fin_nx, fin_ex, val_sh, bor_sh, bor_ow, eV_ap, eB_ap, eC_ap, b1_ap, b2_ap, thn3_t, thn3_f, b3_ap, tru_bl, tb_ap, tAndB_ap, tOrB_ap, tNotB_ap, eAnd_ap, eOr_ap, eNot_ap, eIf_ap, aNil_ap, aCons_ap, eTup_ap, eLst_ap, eCall_ap, oN_ap, oint_ok, oS_ap, eSl_ap, iS_ap, items_lst, items_tup, iR1_ap, iR2_ap, enD_lst, iE_ap, gS_ap, gNil_ap, gCons_ap, gT_ap, sNx_ap, sBk_ap, sCt_ap, sFz_ap, sSet_ap, sNew_ap, nSl_lst, nSl_tup, nSl_int, nSl_dic, sAsg_ap, sRet_ap, sRetN_ap, sIf_ap, sEx_ap, sFor_ap, eLc_ap, wipe_nil, wipe_cons, tsY_ap, iZ_ap, fzS_ow, fzS_sh, fzS_no, fz_ap, augS_sh, sAug_ap, appS_ow, sApp_ap, ends_nx, ends_ct, ends_bk, ends_rt, ends_ex, opAdd_ii, opSub_ii, opNeg_i, opLe_ii, opLt_ii, opGt_ii, opGe_ii, opLen_l, opLen_t, opIx_l, opIx_t, opCut_l, opCut_t, opTuple_l, opTuple_t, opList_l, opList_t, opMax_ii, opInt_b, opInt_i, opEq_bb, opNe_bb, opEq_ii, opNe_ii, opNe_ss, opEq_ss, opIs_n, opIs_bb, atI_0, atI_1, atI_2, atI_3, eCallB_ap, atomR_i, atomR_b, atomR_n, atomR_s, fit0, fit1, fit2, fit3, fit4, fit5, fit6, fit7, fit8, fit9, fit10, fit11, fit12, fit13, fit14, fit15, fit16, fit17, fit18, fit19, fit20, fit21, fit22, fit23, fit24, fit25, fit26, fit27, fit28, fit29, fit30, fit31, fit32, fit33, fit34, fit35, fit36, fit37, fit38, fit39, fit40, one_1, one_0, one_2, two_2, two_0, two_1, two_3, eM_ap, mtD_l, opIsNot_n, gTl_ap, lnt_sh, lnt_ow, eBl_ap, sPut_ap, putF_t, putR_ap, isOwn_ow, putS_l, putS_ds, putS_di, opDGet_s, opDGet_i, opDIn_s, opDNotIn_s, opRev_l, opRev_t, sPar_ap, parF_2, eGet2_ap, eGet1_ap, getF_t, isDic_d, dgetOr_s, dgetOr_i, eLenSc_ap, sStar_ap, starK1, starK2, starK3, sUpd_ap, eSortSc_ap, forD_ap, oneD_ap, List.getElem?_cons_zero, List.getElem?_cons_succ, List.set_cons_zero, List.set_cons_succ, if_true, if_false, Bool.false_eq_true, List.length_cons, List.length_nil, List.length_map, Bool.true_and, Bool.and_true, Bool.false_and, Bool.and_false, Bool.not_true, Bool.not_false, eq_self, Nat.reduceEqDiff, Nat.reduceAdd, y1, w1, cut, e]
      rfl
    | like a b =>
      have cut : opCut (some 1) none (.tup [.str "like", .str a, .str b]) = some (.tup [.str a, .str b]) := rfl
      have e := lcL_ok (asg := gS 1) (tst := tb (b1 (eV 1) (opIsi isStr))) (elt := eTup (aCons (eV 1) (aCons (eC (.bl true)) aNil))) (ρ := [.sh (.tup [.str "like", .str a, .str b]), .no, .no, .no, .no]) isStr (fun d => .tup [d, .bl true]) (ds := [.str a, .str b]) fun d hd => by
        simp only [List.mem_cons, List.not_mem_nil, or_false] at hd
        rcases hd with rfl | rfl
        · exact ⟨_, rfl, by simp only [bind_ok, bind_ex, bind_bad, fb_ok, fb_ex, fb_bad, opt_some, opt_none, go_nx, go_bk, go_ct, go_rt, go_ex, go_bad, sq_go, fin_rt, fin_nx, fin_ex, val_sh, bor_sh, bor_ow, eV_ap, eB_ap, eC_ap, b1_ap, b2_ap, thn3_t, thn3_f, b3_ap, tru_bl, tb_ap, tAndB_ap, tOrB_ap, tNotB_ap, eAnd_ap, eOr_ap, eNot_ap, eIf_ap, aNil_ap, aCons_ap, eTup_ap, eLst_ap, eCall_ap, oN_ap, oint_ok, oS_ap, eSl_ap, iS_ap, items_lst, items_tup, iR1_ap, iR2_ap, enD_lst, iE_ap, gS_ap, gNil_ap, gCons_ap, gT_ap, sNx_ap, sBk_ap, sCt_ap, sFz_ap, sSet_ap, sNew_ap, nSl_lst, nSl_tup, nSl_int, nSl_dic, sAsg_ap, sRet_ap, sRetN_ap, sIf_ap, sEx_ap, sFor_ap, eLc_ap, wipe_nil, wipe_cons, tsY_ap, iZ_ap, fzS_ow, fzS_sh, fzS_no, fz_ap, augS_sh, sAug_ap, appS_ow, sApp_ap, ends_nx, ends_ct, ends_bk, ends_rt, ends_ex, opAdd_ii, opSub_ii, opNeg_i, opLe_ii, opLt_ii, opGt_ii, opGe_ii, opLen_l, opLen_t, opIx_l, opIx_t, opCut_l, opCut_t, opTuple_l, opTuple_t, opList_l, opList_t, opMax_ii, opInt_b, opInt_i, opEq_bb, opNe_bb, opEq_ii, opNe_ii, opNe_ss, opEq_ss, opIs_n, opIs_bb, atI_0, atI_1, atI_2, atI_3, eCallB_ap, atomR_i, atomR_b, atomR_n, atomR_s, fit0, fit1, fit2, fit3, fit4, fit5, fit6, fit7, fit8, fit9, fit10, fit11, fit12, fit13, fit14, fit15, fit16, fit17, fit18, fit19, fit20, fit21, fit22, fit23, fit24, fit25, fit26, fit27, fit28, fit29, fit30, fit31, fit32, fit33, fit34, fit35, fit36, fit37, fit38, fit39, fit40, one_1, one_0, one_2, two_2, two_0, two_1, two_3, eM_ap, mtD_l, opIsNot_n, gTl_ap, lnt_sh, lnt_ow, eBl_ap, sPut_ap, putF_t, putR_ap, isOwn_ow, putS_l, putS_ds, putS_di, opDGet_s, opDGet_i, opDIn_s, opDNotIn_s, opRev_l, opRev_t, sPar_ap, parF_2, eGet2_ap, eGet1_ap, getF_t, isDic_d, dgetOr_s, dgetOr_i, eLenSc_ap, sStar_ap, starK1, starK2, starK3, sUpd_ap, eSortSc_ap, forD_ap, oneD_ap, List.getElem?_cons_zero, List.getElem?_cons_succ, List.set_cons_zero, List.set_cons_succ, if_true, if_false, Bool.false_eq_true, List.length_cons, List.length_nil, List.length_map, Bool.true_and, Bool.and_true, Bool.false_and, Bool.and_false, Bool.not_true, Bool.not_false, eq_self, Nat.reduceEqDiff, Nat.reduceAdd]; rfl, fun _ => by simp only [bind_ok, bind_ex, bind_bad, fb_ok, fb_ex, fb_bad, opt_some, opt_none, go_nx, go_bk, go_ct, go_rt, go_ex, go_bad, sq_go, fin_rt, fin_nx, fin_ex, val_sh, bor_sh, bor_ow, eV_ap, eB_ap, eC_ap, b1_ap, b2_ap, thn3_t, thn3_f, b3_ap, tru_bl, tb_ap, tAndB_ap, tOrB_ap, tNotB_ap, eAnd_ap, eOr_ap, eNot_ap, eIf_ap, aNil_ap, aCons_ap, eTup_ap, eLst_ap, eCall_ap, oN_ap, oint_ok, oS_ap, eSl_ap, iS_ap, items_lst, items_tup, iR1_ap, iR2_ap, enD_lst, iE_ap, gS_ap, gNil_ap, gCons_ap, gT_ap, sNx_ap, sBk_ap, sCt_ap, sFz_ap, sSet_ap, sNew_ap, nSl_lst, nSl_tup, nSl_int, nSl_dic, sAsg_ap, sRet_ap, sRetN_ap, sIf_ap, sEx_ap, sFor_ap, eLc_ap, wipe_nil, wipe_cons, tsY_ap, iZ_ap, fzS_ow, fzS_sh, fzS_no, fz_ap, augS_sh, sAug_ap, appS_ow, sApp_ap, ends_nx, ends_ct, ends_bk, ends_rt, ends_ex, opAdd_ii, opSub_ii, opNeg_i, opLe_ii, opLt_ii, opGt_ii, opGe_ii, opLen_l, opLen_t, opIx_l, opIx_t, opCut_l, opCut_t, opTuple_l, opTuple_t, opList_l, opList_t, opMax_ii, opInt_b, opInt_i, opEq_bb, opNe_bb, opEq_ii, opNe_ii, opNe_ss, opEq_ss, opIs_n, opIs_bb, atI_0, atI_1, atI_2, atI_3, eCallB_ap, atomR_i, atomR_b, atomR_n, atomR_s, fit0, fit1, fit2, fit3, fit4, fit5, fit6, fit7, fit8, fit9, fit10, fit11, fit12, fit13, fit14, fit15, fit16, fit17, fit18, fit19, fit20, fit21, fit22, fit23, fit24, fit25, fit26, fit27, fit28, fit29, fit30, fit31, fit32, fit33, fit34, fit35, fit36, fit37, fit38, fit39, fit40, one_1, one_0, one_2, two_2, two_0, two_1, two_3, eM_ap, mtD_l, opIsNot_n, gTl_ap, lnt_sh, lnt_ow, eBl_ap, sPut_ap, putF_t, putR_ap, isOwn_ow, putS_l, putS_ds, putS_di, opDGet_s, opDGet_i, opDIn_s, opDNotIn_s, opRev_l, opRev_t, sPar_ap, parF_2, eGet2_ap, eGet1_ap, getF_t, isDic_d, dgetOr_s, dgetOr_i, eLenSc_ap, sStar_ap, starK1, starK2, starK3, sUpd_ap, eSortSc_ap, forD_ap, oneD_ap, List.getElem?_cons_zero, List.getElem?_cons_succ, List.set_cons_zero, List.set_cons_succ, if_true, if_false, Bool.false_eq_true, List.length_cons, List.length_nil, List.length_map, Bool.true_and, Bool.and_true, Bool.false_and, Bool.and_false, Bool.not_true, Bool.not_false, eq_self, Nat.reduceEqDiff, Nat.reduceAdd]⟩
        · exact ⟨_, rfl, by simp only [bind_ok, bind_ex, bind_bad, fb_ok, fb_ex, fb_bad, opt_some, opt_none, go_nx, go_bk, go_ct, go_rt, go_ex, go_bad, sq_go, fin_rt, fin_nx, fin_ex, val_sh, bor_sh, bor_ow, eV_ap, eB_ap, eC_ap, b1_ap, b2_ap, thn3_t, thn3_f, b3_ap, tru_bl, tb_ap, tAndB_ap, tOrB_ap, tNotB_ap, eAnd_ap, eOr_ap, eNot_ap, eIf_ap, aNil_ap, aCons_ap, eTup_ap, eLst_ap, eCall_ap, oN_ap, oint_ok, oS_ap, eSl_ap, iS_ap, items_lst, items_tup, iR1_ap, iR2_ap, enD_lst, iE_ap, gS_ap, gNil_ap, gCons_ap, gT_ap, sNx_ap, sBk_ap, sCt_ap, sFz_ap, sSet_ap, sNew_ap, nSl_lst, nSl_tup, nSl_int, nSl_dic, sAsg_ap, sRet_ap, sRetN_ap, sIf_ap, sEx_ap, sFor_ap, eLc_ap, wipe_nil, wipe_cons, tsY_ap, iZ_ap, fzS_ow, fzS_sh, fzS_no, fz_ap, augS_sh, sAug_ap, appS_ow, sApp_ap, ends_nx, ends_ct, ends_bk, ends_rt, ends_ex, opAdd_ii, opSub_ii, opNeg_i, opLe_ii, opLt_ii, opGt_ii, opGe_ii, opLen_l, opLen_t, opIx_l, opIx_t, opCut_l, opCut_t, opTuple_l, opTuple_t, opList_l, opList_t, opMax_ii, opInt_b, opInt_i, opEq_bb, opNe_bb, opEq_ii, opNe_ii, opNe_ss, opEq_ss, opIs_n, opIs_bb, atI_0, atI_1, atI_2, atI_3, eCallB_ap, atomR_i, atomR_b, atomR_n, atomR_s, fit0, fit1, fit2, fit3, fit4, fit5, fit6, fit7, fit8, fit9, fit10, fit11, fit12, fit13, fit14, fit15, fit16, fit17, fit18, fit19, fit20, fit21, fit22, fit23, fit24, fit25, fit26, fit27, fit28, fit29, fit30, fit31, fit32, fit33, fit34, fit35, fit36, fit37, fit38, fit39, fit40, one_1, one_0, one_2, two_2, two_0, two_1, two_3, eM_ap, mtD_l, opIsNot_n, gTl_ap, lnt_sh, lnt_ow, eBl_ap, sPut_ap, putF_t, putR_ap, isOwn_ow, putS_l, putS_ds, putS_di, opDGet_s, opDGet_i, opDIn_s, opDNotIn_s, opRev_l, opRev_t, sPar_ap, parF_2, eGet2_ap, eGet1_ap, getF_t, isDic_d, dgetOr_s, dgetOr_i, eLenSc_ap, sStar_ap, starK1, starK2, starK3, sUpd_ap, eSortSc_ap, forD_ap, oneD_ap, List.getElem?_cons_zero, List.getElem?_cons_succ, List.set_cons_zero, List.set_cons_succ, if_true, if_false, Bool.false_eq_true, List.length_cons, List.length_nil, List.length_map, Bool.true_and, Bool.and_true, Bool.false_and, Bool.and_false, Bool.not_true, Bool.not_false, eq_self, Nat.reduceEqDiff, Nat.reduceAdd]; rfl, fun _ => by simp only [bind_ok, bind_ex, bind_bad, fb_ok, fb_ex, fb_bad, opt_some, opt_none, go_nx, go_bk, go_ct, go_rt, go_ex, go_bad, sq_go, fin_rt, fin_nx, fin_ex, val_sh, bor_sh, bor_ow, eV_ap, eB_ap, eC_ap, b1_ap, b2_ap, thn3_t, thn3_f, b3_ap, tru_bl, tb_ap, tAndB_ap, tOrB_ap, tNotB_ap, eAnd_ap, eOr_ap, eNot_ap, eIf_ap, aNil_ap, aCons_ap, eTup_ap, eLst_ap, eCall_ap, oN_ap, oint_ok, oS_ap, eSl_ap, iS_ap, items_lst, items_tup, iR1_ap, iR2_ap, enD_lst, iE_ap, gS_ap, gNil_ap, gCons_ap, gT_ap, sNx_ap, sBk_ap, sCt_ap, sFz_ap, sSet_ap, sNew_ap, nSl_lst, nSl_tup, nSl_int, nSl_dic, sAsg_ap, sRet_ap, sRetN_ap, sIf_ap, sEx_ap, sFor_ap, eLc_ap, wipe_nil, wipe_cons, tsY_ap, iZ_ap, fzS_ow, fzS_sh, fzS_no, fz_ap, augS_sh, sAug_ap, appS_ow, sApp_ap, ends_nx, ends_ct, ends_bk, ends_rt, ends_ex, opAdd_ii, opSub_ii, opNeg_i, opLe_ii, opLt_ii, opGt_ii, opGe_ii, opLen_l, opLen_t, opIx_l, opIx_t, opCut_l, opCut_t, opTuple_l, opTuple_t, opList_l, opList_t, opMax_ii, opInt_b, opInt_i, opEq_bb, opNe_bb, opEq_ii, opNe_ii, opNe_ss, opEq_ss, opIs_n, opIs_bb, atI_0, atI_1, atI_2, atI_3, eCallB_ap, atomR_i, atomR_b, atomR_n, atomR_s, fit0, fit1, fit2, fit3, fit4, fit5, fit6, fit7, fit8, fit9, fit10, fit11, fit12, fit13, fit14, fit15, fit16, fit17, fit18, fit19, fit20, fit21, fit22, fit23, fit24, fit25, fit26, fit27, fit28, fit29, fit30, fit31, fit32, fit33, fit34, fit35, fit36, fit37, fit38, fit39, fit40, one_1, one_0, one_2, two_2, two_0, two_1, two_3, eM_ap, mtD_l, opIsNot_n, gTl_ap, lnt_sh, lnt_ow, eBl_ap, sPut_ap, putF_t, putR_ap, isOwn_ow, putS_l, putS_ds, putS_di, opDGet_s, opDGet_i, opDIn_s, opDNotIn_s, opRev_l, opRev_t, sPar_ap, parF_2, eGet2_ap, eGet1_ap, getF_t, isDic_d, dgetOr_s, dgetOr_i, eLenSc_ap, sStar_ap, starK1, starK2, starK3, sUpd_ap, eSortSc_ap, forD_ap, oneD_ap, List.getElem?_cons_zero, List.getElem?_cons_succ, List.set_cons_zero, List.set_cons_succ, if_true, if_false, Bool.false_eq_true, List.length_cons, List.length_nil, List.length_map, Bool.true_and, Bool.and_true, Bool.false_and, Bool.and_false, Bool.not_true, Bool.not_false, eq_self, Nat.reduceEqDiff, Nat.reduceAdd]⟩
      refine ⟨mrg [] [a, b], ?_, mrg_nodup List.nodup_nil, fun x => by rw [mrg_mem]; unfold nmsC; rw [srtS_mem, mem_addsX]⟩
      simp only [enC, bind_ok, bind_ex, bind_bad, fb_ok, fb_ex, fb_bad, opt_some, opt_none, go_nx, go_bk, go_ct, go_rt, go_ex, go_bad, sq_go, fin_rt, fin_nx, fin_ex, val_sh, bor_sh, bor_ow, eV_ap, eB_ap, eC_ap, b1_ap, b2_ap, thn3_t, thn3_f, b3_ap, tru_bl, tb_ap, tAndB_ap, tOrB_ap, tNotB_ap, eAnd_ap, eOr_ap, eNot_ap, eIf_ap, aNil_ap, aCons_ap, eTup_ap, eLst_ap, eCall_ap, oN_ap, oint_ok, oS_ap, eSl_ap, iS_ap, items_lst, items_tup, iR1_ap, iR2_ap, enD_lst, iE_ap, gS_ap, gNil_ap, gCons_ap, gT_ap, sNx_ap, sBk_ap, sCt_ap, sFz_ap, sSet_ap, sNew_ap, nSl_lst, nSl_tup, nSl_int, nSl_dic, sAsg_ap, sRet_ap, sRetN_ap, sIf_ap, sEx_ap, sFor_ap, eLc_ap, wipe_nil, wipe_cons, tsY_ap, iZ_ap, fzS_ow, fzS_sh, fzS_no, fz_ap, augS_sh, sAug_ap, appS_ow, sApp_ap, ends_nx, ends_ct, ends_bk, ends_rt, ends_ex, opAdd_ii, opSub_ii, opNeg_i, opLe_ii, opLt_ii, opGt_ii, opGe_ii, opLen_l, opLen_t, opIx_l, opIx_t, opCut_l, opCut_t, opTuple_l, opTuple_t, opList_l, opList_t, opMax_ii, opInt_b, opInt_i, opEq_bb, opNe_bb, opEq_ii, opNe_ii, opNe_ss, opEq_ss, opIs_n, opIs_bb, atI_0, atI_1, atI_2, atI_3, eCallB_ap, atomR_i, atomR_b, atomR_n, atomR_s, fit0, fit1, fit2, fit3, fit4, fit5, fit6, fit7, fit8, fit9, fit10, fit11, fit12, fit13, fit14, fit15, fit16, fit17, fit18, fit19, fit20, fit21, fit22, fit23, fit24, fit25, fit26, fit27, fit28, fit29, fit30, fit31, fit32, fit33, fit34, fit35, fit36, fit37, fit38, fit39, fit40, one_1, one_0, one_2, two_2, two_0, two_1, two_3, eM_ap, mtD_l, opIsNot_n, gTl_ap, lnt_sh, lnt_ow, eBl_ap, sPut_ap, putF_t, putR_ap, isOwn_ow, putS_l, putS_ds, putS_di, opDGet_s, opDGet_i, opDIn_s, opDNotIn_s, opRev_l, opRev_t, sPar_ap, parF_2, eGet2_ap, eGet1_ap, getF_t, isDic_d, dgetOr_s, dgetOr_i, eLenSc_ap, sStar_ap, starK1, starK2, starK3, sUpd_ap, eSortSc_ap, forD_ap, oneD_ap, List.getElem?_cons_zero, List.getElem?_cons_succ, List.set_cons_zero, List.set_cons_succ, if_true, if_false, Bool.false_eq_true, List.length_cons, List.length_nil, List.length_map, Bool.true_and, Bool.and_true, Bool.false_and, Bool.and_false, Bool.not_true, Bool.not_false, eq_self, Nat.reduceEqDiff, Nat.reduceAdd, y2, w2, cut, e]
      have q := updD_nm [a, b] []
      rw [← q]
      rfl
    | not c =>
      obtain ⟨es, a1, a2, a3⟩ := loop [c] (enC (.not c)) .no (.sh (.tup [enC c])) fun d hd => by rw [List.mem_singleton.mp hd]; exact h
      refine ⟨es, ?_, a2, fun x => by rw [a3, nmsC_not]; simp⟩
      simp only [enC, List.map_cons, List.map_nil] at a1
      simp only [enC, bind_ok, bind_ex, bind_bad, fb_ok, fb_ex, fb_bad, opt_some, opt_none, go_nx, go_bk, go_ct, go_rt, go_ex, go_bad, sq_go, fin_rt, fin_nx, fin_ex, val_sh, bor_sh, bor_ow, eV_ap, eB_ap, eC_ap, b1_ap, b2_ap, thn3_t, thn3_f, b3_ap, tru_bl, tb_ap, tAndB_ap, tOrB_ap, tNotB_ap, eAnd_ap, eOr_ap, eNot_ap, eIf_ap, aNil_ap, aCons_ap, eTup_ap, eLst_ap, eCall_ap, oN_ap, oint_ok, oS_ap, eSl_ap, iS_ap, items_lst, items_tup, iR1_ap, iR2_ap, enD_lst, iE_ap, gS_ap, gNil_ap, gCons_ap, gT_ap, sNx_ap, sBk_ap, sCt_ap, sFz_ap, sSet_ap, sNew_ap, nSl_lst, nSl_tup, nSl_int, nSl_dic, sAsg_ap, sRet_ap, sRetN_ap, sIf_ap, sEx_ap, sFor_ap, eLc_ap, wipe_nil, wipe_cons, tsY_ap, iZ_ap, fzS_ow, fzS_sh, fzS_no, fz_ap, augS_sh, sAug_ap, appS_ow, sApp_ap, ends_nx, ends_ct, ends_bk, ends_rt, ends_ex, opAdd_ii, opSub_ii, opNeg_i, opLe_ii, opLt_ii, opGt_ii, opGe_ii, opLen_l, opLen_t, opIx_l, opIx_t, opCut_l, opCut_t, opTuple_l, opTuple_t, opList_l, opList_t, opMax_ii, opInt_b, opInt_i, opEq_bb, opNe_bb, opEq_ii, opNe_ii, opNe_ss, opEq_ss, opIs_n, opIs_bb, atI_0, atI_1, atI_2, atI_3, eCallB_ap, atomR_i, atomR_b, atomR_n, atomR_s, fit0, fit1, fit2, fit3, fit4, fit5, fit6, fit7, fit8, fit9, fit10, fit11, fit12, fit13, fit14, fit15, fit16, fit17, fit18, fit19, fit20, fit21, fit22, fit23, fit24, fit25, fit26, fit27, fit28, fit29, fit30, fit31, fit32, fit33, fit34, fit35, fit36, fit37, fit38, fit39, fit40, one_1, one_0, one_2, two_2, two_0, two_1, two_3, eM_ap, mtD_l, opIsNot_n, gTl_ap, lnt_sh, lnt_ow, eBl_ap, sPut_ap, putF_t, putR_ap, isOwn_ow, putS_l, putS_ds, putS_di, opDGet_s, opDGet_i, opDIn_s, opDNotIn_s, opRev_l, opRev_t, sPar_ap, parF_2, eGet2_ap, eGet1_ap, getF_t, isDic_d, dgetOr_s, dgetOr_i, eLenSc_ap, sStar_ap, starK1, starK2, starK3, sUpd_ap, eSortSc_ap, forD_ap, oneD_ap, List.getElem?_cons_zero, List.getElem?_cons_succ, List.set_cons_zero, List.set_cons_succ, if_true, if_false, Bool.false_eq_true, List.length_cons, List.length_nil, List.length_map, Bool.true_and, Bool.and_true, Bool.false_and, Bool.and_false, Bool.not_true, Bool.not_false, eq_self, Nat.reduceEqDiff, Nat.reduceAdd, y3, w3, beq_self_eq_true]
      exact a1
    | all cs =>
      obtain ⟨es, a1, a2, a3⟩ := loop cs (enC (.all cs)) .no (.sh (.tup (cs.map enC))) h.2
      refine ⟨es, ?_, a2, fun x => by rw [a3, nmsC_all, srtS_mem, mem_addsX, nmsL_map, List.mem_flatMap]; simp⟩
      simp only [enC, enL_map] at a1
      simp only [enC, enL_map, bind_ok, bind_ex, bind_bad, fb_ok, fb_ex, fb_bad, opt_some, opt_none, go_nx, go_bk, go_ct, go_rt, go_ex, go_bad, sq_go, fin_rt, fin_nx, fin_ex, val_sh, bor_sh, bor_ow, eV_ap, eB_ap, eC_ap, b1_ap, b2_ap, thn3_t, thn3_f, b3_ap, tru_bl, tb_ap, tAndB_ap, tOrB_ap, tNotB_ap, eAnd_ap, eOr_ap, eNot_ap, eIf_ap, aNil_ap, aCons_ap, eTup_ap, eLst_ap, eCall_ap, oN_ap, oint_ok, oS_ap, eSl_ap, iS_ap, items_lst, items_tup, iR1_ap, iR2_ap, enD_lst, iE_ap, gS_ap, gNil_ap, gCons_ap, gT_ap, sNx_ap, sBk_ap, sCt_ap, sFz_ap, sSet_ap, sNew_ap, nSl_lst, nSl_tup, nSl_int, nSl_dic, sAsg_ap, sRet_ap, sRetN_ap, sIf_ap, sEx_ap, sFor_ap, eLc_ap, wipe_nil, wipe_cons, tsY_ap, iZ_ap, fzS_ow, fzS_sh, fzS_no, fz_ap, augS_sh, sAug_ap, appS_ow, sApp_ap, ends_nx, ends_ct, ends_bk, ends_rt, ends_ex, opAdd_ii, opSub_ii, opNeg_i, opLe_ii, opLt_ii, opGt_ii, opGe_ii, opLen_l, opLen_t, opIx_l, opIx_t, opCut_l, opCut_t, opTuple_l, opTuple_t, opList_l, opList_t, opMax_ii, opInt_b, opInt_i, opEq_bb, opNe_bb, opEq_ii, opNe_ii, opNe_ss, opEq_ss, opIs_n, opIs_bb, atI_0, atI_1, atI_2, atI_3, eCallB_ap, atomR_i, atomR_b, atomR_n, atomR_s, fit0, fit1, fit2, fit3, fit4, fit5, fit6, fit7, fit8, fit9, fit10, fit11, fit12, fit13, fit14, fit15, fit16, fit17, fit18, fit19, fit20, fit21, fit22, fit23, fit24, fit25, fit26, fit27, fit28, fit29, fit30, fit31, fit32, fit33, fit34, fit35, fit36, fit37, fit38, fit39, fit40, one_1, one_0, one_2, two_2, two_0, two_1, two_3, eM_ap, mtD_l, opIsNot_n, gTl_ap, lnt_sh, lnt_ow, eBl_ap, sPut_ap, putF_t, putR_ap, isOwn_ow, putS_l, putS_ds, putS_di, opDGet_s, opDGet_i, opDIn_s, opDNotIn_s, opRev_l, opRev_t, sPar_ap, parF_2, eGet2_ap, eGet1_ap, getF_t, isDic_d, dgetOr_s, dgetOr_i, eLenSc_ap, sStar_ap, starK1, starK2, starK3, sUpd_ap, eSortSc_ap, forD_ap, oneD_ap, List.getElem?_cons_zero, List.getElem?_cons_succ, List.set_cons_zero, List.set_cons_succ, if_true, if_false, Bool.false_eq_true, List.length_cons, List.length_nil, List.length_map, Bool.true_and, Bool.and_true, Bool.false_and, Bool.and_false, Bool.not_true, Bool.not_false, eq_self, Nat.reduceEqDiff, Nat.reduceAdd, y4, w4, n4]
      exact a1
    | any cs =>
      obtain ⟨es, a1, a2, a3⟩ := loop cs (enC (.any cs)) .no (.sh (.tup (cs.map enC))) h.2
      refine ⟨es, ?_, a2, fun x => by rw [a3, nmsC_any, srtS_mem, mem_addsX, nmsL_map, List.mem_flatMap]; simp⟩
      simp only [enC, enL_map] at a1
      simp only [enC, enL_map, bind_ok, bind_ex, bind_bad, fb_ok, fb_ex, fb_bad, opt_some, opt_none, go_nx, go_bk, go_ct, go_rt, go_ex, go_bad, sq_go, fin_rt, fin_nx, fin_ex, val_sh, bor_sh, bor_ow, eV_ap, eB_ap, eC_ap, b1_ap, b2_ap, thn3_t, thn3_f, b3_ap, tru_bl, tb_ap, tAndB_ap, tOrB_ap, tNotB_ap, eAnd_ap, eOr_ap, eNot_ap, eIf_ap, aNil_ap, aCons_ap, eTup_ap, eLst_ap, eCall_ap, oN_ap, oint_ok, oS_ap, eSl_ap, iS_ap, items_lst, items_tup, iR1_ap, iR2_ap, enD_lst, iE_ap, gS_ap, gNil_ap, gCons_ap, gT_ap, sNx_ap, sBk_ap, sCt_ap, sFz_ap, sSet_ap, sNew_ap, nSl_lst, nSl_tup, nSl_int, nSl_dic, sAsg_ap, sRet_ap, sRetN_ap, sIf_ap, sEx_ap, sFor_ap, eLc_ap, wipe_nil, wipe_cons, tsY_ap, iZ_ap, fzS_ow, fzS_sh, fzS_no, fz_ap, augS_sh, sAug_ap, appS_ow, sApp_ap, ends_nx, ends_ct, ends_bk, ends_rt, ends_ex, opAdd_ii, opSub_ii, opNeg_i, opLe_ii, opLt_ii, opGt_ii, opGe_ii, opLen_l, opLen_t, opIx_l, opIx_t, opCut_l, opCut_t, opTuple_l, opTuple_t, opList_l, opList_t, opMax_ii, opInt_b, opInt_i, opEq_bb, opNe_bb, opEq_ii, opNe_ii, opNe_ss, opEq_ss, opIs_n, opIs_bb, atI_0, atI_1, atI_2, atI_3, eCallB_ap, atomR_i, atomR_b, atomR_n, atomR_s, fit0, fit1, fit2, fit3, fit4, fit5, fit6, fit7, fit8, fit9, fit10, fit11, fit12, fit13, fit14, fit15, fit16, fit17, fit18, fit19, fit20, fit21, fit22, fit23, fit24, fit25, fit26, fit27, fit28, fit29, fit30, fit31, fit32, fit33, fit34, fit35, fit36, fit37, fit38, fit39, fit40, one_1, one_0, one_2, two_2, two_0, two_1, two_3, eM_ap, mtD_l, opIsNot_n, gTl_ap, lnt_sh, lnt_ow, eBl_ap, sPut_ap, putF_t, putR_ap, isOwn_ow, putS_l, putS_ds, putS_di, opDGet_s, opDGet_i, opDIn_s, opDNotIn_s, opRev_l, opRev_t, sPar_ap, parF_2, eGet2_ap, eGet1_ap, getF_t, isDic_d, dgetOr_s, dgetOr_i, eLenSc_ap, sStar_ap, starK1, starK2, starK3, sUpd_ap, eSortSc_ap, forD_ap, oneD_ap, List.getElem?_cons_zero, List.getElem?_cons_succ, List.set_cons_zero, List.set_cons_succ, if_true, if_false, Bool.false_eq_true, List.length_cons, List.length_nil, List.length_map, Bool.true_and, Bool.and_true, Bool.false_and, Bool.and_false, Bool.not_true, Bool.not_false, eq_self, Nat.reduceEqDiff, Nat.reduceAdd, y5, w5, n5]
      exact a1

def stD (st : List Int) : D := .tup (st.map .int)
theorem stands_ok {bs : List D} (hs : SBs bs) : ∃ sts : List (List Int), f_law_stands [.lst bs] = .ok (.lst (sts.map stD)) ∧ ∀ st ∈ sts, st.length = bs.length := by
  rw [e_law_stands]
  unfold b_law_stands
  simp only [bind_ok, bind_ex, bind_bad, fb_ok, fb_ex, fb_bad, opt_some, opt_none, go_nx, go_bk, go_ct, go_rt, go_ex, go_bad, sq_go, fin_rt, fin_nx, fin_ex, val_sh, bor_sh, bor_ow, eV_ap, eB_ap, eC_ap, b1_ap, b2_ap, thn3_t, thn3_f, b3_ap, tru_bl, tb_ap, tAndB_ap, tOrB_ap, tNotB_ap, eAnd_ap, eOr_ap, eNot_ap, eIf_ap, aNil_ap, aCons_ap, eTup_ap, eLst_ap, eCall_ap, oN_ap, oint_ok, oS_ap, eSl_ap, iS_ap, items_lst, items_tup, iR1_ap, iR2_ap, enD_lst, iE_ap, gS_ap, gNil_ap, gCons_ap, gT_ap, sNx_ap, sBk_ap, sCt_ap, sFz_ap, sSet_ap, sNew_ap, nSl_lst, nSl_tup, nSl_int, nSl_dic, sAsg_ap, sRet_ap, sRetN_ap, sIf_ap, sEx_ap, sFor_ap, eLc_ap, wipe_nil, wipe_cons, tsY_ap, iZ_ap, fzS_ow, fzS_sh, fzS_no, fz_ap, augS_sh, sAug_ap, appS_ow, sApp_ap, ends_nx, ends_ct, ends_bk, ends_rt, ends_ex, opAdd_ii, opSub_ii, opNeg_i, opLe_ii, opLt_ii, opGt_ii, opGe_ii, opLen_l, opLen_t, opIx_l, opIx_t, opCut_l, opCut_t, opTuple_l, opTuple_t, opList_l, opList_t, opMax_ii, opInt_b, opInt_i, opEq_bb, opNe_bb, opEq_ii, opNe_ii, opNe_ss, opEq_ss, opIs_n, opIs_bb, atI_0, atI_1, atI_2, atI_3, eCallB_ap, atomR_i, atomR_b, atomR_n, atomR_s, fit0, fit1, fit2, fit3, fit4, fit5, fit6, fit7, fit8, fit9, fit10, fit11, fit12, fit13, fit14, fit15, fit16, fit17, fit18, fit19, fit20, fit21, fit22, fit23, fit24, fit25, fit26, fit27, fit28, fit29, fit30, fit31, fit32, fit33, fit34, fit35, fit36, fit37, fit38, fit39, fit40, one_1, one_0, one_2, two_2, two_0, two_1, two_3, eM_ap, mtD_l, opIsNot_n, gTl_ap, lnt_sh, lnt_ow, eBl_ap, sPut_ap, putF_t, putR_ap, isOwn_ow, putS_l, putS_ds, putS_di, opDGet_s, opDGet_i, opDIn_s, opDNotIn_s, opRev_l, opRev_t, sPar_ap, parF_2, eGet2_ap, eGet1_ap, getF_t, isDic_d, dgetOr_s, dgetOr_i, eLenSc_ap, sStar_ap, starK1, starK2, starK3, sUpd_ap, eSortSc_ap, forD_ap, oneD_ap, List.getElem?_cons_zero, List.getElem?_cons_succ, List.set_cons_zero, List.set_cons_succ, if_true, if_false, Bool.false_eq_true, List.length_cons, List.length_nil, List.length_map, Bool.true_and, Bool.and_true, Bool.false_and, Bool.and_false, Bool.not_true, Bool.not_false, eq_self, Nat.reduceEqDiff, Nat.reduceAdd]
  have p4 : ∀ n : Nat, n ≤ 3 → 4 ^ n ≤ 64 := fun n hn => by
    match n, hn with
    | 0, _ => decide
    | 1, _ => decide
    | 2, _ => decide
    | 3, _ => decide
  have h3 := hs.2.1
  generalize hg : (sRet (eV 1) : Lo → Fl) = g
  refine (forL_post (Post := fun r => ∃ sts : List (List Int), (r.go g).fin = .ok (.lst (sts.map stD)) ∧ ∀ st ∈ sts, st.length = bs.length)
    (fun r ρ => ∃ (p t : List D) (sts : List (List Int)) (x2 x3 x4 x5 x6 x7 : Sl), r = t ∧ bs = p ++ t ∧ (∀ st ∈ sts, st.length = p.length) ∧ sts.length ≤ 4 ^ p.length ∧ ρ = [.sh (.lst bs), .sh (.lst (sts.map stD)), x2, x3, x4, x5, x6, x7])
    (fun d r ρ q => ?_) (fun ρ q => ?_) ⟨[], bs, [[]], .no, .no, .no, .no, .no, .no, rfl, rfl, fun st h => by rw [List.mem_singleton.mp h]; rfl, Nat.le_refl _, rfl⟩ :)
  · obtain ⟨p, t, sts, x2, x3, x4, x5, x6, x7, h1, h2, h4, h5, rfl⟩ := q
    subst h1
    obtain ⟨n, k, z, rfl, a1, a2, a3, a4⟩ := hs.2.2.2 d (by rw [h2]; simp)
    refine ⟨_, rfl, ?_⟩
    have hp : p.length < 3 := by
      have e := congrArg List.length h2
      rw [List.length_append, List.length_cons] at e
      omega
    have h6 : sts.length ≤ 64 := Nat.le_trans h5 (p4 _ (by omega))
    simp only [bind_ok, bind_ex, bind_bad, fb_ok, fb_ex, fb_bad, opt_some, opt_none, go_nx, go_bk, go_ct, go_rt, go_ex, go_bad, sq_go, fin_rt, fin_nx, fin_ex, val_sh, bor_sh, bor_ow, eV_ap, eB_ap, eC_ap, b1_ap, b2_ap, thn3_t, thn3_f, b3_ap, tru_bl, tb_ap, tAndB_ap, tOrB_ap, tNotB_ap, eAnd_ap, eOr_ap, eNot_ap, eIf_ap, aNil_ap, aCons_ap, eTup_ap, eLst_ap, eCall_ap, oN_ap, oint_ok, oS_ap, eSl_ap, iS_ap, items_lst, items_tup, iR1_ap, iR2_ap, enD_lst, iE_ap, gS_ap, gNil_ap, gCons_ap, gT_ap, sNx_ap, sBk_ap, sCt_ap, sFz_ap, sSet_ap, sNew_ap, nSl_lst, nSl_tup, nSl_int, nSl_dic, sAsg_ap, sRet_ap, sRetN_ap, sIf_ap, sEx_ap, sFor_ap, eLc_ap, wipe_nil, wipe_cons, tsY_ap, iZ_ap, fzS_ow, fzS_sh, fzS_no, fz_ap, augS_sh, sAug_ap, appS_ow, sApp_ap, ends_nx, ends_ct, ends_bk, ends_rt, ends_ex, opAdd_ii, opSub_ii, opNeg_i, opLe_ii, opLt_ii, opGt_ii, opGe_ii, opLen_l, opLen_t, opIx_l, opIx_t, opCut_l, opCut_t, opTuple_l, opTuple_t, opList_l, opList_t, opMax_ii, opInt_b, opInt_i, opEq_bb, opNe_bb, opEq_ii, opNe_ii, opNe_ss, opEq_ss, opIs_n, opIs_bb, atI_0, atI_1, atI_2, atI_3, eCallB_ap, atomR_i, atomR_b, atomR_n, atomR_s, fit0, fit1, fit2, fit3, fit4, fit5, fit6, fit7, fit8, fit9, fit10, fit11, fit12, fit13, fit14, fit15, fit16, fit17, fit18, fit19, fit20, fit21, fit22, fit23, fit24, fit25, fit26, fit27, fit28, fit29, fit30, fit31, fit32, fit33, fit34, fit35, fit36, fit37, fit38, fit39, fit40, one_1, one_0, one_2, two_2, two_0, two_1, two_3, eM_ap, mtD_l, opIsNot_n, gTl_ap, lnt_sh, lnt_ow, eBl_ap, sPut_ap, putF_t, putR_ap, isOwn_ow, putS_l, putS_ds, putS_di, opDGet_s, opDGet_i, opDIn_s, opDNotIn_s, opRev_l, opRev_t, sPar_ap, parF_2, eGet2_ap, eGet1_ap, getF_t, isDic_d, dgetOr_s, dgetOr_i, eLenSc_ap, sStar_ap, starK1, starK2, starK3, sUpd_ap, eSortSc_ap, forD_ap, oneD_ap, List.getElem?_cons_zero, List.getElem?_cons_succ, List.set_cons_zero, List.set_cons_succ, if_true, if_false, Bool.false_eq_true, List.length_cons, List.length_nil, List.length_map, Bool.true_and, Bool.and_true, Bool.false_and, Bool.and_false, Bool.not_true, Bool.not_false, eq_self, Nat.reduceEqDiff, Nat.reduceAdd]
    generalize hg2 : (sSet 1 (eV 5) : Lo → Fl) = g2
    refine (forL_post (Post := fun r => Fl.ends _ _ (r.go g2))
      (fun r ρ => ∃ (p2 t2 acc : List (List Int)) (x6 x7 : Sl), r = t2.map stD ∧ sts = p2 ++ t2 ∧ (∀ st ∈ acc, st.length = p.length + 1) ∧ acc.length ≤ 4 * p2.length ∧ ρ = [.sh (.lst bs), .sh (.lst (sts.map stD)), .sh (.str n), .sh (.int z), .sh (.str k), .sh (.lst (acc.map stD)), x6, x7])
      (fun d r ρ q => ?_) (fun ρ q => ?_) ⟨[], sts, [], _, _, rfl, rfl, fun st h => by simp at h, by simp, rfl⟩ :)
    · obtain ⟨p2, t2, acc, y6, y7, c1, c2, c3, c4, rfl⟩ := q
      cases t2 with
      | nil => cases c1
      | cons st t2 =>
        cases c1
        refine ⟨_, rfl, ?_⟩
        have hst : st.length = p.length := h4 st (by rw [c2]; simp)
        have l2 : p2.length < 64 := by
          have e := congrArg List.length c2
          rw [List.length_append, List.length_cons] at e
          omega
        have e := lcL_encM (asg := gS 7) (elt := b2 (eV 6) (eTup (aCons (eV 7) aNil)) opAdd) (ρ := [.sh (.lst bs), .sh (.lst (sts.map stD)), .sh (.str n), .sh (.int z), .sh (.str k), .sh (.lst (acc.map stD)), .sh (stD st), .no]) (fun i : Nat => D.int (0 + (i : Int))) (fun i : Nat => stD (st ++ [0 + (i : Int)])) (l := List.range (z - 0).toNat) fun i hi => ⟨_, rfl, by
          have q := opAdd_tw (xs := st.map D.int) (ys := [D.int (0 + (i : Int))]) (by simp only [List.length_map, List.length_cons, List.length_nil]; omega)
          unfold stD
          simp only [bind_ok, bind_ex, bind_bad, fb_ok, fb_ex, fb_bad, opt_some, opt_none, go_nx, go_bk, go_ct, go_rt, go_ex, go_bad, sq_go, fin_rt, fin_nx, fin_ex, val_sh, bor_sh, bor_ow, eV_ap, eB_ap, eC_ap, b1_ap, b2_ap, thn3_t, thn3_f, b3_ap, tru_bl, tb_ap, tAndB_ap, tOrB_ap, tNotB_ap, eAnd_ap, eOr_ap, eNot_ap, eIf_ap, aNil_ap, aCons_ap, eTup_ap, eLst_ap, eCall_ap, oN_ap, oint_ok, oS_ap, eSl_ap, iS_ap, items_lst, items_tup, iR1_ap, iR2_ap, enD_lst, iE_ap, gS_ap, gNil_ap, gCons_ap, gT_ap, sNx_ap, sBk_ap, sCt_ap, sFz_ap, sSet_ap, sNew_ap, nSl_lst, nSl_tup, nSl_int, nSl_dic, sAsg_ap, sRet_ap, sRetN_ap, sIf_ap, sEx_ap, sFor_ap, eLc_ap, wipe_nil, wipe_cons, tsY_ap, iZ_ap, fzS_ow, fzS_sh, fzS_no, fz_ap, augS_sh, sAug_ap, appS_ow, sApp_ap, ends_nx, ends_ct, ends_bk, ends_rt, ends_ex, opAdd_ii, opSub_ii, opNeg_i, opLe_ii, opLt_ii, opGt_ii, opGe_ii, opLen_l, opLen_t, opIx_l, opIx_t, opCut_l, opCut_t, opTuple_l, opTuple_t, opList_l, opList_t, opMax_ii, opInt_b, opInt_i, opEq_bb, opNe_bb, opEq_ii, opNe_ii, opNe_ss, opEq_ss, opIs_n, opIs_bb, atI_0, atI_1, atI_2, atI_3, eCallB_ap, atomR_i, atomR_b, atomR_n, atomR_s, fit0, fit1, fit2, fit3, fit4, fit5, fit6, fit7, fit8, fit9, fit10, fit11, fit12, fit13, fit14, fit15, fit16, fit17, fit18, fit19, fit20, fit21, fit22, fit23, fit24, fit25, fit26, fit27, fit28, fit29, fit30, fit31, fit32, fit33, fit34, fit35, fit36, fit37, fit38, fit39, fit40, one_1, one_0, one_2, two_2, two_0, two_1, two_3, eM_ap, mtD_l, opIsNot_n, gTl_ap, lnt_sh, lnt_ow, eBl_ap, sPut_ap, putF_t, putR_ap, isOwn_ow, putS_l, putS_ds, putS_di, opDGet_s, opDGet_i, opDIn_s, opDNotIn_s, opRev_l, opRev_t, sPar_ap, parF_2, eGet2_ap, eGet1_ap, getF_t, isDic_d, dgetOr_s, dgetOr_i, eLenSc_ap, sStar_ap, starK1, starK2, starK3, sUpd_ap, eSortSc_ap, forD_ap, oneD_ap, List.getElem?_cons_zero, List.getElem?_cons_succ, List.set_cons_zero, List.set_cons_succ, if_true, if_false, Bool.false_eq_true, List.length_cons, List.length_nil, List.length_map, Bool.true_and, Bool.and_true, Bool.false_and, Bool.and_false, Bool.not_true, Bool.not_false, eq_self, Nat.reduceEqDiff, Nat.reduceAdd, q, List.map_append, List.map_cons, List.map_nil]⟩
        have e2 : rng 0 z = (List.range (z - 0).toNat).map (fun i : Nat => D.int (0 + (i : Int))) := rfl
        have e3 : (List.range (z - 0).toNat).map (fun i : Nat => stD (st ++ [0 + (i : Int)])) = ((List.range (z - 0).toNat).map fun i : Nat => st ++ [0 + (i : Int)]).map stD := by rw [List.map_map]; rfl
        have ad := opAdd_lw (xs := acc.map stD) (ys := ((List.range (z - 0).toNat).map fun i : Nat => st ++ [0 + (i : Int)]).map stD) (by simp only [List.length_map, List.length_range]; omega)
        simp (disch := first | omega | (simp only [List.length_cons, List.length_nil, List.length_map, List.length_append, Nat.reduceAdd, Nat.reduceLeDiff]; done) | (simp only [List.length_cons, List.length_nil, List.length_map, List.length_append, Nat.reduceAdd, Nat.reduceLeDiff]; omega)) only [bind_ok, bind_ex, bind_bad, fb_ok, fb_ex, fb_bad, opt_some, opt_none, go_nx, go_bk, go_ct, go_rt, go_ex, go_bad, sq_go, fin_rt, fin_nx, fin_ex, val_sh, bor_sh, bor_ow, eV_ap, eB_ap, eC_ap, b1_ap, b2_ap, thn3_t, thn3_f, b3_ap, tru_bl, tb_ap, tAndB_ap, tOrB_ap, tNotB_ap, eAnd_ap, eOr_ap, eNot_ap, eIf_ap, aNil_ap, aCons_ap, eTup_ap, eLst_ap, eCall_ap, oN_ap, oint_ok, oS_ap, eSl_ap, iS_ap, items_lst, items_tup, iR1_ap, iR2_ap, enD_lst, iE_ap, gS_ap, gNil_ap, gCons_ap, gT_ap, sNx_ap, sBk_ap, sCt_ap, sFz_ap, sSet_ap, sNew_ap, nSl_lst, nSl_tup, nSl_int, nSl_dic, sAsg_ap, sRet_ap, sRetN_ap, sIf_ap, sEx_ap, sFor_ap, eLc_ap, wipe_nil, wipe_cons, tsY_ap, iZ_ap, fzS_ow, fzS_sh, fzS_no, fz_ap, augS_sh, sAug_ap, appS_ow, sApp_ap, ends_nx, ends_ct, ends_bk, ends_rt, ends_ex, opAdd_ii, opSub_ii, opNeg_i, opLe_ii, opLt_ii, opGt_ii, opGe_ii, opLen_l, opLen_t, opIx_l, opIx_t, opCut_l, opCut_t, opTuple_l, opTuple_t, opList_l, opList_t, opMax_ii, opInt_b, opInt_i, opEq_bb, opNe_bb, opEq_ii, opNe_ii, opNe_ss, opEq_ss, opIs_n, opIs_bb, atI_0, atI_1, atI_2, atI_3, eCallB_ap, atomR_i, atomR_b, atomR_n, atomR_s, fit0, fit1, fit2, fit3, fit4, fit5, fit6, fit7, fit8, fit9, fit10, fit11, fit12, fit13, fit14, fit15, fit16, fit17, fit18, fit19, fit20, fit21, fit22, fit23, fit24, fit25, fit26, fit27, fit28, fit29, fit30, fit31, fit32, fit33, fit34, fit35, fit36, fit37, fit38, fit39, fit40, one_1, one_0, one_2, two_2, two_0, two_1, two_3, eM_ap, mtD_l, opIsNot_n, gTl_ap, lnt_sh, lnt_ow, eBl_ap, sPut_ap, putF_t, putR_ap, isOwn_ow, putS_l, putS_ds, putS_di, opDGet_s, opDGet_i, opDIn_s, opDNotIn_s, opRev_l, opRev_t, sPar_ap, parF_2, eGet2_ap, eGet1_ap, getF_t, isDic_d, dgetOr_s, dgetOr_i, eLenSc_ap, sStar_ap, starK1, starK2, starK3, sUpd_ap, eSortSc_ap, forD_ap, oneD_ap, List.getElem?_cons_zero, List.getElem?_cons_succ, List.set_cons_zero, List.set_cons_succ, if_true, if_false, Bool.false_eq_true, List.length_cons, List.length_nil, List.length_map, Bool.true_and, Bool.and_true, Bool.false_and, Bool.and_false, Bool.not_true, Bool.not_false, eq_self, Nat.reduceEqDiff, Nat.reduceAdd, range_i, e2, e, e3, ad]
        rw [← List.map_append]
        refine ⟨p2 ++ [st], t2, _, _, _, rfl, by rw [c2, List.append_assoc]; rfl, fun s hs2 => ?_, ?_, rfl⟩
        · rw [List.mem_append, List.mem_map] at hs2
          rcases hs2 with hs2 | ⟨i, _, rfl⟩
          · exact c3 s hs2
          · rw [List.length_append, hst]; rfl
        · simp only [List.length_append, List.length_map, List.length_range, List.length_cons, List.length_nil]
          omega
    · obtain ⟨p2, t2, acc, y6, y7, c1, c2, c3, c4, rfl⟩ := q
      cases t2 with
      | nil =>
        subst hg2
        rw [List.append_nil] at c2
        subst c2
        simp only [bind_ok, bind_ex, bind_bad, fb_ok, fb_ex, fb_bad, opt_some, opt_none, go_nx, go_bk, go_ct, go_rt, go_ex, go_bad, sq_go, fin_rt, fin_nx, fin_ex, val_sh, bor_sh, bor_ow, eV_ap, eB_ap, eC_ap, b1_ap, b2_ap, thn3_t, thn3_f, b3_ap, tru_bl, tb_ap, tAndB_ap, tOrB_ap, tNotB_ap, eAnd_ap, eOr_ap, eNot_ap, eIf_ap, aNil_ap, aCons_ap, eTup_ap, eLst_ap, eCall_ap, oN_ap, oint_ok, oS_ap, eSl_ap, iS_ap, items_lst, items_tup, iR1_ap, iR2_ap, enD_lst, iE_ap, gS_ap, gNil_ap, gCons_ap, gT_ap, sNx_ap, sBk_ap, sCt_ap, sFz_ap, sSet_ap, sNew_ap, nSl_lst, nSl_tup, nSl_int, nSl_dic, sAsg_ap, sRet_ap, sRetN_ap, sIf_ap, sEx_ap, sFor_ap, eLc_ap, wipe_nil, wipe_cons, tsY_ap, iZ_ap, fzS_ow, fzS_sh, fzS_no, fz_ap, augS_sh, sAug_ap, appS_ow, sApp_ap, ends_nx, ends_ct, ends_bk, ends_rt, ends_ex, opAdd_ii, opSub_ii, opNeg_i, opLe_ii, opLt_ii, opGt_ii, opGe_ii, opLen_l, opLen_t, opIx_l, opIx_t, opCut_l, opCut_t, opTuple_l, opTuple_t, opList_l, opList_t, opMax_ii, opInt_b, opInt_i, opEq_bb, opNe_bb, opEq_ii, opNe_ii, opNe_ss, opEq_ss, opIs_n, opIs_bb, atI_0, atI_1, atI_2, atI_3, eCallB_ap, atomR_i, atomR_b, atomR_n, atomR_s, fit0, fit1, fit2, fit3, fit4, fit5, fit6, fit7, fit8, fit9, fit10, fit11, fit12, fit13, fit14, fit15, fit16, fit17, fit18, fit19, fit20, fit21, fit22, fit23, fit24, fit25, fit26, fit27, fit28, fit29, fit30, fit31, fit32, fit33, fit34, fit35, fit36, fit37, fit38, fit39, fit40, one_1, one_0, one_2, two_2, two_0, two_1, two_3, eM_ap, mtD_l, opIsNot_n, gTl_ap, lnt_sh, lnt_ow, eBl_ap, sPut_ap, putF_t, putR_ap, isOwn_ow, putS_l, putS_ds, putS_di, opDGet_s, opDGet_i, opDIn_s, opDNotIn_s, opRev_l, opRev_t, sPar_ap, parF_2, eGet2_ap, eGet1_ap, getF_t, isDic_d, dgetOr_s, dgetOr_i, eLenSc_ap, sStar_ap, starK1, starK2, starK3, sUpd_ap, eSortSc_ap, forD_ap, oneD_ap, List.getElem?_cons_zero, List.getElem?_cons_succ, List.set_cons_zero, List.set_cons_succ, if_true, if_false, Bool.false_eq_true, List.length_cons, List.length_nil, List.length_map, Bool.true_and, Bool.and_true, Bool.false_and, Bool.and_false, Bool.not_true, Bool.not_false, eq_self, Nat.reduceEqDiff, Nat.reduceAdd]
        refine ⟨p ++ [_], _, acc, _, _, _, _, _, _, rfl, by rw [h2, List.append_assoc]; rfl, fun st h => by rw [c3 st h, List.length_append]; rfl, ?_, rfl⟩
        rw [List.length_append, List.length_cons, List.length_nil, Nat.pow_succ]
        omega
      | cons => cases c1
  · obtain ⟨p, t, sts, x2, x3, x4, x5, x6, x7, h1, h2, h4, h5, rfl⟩ := q
    subst h1
    subst hg
    rw [List.append_nil] at h2
    subst h2
    exact ⟨sts, by simp only [bind_ok, bind_ex, bind_bad, fb_ok, fb_ex, fb_bad, opt_some, opt_none, go_nx, go_bk, go_ct, go_rt, go_ex, go_bad, sq_go, fin_rt, fin_nx, fin_ex, val_sh, bor_sh, bor_ow, eV_ap, eB_ap, eC_ap, b1_ap, b2_ap, thn3_t, thn3_f, b3_ap, tru_bl, tb_ap, tAndB_ap, tOrB_ap, tNotB_ap, eAnd_ap, eOr_ap, eNot_ap, eIf_ap, aNil_ap, aCons_ap, eTup_ap, eLst_ap, eCall_ap, oN_ap, oint_ok, oS_ap, eSl_ap, iS_ap, items_lst, items_tup, iR1_ap, iR2_ap, enD_lst, iE_ap, gS_ap, gNil_ap, gCons_ap, gT_ap, sNx_ap, sBk_ap, sCt_ap, sFz_ap, sSet_ap, sNew_ap, nSl_lst, nSl_tup, nSl_int, nSl_dic, sAsg_ap, sRet_ap, sRetN_ap, sIf_ap, sEx_ap, sFor_ap, eLc_ap, wipe_nil, wipe_cons, tsY_ap, iZ_ap, fzS_ow, fzS_sh, fzS_no, fz_ap, augS_sh, sAug_ap, appS_ow, sApp_ap, ends_nx, ends_ct, ends_bk, ends_rt, ends_ex, opAdd_ii, opSub_ii, opNeg_i, opLe_ii, opLt_ii, opGt_ii, opGe_ii, opLen_l, opLen_t, opIx_l, opIx_t, opCut_l, opCut_t, opTuple_l, opTuple_t, opList_l, opList_t, opMax_ii, opInt_b, opInt_i, opEq_bb, opNe_bb, opEq_ii, opNe_ii, opNe_ss, opEq_ss, opIs_n, opIs_bb, atI_0, atI_1, atI_2, atI_3, eCallB_ap, atomR_i, atomR_b, atomR_n, atomR_s, fit0, fit1, fit2, fit3, fit4, fit5, fit6, fit7, fit8, fit9, fit10, fit11, fit12, fit13, fit14, fit15, fit16, fit17, fit18, fit19, fit20, fit21, fit22, fit23, fit24, fit25, fit26, fit27, fit28, fit29, fit30, fit31, fit32, fit33, fit34, fit35, fit36, fit37, fit38, fit39, fit40, one_1, one_0, one_2, two_2, two_0, two_1, two_3, eM_ap, mtD_l, opIsNot_n, gTl_ap, lnt_sh, lnt_ow, eBl_ap, sPut_ap, putF_t, putR_ap, isOwn_ow, putS_l, putS_ds, putS_di, opDGet_s, opDGet_i, opDIn_s, opDNotIn_s, opRev_l, opRev_t, sPar_ap, parF_2, eGet2_ap, eGet1_ap, getF_t, isDic_d, dgetOr_s, dgetOr_i, eLenSc_ap, sStar_ap, starK1, starK2, starK3, sUpd_ap, eSortSc_ap, forD_ap, oneD_ap, List.getElem?_cons_zero, List.getElem?_cons_succ, List.set_cons_zero, List.set_cons_succ, if_true, if_false, Bool.false_eq_true, List.length_cons, List.length_nil, List.length_map, Bool.true_and, Bool.and_true, Bool.false_and, Bool.and_false, Bool.not_true, Bool.not_false, eq_self, Nat.reduceEqDiff, Nat.reduceAdd], h4⟩

theorem typed {ns : List Str} {k : Nat} : ∀ {es : List D}, (∀ e ∈ es, ∃ c, e = enC c ∧ wfC ns k c) → ∃ cs : List Cn, es = cs.map enC ∧ ∀ c ∈ cs, wfC ns k c
  | [], _ => ⟨[], rfl, fun c h => by simp at h⟩
  | e :: es, h => by
    obtain ⟨c, rfl, hc⟩ := h e (by simp)
    obtain ⟨cs, rfl, hcs⟩ := typed (es := es) fun z hz => h z (by simp [hz])
    exact ⟨c :: cs, rfl, fun d hd => (List.mem_cons.mp hd).elim (fun q => q ▸ hc) (hcs d)⟩
theorem tree_ok {bs : List D} (hs : SBs bs) : ∀ (k j : Nat) (l : List Int), k ≤ j → k ≤ 4 → 13 * (k + 1) ≤ l.length → (∀ x ∈ l, 0 ≤ x) → ∃ c, fr_law_tree (j + 1) [.lst (l.map .int), .lst bs, .int ((k + 1 : Nat) : Int)] = .ok (enC c) ∧ wfC (nmsOf bs) (k + 1) c := fun k => by
  induction k with
  | zero =>
    intro j l hj h5 hl hn
    rw [e_law_tree]
    unfold b_law_tree
    have hbl := hs.1
    obtain ⟨o1, m1, q1⟩ := atI_mod (xs := bs) (l.getD (1 : Int).toNat 0) rfl (by omega)
    obtain ⟨o2, m2, q2⟩ := atI_mod (xs := bs) (l.getD (2 : Int).toNat 0) rfl (by omega)
    obtain ⟨n1, k1, z1, rfl, a1, y1, c1, d1⟩ := hs.2.2.2 o1 m1
    obtain ⟨n2, k2, z2, rfl, a2, y2, c2, d2⟩ := hs.2.2.2 o2 m2
    obtain ⟨s1, s2⟩ := sz_of hs.2.2.1 m1
    obtain ⟨s3, s4⟩ := sz_of hs.2.2.1 m2
    have e1 : (((0 + 1 : Nat) : Int) == 1) = true := rfl
    simp (disch := first | omega | (simp only [List.length_cons, List.length_nil, List.length_map, List.length_append, Nat.reduceAdd, Nat.reduceLeDiff]; done) | (simp only [List.length_cons, List.length_nil, List.length_map, List.length_append, Nat.reduceAdd, Nat.reduceLeDiff]; omega)) only [bind_ok, bind_ex, bind_bad, fb_ok, fb_ex, fb_bad, opt_some, opt_none, go_nx, go_bk, go_ct, go_rt, go_ex, go_bad, sq_go, fin_rt, fin_nx, fin_ex, val_sh, bor_sh, bor_ow, eV_ap, eB_ap, eC_ap, b1_ap, b2_ap, thn3_t, thn3_f, b3_ap, tru_bl, tb_ap, tAndB_ap, tOrB_ap, tNotB_ap, eAnd_ap, eOr_ap, eNot_ap, eIf_ap, aNil_ap, aCons_ap, eTup_ap, eLst_ap, eCall_ap, oN_ap, oint_ok, oS_ap, eSl_ap, iS_ap, items_lst, items_tup, iR1_ap, iR2_ap, enD_lst, iE_ap, gS_ap, gNil_ap, gCons_ap, gT_ap, sNx_ap, sBk_ap, sCt_ap, sFz_ap, sSet_ap, sNew_ap, nSl_lst, nSl_tup, nSl_int, nSl_dic, sAsg_ap, sRet_ap, sRetN_ap, sIf_ap, sEx_ap, sFor_ap, eLc_ap, wipe_nil, wipe_cons, tsY_ap, iZ_ap, fzS_ow, fzS_sh, fzS_no, fz_ap, augS_sh, sAug_ap, appS_ow, sApp_ap, ends_nx, ends_ct, ends_bk, ends_rt, ends_ex, opAdd_ii, opSub_ii, opNeg_i, opLe_ii, opLt_ii, opGt_ii, opGe_ii, opLen_l, opLen_t, opIx_l, opIx_t, opCut_l, opCut_t, opTuple_l, opTuple_t, opList_l, opList_t, opMax_ii, opInt_b, opInt_i, opEq_bb, opNe_bb, opEq_ii, opNe_ii, opNe_ss, opEq_ss, opIs_n, opIs_bb, atI_0, atI_1, atI_2, atI_3, eCallB_ap, atomR_i, atomR_b, atomR_n, atomR_s, fit0, fit1, fit2, fit3, fit4, fit5, fit6, fit7, fit8, fit9, fit10, fit11, fit12, fit13, fit14, fit15, fit16, fit17, fit18, fit19, fit20, fit21, fit22, fit23, fit24, fit25, fit26, fit27, fit28, fit29, fit30, fit31, fit32, fit33, fit34, fit35, fit36, fit37, fit38, fit39, fit40, one_1, one_0, one_2, two_2, two_0, two_1, two_3, eM_ap, mtD_l, opIsNot_n, gTl_ap, lnt_sh, lnt_ow, eBl_ap, sPut_ap, putF_t, putR_ap, isOwn_ow, putS_l, putS_ds, putS_di, opDGet_s, opDGet_i, opDIn_s, opDNotIn_s, opRev_l, opRev_t, sPar_ap, parF_2, eGet2_ap, eGet1_ap, getF_t, isDic_d, dgetOr_s, dgetOr_i, eLenSc_ap, sStar_ap, starK1, starK2, starK3, sUpd_ap, eSortSc_ap, forD_ap, oneD_ap, List.getElem?_cons_zero, List.getElem?_cons_succ, List.set_cons_zero, List.set_cons_succ, if_true, if_false, Bool.false_eq_true, List.length_cons, List.length_nil, List.length_map, Bool.true_and, Bool.and_true, Bool.false_and, Bool.and_false, Bool.not_true, Bool.not_false, eq_self, Nat.reduceEqDiff, Nat.reduceAdd, atI_dig, opMod_ii, opDiv_ii, q1, q2, e1, tOr_ok, Bool.or_true]
    have in1 : n1 ∈ nmsOf bs := List.mem_map.mpr ⟨_, m1, rfl⟩
    have in2 : n2 ∈ nmsOf bs := List.mem_map.mpr ⟨_, m2, rfl⟩
    obtain ⟨v, hv, q3⟩ := atI_mod (xs := [D.tup [.str "yes"], .tup [.str "is", .str n1, .int (l.getD (3 : Int).toNat 0 % z1)], .tup [.str "like", .str n1, .str n2]]) (l.getD (0 : Int).toNat 0 / 8) (n := 3) rfl (by simp)
    rw [q3]
    simp only [List.mem_cons, List.not_mem_nil, or_false] at hv
    rcases hv with rfl | rfl | rfl
    · exact ⟨.yes, by simp only [enC]; rfl, trivial⟩
    · exact ⟨.is n1 _, by simp only [enC]; rfl, in1⟩
    · exact ⟨.like n1 n2, by simp only [enC]; rfl, in1, in2⟩
  | succ k ih =>
    intro j l hj h5 hl hn
    obtain ⟨j, rfl⟩ : ∃ i, j = i + 1 := ⟨j - 1, by omega⟩
    rw [e_law_tree]
    unfold b_law_tree
    have hbl := hs.1
    obtain ⟨o1, m1, q1⟩ := atI_mod (xs := bs) (l.getD (1 : Int).toNat 0) rfl (by omega)
    obtain ⟨o2, m2, q2⟩ := atI_mod (xs := bs) (l.getD (2 : Int).toNat 0) rfl (by omega)
    obtain ⟨n1, k1, z1, rfl, a1, y1, c1, d1⟩ := hs.2.2.2 o1 m1
    obtain ⟨n2, k2, z2, rfl, a2, y2, c2, d2⟩ := hs.2.2.2 o2 m2
    obtain ⟨s1, s2⟩ := sz_of hs.2.2.1 m1
    obtain ⟨s3, s4⟩ := sz_of hs.2.2.1 m2
    have e1 : (((k + 1 + 1 : Nat) : Int) == 1) = false := beq_eq_false_iff_ne.mpr (by omega)
    have w1 := Int.emod_nonneg (l.getD (0 : Int).toNat 0) (b := 8) (by omega)
    have w2 := Int.emod_lt_of_pos (l.getD (0 : Int).toNat 0) (b := 8) (by omega)
    simp (disch := first | omega | (simp only [List.length_cons, List.length_nil, List.length_map, List.length_append, Nat.reduceAdd, Nat.reduceLeDiff]; done) | (simp only [List.length_cons, List.length_nil, List.length_map, List.length_append, Nat.reduceAdd, Nat.reduceLeDiff]; omega)) only [bind_ok, bind_ex, bind_bad, fb_ok, fb_ex, fb_bad, opt_some, opt_none, go_nx, go_bk, go_ct, go_rt, go_ex, go_bad, sq_go, fin_rt, fin_nx, fin_ex, val_sh, bor_sh, bor_ow, eV_ap, eB_ap, eC_ap, b1_ap, b2_ap, thn3_t, thn3_f, b3_ap, tru_bl, tb_ap, tAndB_ap, tOrB_ap, tNotB_ap, eAnd_ap, eOr_ap, eNot_ap, eIf_ap, aNil_ap, aCons_ap, eTup_ap, eLst_ap, eCall_ap, oN_ap, oint_ok, oS_ap, eSl_ap, iS_ap, items_lst, items_tup, iR1_ap, iR2_ap, enD_lst, iE_ap, gS_ap, gNil_ap, gCons_ap, gT_ap, sNx_ap, sBk_ap, sCt_ap, sFz_ap, sSet_ap, sNew_ap, nSl_lst, nSl_tup, nSl_int, nSl_dic, sAsg_ap, sRet_ap, sRetN_ap, sIf_ap, sEx_ap, sFor_ap, eLc_ap, wipe_nil, wipe_cons, tsY_ap, iZ_ap, fzS_ow, fzS_sh, fzS_no, fz_ap, augS_sh, sAug_ap, appS_ow, sApp_ap, ends_nx, ends_ct, ends_bk, ends_rt, ends_ex, opAdd_ii, opSub_ii, opNeg_i, opLe_ii, opLt_ii, opGt_ii, opGe_ii, opLen_l, opLen_t, opIx_l, opIx_t, opCut_l, opCut_t, opTuple_l, opTuple_t, opList_l, opList_t, opMax_ii, opInt_b, opInt_i, opEq_bb, opNe_bb, opEq_ii, opNe_ii, opNe_ss, opEq_ss, opIs_n, opIs_bb, atI_0, atI_1, atI_2, atI_3, eCallB_ap, atomR_i, atomR_b, atomR_n, atomR_s, fit0, fit1, fit2, fit3, fit4, fit5, fit6, fit7, fit8, fit9, fit10, fit11, fit12, fit13, fit14, fit15, fit16, fit17, fit18, fit19, fit20, fit21, fit22, fit23, fit24, fit25, fit26, fit27, fit28, fit29, fit30, fit31, fit32, fit33, fit34, fit35, fit36, fit37, fit38, fit39, fit40, one_1, one_0, one_2, two_2, two_0, two_1, two_3, eM_ap, mtD_l, opIsNot_n, gTl_ap, lnt_sh, lnt_ow, eBl_ap, sPut_ap, putF_t, putR_ap, isOwn_ow, putS_l, putS_ds, putS_di, opDGet_s, opDGet_i, opDIn_s, opDNotIn_s, opRev_l, opRev_t, sPar_ap, parF_2, eGet2_ap, eGet1_ap, getF_t, isDic_d, dgetOr_s, dgetOr_i, eLenSc_ap, sStar_ap, starK1, starK2, starK3, sUpd_ap, eSortSc_ap, forD_ap, oneD_ap, List.getElem?_cons_zero, List.getElem?_cons_succ, List.set_cons_zero, List.set_cons_succ, if_true, if_false, Bool.false_eq_true, List.length_cons, List.length_nil, List.length_map, Bool.true_and, Bool.and_true, Bool.false_and, Bool.and_false, Bool.not_true, Bool.not_false, eq_self, Nat.reduceEqDiff, Nat.reduceAdd, atI_dig, opMod_ii, opDiv_ii, q1, q2, e1, tOr_ok, Bool.or_false]
    generalize l.getD (0 : Int).toNat 0 % 8 = way at w1 w2
    by_cases hw : way < 2
    · simp only [decide_eq_true hw, bind_ok, bind_ex, bind_bad, fb_ok, fb_ex, fb_bad, opt_some, opt_none, go_nx, go_bk, go_ct, go_rt, go_ex, go_bad, sq_go, fin_rt, fin_nx, fin_ex, val_sh, bor_sh, bor_ow, eV_ap, eB_ap, eC_ap, b1_ap, b2_ap, thn3_t, thn3_f, b3_ap, tru_bl, tb_ap, tAndB_ap, tOrB_ap, tNotB_ap, eAnd_ap, eOr_ap, eNot_ap, eIf_ap, aNil_ap, aCons_ap, eTup_ap, eLst_ap, eCall_ap, oN_ap, oint_ok, oS_ap, eSl_ap, iS_ap, items_lst, items_tup, iR1_ap, iR2_ap, enD_lst, iE_ap, gS_ap, gNil_ap, gCons_ap, gT_ap, sNx_ap, sBk_ap, sCt_ap, sFz_ap, sSet_ap, sNew_ap, nSl_lst, nSl_tup, nSl_int, nSl_dic, sAsg_ap, sRet_ap, sRetN_ap, sIf_ap, sEx_ap, sFor_ap, eLc_ap, wipe_nil, wipe_cons, tsY_ap, iZ_ap, fzS_ow, fzS_sh, fzS_no, fz_ap, augS_sh, sAug_ap, appS_ow, sApp_ap, ends_nx, ends_ct, ends_bk, ends_rt, ends_ex, opAdd_ii, opSub_ii, opNeg_i, opLe_ii, opLt_ii, opGt_ii, opGe_ii, opLen_l, opLen_t, opIx_l, opIx_t, opCut_l, opCut_t, opTuple_l, opTuple_t, opList_l, opList_t, opMax_ii, opInt_b, opInt_i, opEq_bb, opNe_bb, opEq_ii, opNe_ii, opNe_ss, opEq_ss, opIs_n, opIs_bb, atI_0, atI_1, atI_2, atI_3, eCallB_ap, atomR_i, atomR_b, atomR_n, atomR_s, fit0, fit1, fit2, fit3, fit4, fit5, fit6, fit7, fit8, fit9, fit10, fit11, fit12, fit13, fit14, fit15, fit16, fit17, fit18, fit19, fit20, fit21, fit22, fit23, fit24, fit25, fit26, fit27, fit28, fit29, fit30, fit31, fit32, fit33, fit34, fit35, fit36, fit37, fit38, fit39, fit40, one_1, one_0, one_2, two_2, two_0, two_1, two_3, eM_ap, mtD_l, opIsNot_n, gTl_ap, lnt_sh, lnt_ow, eBl_ap, sPut_ap, putF_t, putR_ap, isOwn_ow, putS_l, putS_ds, putS_di, opDGet_s, opDGet_i, opDIn_s, opDNotIn_s, opRev_l, opRev_t, sPar_ap, parF_2, eGet2_ap, eGet1_ap, getF_t, isDic_d, dgetOr_s, dgetOr_i, eLenSc_ap, sStar_ap, starK1, starK2, starK3, sUpd_ap, eSortSc_ap, forD_ap, oneD_ap, List.getElem?_cons_zero, List.getElem?_cons_succ, List.set_cons_zero, List.set_cons_succ, if_true, if_false, Bool.false_eq_true, List.length_cons, List.length_nil, List.length_map, Bool.true_and, Bool.and_true, Bool.false_and, Bool.and_false, Bool.not_true, Bool.not_false, eq_self, Nat.reduceEqDiff, Nat.reduceAdd]
      have in1 : n1 ∈ nmsOf bs := List.mem_map.mpr ⟨_, m1, rfl⟩
      have in2 : n2 ∈ nmsOf bs := List.mem_map.mpr ⟨_, m2, rfl⟩
      obtain ⟨v, hv, q3⟩ := atI_mod (xs := [D.tup [.str "yes"], .tup [.str "is", .str n1, .int (l.getD (3 : Int).toNat 0 % z1)], .tup [.str "like", .str n1, .str n2]]) (l.getD (0 : Int).toNat 0 / 8) (n := 3) rfl (by simp)
      rw [q3]
      simp only [List.mem_cons, List.not_mem_nil, or_false] at hv
      rcases hv with rfl | rfl | rfl
      · exact ⟨.yes, by simp only [enC]; rfl, trivial⟩
      · exact ⟨.is n1 _, by simp only [enC]; rfl, in1⟩
      · exact ⟨.like n1 n2, by simp only [enC]; rfl, in1, in2⟩
    · simp only [decide_eq_false hw, bind_ok, bind_ex, bind_bad, fb_ok, fb_ex, fb_bad, opt_some, opt_none, go_nx, go_bk, go_ct, go_rt, go_ex, go_bad, sq_go, fin_rt, fin_nx, fin_ex, val_sh, bor_sh, bor_ow, eV_ap, eB_ap, eC_ap, b1_ap, b2_ap, thn3_t, thn3_f, b3_ap, tru_bl, tb_ap, tAndB_ap, tOrB_ap, tNotB_ap, eAnd_ap, eOr_ap, eNot_ap, eIf_ap, aNil_ap, aCons_ap, eTup_ap, eLst_ap, eCall_ap, oN_ap, oint_ok, oS_ap, eSl_ap, iS_ap, items_lst, items_tup, iR1_ap, iR2_ap, enD_lst, iE_ap, gS_ap, gNil_ap, gCons_ap, gT_ap, sNx_ap, sBk_ap, sCt_ap, sFz_ap, sSet_ap, sNew_ap, nSl_lst, nSl_tup, nSl_int, nSl_dic, sAsg_ap, sRet_ap, sRetN_ap, sIf_ap, sEx_ap, sFor_ap, eLc_ap, wipe_nil, wipe_cons, tsY_ap, iZ_ap, fzS_ow, fzS_sh, fzS_no, fz_ap, augS_sh, sAug_ap, appS_ow, sApp_ap, ends_nx, ends_ct, ends_bk, ends_rt, ends_ex, opAdd_ii, opSub_ii, opNeg_i, opLe_ii, opLt_ii, opGt_ii, opGe_ii, opLen_l, opLen_t, opIx_l, opIx_t, opCut_l, opCut_t, opTuple_l, opTuple_t, opList_l, opList_t, opMax_ii, opInt_b, opInt_i, opEq_bb, opNe_bb, opEq_ii, opNe_ii, opNe_ss, opEq_ss, opIs_n, opIs_bb, atI_0, atI_1, atI_2, atI_3, eCallB_ap, atomR_i, atomR_b, atomR_n, atomR_s, fit0, fit1, fit2, fit3, fit4, fit5, fit6, fit7, fit8, fit9, fit10, fit11, fit12, fit13, fit14, fit15, fit16, fit17, fit18, fit19, fit20, fit21, fit22, fit23, fit24, fit25, fit26, fit27, fit28, fit29, fit30, fit31, fit32, fit33, fit34, fit35, fit36, fit37, fit38, fit39, fit40, one_1, one_0, one_2, two_2, two_0, two_1, two_3, eM_ap, mtD_l, opIsNot_n, gTl_ap, lnt_sh, lnt_ow, eBl_ap, sPut_ap, putF_t, putR_ap, isOwn_ow, putS_l, putS_ds, putS_di, opDGet_s, opDGet_i, opDIn_s, opDNotIn_s, opRev_l, opRev_t, sPar_ap, parF_2, eGet2_ap, eGet1_ap, getF_t, isDic_d, dgetOr_s, dgetOr_i, eLenSc_ap, sStar_ap, starK1, starK2, starK3, sUpd_ap, eSortSc_ap, forD_ap, oneD_ap, List.getElem?_cons_zero, List.getElem?_cons_succ, List.set_cons_zero, List.set_cons_succ, if_true, if_false, Bool.false_eq_true, List.length_cons, List.length_nil, List.length_map, Bool.true_and, Bool.and_true, Bool.false_and, Bool.and_false, Bool.not_true, Bool.not_false, eq_self, Nat.reduceEqDiff, Nat.reduceAdd]
      have nd : ∀ (i : Nat) (x : Int), x ∈ l.drop i → 0 ≤ x := fun i x hx => hn x (List.mem_of_mem_drop hx)
      by_cases hw4 : way < 4
      · obtain ⟨d, x1, x2⟩ := ih j (l.drop (4 : Int).toNat) (by omega) (by omega) (by rw [List.length_drop]; omega) (nd _)
        simp (disch := first | omega | (simp only [List.length_cons, List.length_nil, List.length_map, List.length_append, Nat.reduceAdd, Nat.reduceLeDiff]; done) | (simp only [List.length_cons, List.length_nil, List.length_map, List.length_append, Nat.reduceAdd, Nat.reduceLeDiff]; omega)) only [decide_eq_true hw4, bind_ok, bind_ex, bind_bad, fb_ok, fb_ex, fb_bad, opt_some, opt_none, go_nx, go_bk, go_ct, go_rt, go_ex, go_bad, sq_go, fin_rt, fin_nx, fin_ex, val_sh, bor_sh, bor_ow, eV_ap, eB_ap, eC_ap, b1_ap, b2_ap, thn3_t, thn3_f, b3_ap, tru_bl, tb_ap, tAndB_ap, tOrB_ap, tNotB_ap, eAnd_ap, eOr_ap, eNot_ap, eIf_ap, aNil_ap, aCons_ap, eTup_ap, eLst_ap, eCall_ap, oN_ap, oint_ok, oS_ap, eSl_ap, iS_ap, items_lst, items_tup, iR1_ap, iR2_ap, enD_lst, iE_ap, gS_ap, gNil_ap, gCons_ap, gT_ap, sNx_ap, sBk_ap, sCt_ap, sFz_ap, sSet_ap, sNew_ap, nSl_lst, nSl_tup, nSl_int, nSl_dic, sAsg_ap, sRet_ap, sRetN_ap, sIf_ap, sEx_ap, sFor_ap, eLc_ap, wipe_nil, wipe_cons, tsY_ap, iZ_ap, fzS_ow, fzS_sh, fzS_no, fz_ap, augS_sh, sAug_ap, appS_ow, sApp_ap, ends_nx, ends_ct, ends_bk, ends_rt, ends_ex, opAdd_ii, opSub_ii, opNeg_i, opLe_ii, opLt_ii, opGt_ii, opGe_ii, opLen_l, opLen_t, opIx_l, opIx_t, opCut_l, opCut_t, opTuple_l, opTuple_t, opList_l, opList_t, opMax_ii, opInt_b, opInt_i, opEq_bb, opNe_bb, opEq_ii, opNe_ii, opNe_ss, opEq_ss, opIs_n, opIs_bb, atI_0, atI_1, atI_2, atI_3, eCallB_ap, atomR_i, atomR_b, atomR_n, atomR_s, fit0, fit1, fit2, fit3, fit4, fit5, fit6, fit7, fit8, fit9, fit10, fit11, fit12, fit13, fit14, fit15, fit16, fit17, fit18, fit19, fit20, fit21, fit22, fit23, fit24, fit25, fit26, fit27, fit28, fit29, fit30, fit31, fit32, fit33, fit34, fit35, fit36, fit37, fit38, fit39, fit40, one_1, one_0, one_2, two_2, two_0, two_1, two_3, eM_ap, mtD_l, opIsNot_n, gTl_ap, lnt_sh, lnt_ow, eBl_ap, sPut_ap, putF_t, putR_ap, isOwn_ow, putS_l, putS_ds, putS_di, opDGet_s, opDGet_i, opDIn_s, opDNotIn_s, opRev_l, opRev_t, sPar_ap, parF_2, eGet2_ap, eGet1_ap, getF_t, isDic_d, dgetOr_s, dgetOr_i, eLenSc_ap, sStar_ap, starK1, starK2, starK3, sUpd_ap, eSortSc_ap, forD_ap, oneD_ap, List.getElem?_cons_zero, List.getElem?_cons_succ, List.set_cons_zero, List.set_cons_succ, if_true, if_false, Bool.false_eq_true, List.length_cons, List.length_nil, List.length_map, Bool.true_and, Bool.and_true, Bool.false_and, Bool.and_false, Bool.not_true, Bool.not_false, eq_self, Nat.reduceEqDiff, Nat.reduceAdd, cut_mapR, int_s1, x1]
        exact ⟨.not d, by simp only [enC], x2⟩
      · simp only [decide_eq_false hw4, bind_ok, bind_ex, bind_bad, fb_ok, fb_ex, fb_bad, opt_some, opt_none, go_nx, go_bk, go_ct, go_rt, go_ex, go_bad, sq_go, fin_rt, fin_nx, fin_ex, val_sh, bor_sh, bor_ow, eV_ap, eB_ap, eC_ap, b1_ap, b2_ap, thn3_t, thn3_f, b3_ap, tru_bl, tb_ap, tAndB_ap, tOrB_ap, tNotB_ap, eAnd_ap, eOr_ap, eNot_ap, eIf_ap, aNil_ap, aCons_ap, eTup_ap, eLst_ap, eCall_ap, oN_ap, oint_ok, oS_ap, eSl_ap, iS_ap, items_lst, items_tup, iR1_ap, iR2_ap, enD_lst, iE_ap, gS_ap, gNil_ap, gCons_ap, gT_ap, sNx_ap, sBk_ap, sCt_ap, sFz_ap, sSet_ap, sNew_ap, nSl_lst, nSl_tup, nSl_int, nSl_dic, sAsg_ap, sRet_ap, sRetN_ap, sIf_ap, sEx_ap, sFor_ap, eLc_ap, wipe_nil, wipe_cons, tsY_ap, iZ_ap, fzS_ow, fzS_sh, fzS_no, fz_ap, augS_sh, sAug_ap, appS_ow, sApp_ap, ends_nx, ends_ct, ends_bk, ends_rt, ends_ex, opAdd_ii, opSub_ii, opNeg_i, opLe_ii, opLt_ii, opGt_ii, opGe_ii, opLen_l, opLen_t, opIx_l, opIx_t, opCut_l, opCut_t, opTuple_l, opTuple_t, opList_l, opList_t, opMax_ii, opInt_b, opInt_i, opEq_bb, opNe_bb, opEq_ii, opNe_ii, opNe_ss, opEq_ss, opIs_n, opIs_bb, atI_0, atI_1, atI_2, atI_3, eCallB_ap, atomR_i, atomR_b, atomR_n, atomR_s, fit0, fit1, fit2, fit3, fit4, fit5, fit6, fit7, fit8, fit9, fit10, fit11, fit12, fit13, fit14, fit15, fit16, fit17, fit18, fit19, fit20, fit21, fit22, fit23, fit24, fit25, fit26, fit27, fit28, fit29, fit30, fit31, fit32, fit33, fit34, fit35, fit36, fit37, fit38, fit39, fit40, one_1, one_0, one_2, two_2, two_0, two_1, two_3, eM_ap, mtD_l, opIsNot_n, gTl_ap, lnt_sh, lnt_ow, eBl_ap, sPut_ap, putF_t, putR_ap, isOwn_ow, putS_l, putS_ds, putS_di, opDGet_s, opDGet_i, opDIn_s, opDNotIn_s, opRev_l, opRev_t, sPar_ap, parF_2, eGet2_ap, eGet1_ap, getF_t, isDic_d, dgetOr_s, dgetOr_i, eLenSc_ap, sStar_ap, starK1, starK2, starK3, sUpd_ap, eSortSc_ap, forD_ap, oneD_ap, List.getElem?_cons_zero, List.getElem?_cons_succ, List.set_cons_zero, List.set_cons_succ, if_true, if_false, Bool.false_eq_true, List.length_cons, List.length_nil, List.length_map, Bool.true_and, Bool.and_true, Bool.false_and, Bool.and_false, Bool.not_true, Bool.not_false, eq_self, Nat.reduceEqDiff, Nat.reduceAdd]
        have hm : ∃ c : Int, atI [D.int 2, .int 4] (if decide (((k + 1 + 1 : Nat) : Int) < 4) = true then 1 else 0) = some (.int c) ∧ (c = 2 ∨ c = 4) := by
          by_cases q : ((k + 1 + 1 : Nat) : Int) < 4
          · rw [decide_eq_true q]
            exact ⟨4, rfl, .inr rfl⟩
          · rw [decide_eq_false q]
            exact ⟨2, rfl, .inl rfl⟩
        obtain ⟨c, hc, hc2⟩ := hm
        have c0 : 0 < c := by omega
        have u1 := Int.emod_nonneg (l.getD (3 : Int).toNat 0) (b := c) (by omega)
        have u2 := Int.emod_lt_of_pos (l.getD (3 : Int).toNat 0) (b := c) (by omega)
        obtain ⟨w, hw1, hw2⟩ := atI_mod (xs := [D.str "and", .str "or"]) way (n := 2) rfl (by decide)
        simp (disch := first | omega | (simp only [List.length_cons, List.length_nil, List.length_map, List.length_append, Nat.reduceAdd, Nat.reduceLeDiff]; done) | (simp only [List.length_cons, List.length_nil, List.length_map, List.length_append, Nat.reduceAdd, Nat.reduceLeDiff]; omega)) only [bind_ok, bind_ex, bind_bad, fb_ok, fb_ex, fb_bad, opt_some, opt_none, go_nx, go_bk, go_ct, go_rt, go_ex, go_bad, sq_go, fin_rt, fin_nx, fin_ex, val_sh, bor_sh, bor_ow, eV_ap, eB_ap, eC_ap, b1_ap, b2_ap, thn3_t, thn3_f, b3_ap, tru_bl, tb_ap, tAndB_ap, tOrB_ap, tNotB_ap, eAnd_ap, eOr_ap, eNot_ap, eIf_ap, aNil_ap, aCons_ap, eTup_ap, eLst_ap, eCall_ap, oN_ap, oint_ok, oS_ap, eSl_ap, iS_ap, items_lst, items_tup, iR1_ap, iR2_ap, enD_lst, iE_ap, gS_ap, gNil_ap, gCons_ap, gT_ap, sNx_ap, sBk_ap, sCt_ap, sFz_ap, sSet_ap, sNew_ap, nSl_lst, nSl_tup, nSl_int, nSl_dic, sAsg_ap, sRet_ap, sRetN_ap, sIf_ap, sEx_ap, sFor_ap, eLc_ap, wipe_nil, wipe_cons, tsY_ap, iZ_ap, fzS_ow, fzS_sh, fzS_no, fz_ap, augS_sh, sAug_ap, appS_ow, sApp_ap, ends_nx, ends_ct, ends_bk, ends_rt, ends_ex, opAdd_ii, opSub_ii, opNeg_i, opLe_ii, opLt_ii, opGt_ii, opGe_ii, opLen_l, opLen_t, opIx_l, opIx_t, opCut_l, opCut_t, opTuple_l, opTuple_t, opList_l, opList_t, opMax_ii, opInt_b, opInt_i, opEq_bb, opNe_bb, opEq_ii, opNe_ii, opNe_ss, opEq_ss, opIs_n, opIs_bb, atI_0, atI_1, atI_2, atI_3, eCallB_ap, atomR_i, atomR_b, atomR_n, atomR_s, fit0, fit1, fit2, fit3, fit4, fit5, fit6, fit7, fit8, fit9, fit10, fit11, fit12, fit13, fit14, fit15, fit16, fit17, fit18, fit19, fit20, fit21, fit22, fit23, fit24, fit25, fit26, fit27, fit28, fit29, fit30, fit31, fit32, fit33, fit34, fit35, fit36, fit37, fit38, fit39, fit40, one_1, one_0, one_2, two_2, two_0, two_1, two_3, eM_ap, mtD_l, opIsNot_n, gTl_ap, lnt_sh, lnt_ow, eBl_ap, sPut_ap, putF_t, putR_ap, isOwn_ow, putS_l, putS_ds, putS_di, opDGet_s, opDGet_i, opDIn_s, opDNotIn_s, opRev_l, opRev_t, sPar_ap, parF_2, eGet2_ap, eGet1_ap, getF_t, isDic_d, dgetOr_s, dgetOr_i, eLenSc_ap, sStar_ap, starK1, starK2, starK3, sUpd_ap, eSortSc_ap, forD_ap, oneD_ap, List.getElem?_cons_zero, List.getElem?_cons_succ, List.set_cons_zero, List.set_cons_succ, if_true, if_false, Bool.false_eq_true, List.length_cons, List.length_nil, List.length_map, Bool.true_and, Bool.and_true, Bool.false_and, Bool.and_false, Bool.not_true, Bool.not_false, eq_self, Nat.reduceEqDiff, Nat.reduceAdd, atI_dig, opMod_ii, hc, range_i, hw2]
        generalize l.getD (3 : Int).toNat 0 % c = m at u1 u2
        obtain ⟨es, g1, g2, g3⟩ := lcL_ex (asg := gS 8) (elt := eCall (fr_law_tree (j + 1)) (aCons (eSl (eV 0) (oS (b2 (eC (.int 4)) (b2 (eC (.int 3)) (eV 8) opMul) opAdd)) oN) (aCons (eV 1) (aCons (b2 (eV 2) (eC (.int 1)) opSub) aNil)))) (ds := rng 0 (1 + m))
          (ρ := [.sh (.lst (l.map .int)), .sh (.lst bs), .sh (.int ((k + 1 + 1 : Nat) : Int)), .sh (.tup [.str n1, .int z1, .str k1]), .sh (.tup [.str n2, .int z2, .str k2]), .sh (.int way), .sh (.int (1 + m)), .no, .no])
          (fun _ d => ∃ c, d = enC c ∧ wfC (nmsOf bs) (k + 1) c) fun d hd => by
            obtain ⟨i, rfl, i1, i2⟩ := mem_rng hd
            obtain ⟨d, x1, x2⟩ := ih j (l.drop (4 + 3 * i).toNat) (by omega) (by omega) (by rw [List.length_drop]; omega) (nd _)
            exact ⟨_, _, rfl, by simp (disch := first | omega | (simp only [List.length_cons, List.length_nil, List.length_map, List.length_append, Nat.reduceAdd, Nat.reduceLeDiff]; done) | (simp only [List.length_cons, List.length_nil, List.length_map, List.length_append, Nat.reduceAdd, Nat.reduceLeDiff]; omega)) only [bind_ok, bind_ex, bind_bad, fb_ok, fb_ex, fb_bad, opt_some, opt_none, go_nx, go_bk, go_ct, go_rt, go_ex, go_bad, sq_go, fin_rt, fin_nx, fin_ex, val_sh, bor_sh, bor_ow, eV_ap, eB_ap, eC_ap, b1_ap, b2_ap, thn3_t, thn3_f, b3_ap, tru_bl, tb_ap, tAndB_ap, tOrB_ap, tNotB_ap, eAnd_ap, eOr_ap, eNot_ap, eIf_ap, aNil_ap, aCons_ap, eTup_ap, eLst_ap, eCall_ap, oN_ap, oint_ok, oS_ap, eSl_ap, iS_ap, items_lst, items_tup, iR1_ap, iR2_ap, enD_lst, iE_ap, gS_ap, gNil_ap, gCons_ap, gT_ap, sNx_ap, sBk_ap, sCt_ap, sFz_ap, sSet_ap, sNew_ap, nSl_lst, nSl_tup, nSl_int, nSl_dic, sAsg_ap, sRet_ap, sRetN_ap, sIf_ap, sEx_ap, sFor_ap, eLc_ap, wipe_nil, wipe_cons, tsY_ap, iZ_ap, fzS_ow, fzS_sh, fzS_no, fz_ap, augS_sh, sAug_ap, appS_ow, sApp_ap, ends_nx, ends_ct, ends_bk, ends_rt, ends_ex, opAdd_ii, opSub_ii, opNeg_i, opLe_ii, opLt_ii, opGt_ii, opGe_ii, opLen_l, opLen_t, opIx_l, opIx_t, opCut_l, opCut_t, opTuple_l, opTuple_t, opList_l, opList_t, opMax_ii, opInt_b, opInt_i, opEq_bb, opNe_bb, opEq_ii, opNe_ii, opNe_ss, opEq_ss, opIs_n, opIs_bb, atI_0, atI_1, atI_2, atI_3, eCallB_ap, atomR_i, atomR_b, atomR_n, atomR_s, fit0, fit1, fit2, fit3, fit4, fit5, fit6, fit7, fit8, fit9, fit10, fit11, fit12, fit13, fit14, fit15, fit16, fit17, fit18, fit19, fit20, fit21, fit22, fit23, fit24, fit25, fit26, fit27, fit28, fit29, fit30, fit31, fit32, fit33, fit34, fit35, fit36, fit37, fit38, fit39, fit40, one_1, one_0, one_2, two_2, two_0, two_1, two_3, eM_ap, mtD_l, opIsNot_n, gTl_ap, lnt_sh, lnt_ow, eBl_ap, sPut_ap, putF_t, putR_ap, isOwn_ow, putS_l, putS_ds, putS_di, opDGet_s, opDGet_i, opDIn_s, opDNotIn_s, opRev_l, opRev_t, sPar_ap, parF_2, eGet2_ap, eGet1_ap, getF_t, isDic_d, dgetOr_s, dgetOr_i, eLenSc_ap, sStar_ap, starK1, starK2, starK3, sUpd_ap, eSortSc_ap, forD_ap, oneD_ap, List.getElem?_cons_zero, List.getElem?_cons_succ, List.set_cons_zero, List.set_cons_succ, if_true, if_false, Bool.false_eq_true, List.length_cons, List.length_nil, List.length_map, Bool.true_and, Bool.and_true, Bool.false_and, Bool.and_false, Bool.not_true, Bool.not_false, eq_self, Nat.reduceEqDiff, Nat.reduceAdd, mul_l, cut_mapR, int_s1, x1], d, rfl, x2⟩
        obtain ⟨cs, hcs, hwf⟩ : ∃ cs : List Cn, es = cs.map enC ∧ ∀ c ∈ cs, wfC (nmsOf bs) (k + 1) c := typed fun e he => by
          obtain ⟨_, _, x⟩ := g3 e he
          exact x
        subst hcs
        have gl : cs.length ≤ 4 := by
          rw [List.length_map] at g2
          rw [g2, len_rng]; omega
        simp (disch := first | omega | (simp only [List.length_cons, List.length_nil, List.length_map, List.length_append, Nat.reduceAdd, Nat.reduceLeDiff]; done) | (simp only [List.length_cons, List.length_nil, List.length_map, List.length_append, Nat.reduceAdd, Nat.reduceLeDiff]; omega)) only [g1, bind_ok, bind_ex, bind_bad, fb_ok, fb_ex, fb_bad, opt_some, opt_none, go_nx, go_bk, go_ct, go_rt, go_ex, go_bad, sq_go, fin_rt, fin_nx, fin_ex, val_sh, bor_sh, bor_ow, eV_ap, eB_ap, eC_ap, b1_ap, b2_ap, thn3_t, thn3_f, b3_ap, tru_bl, tb_ap, tAndB_ap, tOrB_ap, tNotB_ap, eAnd_ap, eOr_ap, eNot_ap, eIf_ap, aNil_ap, aCons_ap, eTup_ap, eLst_ap, eCall_ap, oN_ap, oint_ok, oS_ap, eSl_ap, iS_ap, items_lst, items_tup, iR1_ap, iR2_ap, enD_lst, iE_ap, gS_ap, gNil_ap, gCons_ap, gT_ap, sNx_ap, sBk_ap, sCt_ap, sFz_ap, sSet_ap, sNew_ap, nSl_lst, nSl_tup, nSl_int, nSl_dic, sAsg_ap, sRet_ap, sRetN_ap, sIf_ap, sEx_ap, sFor_ap, eLc_ap, wipe_nil, wipe_cons, tsY_ap, iZ_ap, fzS_ow, fzS_sh, fzS_no, fz_ap, augS_sh, sAug_ap, appS_ow, sApp_ap, ends_nx, ends_ct, ends_bk, ends_rt, ends_ex, opAdd_ii, opSub_ii, opNeg_i, opLe_ii, opLt_ii, opGt_ii, opGe_ii, opLen_l, opLen_t, opIx_l, opIx_t, opCut_l, opCut_t, opTuple_l, opTuple_t, opList_l, opList_t, opMax_ii, opInt_b, opInt_i, opEq_bb, opNe_bb, opEq_ii, opNe_ii, opNe_ss, opEq_ss, opIs_n, opIs_bb, atI_0, atI_1, atI_2, atI_3, eCallB_ap, atomR_i, atomR_b, atomR_n, atomR_s, fit0, fit1, fit2, fit3, fit4, fit5, fit6, fit7, fit8, fit9, fit10, fit11, fit12, fit13, fit14, fit15, fit16, fit17, fit18, fit19, fit20, fit21, fit22, fit23, fit24, fit25, fit26, fit27, fit28, fit29, fit30, fit31, fit32, fit33, fit34, fit35, fit36, fit37, fit38, fit39, fit40, one_1, one_0, one_2, two_2, two_0, two_1, two_3, eM_ap, mtD_l, opIsNot_n, gTl_ap, lnt_sh, lnt_ow, eBl_ap, sPut_ap, putF_t, putR_ap, isOwn_ow, putS_l, putS_ds, putS_di, opDGet_s, opDGet_i, opDIn_s, opDNotIn_s, opRev_l, opRev_t, sPar_ap, parF_2, eGet2_ap, eGet1_ap, getF_t, isDic_d, dgetOr_s, dgetOr_i, eLenSc_ap, sStar_ap, starK1, starK2, starK3, sUpd_ap, eSortSc_ap, forD_ap, oneD_ap, List.getElem?_cons_zero, List.getElem?_cons_succ, List.set_cons_zero, List.set_cons_succ, if_true, if_false, Bool.false_eq_true, List.length_cons, List.length_nil, List.length_map, Bool.true_and, Bool.and_true, Bool.false_and, Bool.and_false, Bool.not_true, Bool.not_false, eq_self, Nat.reduceEqDiff, Nat.reduceAdd, opMod_ii, hw2]
        simp only [List.mem_cons, List.not_mem_nil, or_false] at hw1
        rcases hw1 with rfl | rfl
        · exact ⟨.all cs, by simp only [enC, enL_map], gl, hwf⟩
        · exact ⟨.any cs, by simp only [enC, enL_map], gl, hwf⟩

theorem win2 : opIn (.str "yes") (.tup [.str "and", .str "or"]) = some (.bl false) ∧ opIn (.str "is") (.tup [.str "and", .str "or"]) = some (.bl false) ∧ opIn (.str "like") (.tup [.str "and", .str "or"]) = some (.bl false) ∧ opIn (.str "not") (.tup [.str "and", .str "or"]) = some (.bl false) ∧ opIn (.str "and") (.tup [.str "and", .str "or"]) = some (.bl true) ∧ opIn (.str "or") (.tup [.str "and", .str "or"]) = some (.bl true) := by
  have h : ∀ x : Str, PyData.strOk x = true → opIn (.str x) (.tup [.str "and", .str "or"]) = some (.bl ((["and", "or"] : List Str).any fun z => x == z)) := fun x hx => in_lits hx ["and", "or"] (by decide +kernel)
  refine ⟨?_, ?_, ?_, ?_, ?_, ?_⟩ <;> (rw [h _ (by decide +kernel)]; congr 2)
theorem rev_den (pl : Str → Nat) (st : List Int) (cs : List Cn) : den pl st (.all cs.reverse) = den pl st (.all cs) ∧ den pl st (.any cs.reverse) = den pl st (.any cs) := by
  constructor
  · rw [den, den, denL_map, denL_map, List.map_reverse, List.all_reverse]
  · rw [den, den, denL_map, denL_map, List.map_reverse, List.any_reverse]
theorem right_ok {bs : List D} {c : Cn} {k : Nat} (hs : SBs bs) (hw : wfC (nmsOf bs) k c) (hk : k ≤ 9) : f_law_right [.lst bs, enC c] = .ok (.bl true) := by
  rw [e_law_right]
  unfold b_law_right
  have hb : ∀ b ∈ bs, boxB b = true := fun b h => (hs.2.2.2 b h).box
  have h3 : (nmsOf bs).length ≤ 3 := by unfold nmsOf; rw [List.length_map]; exact hs.2.1
  have habc : ∀ n ∈ nmsOf bs, n ∈ (["a", "b", "c"] : List Str) := fun n hn => by
    obtain ⟨b, hb2, rfl⟩ := List.mem_map.mp hn
    obtain ⟨m, kk, z, rfl, a, _⟩ := hs.2.2.2 b hb2
    exact a
  obtain ⟨n1, n2, n3⟩ := nms_ok hw
  have nl : (nmsC c).length ≤ 3 := Nat.le_trans (len_sub n1 n3) h3
  have nm : f_names_in [enC c] = .ok (.lst ((nmsC c).map .str)) := names_ok h3 k 12 c hw (by omega)
  obtain ⟨es, e1, e2, e3⟩ := law_names_ok h3 k 12 c hw (by omega)
  have e1 : f_law_names [enC c] = .ok (.dic (nmD es)) := e1
  have pe := perm_of_mem e2 n1 e3
  have e4 : srtS es = nmsC c := by rw [srtS_congr pe, n2]
  have so := sorted_nm (es := es) (by rw [pe.length_eq]; omega)
  rw [e4] at so
  have okn : Ok 1000 3 (.lst ((nmsC c).map .str)) := (Ok.lst (w := 102) (k := 0) 3 (by rw [List.length_map]; exact nl) fun d hd => by
    obtain ⟨x, hx, rfl⟩ := List.mem_map.mp hd
    exact ok_s (abc_ok x (habc x (n3 x hx))).2).up (by omega) (by omega)
  have rp := okn.rep (by omega) (by omega)
  obtain ⟨sts, st1, st2⟩ := stands_ok hs
  simp (disch := first | omega | (simp only [List.length_cons, List.length_nil, List.length_map, List.length_append, Nat.reduceAdd, Nat.reduceLeDiff]; done) | (simp only [List.length_cons, List.length_nil, List.length_map, List.length_append, Nat.reduceAdd, Nat.reduceLeDiff]; omega)) only [bind_ok, bind_ex, bind_bad, fb_ok, fb_ex, fb_bad, opt_some, opt_none, go_nx, go_bk, go_ct, go_rt, go_ex, go_bad, sq_go, fin_rt, fin_nx, fin_ex, val_sh, bor_sh, bor_ow, eV_ap, eB_ap, eC_ap, b1_ap, b2_ap, thn3_t, thn3_f, b3_ap, tru_bl, tb_ap, tAndB_ap, tOrB_ap, tNotB_ap, eAnd_ap, eOr_ap, eNot_ap, eIf_ap, aNil_ap, aCons_ap, eTup_ap, eLst_ap, eCall_ap, oN_ap, oint_ok, oS_ap, eSl_ap, iS_ap, items_lst, items_tup, iR1_ap, iR2_ap, enD_lst, iE_ap, gS_ap, gNil_ap, gCons_ap, gT_ap, sNx_ap, sBk_ap, sCt_ap, sFz_ap, sSet_ap, sNew_ap, nSl_lst, nSl_tup, nSl_int, nSl_dic, sAsg_ap, sRet_ap, sRetN_ap, sIf_ap, sEx_ap, sFor_ap, eLc_ap, wipe_nil, wipe_cons, tsY_ap, iZ_ap, fzS_ow, fzS_sh, fzS_no, fz_ap, augS_sh, sAug_ap, appS_ow, sApp_ap, ends_nx, ends_ct, ends_bk, ends_rt, ends_ex, opAdd_ii, opSub_ii, opNeg_i, opLe_ii, opLt_ii, opGt_ii, opGe_ii, opLen_l, opLen_t, opIx_l, opIx_t, opCut_l, opCut_t, opTuple_l, opTuple_t, opList_l, opList_t, opMax_ii, opInt_b, opInt_i, opEq_bb, opNe_bb, opEq_ii, opNe_ii, opNe_ss, opEq_ss, opIs_n, opIs_bb, atI_0, atI_1, atI_2, atI_3, eCallB_ap, atomR_i, atomR_b, atomR_n, atomR_s, fit0, fit1, fit2, fit3, fit4, fit5, fit6, fit7, fit8, fit9, fit10, fit11, fit12, fit13, fit14, fit15, fit16, fit17, fit18, fit19, fit20, fit21, fit22, fit23, fit24, fit25, fit26, fit27, fit28, fit29, fit30, fit31, fit32, fit33, fit34, fit35, fit36, fit37, fit38, fit39, fit40, one_1, one_0, one_2, two_2, two_0, two_1, two_3, eM_ap, mtD_l, opIsNot_n, gTl_ap, lnt_sh, lnt_ow, eBl_ap, sPut_ap, putF_t, putR_ap, isOwn_ow, putS_l, putS_ds, putS_di, opDGet_s, opDGet_i, opDIn_s, opDNotIn_s, opRev_l, opRev_t, sPar_ap, parF_2, eGet2_ap, eGet1_ap, getF_t, isDic_d, dgetOr_s, dgetOr_i, eLenSc_ap, sStar_ap, starK1, starK2, starK3, sUpd_ap, eSortSc_ap, forD_ap, oneD_ap, List.getElem?_cons_zero, List.getElem?_cons_succ, List.set_cons_zero, List.set_cons_succ, if_true, if_false, Bool.false_eq_true, List.length_cons, List.length_nil, List.length_map, Bool.true_and, Bool.and_true, Bool.false_and, Bool.and_false, Bool.not_true, Bool.not_false, eq_self, Nat.reduceEqDiff, Nat.reduceAdd, range_i]
  refine (forL_post (Post := fun r => (r.go _).fin = .ok (.bl true)) (fun r ρ => ∃ (x2 x3 x4 x5 : Sl), ρ = [.sh (.lst bs), .sh (enC c), x2, x3, x4, x5]) (fun d r ρ q => ?_) (fun ρ q => ?_) ⟨.no, .no, .no, .no, rfl⟩ :)
  · obtain ⟨x2, x3, x4, x5, rfl⟩ := q
    refine ⟨_, rfl, ?_⟩
    have ft : fits ((nmsC c).length + 1) = true := fits_of (by omega)
    simp (disch := first | omega | (simp only [List.length_cons, List.length_nil, List.length_map, List.length_append, Nat.reduceAdd, Nat.reduceLeDiff]; done) | (simp only [List.length_cons, List.length_nil, List.length_map, List.length_append, Nat.reduceAdd, Nat.reduceLeDiff]; omega)) only [bind_ok, bind_ex, bind_bad, fb_ok, fb_ex, fb_bad, opt_some, opt_none, go_nx, go_bk, go_ct, go_rt, go_ex, go_bad, sq_go, fin_rt, fin_nx, fin_ex, val_sh, bor_sh, bor_ow, eV_ap, eB_ap, eC_ap, b1_ap, b2_ap, thn3_t, thn3_f, b3_ap, tru_bl, tb_ap, tAndB_ap, tOrB_ap, tNotB_ap, eAnd_ap, eOr_ap, eNot_ap, eIf_ap, aNil_ap, aCons_ap, eTup_ap, eLst_ap, eCall_ap, oN_ap, oint_ok, oS_ap, eSl_ap, iS_ap, items_lst, items_tup, iR1_ap, iR2_ap, enD_lst, iE_ap, gS_ap, gNil_ap, gCons_ap, gT_ap, sNx_ap, sBk_ap, sCt_ap, sFz_ap, sSet_ap, sNew_ap, nSl_lst, nSl_tup, nSl_int, nSl_dic, sAsg_ap, sRet_ap, sRetN_ap, sIf_ap, sEx_ap, sFor_ap, eLc_ap, wipe_nil, wipe_cons, tsY_ap, iZ_ap, fzS_ow, fzS_sh, fzS_no, fz_ap, augS_sh, sAug_ap, appS_ow, sApp_ap, ends_nx, ends_ct, ends_bk, ends_rt, ends_ex, opAdd_ii, opSub_ii, opNeg_i, opLe_ii, opLt_ii, opGt_ii, opGe_ii, opLen_l, opLen_t, opIx_l, opIx_t, opCut_l, opCut_t, opTuple_l, opTuple_t, opList_l, opList_t, opMax_ii, opInt_b, opInt_i, opEq_bb, opNe_bb, opEq_ii, opNe_ii, opNe_ss, opEq_ss, opIs_n, opIs_bb, atI_0, atI_1, atI_2, atI_3, eCallB_ap, atomR_i, atomR_b, atomR_n, atomR_s, fit0, fit1, fit2, fit3, fit4, fit5, fit6, fit7, fit8, fit9, fit10, fit11, fit12, fit13, fit14, fit15, fit16, fit17, fit18, fit19, fit20, fit21, fit22, fit23, fit24, fit25, fit26, fit27, fit28, fit29, fit30, fit31, fit32, fit33, fit34, fit35, fit36, fit37, fit38, fit39, fit40, one_1, one_0, one_2, two_2, two_0, two_1, two_3, eM_ap, mtD_l, opIsNot_n, gTl_ap, lnt_sh, lnt_ow, eBl_ap, sPut_ap, putF_t, putR_ap, isOwn_ow, putS_l, putS_ds, putS_di, opDGet_s, opDGet_i, opDIn_s, opDNotIn_s, opRev_l, opRev_t, sPar_ap, parF_2, eGet2_ap, eGet1_ap, getF_t, isDic_d, dgetOr_s, dgetOr_i, eLenSc_ap, sStar_ap, starK1, starK2, starK3, sUpd_ap, eSortSc_ap, forD_ap, oneD_ap, List.getElem?_cons_zero, List.getElem?_cons_succ, List.set_cons_zero, List.set_cons_succ, if_true, if_false, Bool.false_eq_true, List.length_cons, List.length_nil, List.length_map, Bool.true_and, Bool.and_true, Bool.false_and, Bool.and_false, Bool.not_true, Bool.not_false, eq_self, Nat.reduceEqDiff, Nat.reduceAdd, nm, e1, so, rp, bne_selfS, ft]
    exact ⟨_, _, _, _, rfl⟩
  · obtain ⟨x2, x3, x4, x5, rfl⟩ := q
    simp only [bind_ok, bind_ex, bind_bad, fb_ok, fb_ex, fb_bad, opt_some, opt_none, go_nx, go_bk, go_ct, go_rt, go_ex, go_bad, sq_go, fin_rt, fin_nx, fin_ex, val_sh, bor_sh, bor_ow, eV_ap, eB_ap, eC_ap, b1_ap, b2_ap, thn3_t, thn3_f, b3_ap, tru_bl, tb_ap, tAndB_ap, tOrB_ap, tNotB_ap, eAnd_ap, eOr_ap, eNot_ap, eIf_ap, aNil_ap, aCons_ap, eTup_ap, eLst_ap, eCall_ap, oN_ap, oint_ok, oS_ap, eSl_ap, iS_ap, items_lst, items_tup, iR1_ap, iR2_ap, enD_lst, iE_ap, gS_ap, gNil_ap, gCons_ap, gT_ap, sNx_ap, sBk_ap, sCt_ap, sFz_ap, sSet_ap, sNew_ap, nSl_lst, nSl_tup, nSl_int, nSl_dic, sAsg_ap, sRet_ap, sRetN_ap, sIf_ap, sEx_ap, sFor_ap, eLc_ap, wipe_nil, wipe_cons, tsY_ap, iZ_ap, fzS_ow, fzS_sh, fzS_no, fz_ap, augS_sh, sAug_ap, appS_ow, sApp_ap, ends_nx, ends_ct, ends_bk, ends_rt, ends_ex, opAdd_ii, opSub_ii, opNeg_i, opLe_ii, opLt_ii, opGt_ii, opGe_ii, opLen_l, opLen_t, opIx_l, opIx_t, opCut_l, opCut_t, opTuple_l, opTuple_t, opList_l, opList_t, opMax_ii, opInt_b, opInt_i, opEq_bb, opNe_bb, opEq_ii, opNe_ii, opNe_ss, opEq_ss, opIs_n, opIs_bb, atI_0, atI_1, atI_2, atI_3, eCallB_ap, atomR_i, atomR_b, atomR_n, atomR_s, fit0, fit1, fit2, fit3, fit4, fit5, fit6, fit7, fit8, fit9, fit10, fit11, fit12, fit13, fit14, fit15, fit16, fit17, fit18, fit19, fit20, fit21, fit22, fit23, fit24, fit25, fit26, fit27, fit28, fit29, fit30, fit31, fit32, fit33, fit34, fit35, fit36, fit37, fit38, fit39, fit40, one_1, one_0, one_2, two_2, two_0, two_1, two_3, eM_ap, mtD_l, opIsNot_n, gTl_ap, lnt_sh, lnt_ow, eBl_ap, sPut_ap, putF_t, putR_ap, isOwn_ow, putS_l, putS_ds, putS_di, opDGet_s, opDGet_i, opDIn_s, opDNotIn_s, opRev_l, opRev_t, sPar_ap, parF_2, eGet2_ap, eGet1_ap, getF_t, isDic_d, dgetOr_s, dgetOr_i, eLenSc_ap, sStar_ap, starK1, starK2, starK3, sUpd_ap, eSortSc_ap, forD_ap, oneD_ap, List.getElem?_cons_zero, List.getElem?_cons_succ, List.set_cons_zero, List.set_cons_succ, if_true, if_false, Bool.false_eq_true, List.length_cons, List.length_nil, List.length_map, Bool.true_and, Bool.and_true, Bool.false_and, Bool.and_false, Bool.not_true, Bool.not_false, eq_self, Nat.reduceEqDiff, Nat.reduceAdd, st1]
    generalize hg : (sRet (eC (.bl true)) : Lo → Fl) = g
    refine (forL_post (Post := fun r => (r.go g).fin = .ok (.bl true)) (fun r ρ => ∃ (t : List (List Int)) (x2 x3 x4 x5 : Sl), r = t.map stD ∧ (∀ st ∈ t, st.length = bs.length) ∧ ρ = [.sh (.lst bs), .sh (enC c), x2, x3, x4, x5]) (fun d r ρ q => ?_) (fun ρ q => ?_) ⟨sts, _, _, _, _, rfl, st2, rfl⟩ :)
    · obtain ⟨t, x2, x3, x4, x5, h1, h2, rfl⟩ := q
      cases t with
      | nil => cases h1
      | cons st t =>
        cases h1
        refine ⟨_, rfl, ?_⟩
        have hl := h2 st (by simp)
        have k1 : 1 ≤ k := by
          cases k with
          | zero => exact hw.elim
          | succ k => omega
        have ho : ∀ (c : Cn) (j : Nat), wfC (nmsOf bs) j c → j ≤ 12 → f_holds [.lst bs, enC c, stD st] = .ok (.bl (den (plc bs) st c)) := fun c j h hj => holds_ok hb hl j 12 c h hj
        have lo : f_law_holds [.lst bs, enC c, stD st] = .ok (.bl (den (plc bs) st c)) := law_holds_ok hb hl k 12 c hw (by omega)
        have wy : ∀ j, 1 ≤ j → wfC (nmsOf bs) j .yes := fun j hj => by
          cases j with
          | zero => omega
          | succ j => trivial
        have h1 := ho c k hw (by omega)
        have h2' := ho (.not c) (k + 1) hw (by omega)
        have h3' := ho (.all [c, .yes]) (k + 1) ⟨by simp, fun d hd => by
          simp only [List.mem_cons, List.not_mem_nil, or_false] at hd
          rcases hd with rfl | rfl
          · exact hw
          · exact wy k k1⟩ (by omega)
        have h4' := ho (.any [.not .yes, c]) (k + 2) ⟨by simp, fun d hd => by
          simp only [List.mem_cons, List.not_mem_nil, or_false] at hd
          rcases hd with rfl | rfl
          · exact wy k k1
          · exact wfC_up hw⟩ (by omega)
        simp only [enC, enL, den, denL, List.all_cons, List.all_nil, List.any_cons, List.any_nil, id, Bool.and_true, Bool.or_false, Bool.not_true, Bool.false_or] at h2' h3' h4'
        have ee : ∀ b : Bool, ((!b) == b) = false := fun b => by cases b <;> rfl
        obtain ⟨u1, u2, u3, u4, u5, u6⟩ := win2
        have nx : ∀ st' ∈ t, st'.length = bs.length := fun s hs' => h2 s (by simp [hs'])
        cases c with
        | yes =>
          simp only [enC] at h1 lo h2' h3' h4' ⊢
          simp only [bind_ok, bind_ex, bind_bad, fb_ok, fb_ex, fb_bad, opt_some, opt_none, go_nx, go_bk, go_ct, go_rt, go_ex, go_bad, sq_go, fin_rt, fin_nx, fin_ex, val_sh, bor_sh, bor_ow, eV_ap, eB_ap, eC_ap, b1_ap, b2_ap, thn3_t, thn3_f, b3_ap, tru_bl, tb_ap, tAndB_ap, tOrB_ap, tNotB_ap, eAnd_ap, eOr_ap, eNot_ap, eIf_ap, aNil_ap, aCons_ap, eTup_ap, eLst_ap, eCall_ap, oN_ap, oint_ok, oS_ap, eSl_ap, iS_ap, items_lst, items_tup, iR1_ap, iR2_ap, enD_lst, iE_ap, gS_ap, gNil_ap, gCons_ap, gT_ap, sNx_ap, sBk_ap, sCt_ap, sFz_ap, sSet_ap, sNew_ap, nSl_lst, nSl_tup, nSl_int, nSl_dic, sAsg_ap, sRet_ap, sRetN_ap, sIf_ap, sEx_ap, sFor_ap, eLc_ap, wipe_nil, wipe_cons, tsY_ap, iZ_ap, fzS_ow, fzS_sh, fzS_no, fz_ap, augS_sh, sAug_ap, appS_ow, sApp_ap, ends_nx, ends_ct, ends_bk, ends_rt, ends_ex, opAdd_ii, opSub_ii, opNeg_i, opLe_ii, opLt_ii, opGt_ii, opGe_ii, opLen_l, opLen_t, opIx_l, opIx_t, opCut_l, opCut_t, opTuple_l, opTuple_t, opList_l, opList_t, opMax_ii, opInt_b, opInt_i, opEq_bb, opNe_bb, opEq_ii, opNe_ii, opNe_ss, opEq_ss, opIs_n, opIs_bb, atI_0, atI_1, atI_2, atI_3, eCallB_ap, atomR_i, atomR_b, atomR_n, atomR_s, fit0, fit1, fit2, fit3, fit4, fit5, fit6, fit7, fit8, fit9, fit10, fit11, fit12, fit13, fit14, fit15, fit16, fit17, fit18, fit19, fit20, fit21, fit22, fit23, fit24, fit25, fit26, fit27, fit28, fit29, fit30, fit31, fit32, fit33, fit34, fit35, fit36, fit37, fit38, fit39, fit40, one_1, one_0, one_2, two_2, two_0, two_1, two_3, eM_ap, mtD_l, opIsNot_n, gTl_ap, lnt_sh, lnt_ow, eBl_ap, sPut_ap, putF_t, putR_ap, isOwn_ow, putS_l, putS_ds, putS_di, opDGet_s, opDGet_i, opDIn_s, opDNotIn_s, opRev_l, opRev_t, sPar_ap, parF_2, eGet2_ap, eGet1_ap, getF_t, isDic_d, dgetOr_s, dgetOr_i, eLenSc_ap, sStar_ap, starK1, starK2, starK3, sUpd_ap, eSortSc_ap, forD_ap, oneD_ap, List.getElem?_cons_zero, List.getElem?_cons_succ, List.set_cons_zero, List.set_cons_succ, if_true, if_false, Bool.false_eq_true, List.length_cons, List.length_nil, List.length_map, Bool.true_and, Bool.and_true, Bool.false_and, Bool.and_false, Bool.not_true, Bool.not_false, eq_self, Nat.reduceEqDiff, Nat.reduceAdd, h1, lo, h2', h3', h4', bool_isi, bne_self, ee, u1]
          exact ⟨t, _, _, _, _, rfl, nx, rfl⟩
        | is n v =>
          simp only [enC] at h1 lo h2' h3' h4' ⊢
          simp only [bind_ok, bind_ex, bind_bad, fb_ok, fb_ex, fb_bad, opt_some, opt_none, go_nx, go_bk, go_ct, go_rt, go_ex, go_bad, sq_go, fin_rt, fin_nx, fin_ex, val_sh, bor_sh, bor_ow, eV_ap, eB_ap, eC_ap, b1_ap, b2_ap, thn3_t, thn3_f, b3_ap, tru_bl, tb_ap, tAndB_ap, tOrB_ap, tNotB_ap, eAnd_ap, eOr_ap, eNot_ap, eIf_ap, aNil_ap, aCons_ap, eTup_ap, eLst_ap, eCall_ap, oN_ap, oint_ok, oS_ap, eSl_ap, iS_ap, items_lst, items_tup, iR1_ap, iR2_ap, enD_lst, iE_ap, gS_ap, gNil_ap, gCons_ap, gT_ap, sNx_ap, sBk_ap, sCt_ap, sFz_ap, sSet_ap, sNew_ap, nSl_lst, nSl_tup, nSl_int, nSl_dic, sAsg_ap, sRet_ap, sRetN_ap, sIf_ap, sEx_ap, sFor_ap, eLc_ap, wipe_nil, wipe_cons, tsY_ap, iZ_ap, fzS_ow, fzS_sh, fzS_no, fz_ap, augS_sh, sAug_ap, appS_ow, sApp_ap, ends_nx, ends_ct, ends_bk, ends_rt, ends_ex, opAdd_ii, opSub_ii, opNeg_i, opLe_ii, opLt_ii, opGt_ii, opGe_ii, opLen_l, opLen_t, opIx_l, opIx_t, opCut_l, opCut_t, opTuple_l, opTuple_t, opList_l, opList_t, opMax_ii, opInt_b, opInt_i, opEq_bb, opNe_bb, opEq_ii, opNe_ii, opNe_ss, opEq_ss, opIs_n, opIs_bb, atI_0, atI_1, atI_2, atI_3, eCallB_ap, atomR_i, atomR_b, atomR_n, atomR_s, fit0, fit1, fit2, fit3, fit4, fit5, fit6, fit7, fit8, fit9, fit10, fit11, fit12, fit13, fit14, fit15, fit16, fit17, fit18, fit19, fit20, fit21, fit22, fit23, fit24, fit25, fit26, fit27, fit28, fit29, fit30, fit31, fit32, fit33, fit34, fit35, fit36, fit37, fit38, fit39, fit40, one_1, one_0, one_2, two_2, two_0, two_1, two_3, eM_ap, mtD_l, opIsNot_n, gTl_ap, lnt_sh, lnt_ow, eBl_ap, sPut_ap, putF_t, putR_ap, isOwn_ow, putS_l, putS_ds, putS_di, opDGet_s, opDGet_i, opDIn_s, opDNotIn_s, opRev_l, opRev_t, sPar_ap, parF_2, eGet2_ap, eGet1_ap, getF_t, isDic_d, dgetOr_s, dgetOr_i, eLenSc_ap, sStar_ap, starK1, starK2, starK3, sUpd_ap, eSortSc_ap, forD_ap, oneD_ap, List.getElem?_cons_zero, List.getElem?_cons_succ, List.set_cons_zero, List.set_cons_succ, if_true, if_false, Bool.false_eq_true, List.length_cons, List.length_nil, List.length_map, Bool.true_and, Bool.and_true, Bool.false_and, Bool.and_false, Bool.not_true, Bool.not_false, eq_self, Nat.reduceEqDiff, Nat.reduceAdd, h1, lo, h2', h3', h4', bool_isi, bne_self, ee, u2]
          exact ⟨t, _, _, _, _, rfl, nx, rfl⟩
        | like a b =>
          simp only [enC] at h1 lo h2' h3' h4' ⊢
          simp only [bind_ok, bind_ex, bind_bad, fb_ok, fb_ex, fb_bad, opt_some, opt_none, go_nx, go_bk, go_ct, go_rt, go_ex, go_bad, sq_go, fin_rt, fin_nx, fin_ex, val_sh, bor_sh, bor_ow, eV_ap, eB_ap, eC_ap, b1_ap, b2_ap, thn3_t, thn3_f, b3_ap, tru_bl, tb_ap, tAndB_ap, tOrB_ap, tNotB_ap, eAnd_ap, eOr_ap, eNot_ap, eIf_ap, aNil_ap, aCons_ap, eTup_ap, eLst_ap, eCall_ap, oN_ap, oint_ok, oS_ap, eSl_ap, iS_ap, items_lst, items_tup, iR1_ap, iR2_ap, enD_lst, iE_ap, gS_ap, gNil_ap, gCons_ap, gT_ap, sNx_ap, sBk_ap, sCt_ap, sFz_ap, sSet_ap, sNew_ap, nSl_lst, nSl_tup, nSl_int, nSl_dic, sAsg_ap, sRet_ap, sRetN_ap, sIf_ap, sEx_ap, sFor_ap, eLc_ap, wipe_nil, wipe_cons, tsY_ap, iZ_ap, fzS_ow, fzS_sh, fzS_no, fz_ap, augS_sh, sAug_ap, appS_ow, sApp_ap, ends_nx, ends_ct, ends_bk, ends_rt, ends_ex, opAdd_ii, opSub_ii, opNeg_i, opLe_ii, opLt_ii, opGt_ii, opGe_ii, opLen_l, opLen_t, opIx_l, opIx_t, opCut_l, opCut_t, opTuple_l, opTuple_t, opList_l, opList_t, opMax_ii, opInt_b, opInt_i, opEq_bb, opNe_bb, opEq_ii, opNe_ii, opNe_ss, opEq_ss, opIs_n, opIs_bb, atI_0, atI_1, atI_2, atI_3, eCallB_ap, atomR_i, atomR_b, atomR_n, atomR_s, fit0, fit1, fit2, fit3, fit4, fit5, fit6, fit7, fit8, fit9, fit10, fit11, fit12, fit13, fit14, fit15, fit16, fit17, fit18, fit19, fit20, fit21, fit22, fit23, fit24, fit25, fit26, fit27, fit28, fit29, fit30, fit31, fit32, fit33, fit34, fit35, fit36, fit37, fit38, fit39, fit40, one_1, one_0, one_2, two_2, two_0, two_1, two_3, eM_ap, mtD_l, opIsNot_n, gTl_ap, lnt_sh, lnt_ow, eBl_ap, sPut_ap, putF_t, putR_ap, isOwn_ow, putS_l, putS_ds, putS_di, opDGet_s, opDGet_i, opDIn_s, opDNotIn_s, opRev_l, opRev_t, sPar_ap, parF_2, eGet2_ap, eGet1_ap, getF_t, isDic_d, dgetOr_s, dgetOr_i, eLenSc_ap, sStar_ap, starK1, starK2, starK3, sUpd_ap, eSortSc_ap, forD_ap, oneD_ap, List.getElem?_cons_zero, List.getElem?_cons_succ, List.set_cons_zero, List.set_cons_succ, if_true, if_false, Bool.false_eq_true, List.length_cons, List.length_nil, List.length_map, Bool.true_and, Bool.and_true, Bool.false_and, Bool.and_false, Bool.not_true, Bool.not_false, eq_self, Nat.reduceEqDiff, Nat.reduceAdd, h1, lo, h2', h3', h4', bool_isi, bne_self, ee, u3]
          exact ⟨t, _, _, _, _, rfl, nx, rfl⟩
        | not c =>
          simp only [enC] at h1 lo h2' h3' h4' ⊢
          simp only [bind_ok, bind_ex, bind_bad, fb_ok, fb_ex, fb_bad, opt_some, opt_none, go_nx, go_bk, go_ct, go_rt, go_ex, go_bad, sq_go, fin_rt, fin_nx, fin_ex, val_sh, bor_sh, bor_ow, eV_ap, eB_ap, eC_ap, b1_ap, b2_ap, thn3_t, thn3_f, b3_ap, tru_bl, tb_ap, tAndB_ap, tOrB_ap, tNotB_ap, eAnd_ap, eOr_ap, eNot_ap, eIf_ap, aNil_ap, aCons_ap, eTup_ap, eLst_ap, eCall_ap, oN_ap, oint_ok, oS_ap, eSl_ap, iS_ap, items_lst, items_tup, iR1_ap, iR2_ap, enD_lst, iE_ap, gS_ap, gNil_ap, gCons_ap, gT_ap, sNx_ap, sBk_ap, sCt_ap, sFz_ap, sSet_ap, sNew_ap, nSl_lst, nSl_tup, nSl_int, nSl_dic, sAsg_ap, sRet_ap, sRetN_ap, sIf_ap, sEx_ap, sFor_ap, eLc_ap, wipe_nil, wipe_cons, tsY_ap, iZ_ap, fzS_ow, fzS_sh, fzS_no, fz_ap, augS_sh, sAug_ap, appS_ow, sApp_ap, ends_nx, ends_ct, ends_bk, ends_rt, ends_ex, opAdd_ii, opSub_ii, opNeg_i, opLe_ii, opLt_ii, opGt_ii, opGe_ii, opLen_l, opLen_t, opIx_l, opIx_t, opCut_l, opCut_t, opTuple_l, opTuple_t, opList_l, opList_t, opMax_ii, opInt_b, opInt_i, opEq_bb, opNe_bb, opEq_ii, opNe_ii, opNe_ss, opEq_ss, opIs_n, opIs_bb, atI_0, atI_1, atI_2, atI_3, eCallB_ap, atomR_i, atomR_b, atomR_n, atomR_s, fit0, fit1, fit2, fit3, fit4, fit5, fit6, fit7, fit8, fit9, fit10, fit11, fit12, fit13, fit14, fit15, fit16, fit17, fit18, fit19, fit20, fit21, fit22, fit23, fit24, fit25, fit26, fit27, fit28, fit29, fit30, fit31, fit32, fit33, fit34, fit35, fit36, fit37, fit38, fit39, fit40, one_1, one_0, one_2, two_2, two_0, two_1, two_3, eM_ap, mtD_l, opIsNot_n, gTl_ap, lnt_sh, lnt_ow, eBl_ap, sPut_ap, putF_t, putR_ap, isOwn_ow, putS_l, putS_ds, putS_di, opDGet_s, opDGet_i, opDIn_s, opDNotIn_s, opRev_l, opRev_t, sPar_ap, parF_2, eGet2_ap, eGet1_ap, getF_t, isDic_d, dgetOr_s, dgetOr_i, eLenSc_ap, sStar_ap, starK1, starK2, starK3, sUpd_ap, eSortSc_ap, forD_ap, oneD_ap, List.getElem?_cons_zero, List.getElem?_cons_succ, List.set_cons_zero, List.set_cons_succ, if_true, if_false, Bool.false_eq_true, List.length_cons, List.length_nil, List.length_map, Bool.true_and, Bool.and_true, Bool.false_and, Bool.and_false, Bool.not_true, Bool.not_false, eq_self, Nat.reduceEqDiff, Nat.reduceAdd, h1, lo, h2', h3', h4', bool_isi, bne_self, ee, u4]
          exact ⟨t, _, _, _, _, rfl, nx, rfl⟩
        | all cs =>
          obtain ⟨k, rfl⟩ : ∃ i, k = i + 1 := ⟨k - 1, by omega⟩
          have h5 := ho (.all cs.reverse) (k + 1) ⟨by rw [List.length_reverse]; exact hw.1, fun d hd => hw.2 d (List.mem_reverse.mp hd)⟩ (by omega)
          rw [(rev_den (plc bs) st cs).1] at h5
          have rv : opRev (.tup (cs.map enC)) = some (.tup (cs.reverse.map enC)) := by rw [List.map_reverse]; rfl
          simp only [enC, enL_map] at h1 lo h2' h3' h4' h5 ⊢
          simp only [bind_ok, bind_ex, bind_bad, fb_ok, fb_ex, fb_bad, opt_some, opt_none, go_nx, go_bk, go_ct, go_rt, go_ex, go_bad, sq_go, fin_rt, fin_nx, fin_ex, val_sh, bor_sh, bor_ow, eV_ap, eB_ap, eC_ap, b1_ap, b2_ap, thn3_t, thn3_f, b3_ap, tru_bl, tb_ap, tAndB_ap, tOrB_ap, tNotB_ap, eAnd_ap, eOr_ap, eNot_ap, eIf_ap, aNil_ap, aCons_ap, eTup_ap, eLst_ap, eCall_ap, oN_ap, oint_ok, oS_ap, eSl_ap, iS_ap, items_lst, items_tup, iR1_ap, iR2_ap, enD_lst, iE_ap, gS_ap, gNil_ap, gCons_ap, gT_ap, sNx_ap, sBk_ap, sCt_ap, sFz_ap, sSet_ap, sNew_ap, nSl_lst, nSl_tup, nSl_int, nSl_dic, sAsg_ap, sRet_ap, sRetN_ap, sIf_ap, sEx_ap, sFor_ap, eLc_ap, wipe_nil, wipe_cons, tsY_ap, iZ_ap, fzS_ow, fzS_sh, fzS_no, fz_ap, augS_sh, sAug_ap, appS_ow, sApp_ap, ends_nx, ends_ct, ends_bk, ends_rt, ends_ex, opAdd_ii, opSub_ii, opNeg_i, opLe_ii, opLt_ii, opGt_ii, opGe_ii, opLen_l, opLen_t, opIx_l, opIx_t, opCut_l, opCut_t, opTuple_l, opTuple_t, opList_l, opList_t, opMax_ii, opInt_b, opInt_i, opEq_bb, opNe_bb, opEq_ii, opNe_ii, opNe_ss, opEq_ss, opIs_n, opIs_bb, atI_0, atI_1, atI_2, atI_3, eCallB_ap, atomR_i, atomR_b, atomR_n, atomR_s, fit0, fit1, fit2, fit3, fit4, fit5, fit6, fit7, fit8, fit9, fit10, fit11, fit12, fit13, fit14, fit15, fit16, fit17, fit18, fit19, fit20, fit21, fit22, fit23, fit24, fit25, fit26, fit27, fit28, fit29, fit30, fit31, fit32, fit33, fit34, fit35, fit36, fit37, fit38, fit39, fit40, one_1, one_0, one_2, two_2, two_0, two_1, two_3, eM_ap, mtD_l, opIsNot_n, gTl_ap, lnt_sh, lnt_ow, eBl_ap, sPut_ap, putF_t, putR_ap, isOwn_ow, putS_l, putS_ds, putS_di, opDGet_s, opDGet_i, opDIn_s, opDNotIn_s, opRev_l, opRev_t, sPar_ap, parF_2, eGet2_ap, eGet1_ap, getF_t, isDic_d, dgetOr_s, dgetOr_i, eLenSc_ap, sStar_ap, starK1, starK2, starK3, sUpd_ap, eSortSc_ap, forD_ap, oneD_ap, List.getElem?_cons_zero, List.getElem?_cons_succ, List.set_cons_zero, List.set_cons_succ, if_true, if_false, Bool.false_eq_true, List.length_cons, List.length_nil, List.length_map, Bool.true_and, Bool.and_true, Bool.false_and, Bool.and_false, Bool.not_true, Bool.not_false, eq_self, Nat.reduceEqDiff, Nat.reduceAdd, h1, lo, h2', h3', h4', h5, rv, bool_isi, bne_self, ee, u5]
          exact ⟨t, _, _, _, _, rfl, nx, rfl⟩
        | any cs =>
          obtain ⟨k, rfl⟩ : ∃ i, k = i + 1 := ⟨k - 1, by omega⟩
          have h5 := ho (.any cs.reverse) (k + 1) ⟨by rw [List.length_reverse]; exact hw.1, fun d hd => hw.2 d (List.mem_reverse.mp hd)⟩ (by omega)
          rw [(rev_den (plc bs) st cs).2] at h5
          have rv : opRev (.tup (cs.map enC)) = some (.tup (cs.reverse.map enC)) := by rw [List.map_reverse]; rfl
          simp only [enC, enL_map] at h1 lo h2' h3' h4' h5 ⊢
          simp only [bind_ok, bind_ex, bind_bad, fb_ok, fb_ex, fb_bad, opt_some, opt_none, go_nx, go_bk, go_ct, go_rt, go_ex, go_bad, sq_go, fin_rt, fin_nx, fin_ex, val_sh, bor_sh, bor_ow, eV_ap, eB_ap, eC_ap, b1_ap, b2_ap, thn3_t, thn3_f, b3_ap, tru_bl, tb_ap, tAndB_ap, tOrB_ap, tNotB_ap, eAnd_ap, eOr_ap, eNot_ap, eIf_ap, aNil_ap, aCons_ap, eTup_ap, eLst_ap, eCall_ap, oN_ap, oint_ok, oS_ap, eSl_ap, iS_ap, items_lst, items_tup, iR1_ap, iR2_ap, enD_lst, iE_ap, gS_ap, gNil_ap, gCons_ap, gT_ap, sNx_ap, sBk_ap, sCt_ap, sFz_ap, sSet_ap, sNew_ap, nSl_lst, nSl_tup, nSl_int, nSl_dic, sAsg_ap, sRet_ap, sRetN_ap, sIf_ap, sEx_ap, sFor_ap, eLc_ap, wipe_nil, wipe_cons, tsY_ap, iZ_ap, fzS_ow, fzS_sh, fzS_no, fz_ap, augS_sh, sAug_ap, appS_ow, sApp_ap, ends_nx, ends_ct, ends_bk, ends_rt, ends_ex, opAdd_ii, opSub_ii, opNeg_i, opLe_ii, opLt_ii, opGt_ii, opGe_ii, opLen_l, opLen_t, opIx_l, opIx_t, opCut_l, opCut_t, opTuple_l, opTuple_t, opList_l, opList_t, opMax_ii, opInt_b, opInt_i, opEq_bb, opNe_bb, opEq_ii, opNe_ii, opNe_ss, opEq_ss, opIs_n, opIs_bb, atI_0, atI_1, atI_2, atI_3, eCallB_ap, atomR_i, atomR_b, atomR_n, atomR_s, fit0, fit1, fit2, fit3, fit4, fit5, fit6, fit7, fit8, fit9, fit10, fit11, fit12, fit13, fit14, fit15, fit16, fit17, fit18, fit19, fit20, fit21, fit22, fit23, fit24, fit25, fit26, fit27, fit28, fit29, fit30, fit31, fit32, fit33, fit34, fit35, fit36, fit37, fit38, fit39, fit40, one_1, one_0, one_2, two_2, two_0, two_1, two_3, eM_ap, mtD_l, opIsNot_n, gTl_ap, lnt_sh, lnt_ow, eBl_ap, sPut_ap, putF_t, putR_ap, isOwn_ow, putS_l, putS_ds, putS_di, opDGet_s, opDGet_i, opDIn_s, opDNotIn_s, opRev_l, opRev_t, sPar_ap, parF_2, eGet2_ap, eGet1_ap, getF_t, isDic_d, dgetOr_s, dgetOr_i, eLenSc_ap, sStar_ap, starK1, starK2, starK3, sUpd_ap, eSortSc_ap, forD_ap, oneD_ap, List.getElem?_cons_zero, List.getElem?_cons_succ, List.set_cons_zero, List.set_cons_succ, if_true, if_false, Bool.false_eq_true, List.length_cons, List.length_nil, List.length_map, Bool.true_and, Bool.and_true, Bool.false_and, Bool.and_false, Bool.not_true, Bool.not_false, eq_self, Nat.reduceEqDiff, Nat.reduceAdd, h1, lo, h2', h3', h4', h5, rv, bool_isi, bne_self, ee, u6]
          exact ⟨t, _, _, _, _, rfl, nx, rfl⟩
    · obtain ⟨t, x2, x3, x4, x5, h1, h2, rfl⟩ := q
      subst hg
      simp only [bind_ok, bind_ex, bind_bad, fb_ok, fb_ex, fb_bad, opt_some, opt_none, go_nx, go_bk, go_ct, go_rt, go_ex, go_bad, sq_go, fin_rt, fin_nx, fin_ex, val_sh, bor_sh, bor_ow, eV_ap, eB_ap, eC_ap, b1_ap, b2_ap, thn3_t, thn3_f, b3_ap, tru_bl, tb_ap, tAndB_ap, tOrB_ap, tNotB_ap, eAnd_ap, eOr_ap, eNot_ap, eIf_ap, aNil_ap, aCons_ap, eTup_ap, eLst_ap, eCall_ap, oN_ap, oint_ok, oS_ap, eSl_ap, iS_ap, items_lst, items_tup, iR1_ap, iR2_ap, enD_lst, iE_ap, gS_ap, gNil_ap, gCons_ap, gT_ap, sNx_ap, sBk_ap, sCt_ap, sFz_ap, sSet_ap, sNew_ap, nSl_lst, nSl_tup, nSl_int, nSl_dic, sAsg_ap, sRet_ap, sRetN_ap, sIf_ap, sEx_ap, sFor_ap, eLc_ap, wipe_nil, wipe_cons, tsY_ap, iZ_ap, fzS_ow, fzS_sh, fzS_no, fz_ap, augS_sh, sAug_ap, appS_ow, sApp_ap, ends_nx, ends_ct, ends_bk, ends_rt, ends_ex, opAdd_ii, opSub_ii, opNeg_i, opLe_ii, opLt_ii, opGt_ii, opGe_ii, opLen_l, opLen_t, opIx_l, opIx_t, opCut_l, opCut_t, opTuple_l, opTuple_t, opList_l, opList_t, opMax_ii, opInt_b, opInt_i, opEq_bb, opNe_bb, opEq_ii, opNe_ii, opNe_ss, opEq_ss, opIs_n, opIs_bb, atI_0, atI_1, atI_2, atI_3, eCallB_ap, atomR_i, atomR_b, atomR_n, atomR_s, fit0, fit1, fit2, fit3, fit4, fit5, fit6, fit7, fit8, fit9, fit10, fit11, fit12, fit13, fit14, fit15, fit16, fit17, fit18, fit19, fit20, fit21, fit22, fit23, fit24, fit25, fit26, fit27, fit28, fit29, fit30, fit31, fit32, fit33, fit34, fit35, fit36, fit37, fit38, fit39, fit40, one_1, one_0, one_2, two_2, two_0, two_1, two_3, eM_ap, mtD_l, opIsNot_n, gTl_ap, lnt_sh, lnt_ow, eBl_ap, sPut_ap, putF_t, putR_ap, isOwn_ow, putS_l, putS_ds, putS_di, opDGet_s, opDGet_i, opDIn_s, opDNotIn_s, opRev_l, opRev_t, sPar_ap, parF_2, eGet2_ap, eGet1_ap, getF_t, isDic_d, dgetOr_s, dgetOr_i, eLenSc_ap, sStar_ap, starK1, starK2, starK3, sUpd_ap, eSortSc_ap, forD_ap, oneD_ap, List.getElem?_cons_zero, List.getElem?_cons_succ, List.set_cons_zero, List.set_cons_succ, if_true, if_false, Bool.false_eq_true, List.length_cons, List.length_nil, List.length_map, Bool.true_and, Bool.and_true, Bool.false_and, Bool.and_false, Bool.not_true, Bool.not_false, eq_self, Nat.reduceEqDiff, Nat.reduceAdd]

theorem law_true (ns : List Int) (hl : ns.length ≤ 63) : f_law [.lst (ns.map .int)] = .ok (.bl true) := by
  rw [e_law]
  unfold b_law
  generalize hb7 : (if (ns.map D.int).isEmpty = true then [7] else ([] : List Int)) = b7
  have l7 : b7.length ≤ 1 := by rw [← hb7]; split <;> simp
  simp (disch := first | omega | (simp only [List.length_cons, List.length_nil, List.length_map, List.length_append, Nat.reduceAdd, Nat.reduceLeDiff]; done) | (simp only [List.length_cons, List.length_nil, List.length_map, List.length_append, Nat.reduceAdd, Nat.reduceLeDiff]; omega)) only [bind_ok, bind_ex, bind_bad, fb_ok, fb_ex, fb_bad, opt_some, opt_none, go_nx, go_bk, go_ct, go_rt, go_ex, go_bad, sq_go, fin_rt, fin_nx, fin_ex, val_sh, bor_sh, bor_ow, eV_ap, eB_ap, eC_ap, b1_ap, b2_ap, thn3_t, thn3_f, b3_ap, tru_bl, tb_ap, tAndB_ap, tOrB_ap, tNotB_ap, eAnd_ap, eOr_ap, eNot_ap, eIf_ap, aNil_ap, aCons_ap, eTup_ap, eLst_ap, eCall_ap, oN_ap, oint_ok, oS_ap, eSl_ap, iS_ap, items_lst, items_tup, iR1_ap, iR2_ap, enD_lst, iE_ap, gS_ap, gNil_ap, gCons_ap, gT_ap, sNx_ap, sBk_ap, sCt_ap, sFz_ap, sSet_ap, sNew_ap, nSl_lst, nSl_tup, nSl_int, nSl_dic, sAsg_ap, sRet_ap, sRetN_ap, sIf_ap, sEx_ap, sFor_ap, eLc_ap, wipe_nil, wipe_cons, tsY_ap, iZ_ap, fzS_ow, fzS_sh, fzS_no, fz_ap, augS_sh, sAug_ap, appS_ow, sApp_ap, ends_nx, ends_ct, ends_bk, ends_rt, ends_ex, opAdd_ii, opSub_ii, opNeg_i, opLe_ii, opLt_ii, opGt_ii, opGe_ii, opLen_l, opLen_t, opIx_l, opIx_t, opCut_l, opCut_t, opTuple_l, opTuple_t, opList_l, opList_t, opMax_ii, opInt_b, opInt_i, opEq_bb, opNe_bb, opEq_ii, opNe_ii, opNe_ss, opEq_ss, opIs_n, opIs_bb, atI_0, atI_1, atI_2, atI_3, eCallB_ap, atomR_i, atomR_b, atomR_n, atomR_s, fit0, fit1, fit2, fit3, fit4, fit5, fit6, fit7, fit8, fit9, fit10, fit11, fit12, fit13, fit14, fit15, fit16, fit17, fit18, fit19, fit20, fit21, fit22, fit23, fit24, fit25, fit26, fit27, fit28, fit29, fit30, fit31, fit32, fit33, fit34, fit35, fit36, fit37, fit38, fit39, fit40, one_1, one_0, one_2, two_2, two_0, two_1, two_3, eM_ap, mtD_l, opIsNot_n, gTl_ap, lnt_sh, lnt_ow, eBl_ap, sPut_ap, putF_t, putR_ap, isOwn_ow, putS_l, putS_ds, putS_di, opDGet_s, opDGet_i, opDIn_s, opDNotIn_s, opRev_l, opRev_t, sPar_ap, parF_2, eGet2_ap, eGet1_ap, getF_t, isDic_d, dgetOr_s, dgetOr_i, eLenSc_ap, sStar_ap, starK1, starK2, starK3, sUpd_ap, eSortSc_ap, forD_ap, oneD_ap, List.getElem?_cons_zero, List.getElem?_cons_succ, List.set_cons_zero, List.set_cons_succ, if_true, if_false, Bool.false_eq_true, List.length_cons, List.length_nil, List.length_map, Bool.true_and, Bool.and_true, Bool.false_and, Bool.and_false, Bool.not_true, Bool.not_false, eq_self, Nat.reduceEqDiff, Nat.reduceAdd, cut_mapL, eq_nil_ints, rep7, hb7, add_ints (show (ns.take (Int.toNat 12)).length + b7.length ≤ 16777216 by simp; omega)]
  rw [enumD_eq]
  have lc : (ns.take (Int.toNat 12) ++ b7).length ≤ 13 := by simp; omega
  generalize ns.take (Int.toNat 12) ++ b7 = cs at lc
  generalize hg : (sRet (eC (.bl true)) : Lo → Fl) = g
  refine (forL_post (Post := fun r => (r.go g).fin = .ok (.bl true)) (fun r ρ => ∃ (i : Int) (t : List Int) (x1 x2 x3 x4 x5 x6 : Sl), r = enF i (t.map .int) ∧ 0 ≤ i ∧ i + t.length ≤ 13 ∧ ρ = [.sh (.lst (ns.map .int)), x1, x2, x3, x4, x5, x6]) (fun d r ρ q => ?_) (fun ρ q => ?_) ⟨0, cs, .no, .no, .no, .no, .no, .no, rfl, by omega, by omega, rfl⟩ :)
  · obtain ⟨i, t, x1, x2, x3, x4, x5, x6, h2, h3, h4, rfl⟩ := q
    rcases enF_nil h2 with ⟨rfl, e⟩ | ⟨c, t, rfl, e⟩
    · cases e
    · cases e
      refine ⟨_, rfl, ?_⟩
      rw [List.length_cons] at h4
      obtain ⟨l, hn, hd⟩ := numbers_ok c (300 + i) (by omega) (List.replicate 70 420) (fun z hz => by rw [List.eq_of_mem_replicate hz]; omega) (by rw [List.length_replicate]; omega)
      have hll : l.length = 70 := by rw [hd.1, List.length_replicate]
      have hnn := dig_nn hd
      have dr : ∀ (i : Nat) (x : Int), x ∈ l.drop i → 0 ≤ x := fun i x hx => hnn x (List.mem_of_mem_drop hx)
      obtain ⟨bs, sb, hs⟩ := small_ok (l := l.drop (60 : Int).toNat) (by rw [List.length_drop]; omega) (dr _)
      have okbs : Ok 3000 3 (.lst bs) := (Ok.lst 3 hs.2.1 fun b h => (hs.2.2.2 b h).ok).up (by omega) (by omega)
      have rp := okbs.rep (by omega) (by omega)
      have each : ∀ j : Int, 0 ≤ j → j < 3 → ∃ d, f_law_tree [.lst ((l.drop (6 * j).toNat).map .int), .lst bs, .int 4] = .ok d ∧ f_law_right [.lst bs, d] = .ok (.bl true) := fun j j1 j2 => by
        obtain ⟨c, t1, t2⟩ := tree_ok hs 3 11 (l.drop (6 * j).toNat) (by omega) (by omega) (by rw [List.length_drop]; omega) (dr _)
        exact ⟨_, t1, right_ok hs t2 (by omega)⟩
      simp (disch := first | omega | (simp only [List.length_cons, List.length_nil, List.length_map, List.length_append, Nat.reduceAdd, Nat.reduceLeDiff]; done) | (simp only [List.length_cons, List.length_nil, List.length_map, List.length_append, Nat.reduceAdd, Nat.reduceLeDiff]; omega)) only [bind_ok, bind_ex, bind_bad, fb_ok, fb_ex, fb_bad, opt_some, opt_none, go_nx, go_bk, go_ct, go_rt, go_ex, go_bad, sq_go, fin_rt, fin_nx, fin_ex, val_sh, bor_sh, bor_ow, eV_ap, eB_ap, eC_ap, b1_ap, b2_ap, thn3_t, thn3_f, b3_ap, tru_bl, tb_ap, tAndB_ap, tOrB_ap, tNotB_ap, eAnd_ap, eOr_ap, eNot_ap, eIf_ap, aNil_ap, aCons_ap, eTup_ap, eLst_ap, eCall_ap, oN_ap, oint_ok, oS_ap, eSl_ap, iS_ap, items_lst, items_tup, iR1_ap, iR2_ap, enD_lst, iE_ap, gS_ap, gNil_ap, gCons_ap, gT_ap, sNx_ap, sBk_ap, sCt_ap, sFz_ap, sSet_ap, sNew_ap, nSl_lst, nSl_tup, nSl_int, nSl_dic, sAsg_ap, sRet_ap, sRetN_ap, sIf_ap, sEx_ap, sFor_ap, eLc_ap, wipe_nil, wipe_cons, tsY_ap, iZ_ap, fzS_ow, fzS_sh, fzS_no, fz_ap, augS_sh, sAug_ap, appS_ow, sApp_ap, ends_nx, ends_ct, ends_bk, ends_rt, ends_ex, opAdd_ii, opSub_ii, opNeg_i, opLe_ii, opLt_ii, opGt_ii, opGe_ii, opLen_l, opLen_t, opIx_l, opIx_t, opCut_l, opCut_t, opTuple_l, opTuple_t, opList_l, opList_t, opMax_ii, opInt_b, opInt_i, opEq_bb, opNe_bb, opEq_ii, opNe_ii, opNe_ss, opEq_ss, opIs_n, opIs_bb, atI_0, atI_1, atI_2, atI_3, eCallB_ap, atomR_i, atomR_b, atomR_n, atomR_s, fit0, fit1, fit2, fit3, fit4, fit5, fit6, fit7, fit8, fit9, fit10, fit11, fit12, fit13, fit14, fit15, fit16, fit17, fit18, fit19, fit20, fit21, fit22, fit23, fit24, fit25, fit26, fit27, fit28, fit29, fit30, fit31, fit32, fit33, fit34, fit35, fit36, fit37, fit38, fit39, fit40, one_1, one_0, one_2, two_2, two_0, two_1, two_3, eM_ap, mtD_l, opIsNot_n, gTl_ap, lnt_sh, lnt_ow, eBl_ap, sPut_ap, putF_t, putR_ap, isOwn_ow, putS_l, putS_ds, putS_di, opDGet_s, opDGet_i, opDIn_s, opDNotIn_s, opRev_l, opRev_t, sPar_ap, parF_2, eGet2_ap, eGet1_ap, getF_t, isDic_d, dgetOr_s, dgetOr_i, eLenSc_ap, sStar_ap, starK1, starK2, starK3, sUpd_ap, eSortSc_ap, forD_ap, oneD_ap, List.getElem?_cons_zero, List.getElem?_cons_succ, List.set_cons_zero, List.set_cons_succ, if_true, if_false, Bool.false_eq_true, List.length_cons, List.length_nil, List.length_map, Bool.true_and, Bool.and_true, Bool.false_and, Bool.and_false, Bool.not_true, Bool.not_false, eq_self, Nat.reduceEqDiff, Nat.reduceAdd, rep70, hn, range_i, cut_mapR, sb, rp]
      refine (forL_post (Post := fun r => Fl.ends _ _ r) (fun r ρ => ∃ (x6 : Sl), (∀ d ∈ r, ∃ j : Int, d = .int j ∧ 0 ≤ j ∧ j < 3) ∧ ρ = [.sh (.lst (ns.map .int)), .sh (.int i), .sh (.int c), .sh (.lst (l.map .int)), .sh (.lst bs), .sh (.str (py (.lst bs)).shown), x6]) (fun d r ρ q => ?_) (fun ρ q => ?_) ⟨_, fun d hd => mem_rng hd, rfl⟩ :)
      · obtain ⟨x6, hr, rfl⟩ := q
        obtain ⟨j, rfl, j1, j2⟩ := hr d (by simp)
        refine ⟨_, rfl, ?_⟩
        obtain ⟨d, t1, t2⟩ := each j j1 j2
        simp (disch := first | omega | (simp only [List.length_cons, List.length_nil, List.length_map, List.length_append, Nat.reduceAdd, Nat.reduceLeDiff]; done) | (simp only [List.length_cons, List.length_nil, List.length_map, List.length_append, Nat.reduceAdd, Nat.reduceLeDiff]; omega)) only [bind_ok, bind_ex, bind_bad, fb_ok, fb_ex, fb_bad, opt_some, opt_none, go_nx, go_bk, go_ct, go_rt, go_ex, go_bad, sq_go, fin_rt, fin_nx, fin_ex, val_sh, bor_sh, bor_ow, eV_ap, eB_ap, eC_ap, b1_ap, b2_ap, thn3_t, thn3_f, b3_ap, tru_bl, tb_ap, tAndB_ap, tOrB_ap, tNotB_ap, eAnd_ap, eOr_ap, eNot_ap, eIf_ap, aNil_ap, aCons_ap, eTup_ap, eLst_ap, eCall_ap, oN_ap, oint_ok, oS_ap, eSl_ap, iS_ap, items_lst, items_tup, iR1_ap, iR2_ap, enD_lst, iE_ap, gS_ap, gNil_ap, gCons_ap, gT_ap, sNx_ap, sBk_ap, sCt_ap, sFz_ap, sSet_ap, sNew_ap, nSl_lst, nSl_tup, nSl_int, nSl_dic, sAsg_ap, sRet_ap, sRetN_ap, sIf_ap, sEx_ap, sFor_ap, eLc_ap, wipe_nil, wipe_cons, tsY_ap, iZ_ap, fzS_ow, fzS_sh, fzS_no, fz_ap, augS_sh, sAug_ap, appS_ow, sApp_ap, ends_nx, ends_ct, ends_bk, ends_rt, ends_ex, opAdd_ii, opSub_ii, opNeg_i, opLe_ii, opLt_ii, opGt_ii, opGe_ii, opLen_l, opLen_t, opIx_l, opIx_t, opCut_l, opCut_t, opTuple_l, opTuple_t, opList_l, opList_t, opMax_ii, opInt_b, opInt_i, opEq_bb, opNe_bb, opEq_ii, opNe_ii, opNe_ss, opEq_ss, opIs_n, opIs_bb, atI_0, atI_1, atI_2, atI_3, eCallB_ap, atomR_i, atomR_b, atomR_n, atomR_s, fit0, fit1, fit2, fit3, fit4, fit5, fit6, fit7, fit8, fit9, fit10, fit11, fit12, fit13, fit14, fit15, fit16, fit17, fit18, fit19, fit20, fit21, fit22, fit23, fit24, fit25, fit26, fit27, fit28, fit29, fit30, fit31, fit32, fit33, fit34, fit35, fit36, fit37, fit38, fit39, fit40, one_1, one_0, one_2, two_2, two_0, two_1, two_3, eM_ap, mtD_l, opIsNot_n, gTl_ap, lnt_sh, lnt_ow, eBl_ap, sPut_ap, putF_t, putR_ap, isOwn_ow, putS_l, putS_ds, putS_di, opDGet_s, opDGet_i, opDIn_s, opDNotIn_s, opRev_l, opRev_t, sPar_ap, parF_2, eGet2_ap, eGet1_ap, getF_t, isDic_d, dgetOr_s, dgetOr_i, eLenSc_ap, sStar_ap, starK1, starK2, starK3, sUpd_ap, eSortSc_ap, forD_ap, oneD_ap, List.getElem?_cons_zero, List.getElem?_cons_succ, List.set_cons_zero, List.set_cons_succ, if_true, if_false, Bool.false_eq_true, List.length_cons, List.length_nil, List.length_map, Bool.true_and, Bool.and_true, Bool.false_and, Bool.and_false, Bool.not_true, Bool.not_false, eq_self, Nat.reduceEqDiff, Nat.reduceAdd, mul_l, cut_mapR, t1, t2, rp, bne_selfS]
        exact ⟨_, fun d hd => hr d (by simp [hd]), rfl⟩
      · obtain ⟨x6, hr, rfl⟩ := q
        exact ⟨i + 1, t, _, _, _, _, _, _, rfl, by omega, by omega, rfl⟩
  · obtain ⟨i, t, x1, x2, x3, x4, x5, x6, h2, h3, h4, rfl⟩ := q
    subst hg
    simp only [bind_ok, bind_ex, bind_bad, fb_ok, fb_ex, fb_bad, opt_some, opt_none, go_nx, go_bk, go_ct, go_rt, go_ex, go_bad, sq_go, fin_rt, fin_nx, fin_ex, val_sh, bor_sh, bor_ow, eV_ap, eB_ap, eC_ap, b1_ap, b2_ap, thn3_t, thn3_f, b3_ap, tru_bl, tb_ap, tAndB_ap, tOrB_ap, tNotB_ap, eAnd_ap, eOr_ap, eNot_ap, eIf_ap, aNil_ap, aCons_ap, eTup_ap, eLst_ap, eCall_ap, oN_ap, oint_ok, oS_ap, eSl_ap, iS_ap, items_lst, items_tup, iR1_ap, iR2_ap, enD_lst, iE_ap, gS_ap, gNil_ap, gCons_ap, gT_ap, sNx_ap, sBk_ap, sCt_ap, sFz_ap, sSet_ap, sNew_ap, nSl_lst, nSl_tup, nSl_int, nSl_dic, sAsg_ap, sRet_ap, sRetN_ap, sIf_ap, sEx_ap, sFor_ap, eLc_ap, wipe_nil, wipe_cons, tsY_ap, iZ_ap, fzS_ow, fzS_sh, fzS_no, fz_ap, augS_sh, sAug_ap, appS_ow, sApp_ap, ends_nx, ends_ct, ends_bk, ends_rt, ends_ex, opAdd_ii, opSub_ii, opNeg_i, opLe_ii, opLt_ii, opGt_ii, opGe_ii, opLen_l, opLen_t, opIx_l, opIx_t, opCut_l, opCut_t, opTuple_l, opTuple_t, opList_l, opList_t, opMax_ii, opInt_b, opInt_i, opEq_bb, opNe_bb, opEq_ii, opNe_ii, opNe_ss, opEq_ss, opIs_n, opIs_bb, atI_0, atI_1, atI_2, atI_3, eCallB_ap, atomR_i, atomR_b, atomR_n, atomR_s, fit0, fit1, fit2, fit3, fit4, fit5, fit6, fit7, fit8, fit9, fit10, fit11, fit12, fit13, fit14, fit15, fit16, fit17, fit18, fit19, fit20, fit21, fit22, fit23, fit24, fit25, fit26, fit27, fit28, fit29, fit30, fit31, fit32, fit33, fit34, fit35, fit36, fit37, fit38, fit39, fit40, one_1, one_0, one_2, two_2, two_0, two_1, two_3, eM_ap, mtD_l, opIsNot_n, gTl_ap, lnt_sh, lnt_ow, eBl_ap, sPut_ap, putF_t, putR_ap, isOwn_ow, putS_l, putS_ds, putS_di, opDGet_s, opDGet_i, opDIn_s, opDNotIn_s, opRev_l, opRev_t, sPar_ap, parF_2, eGet2_ap, eGet1_ap, getF_t, isDic_d, dgetOr_s, dgetOr_i, eLenSc_ap, sStar_ap, starK1, starK2, starK3, sUpd_ap, eSortSc_ap, forD_ap, oneD_ap, List.getElem?_cons_zero, List.getElem?_cons_succ, List.set_cons_zero, List.set_cons_succ, if_true, if_false, Bool.false_eq_true, List.length_cons, List.length_nil, List.length_map, Bool.true_and, Bool.and_true, Bool.false_and, Bool.and_false, Bool.not_true, Bool.not_false, eq_self, Nat.reduceEqDiff, Nat.reduceAdd]

end K03
namespace K03
open PyProof.Rows PySem L2 PySem.Spec VL
/-! ### the text -/
def topS (i : Nat) : Stmt := PySem.Challenge.pw_showshigh_k03_where_conditions_hold.main.body.getD i (.Pass ⟨0, 0, 0, 0⟩)
abbrev s_place_of : Stmt := topS 1
theorem sc_place_of : FnScope ["boxes", "name", "place", "box"] ["boxes", "name"] (defScope s_place_of) := ⟨rfl, rfl, rfl, by decide +kernel, rfl, by decide +kernel, by decide +kernel⟩
abbrev s_law_numbers : Stmt := topS 6
theorem sc_law_numbers : FnScope ["_law_cell", "_law_salt", "_law_sizes", "_law_number", "_law_left", "_law_found", "_law_k", "_law_one"] ["_law_cell", "_law_salt", "_law_sizes"] (defScope s_law_numbers) := ⟨rfl, rfl, rfl, by decide +kernel, rfl, by decide +kernel, by decide +kernel⟩
abbrev s_law_small_boxes : Stmt := topS 7
theorem sc_law_small_boxes : FnScope ["_law_digits", "_law_kinds", "_law_found", "_law_k"] ["_law_digits"] (defScope s_law_small_boxes) := ⟨rfl, rfl, rfl, by decide +kernel, rfl, by decide +kernel, by decide +kernel⟩
abbrev s_law_at : Stmt := topS 9
theorem sc_law_at : FnScope ["_law_boxes", "_law_name", "_law_box"] ["_law_boxes", "_law_name"] (defScope s_law_at) := ⟨rfl, rfl, rfl, by decide +kernel, rfl, by decide +kernel, by decide +kernel⟩
abbrev s_law_stands : Stmt := topS 11
theorem sc_law_stands : FnScope ["_law_boxes", "_law_found", "_law_name", "_law_count", "_law_kind", "_law_longer", "_law_stand", "_law_value"] ["_law_boxes"] (defScope s_law_stands) := ⟨rfl, rfl, rfl, by decide +kernel, rfl, by decide +kernel, by decide +kernel⟩
abbrev s_names_in : Stmt := topS 4
theorem sc_names_in : FnScope ["condition", "word", "rest", "part", "name"] ["condition"] (defScope s_names_in) := ⟨rfl, rfl, rfl, by decide +kernel, rfl, by decide +kernel, by decide +kernel⟩
abbrev s_law_tree : Stmt := topS 8
theorem sc_law_tree : FnScope ["_law_digits", "_law_boxes", "_law_deep", "_law_one", "_law_other", "_law_way", "_law_many", "_law_parts", "_law_k"] ["_law_digits", "_law_boxes", "_law_deep"] (defScope s_law_tree) := ⟨rfl, rfl, rfl, by decide +kernel, rfl, by decide +kernel, by decide +kernel⟩
abbrev s_law_names : Stmt := topS 12
theorem sc_law_names : FnScope ["_law_condition", "_law_name", "_law_parts", "_law_found", "_law_part"] ["_law_condition"] (defScope s_law_names) := ⟨rfl, rfl, rfl, by decide +kernel, rfl, by decide +kernel, by decide +kernel⟩
abbrev s_holds : Stmt := topS 3
theorem sc_holds : FnScope ["boxes", "condition", "stand", "word", "rest", "parts", "part"] ["boxes", "condition", "stand"] (defScope s_holds) := ⟨rfl, rfl, rfl, by decide +kernel, rfl, by decide +kernel, by decide +kernel⟩
abbrev s_law_holds : Stmt := topS 10
theorem sc_law_holds : FnScope ["_law_boxes", "_law_condition", "_law_stand", "_law_some", "_law_part"] ["_law_boxes", "_law_condition", "_law_stand"] (defScope s_law_holds) := ⟨rfl, rfl, rfl, by decide +kernel, rfl, by decide +kernel, by decide +kernel⟩
abbrev s_law_right : Stmt := topS 13
theorem sc_law_right : FnScope ["_law_boxes", "_law_condition", "_law_turn", "_law_names_here", "_law_stand", "_law_found"] ["_law_boxes", "_law_condition"] (defScope s_law_right) := ⟨rfl, rfl, rfl, by decide +kernel, rfl, by decide +kernel, by decide +kernel⟩
abbrev s_law : Stmt := topS 14
theorem sc_law : FnScope ["_law_script", "_law_k", "_law_cell", "_law_digits", "_law_boxes", "_law_kept", "_law_turn"] ["_law_script"] (defScope s_law) := ⟨rfl, rfl, rfl, by decide +kernel, rfl, by decide +kernel, by decide +kernel⟩
structure Ms (K : PySem.W.Frag) (mg : Str → Option Value) (ad : Nat → Addr) (fd : Nat → FuncData) : Prop where
  g_place_of : mg "place_of" = some (.ref (ad 1))
  F_place_of : Fun K "place_of" "place_of" s_place_of (ad 1) (fd 1)
  b_place_of : Binds K (fd 1) ["boxes", "name"] []
  g_law_numbers : mg "_law_numbers" = some (.ref (ad 6))
  F_law_numbers : Fun K "_law_numbers" "_law_numbers" s_law_numbers (ad 6) (fd 6)
  b_law_numbers : Binds K (fd 6) ["_law_cell", "_law_salt", "_law_sizes"] []
  g_law_small_boxes : mg "_law_small_boxes" = some (.ref (ad 7))
  F_law_small_boxes : Fun K "_law_small_boxes" "_law_small_boxes" s_law_small_boxes (ad 7) (fd 7)
  b_law_small_boxes : Binds K (fd 7) ["_law_digits"] []
  g_law_at : mg "_law_at" = some (.ref (ad 9))
  F_law_at : Fun K "_law_at" "_law_at" s_law_at (ad 9) (fd 9)
  b_law_at : Binds K (fd 9) ["_law_boxes", "_law_name"] []
  g_law_stands : mg "_law_stands" = some (.ref (ad 11))
  F_law_stands : Fun K "_law_stands" "_law_stands" s_law_stands (ad 11) (fd 11)
  b_law_stands : Binds K (fd 11) ["_law_boxes"] []
  g_names_in : mg "names_in" = some (.ref (ad 4))
  F_names_in : Fun K "names_in" "names_in" s_names_in (ad 4) (fd 4)
  b_names_in : Binds K (fd 4) ["condition"] []
  g_law_tree : mg "_law_tree" = some (.ref (ad 8))
  F_law_tree : Fun K "_law_tree" "_law_tree" s_law_tree (ad 8) (fd 8)
  b_law_tree : Binds K (fd 8) ["_law_digits", "_law_boxes", "_law_deep"] []
  g_law_names : mg "_law_names" = some (.ref (ad 12))
  F_law_names : Fun K "_law_names" "_law_names" s_law_names (ad 12) (fd 12)
  b_law_names : Binds K (fd 12) ["_law_condition"] []
  g_holds : mg "holds" = some (.ref (ad 3))
  F_holds : Fun K "holds" "holds" s_holds (ad 3) (fd 3)
  b_holds : Binds K (fd 3) ["boxes", "condition", "stand"] []
  g_law_holds : mg "_law_holds" = some (.ref (ad 10))
  F_law_holds : Fun K "_law_holds" "_law_holds" s_law_holds (ad 10) (fd 10)
  b_law_holds : Binds K (fd 10) ["_law_boxes", "_law_condition", "_law_stand"] []
  g_law_right : mg "_law_right" = some (.ref (ad 13))
  F_law_right : Fun K "_law_right" "_law_right" s_law_right (ad 13) (fd 13)
  b_law_right : Binds K (fd 13) ["_law_boxes", "_law_condition"] []
  g_law : mg "law" = some (.ref (ad 14))
  F_law : Fun K "law" "law" s_law (ad 14) (fd 14)
  b_law : Binds K (fd 14) ["_law_script"] []
  n_all : mg "all" = none
  n_any : mg "any" = none
  n_bool : mg "bool" = none
  n_dict : mg "dict" = none
  n_enumerate : mg "enumerate" = none
  n_int : mg "int" = none
  n_isinstance : mg "isinstance" = none
  n_len : mg "len" = none
  n_max : mg "max" = none
  n_range : mg "range" = none
  n_repr : mg "repr" = none
  n_set : mg "set" = none
  n_sorted : mg "sorted" = none
  n_str : mg "str" = none
  n_tuple : mg "tuple" = none
section
variable {P : Program} {w : World} {K : PySem.W.Frag} {mg : Str → Option Value} {base : Heap} {ad : Nat → Addr} {fd : Nat → FuncData}
theorem ok_place_of (M : Ms K mg ad fd) (hsys : Sysm base) : FnG P w K mg base 1 (ad 1) (fd 1) ["boxes", "name"] (spV K mg 2 .sh f_place_of) :=
  fn_v M.F_place_of sc_place_of hsys fun cdv A outer s H E G eg x =>
    (vb_cons (vs_for x (passes_of rfl) (vi_enum x M.n_enumerate (vv 0)) (vp_tup x (vps_cons (vp_name 2 x) (vps_cons (vp_name 3 x) vps_nil))) (vb_one (vs_if (vt_eq x (ve_ix x (vv 3) (vi (m := .sh))) (vv 1)) (vb_one (vs_ret (vv 2))) vb_nil)))
    (vb_one (vs_ret (vn (m := .sh)))))
theorem ok_law_numbers (M : Ms K mg ad fd) (hsys : Sysm base) : FnG P w K mg base 1 (ad 6) (fd 6) ["_law_cell", "_law_salt", "_law_sizes"] (spV K mg 3 .sh f_law_numbers) :=
  fn_v M.F_law_numbers sc_law_numbers hsys fun cdv A outer s H E G eg x =>
    (vb_cons (vs_set 3 x (ve_max (m := .sh) x M.n_max (vv 0) (ve_sub (m := .sh) (ve_neg (m := .sh) (vi (m := .sh))) (vv 0))))
    (vb_cons (vs_set 4 x (vv 3))
    (vb_cons (vs_new 5 x (ve_lst (m := .fr) va_nil))
    (vb_cons (vs_for x (passes_of rfl) (vi_range1 M.n_range (ve_len (m := .sh) x M.n_len (vv 2))) (vp_name 6 x) (vb_one (vs_if (VW.vt (vw_and (vt_ge (vv 3) (ve_pow (m := .sh) (vi (m := .sh)) (vi (m := .sh)))) (vw_and1 (vt_gt (vv 4) (vi (m := .sh)))))) (vb_cons (va_app 5 (ve_mod (m := .sh) (vv 4) (ve_ix x (vv 2) (vv 6))))
    (vb_one (vs_set 4 x (ve_div (m := .sh) (vv 4) (ve_ix x (vv 2) (vv 6)))))) (vb_cons (vs_set 7 x (ve_mod (m := .sh) (ve_pow (m := .sh) (ve_add (m := .sh) x (ve_add (m := .sh) x (ve_mod (m := .sh) (vv 3) (vi (m := .sh))) (ve_mul (m := .sh) (vi (m := .sh)) (vv 1))) (vi (m := .sh))) (vi (m := .sh))) (vi (m := .sh))))
    (vb_cons (vs_set 7 x (ve_mod (m := .sh) (ve_mul (m := .sh) (ve_add (m := .sh) x (vv 7) (ve_mul (m := .sh) (vi (m := .sh)) (ve_add (m := .sh) x (vv 6) (vi (m := .sh))))) (ve_add (m := .sh) x (vv 6) (vi (m := .sh)))) (vi (m := .sh))))
    (vb_cons (vs_set 7 x (ve_mod (m := .sh) (ve_mul (m := .sh) (ve_mod (m := .sh) (ve_pow (m := .sh) (vv 7) (vi (m := .sh))) (vi (m := .sh))) (vi (m := .sh))) (vi (m := .sh))))
    (vb_one (va_app 5 (ve_mod (m := .sh) (ve_div (m := .sh) (vv 7) (vi (m := .sh))) (ve_ix x (vv 2) (vv 6)))))))))))
    (vb_one (vs_fz 5 (vs_ret (vv 5))))))))
theorem ok_law_small_boxes (M : Ms K mg ad fd) (hsys : Sysm base) : FnG P w K mg base 1 (ad 7) (fd 7) ["_law_digits"] (spV K mg 1 .sh f_law_small_boxes) :=
  fn_v M.F_law_small_boxes sc_law_small_boxes hsys fun cdv A outer s H E G eg x =>
    (vb_cons (vs_set 1 x (ve_lst (m := .sh) (va_cons (vs (m := .sh)) (va_cons (vs (m := .sh)) (va_cons (vs (m := .sh)) va_nil)))))
    (vb_cons (vs_new 2 x (ve_lst (m := .fr) va_nil))
    (vb_cons (vs_for x (passes_of rfl) (vi_range1 M.n_range (ve_add (m := .sh) x (vi (m := .sh)) (ve_mod (m := .sh) (ve_ix x (vv 0) (vi (m := .sh))) (vi (m := .sh))))) (vp_name 3 x) (vb_one (va_app 2 (ve_tup (m := .sh) (va_cons (ve_ix x (vs (m := .sh)) (vv 3)) (va_cons (ve_add (m := .sh) x (vi (m := .sh)) (ve_mod (m := .sh) (ve_ix x (vv 0) (ve_add (m := .sh) x (vi (m := .sh)) (ve_mul (m := .sh) (vi (m := .sh)) (vv 3)))) (vi (m := .sh)))) (va_cons (ve_ix x (vv 1) (ve_mod (m := .sh) (ve_ix x (vv 0) (ve_add (m := .sh) x (vi (m := .sh)) (ve_mul (m := .sh) (vi (m := .sh)) (vv 3)))) (vi (m := .sh)))) va_nil)))))))
    (vb_one (vs_fz 2 (vs_ret (vv 2)))))))
theorem ok_law_at (M : Ms K mg ad fd) (hsys : Sysm base) : FnG P w K mg base 1 (ad 9) (fd 9) ["_law_boxes", "_law_name"] (spV K mg 2 .sh f_law_at) :=
  fn_v M.F_law_at sc_law_at hsys fun cdv A outer s H E G eg x =>
    (vb_one (vs_ret (ve_index (m := .sh) x (ve_lc (own := [("_law_box", 2)]) x (vi_seq x (vv 0)) (blkOk_by (by rfl)) (by decide) (fun _ _ _ _ _ x1 => (vp_name 2 x1)) (fun _ _ _ _ _ x1 => vts_nil) (fun _ _ _ _ _ x1 => (ve_ix x1 (vv 2) (vi (m := .sh))))) (vv 1))))
theorem ok_law_stands (M : Ms K mg ad fd) (hsys : Sysm base) : FnG P w K mg base 1 (ad 11) (fd 11) ["_law_boxes"] (spV K mg 1 .sh f_law_stands) :=
  fn_v M.F_law_stands sc_law_stands hsys fun cdv A outer s H E G eg x =>
    (vb_cons (vs_set 1 x (ve_lst (m := .sh) (va_cons (ve_tup (m := .sh) va_nil) va_nil)))
    (vb_cons (vs_for x (passes_of rfl) (vi_seq x (vv 0)) (vp_tup x (vps_cons (vp_name 2 x) (vps_cons (vp_name 3 x) (vps_cons (vp_name 4 x) vps_nil)))) (vb_cons (vs_set 5 x (ve_lst (m := .sh) va_nil))
    (vb_cons (vs_for x (passes_of rfl) (vi_seq x (vv 1)) (vp_name 6 x) (vb_one (vs_set 5 x (ve_add (m := .sh) x (vv 5) (ve_lc (own := [("_law_value", 7)]) x (vi_range1 M.n_range (vv 3)) (blkOk_by (by rfl)) (by decide) (fun _ _ _ _ _ x1 => (vp_name 7 x1)) (fun _ _ _ _ _ x1 => vts_nil) (fun _ _ _ _ _ x1 => (ve_add (m := .sh) x1 (vv 6) (ve_tup (m := .sh) (va_cons (vv 7) va_nil)))))))))
    (vb_one (vs_set 1 x (vv 5))))))
    (vb_one (vs_ret (vv 1)))))
theorem okr_names_in (M : Ms K mg ad fd) (hsys : Sysm base) : ∀ j : Nat, FnG P w K mg base (0 + j) (ad 4) (fd 4) ["condition"] (spV K mg 1 .fr (fr_names_in j))
  | 0 => fn_bad rfl
  | j + 1 => fn_v M.F_names_in sc_names_in hsys fun cdv A outer s H E G eg x =>
    (vb_cons (vs_star 1 2 x (vv 0))
    (vb_cons (vs_if (vt_eq x (vv 1) (vs (m := .sh))) (vb_one (vs_ret (ve_lst (m := .fr) va_nil))) vb_nil)
    (vb_cons (vs_if (vt_eq x (vv 1) (vs (m := .sh))) (vb_one (vs_ret (ve_lst (m := .fr) (va_cons (ve_ix x (vb 2) (vi (m := .sh))) va_nil)))) vb_nil)
    (vb_cons (vs_if (vt_eq x (vv 1) (vs (m := .sh))) (vb_one (vs_ret (ve_sortSet x M.n_sorted M.n_set (vb 2)))) vb_nil)
    (vb_cons (vs_if (vt_eq x (vv 1) (vs (m := .sh))) (vb_one (vs_ret (ve_call x (okr_names_in M hsys j) (Nat.le_refl _) M.g_names_in M.F_names_in.kp M.b_names_in (va_cons (ve_ix x (vb 2) (vi (m := .sh))) va_nil) (len_cons (fun _ _ h => len_nil h))))) vb_nil)
    (vb_one (vs_ret (ve_sortSc (own := [("part", 3), ("name", 4)]) (ws2 := [4]) x M.n_sorted (vi_seq x (ve_ix x (vb 2) (vi (m := .sh)))) (blkOk_by (by rfl)) (by decide) (by decide) (by simp) (fun _ _ _ _ _ x1 => (vp_name 3 x1)) (fun _ _ _ _ _ x1 => vts_nil) (fun _ _ _ _ _ x1 => (vtl_for (vs := [4]) rfl x1.calm rfl (by simp) (vi_seq x1 (ve_fs (ve_call x1 (okr_names_in M hsys j) (Nat.le_refl _) M.g_names_in M.F_names_in.kp M.b_names_in (va_cons (vv 3) va_nil) (len_cons (fun _ _ h => len_nil h))))) (vp_name 4 x1) vts_nil (vtl_end rfl zX_ok rfl (vv 4)) (by decide) (by decide) (by intro _; rfl)))))))))))
theorem ok_names_in (M : Ms K mg ad fd) (hsys : Sysm base) : FnG P w K mg base 12 (ad 4) (fd 4) ["condition"] (spV K mg 1 .fr f_names_in) := okr_names_in M hsys 12
theorem okr_law_tree (M : Ms K mg ad fd) (hsys : Sysm base) : ∀ j : Nat, FnG P w K mg base (0 + j) (ad 8) (fd 8) ["_law_digits", "_law_boxes", "_law_deep"] (spV K mg 3 .sh (fr_law_tree j))
  | 0 => fn_bad rfl
  | j + 1 => fn_v M.F_law_tree sc_law_tree hsys fun cdv A outer s H E G eg x =>
    (vb_cons (vs_set 3 x (ve_ix x (vv 1) (ve_mod (m := .sh) (ve_ix x (vv 0) (vi (m := .sh))) (ve_len (m := .sh) x M.n_len (vv 1)))))
    (vb_cons (vs_set 4 x (ve_ix x (vv 1) (ve_mod (m := .sh) (ve_ix x (vv 0) (vi (m := .sh))) (ve_len (m := .sh) x M.n_len (vv 1)))))
    (vb_cons (vs_set 5 x (ve_mod (m := .sh) (ve_ix x (vv 0) (vi (m := .sh))) (vi (m := .sh))))
    (vb_cons (vs_if (VW.vt (vw_or (vt_lt (vv 5) (vi (m := .sh))) (vw_or1 (vt_eq x (vv 2) (vi (m := .sh)))))) (vb_one (vs_ret (ve_ix x (ve_lst (m := .sh) (va_cons (ve_tup (m := .sh) (va_cons (vs (m := .sh)) va_nil)) (va_cons (ve_tup (m := .sh) (va_cons (vs (m := .sh)) (va_cons (ve_ix x (vv 3) (vi (m := .sh))) (va_cons (ve_mod (m := .sh) (ve_ix x (vv 0) (vi (m := .sh))) (ve_ix x (vv 3) (vi (m := .sh)))) va_nil)))) (va_cons (ve_tup (m := .sh) (va_cons (vs (m := .sh)) (va_cons (ve_ix x (vv 3) (vi (m := .sh))) (va_cons (ve_ix x (vv 4) (vi (m := .sh))) va_nil)))) va_nil)))) (ve_mod (m := .sh) (ve_div (m := .sh) (ve_ix x (vv 0) (vi (m := .sh))) (vi (m := .sh))) (vi (m := .sh)))))) vb_nil)
    (vb_cons (vs_if (vt_lt (vv 5) (vi (m := .sh))) (vb_one (vs_ret (ve_tup (m := .sh) (va_cons (vs (m := .sh)) (va_cons (ve_call x (okr_law_tree M hsys j) (Nat.le_refl _) M.g_law_tree M.F_law_tree.kp M.b_law_tree (va_cons (ve_sl (m := .sh) x (vv 0) (vo_some (vi (m := .sh))) vo_none) (va_cons (vv 1) (va_cons (ve_sub (m := .sh) (vv 2) (vi (m := .sh))) va_nil))) (len_cons (len_cons (len_cons (fun _ _ h => len_nil h))))) va_nil))))) vb_nil)
    (vb_cons (vs_set 6 x (ve_add (m := .sh) x (vi (m := .sh)) (ve_mod (m := .sh) (ve_ix x (vv 0) (vi (m := .sh))) (ve_ix x (ve_lst (m := .sh) (va_cons (vi (m := .sh)) (va_cons (vi (m := .sh)) va_nil))) (ve_int (m := .sh) M.n_int (ve_lt (m := .sh) (vv 2) (vi (m := .sh))))))))
    (vb_cons (vs_set 7 x (ve_tuple (m := .sh) x M.n_tuple (ve_lc (own := [("_law_k", 8)]) x (vi_range1 M.n_range (vv 6)) (blkOk_by (by rfl)) (by decide) (fun _ _ _ _ _ x1 => (vp_name 8 x1)) (fun _ _ _ _ _ x1 => vts_nil) (fun _ _ _ _ _ x1 => (ve_call x1 (okr_law_tree M hsys j) (Nat.le_refl _) M.g_law_tree M.F_law_tree.kp M.b_law_tree (va_cons (ve_sl (m := .sh) x1 (vv 0) (vo_some (ve_add (m := .sh) x1 (vi (m := .sh)) (ve_mul (m := .sh) (vi (m := .sh)) (vv 8)))) vo_none) (va_cons (vv 1) (va_cons (ve_sub (m := .sh) (vv 2) (vi (m := .sh))) va_nil))) (len_cons (len_cons (len_cons (fun _ _ h => len_nil h)))))))))
    (vb_one (vs_ret (ve_tup (m := .sh) (va_cons (ve_ix x (ve_lst (m := .sh) (va_cons (vs (m := .sh)) (va_cons (vs (m := .sh)) va_nil))) (ve_mod (m := .sh) (vv 5) (vi (m := .sh)))) (va_cons (vv 7) va_nil))))))))))))
theorem ok_law_tree (M : Ms K mg ad fd) (hsys : Sysm base) : FnG P w K mg base 12 (ad 8) (fd 8) ["_law_digits", "_law_boxes", "_law_deep"] (spV K mg 3 .sh f_law_tree) := okr_law_tree M hsys 12
theorem okr_law_names (M : Ms K mg ad fd) (hsys : Sysm base) : ∀ j : Nat, FnG P w K mg base (0 + j) (ad 12) (fd 12) ["_law_condition"] (spV K mg 1 .sh (fr_law_names j))
  | 0 => fn_bad rfl
  | j + 1 => fn_v M.F_law_names sc_law_names hsys fun cdv A outer s H E G eg x =>
    (vb_cons (vs_if (vt_eq x (ve_ix x (vv 0) (vi (m := .sh))) (vs (m := .sh))) (vb_one (vs_ret (ve_fs ve_dict0))) vb_nil)
    (vb_cons (vs_if (vt_in x (ve_ix x (vv 0) (vi (m := .sh))) (ve_tup (m := .sh) (va_cons (vs (m := .sh)) (va_cons (vs (m := .sh)) va_nil)))) (vb_one (vs_ret (ve_fs (ve_dict x M.n_dict (ve_lc (own := [("_law_name", 1)]) x (vi_seq x (ve_sl (m := .sh) x (vv 0) (vo_some (vi (m := .sh))) vo_none)) (blkOk_by (by rfl)) (by decide) (fun _ _ _ _ _ x1 => (vp_name 1 x1)) (fun _ _ _ _ _ x1 => (vts_one (vt_val (ve_isi (m := .sh) x1 kit_str M.n_isinstance M.n_str (by decide +kernel) (vv 1))))) (fun _ _ _ _ _ x1 => (ve_tup (m := .sh) (va_cons (vv 1) (va_cons (vbl (m := .sh)) va_nil))))))))) vb_nil)
    (vb_cons (vs_set 2 x (ve_ix x (vv 0) (vi (m := .sh))))
    (vb_cons (vs_if (vt_eq x (ve_ix x (vv 0) (vi (m := .sh))) (vs (m := .sh))) (vb_one (vs_set 2 x (ve_tup (m := .sh) (va_cons (ve_ix x (vv 0) (vi (m := .sh))) va_nil)))) vb_nil)
    (vb_cons (vs_new 3 x ve_dict0)
    (vb_cons (vs_for x (passes_of rfl) (vi_seq x (vv 2)) (vp_name 4 x) (vb_one (vs_upd 3 (ve_call x (okr_law_names M hsys j) (Nat.le_refl _) M.g_law_names M.F_law_names.kp M.b_law_names (va_cons (vv 4) va_nil) (len_cons (fun _ _ h => len_nil h))))))
    (vb_one (vs_fz 3 (vs_ret (vv 3))))))))))
theorem ok_law_names (M : Ms K mg ad fd) (hsys : Sysm base) : FnG P w K mg base 12 (ad 12) (fd 12) ["_law_condition"] (spV K mg 1 .sh f_law_names) := okr_law_names M hsys 12
theorem okr_holds (M : Ms K mg ad fd) (hsys : Sysm base) : ∀ j : Nat, FnG P w K mg base (1 + j) (ad 3) (fd 3) ["boxes", "condition", "stand"] (spV K mg 3 .sh (fr_holds j))
  | 0 => fn_bad rfl
  | j + 1 => fn_v M.F_holds sc_holds hsys fun cdv A outer s H E G eg x =>
    (vb_cons (vs_star 3 4 x (vv 1))
    (vb_cons (vs_if (vt_eq x (vv 3) (vs (m := .sh))) (vb_one (vs_ret (vbl (m := .sh)))) vb_nil)
    (vb_cons (vs_if (vt_eq x (vv 3) (vs (m := .sh))) (vb_one (vs_ret (ve_eq (m := .sh) x (ve_ix x (vv 2) (ve_call x (ok_place_of M hsys) (Nat.le_add_right_of_le (by decide)) M.g_place_of M.F_place_of.kp M.b_place_of (va_cons (vv 0) (va_cons (ve_ix x (vb 4) (vi (m := .sh))) va_nil)) (len_cons (len_cons (fun _ _ h => len_nil h))))) (ve_ix x (vb 4) (vi (m := .sh)))))) vb_nil)
    (vb_cons (vs_if (vt_eq x (vv 3) (vs (m := .sh))) (vb_one (vs_ret (ve_eq (m := .sh) x (ve_ix x (vv 2) (ve_call x (ok_place_of M hsys) (Nat.le_add_right_of_le (by decide)) M.g_place_of M.F_place_of.kp M.b_place_of (va_cons (vv 0) (va_cons (ve_ix x (vb 4) (vi (m := .sh))) va_nil)) (len_cons (len_cons (fun _ _ h => len_nil h))))) (ve_ix x (vv 2) (ve_call x (ok_place_of M hsys) (Nat.le_add_right_of_le (by decide)) M.g_place_of M.F_place_of.kp M.b_place_of (va_cons (vv 0) (va_cons (ve_ix x (vb 4) (vi (m := .sh))) va_nil)) (len_cons (len_cons (fun _ _ h => len_nil h)))))))) vb_nil)
    (vb_cons (vs_if (vt_eq x (vv 3) (vs (m := .sh))) (vb_one (vs_ret (ve_not (m := .sh) (ve_call x (okr_holds M hsys j) (Nat.le_refl _) M.g_holds M.F_holds.kp M.b_holds (va_cons (vv 0) (va_cons (ve_ix x (vb 4) (vi (m := .sh))) (va_cons (vv 2) va_nil))) (len_cons (len_cons (len_cons (fun _ _ h => len_nil h)))))))) vb_nil)
    (vb_cons (vs_setLc (own := [("part", 6)]) 5 x (vi_seq x (ve_ix x (vb 4) (vi (m := .sh)))) (blkOk_by (by rfl)) (by decide) (fun _ _ _ _ _ x1 => (vp_name 6 x1)) (fun _ _ _ _ _ x1 => vts_nil) (fun _ _ _ _ _ x1 => (ve_call x1 (okr_holds M hsys j) (Nat.le_refl _) M.g_holds M.F_holds.kp M.b_holds (va_cons (vv 0) (va_cons (vv 6) (va_cons (vv 2) va_nil))) (len_cons (len_cons (len_cons (fun _ _ h => len_nil h)))))) (sw_true rfl rfl rfl rfl))
    (vb_cons (vs_if (vt_eq x (vv 3) (vs (m := .sh))) (vb_one (vs_ret (ve_all (m := .sh) x M.n_all (vb 5)))) vb_nil)
    (vb_one (vs_ret (ve_any (m := .sh) x M.n_any (vb 5)))))))))))
theorem ok_holds (M : Ms K mg ad fd) (hsys : Sysm base) : FnG P w K mg base 13 (ad 3) (fd 3) ["boxes", "condition", "stand"] (spV K mg 3 .sh f_holds) := okr_holds M hsys 12
theorem okr_law_holds (M : Ms K mg ad fd) (hsys : Sysm base) : ∀ j : Nat, FnG P w K mg base (1 + j) (ad 10) (fd 10) ["_law_boxes", "_law_condition", "_law_stand"] (spV K mg 3 .sh (fr_law_holds j))
  | 0 => fn_bad rfl
  | j + 1 => fn_v M.F_law_holds sc_law_holds hsys fun cdv A outer s H E G eg x =>
    (vb_cons (vs_if (vt_eq x (ve_ix x (vv 1) (vi (m := .sh))) (vs (m := .sh))) (vb_one (vs_ret (vbl (m := .sh)))) vb_nil)
    (vb_cons (vs_if (vt_eq x (ve_ix x (vv 1) (vi (m := .sh))) (vs (m := .sh))) (vb_one (vs_ret (ve_eq (m := .sh) x (ve_ix x (vv 2) (ve_call x (ok_law_at M hsys) (Nat.le_add_right_of_le (by decide)) M.g_law_at M.F_law_at.kp M.b_law_at (va_cons (vv 0) (va_cons (ve_ix x (vv 1) (vi (m := .sh))) va_nil)) (len_cons (len_cons (fun _ _ h => len_nil h))))) (ve_ix x (vv 1) (vi (m := .sh)))))) vb_nil)
    (vb_cons (vs_if (vt_eq x (ve_ix x (vv 1) (vi (m := .sh))) (vs (m := .sh))) (vb_one (vs_ret (ve_eq (m := .sh) x (ve_ix x (vv 2) (ve_call x (ok_law_at M hsys) (Nat.le_add_right_of_le (by decide)) M.g_law_at M.F_law_at.kp M.b_law_at (va_cons (vv 0) (va_cons (ve_ix x (vv 1) (vi (m := .sh))) va_nil)) (len_cons (len_cons (fun _ _ h => len_nil h))))) (ve_ix x (vv 2) (ve_call x (ok_law_at M hsys) (Nat.le_add_right_of_le (by decide)) M.g_law_at M.F_law_at.kp M.b_law_at (va_cons (vv 0) (va_cons (ve_ix x (vv 1) (vi (m := .sh))) va_nil)) (len_cons (len_cons (fun _ _ h => len_nil h)))))))) vb_nil)
    (vb_cons (vs_if (vt_eq x (ve_ix x (vv 1) (vi (m := .sh))) (vs (m := .sh))) (vb_one (vs_ret (ve_not (m := .sh) (ve_call x (okr_law_holds M hsys j) (Nat.le_refl _) M.g_law_holds M.F_law_holds.kp M.b_law_holds (va_cons (vv 0) (va_cons (ve_ix x (vv 1) (vi (m := .sh))) (va_cons (vv 2) va_nil))) (len_cons (len_cons (len_cons (fun _ _ h => len_nil h)))))))) vb_nil)
    (vb_cons (vs_setLc (own := [("_law_part", 4)]) 3 x (vi_seq x (ve_ix x (vv 1) (vi (m := .sh)))) (blkOk_by (by rfl)) (by decide) (fun _ _ _ _ _ x1 => (vp_name 4 x1)) (fun _ _ _ _ _ x1 => vts_nil) (fun _ _ _ _ _ x1 => (ve_call x1 (okr_law_holds M hsys j) (Nat.le_refl _) M.g_law_holds M.F_law_holds.kp M.b_law_holds (va_cons (vv 0) (va_cons (vv 4) (va_cons (vv 2) va_nil))) (len_cons (len_cons (len_cons (fun _ _ h => len_nil h)))))) (sw_true rfl rfl rfl rfl))
    (vb_one (vs_ret (ve_ix x (ve_lst (m := .sh) (va_cons (ve_any (m := .sh) x M.n_any (vb 3)) (va_cons (ve_all (m := .sh) x M.n_all (vb 3)) va_nil))) (ve_int (m := .sh) M.n_int (ve_eq (m := .sh) x (ve_ix x (vv 1) (vi (m := .sh))) (vs (m := .sh))))))))))))
theorem ok_law_holds (M : Ms K mg ad fd) (hsys : Sysm base) : FnG P w K mg base 13 (ad 10) (fd 10) ["_law_boxes", "_law_condition", "_law_stand"] (spV K mg 3 .sh f_law_holds) := okr_law_holds M hsys 12
theorem ok_law_right (M : Ms K mg ad fd) (hsys : Sysm base) : FnG P w K mg base 14 (ad 13) (fd 13) ["_law_boxes", "_law_condition"] (spV K mg 2 .sh f_law_right) :=
  fn_v M.F_law_right sc_law_right hsys fun cdv A outer s H E G eg x =>
    (vb_cons (vs_for x (passes_of rfl) (vi_range1 M.n_range (vi (m := .sh))) (vp_name 2 x) (vb_cons (vs_new 3 x (ve_call x (ok_names_in M hsys) (by decide) M.g_names_in M.F_names_in.kp M.b_names_in (va_cons (vv 1) va_nil) (len_cons (fun _ _ h => len_nil h))))
    (vb_cons (vs_if (vt_ne x (ve_repr (m := .sh) x M.n_repr (vb 3)) (ve_repr (m := .sh) x M.n_repr (ve_sorted x M.n_sorted (ve_call x (ok_law_names M hsys) (by decide) M.g_law_names M.F_law_names.kp M.b_law_names (va_cons (vv 1) va_nil) (len_cons (fun _ _ h => len_nil h)))))) (vb_one (vs_ret (vbl (m := .sh)))) vb_nil)
    (vb_one (va_app 3 (vn (m := .sh)))))))
    (vb_cons (vs_for x (passes_of rfl) (vi_seq x (ve_call x (ok_law_stands M hsys) (by decide) M.g_law_stands M.F_law_stands.kp M.b_law_stands (va_cons (vv 0) va_nil) (len_cons (fun _ _ h => len_nil h)))) (vp_name 4 x) (vb_cons (vs_set 5 x (ve_call x (ok_holds M hsys) (by decide) M.g_holds M.F_holds.kp M.b_holds (va_cons (vv 0) (va_cons (vv 1) (va_cons (vv 4) va_nil))) (len_cons (len_cons (len_cons (fun _ _ h => len_nil h))))))
    (vb_cons (vs_if (VW.vt (vw_or (vt_not (vt_val (ve_isi (m := .sh) x kit_bool M.n_isinstance M.n_bool (by decide +kernel) (vv 5)))) (vw_or1 (vt_ne x (vv 5) (ve_call x (ok_law_holds M hsys) (by decide) M.g_law_holds M.F_law_holds.kp M.b_law_holds (va_cons (vv 0) (va_cons (vv 1) (va_cons (vv 4) va_nil))) (len_cons (len_cons (len_cons (fun _ _ h => len_nil h))))))))) (vb_one (vs_ret (vbl (m := .sh)))) vb_nil)
    (vb_cons (vs_if (vt_eq x (ve_call x (ok_holds M hsys) (by decide) M.g_holds M.F_holds.kp M.b_holds (va_cons (vv 0) (va_cons (ve_tup (m := .sh) (va_cons (vs (m := .sh)) (va_cons (vv 1) va_nil))) (va_cons (vv 4) va_nil))) (len_cons (len_cons (len_cons (fun _ _ h => len_nil h))))) (vv 5)) (vb_one (vs_ret (vbl (m := .sh)))) vb_nil)
    (vb_cons (vs_if (vt_ne x (ve_call x (ok_holds M hsys) (by decide) M.g_holds M.F_holds.kp M.b_holds (va_cons (vv 0) (va_cons (ve_tup (m := .sh) (va_cons (vs (m := .sh)) (va_cons (ve_tup (m := .sh) (va_cons (vv 1) (va_cons (ve_tup (m := .sh) (va_cons (vs (m := .sh)) va_nil)) va_nil))) va_nil))) (va_cons (vv 4) va_nil))) (len_cons (len_cons (len_cons (fun _ _ h => len_nil h))))) (vv 5)) (vb_one (vs_ret (vbl (m := .sh)))) vb_nil)
    (vb_cons (vs_if (vt_ne x (ve_call x (ok_holds M hsys) (by decide) M.g_holds M.F_holds.kp M.b_holds (va_cons (vv 0) (va_cons (ve_tup (m := .sh) (va_cons (vs (m := .sh)) (va_cons (ve_tup (m := .sh) (va_cons (ve_tup (m := .sh) (va_cons (vs (m := .sh)) (va_cons (ve_tup (m := .sh) (va_cons (vs (m := .sh)) va_nil)) va_nil))) (va_cons (vv 1) va_nil))) va_nil))) (va_cons (vv 4) va_nil))) (len_cons (len_cons (len_cons (fun _ _ h => len_nil h))))) (vv 5)) (vb_one (vs_ret (vbl (m := .sh)))) vb_nil)
    (vb_one (vs_if (VW.vt (vw_and (vt_in x (ve_ix x (vv 1) (vi (m := .sh))) (ve_tup (m := .sh) (va_cons (vs (m := .sh)) (va_cons (vs (m := .sh)) va_nil)))) (vw_and1 (vt_ne x (ve_call x (ok_holds M hsys) (by decide) M.g_holds M.F_holds.kp M.b_holds (va_cons (vv 0) (va_cons (ve_tup (m := .sh) (va_cons (ve_ix x (vv 1) (vi (m := .sh))) (va_cons (ve_rev (m := .sh) x (ve_ix x (vv 1) (vi (m := .sh)))) va_nil))) (va_cons (vv 4) va_nil))) (len_cons (len_cons (len_cons (fun _ _ h => len_nil h))))) (vv 5))))) (vb_one (vs_ret (vbl (m := .sh)))) vb_nil))))))))
    (vb_one (vs_ret (vbl (m := .sh))))))
theorem ok_law (M : Ms K mg ad fd) (hsys : Sysm base) : FnG P w K mg base 15 (ad 14) (fd 14) ["_law_script"] (spV K mg 1 .sh f_law) :=
  fn_v M.F_law sc_law hsys fun cdv A outer s H E G eg x =>
    (vb_cons (vs_for x (passes_of rfl) (vi_enum x M.n_enumerate (ve_add (m := .sh) x (ve_sl (m := .sh) x (vv 0) vo_none (vo_some (vi (m := .sh)))) (ve_rep (m := .sh) (ve_lst (m := .fr) (va_cons (vi (m := .sh)) va_nil)) (ve_int (m := .sh) M.n_int (ve_eq (m := .sh) x (vv 0) (ve_lst (m := .sh) va_nil)))))) (vp_tup x (vps_cons (vp_name 1 x) (vps_cons (vp_name 2 x) vps_nil))) (vb_cons (vs_set 3 x (ve_call x (ok_law_numbers M hsys) (by decide) M.g_law_numbers M.F_law_numbers.kp M.b_law_numbers (va_cons (vv 2) (va_cons (ve_add (m := .sh) x (vi (m := .sh)) (vv 1)) (va_cons (ve_rep (m := .sh) (ve_lst (m := .fr) (va_cons (vi (m := .sh)) va_nil)) (vi (m := .sh))) va_nil))) (len_cons (len_cons (len_cons (fun _ _ h => len_nil h))))))
    (vb_cons (vs_set 4 x (ve_call x (ok_law_small_boxes M hsys) (by decide) M.g_law_small_boxes M.F_law_small_boxes.kp M.b_law_small_boxes (va_cons (ve_sl (m := .sh) x (vv 3) (vo_some (vi (m := .sh))) vo_none) va_nil) (len_cons (fun _ _ h => len_nil h))))
    (vb_cons (vs_set 5 x (ve_repr (m := .sh) x M.n_repr (vv 4)))
    (vb_one (vs_for x (passes_of rfl) (vi_range1 M.n_range (vi (m := .sh))) (vp_name 6 x) (vb_one (vs_if (VW.vt (vw_or (vt_not (vt_val (ve_call x (ok_law_right M hsys) (by decide) M.g_law_right M.F_law_right.kp M.b_law_right (va_cons (vv 4) (va_cons (ve_call x (ok_law_tree M hsys) (by decide) M.g_law_tree M.F_law_tree.kp M.b_law_tree (va_cons (ve_sl (m := .sh) x (vv 3) (vo_some (ve_mul (m := .sh) (vi (m := .sh)) (vv 6))) vo_none) (va_cons (vv 4) (va_cons (vi (m := .sh)) va_nil))) (len_cons (len_cons (len_cons (fun _ _ h => len_nil h))))) va_nil)) (len_cons (len_cons (fun _ _ h => len_nil h)))))) (vw_or1 (vt_ne x (ve_repr (m := .sh) x M.n_repr (vv 4)) (vv 5))))) (vb_one (vs_ret (vbl (m := .sh)))) vb_nil))))))))
    (vb_one (vs_ret (vbl (m := .sh)))))
end
section
variable {l : PySem.W.OpenLaw} {w : World} {K : PySem.W.Frag} {h : Heap} {mg : Str → Option Value} {fa : Addr}
theorem all_mk (X : K.In h) (G : h.Ns mainGlobals mg) (hfa : mg "law" = some (.ref fa))
    {f0 : Addr} {oc0 kV0 dc0 pm0 cd0 ct0 : Value} {od0 an0 : Option Addr} {sl0 : Array (Option Value)}
    {f1 : Addr} {oc1 kV1 dc1 pm1 cd1 ct1 : Value} {od1 an1 : Option Addr} {sl1 : Array (Option Value)}
    {f2 : Addr} {oc2 kV2 dc2 pm2 cd2 ct2 : Value} {od2 an2 : Option Addr} {sl2 : Array (Option Value)}
    {f3 : Addr} {oc3 kV3 dc3 pm3 cd3 ct3 : Value} {od3 an3 : Option Addr} {sl3 : Array (Option Value)}
    {f4 : Addr} {oc4 kV4 dc4 pm4 cd4 ct4 : Value} {od4 an4 : Option Addr} {sl4 : Array (Option Value)}
    {f5 : Addr} {oc5 kV5 dc5 pm5 cd5 ct5 : Value} {od5 an5 : Option Addr} {sl5 : Array (Option Value)}
    {f6 : Addr} {oc6 kV6 dc6 pm6 cd6 ct6 : Value} {od6 an6 : Option Addr} {sl6 : Array (Option Value)}
    {f7 : Addr} {oc7 kV7 dc7 pm7 cd7 ct7 : Value} {od7 an7 : Option Addr} {sl7 : Array (Option Value)}
    {f8 : Addr} {oc8 kV8 dc8 pm8 cd8 ct8 : Value} {od8 an8 : Option Addr} {sl8 : Array (Option Value)}
    {f9 : Addr} {oc9 kV9 dc9 pm9 cd9 ct9 : Value} {od9 an9 : Option Addr} {sl9 : Array (Option Value)}
    {f10 : Addr} {oc10 kV10 dc10 pm10 cd10 ct10 : Value} {od10 an10 : Option Addr} {sl10 : Array (Option Value)}
    {f11 : Addr} {oc11 kV11 dc11 pm11 cd11 ct11 : Value} {od11 an11 : Option Addr} {sl11 : Array (Option Value)}
    (a0 : PySem.W.nsIn K mainGlobals "place_of" = some (some (.ref f0))) (l0 : K.lookup f0 = some ⟨oc0, od0, .func (PySem.W.fnOf "place_of" "place_of" (defArgs s_place_of) (defBody s_place_of) (defScope s_place_of) .none kV0 dc0 pm0 an0 cd0 ct0), sl0⟩) (c0 : PySem.W.codeIn K cd0 "place_of" = true) (k0 : PySem.W.keepIn K (.ref f0) = true)
    (a1 : PySem.W.nsIn K mainGlobals "_law_numbers" = some (some (.ref f1))) (l1 : K.lookup f1 = some ⟨oc1, od1, .func (PySem.W.fnOf "_law_numbers" "_law_numbers" (defArgs s_law_numbers) (defBody s_law_numbers) (defScope s_law_numbers) .none kV1 dc1 pm1 an1 cd1 ct1), sl1⟩) (c1 : PySem.W.codeIn K cd1 "_law_numbers" = true) (k1 : PySem.W.keepIn K (.ref f1) = true)
    (a2 : PySem.W.nsIn K mainGlobals "_law_small_boxes" = some (some (.ref f2))) (l2 : K.lookup f2 = some ⟨oc2, od2, .func (PySem.W.fnOf "_law_small_boxes" "_law_small_boxes" (defArgs s_law_small_boxes) (defBody s_law_small_boxes) (defScope s_law_small_boxes) .none kV2 dc2 pm2 an2 cd2 ct2), sl2⟩) (c2 : PySem.W.codeIn K cd2 "_law_small_boxes" = true) (k2 : PySem.W.keepIn K (.ref f2) = true)
    (a3 : PySem.W.nsIn K mainGlobals "_law_at" = some (some (.ref f3))) (l3 : K.lookup f3 = some ⟨oc3, od3, .func (PySem.W.fnOf "_law_at" "_law_at" (defArgs s_law_at) (defBody s_law_at) (defScope s_law_at) .none kV3 dc3 pm3 an3 cd3 ct3), sl3⟩) (c3 : PySem.W.codeIn K cd3 "_law_at" = true) (k3 : PySem.W.keepIn K (.ref f3) = true)
    (a4 : PySem.W.nsIn K mainGlobals "_law_stands" = some (some (.ref f4))) (l4 : K.lookup f4 = some ⟨oc4, od4, .func (PySem.W.fnOf "_law_stands" "_law_stands" (defArgs s_law_stands) (defBody s_law_stands) (defScope s_law_stands) .none kV4 dc4 pm4 an4 cd4 ct4), sl4⟩) (c4 : PySem.W.codeIn K cd4 "_law_stands" = true) (k4 : PySem.W.keepIn K (.ref f4) = true)
    (a5 : PySem.W.nsIn K mainGlobals "names_in" = some (some (.ref f5))) (l5 : K.lookup f5 = some ⟨oc5, od5, .func (PySem.W.fnOf "names_in" "names_in" (defArgs s_names_in) (defBody s_names_in) (defScope s_names_in) .none kV5 dc5 pm5 an5 cd5 ct5), sl5⟩) (c5 : PySem.W.codeIn K cd5 "names_in" = true) (k5 : PySem.W.keepIn K (.ref f5) = true)
    (a6 : PySem.W.nsIn K mainGlobals "_law_tree" = some (some (.ref f6))) (l6 : K.lookup f6 = some ⟨oc6, od6, .func (PySem.W.fnOf "_law_tree" "_law_tree" (defArgs s_law_tree) (defBody s_law_tree) (defScope s_law_tree) .none kV6 dc6 pm6 an6 cd6 ct6), sl6⟩) (c6 : PySem.W.codeIn K cd6 "_law_tree" = true) (k6 : PySem.W.keepIn K (.ref f6) = true)
    (a7 : PySem.W.nsIn K mainGlobals "_law_names" = some (some (.ref f7))) (l7 : K.lookup f7 = some ⟨oc7, od7, .func (PySem.W.fnOf "_law_names" "_law_names" (defArgs s_law_names) (defBody s_law_names) (defScope s_law_names) .none kV7 dc7 pm7 an7 cd7 ct7), sl7⟩) (c7 : PySem.W.codeIn K cd7 "_law_names" = true) (k7 : PySem.W.keepIn K (.ref f7) = true)
    (a8 : PySem.W.nsIn K mainGlobals "holds" = some (some (.ref f8))) (l8 : K.lookup f8 = some ⟨oc8, od8, .func (PySem.W.fnOf "holds" "holds" (defArgs s_holds) (defBody s_holds) (defScope s_holds) .none kV8 dc8 pm8 an8 cd8 ct8), sl8⟩) (c8 : PySem.W.codeIn K cd8 "holds" = true) (k8 : PySem.W.keepIn K (.ref f8) = true)
    (a9 : PySem.W.nsIn K mainGlobals "_law_holds" = some (some (.ref f9))) (l9 : K.lookup f9 = some ⟨oc9, od9, .func (PySem.W.fnOf "_law_holds" "_law_holds" (defArgs s_law_holds) (defBody s_law_holds) (defScope s_law_holds) .none kV9 dc9 pm9 an9 cd9 ct9), sl9⟩) (c9 : PySem.W.codeIn K cd9 "_law_holds" = true) (k9 : PySem.W.keepIn K (.ref f9) = true)
    (a10 : PySem.W.nsIn K mainGlobals "_law_right" = some (some (.ref f10))) (l10 : K.lookup f10 = some ⟨oc10, od10, .func (PySem.W.fnOf "_law_right" "_law_right" (defArgs s_law_right) (defBody s_law_right) (defScope s_law_right) .none kV10 dc10 pm10 an10 cd10 ct10), sl10⟩) (c10 : PySem.W.codeIn K cd10 "_law_right" = true) (k10 : PySem.W.keepIn K (.ref f10) = true)
    (a11 : PySem.W.nsIn K mainGlobals "law" = some (some (.ref f11))) (l11 : K.lookup f11 = some ⟨oc11, od11, .func (PySem.W.fnOf "law" "law" (defArgs s_law) (defBody s_law) (defScope s_law) .none kV11 dc11 pm11 an11 cd11 ct11), sl11⟩) (c11 : PySem.W.codeIn K cd11 "law" = true) (k11 : PySem.W.keepIn K (.ref f11) = true)
    (z0 : PySem.W.nsIn K mainGlobals "all" = some none)
    (z1 : PySem.W.nsIn K mainGlobals "any" = some none)
    (z2 : PySem.W.nsIn K mainGlobals "bool" = some none)
    (z3 : PySem.W.nsIn K mainGlobals "dict" = some none)
    (z4 : PySem.W.nsIn K mainGlobals "enumerate" = some none)
    (z5 : PySem.W.nsIn K mainGlobals "int" = some none)
    (z6 : PySem.W.nsIn K mainGlobals "isinstance" = some none)
    (z7 : PySem.W.nsIn K mainGlobals "len" = some none)
    (z8 : PySem.W.nsIn K mainGlobals "max" = some none)
    (z9 : PySem.W.nsIn K mainGlobals "range" = some none)
    (z10 : PySem.W.nsIn K mainGlobals "repr" = some none)
    (z11 : PySem.W.nsIn K mainGlobals "set" = some none)
    (z12 : PySem.W.nsIn K mainGlobals "sorted" = some none)
    (z13 : PySem.W.nsIn K mainGlobals "str" = some none)
    (z14 : PySem.W.nsIn K mainGlobals "tuple" = some none) :
    ∃ fd : FuncData, (∀ (s : Shared) (v : Value), BindsTo s fd ⟨[v], []⟩ [("_law_script", v)]) ∧ ∀ base : Heap, K.In base → base.Ns mainGlobals mg → Sysm base → FnG l.prog w K mg base 15 fa fd ["_law_script"] (spV K mg 1 .sh f_law) := by
  cases hfa.symm.trans (PySem.W.mg_of X G a11)
  have M : Ms K mg (fun i => match i with
    | 1 => f0
    | 6 => f1
    | 7 => f2
    | 9 => f3
    | 11 => f4
    | 4 => f5
    | 8 => f6
    | 12 => f7
    | 3 => f8
    | 10 => f9
    | 13 => f10
    | 14 => fa
    | _ => fa) (fun i => match i with
    | 1 => PySem.W.fnOf "place_of" "place_of" (defArgs s_place_of) (defBody s_place_of) (defScope s_place_of) .none kV0 dc0 pm0 an0 cd0 ct0
    | 6 => PySem.W.fnOf "_law_numbers" "_law_numbers" (defArgs s_law_numbers) (defBody s_law_numbers) (defScope s_law_numbers) .none kV1 dc1 pm1 an1 cd1 ct1
    | 7 => PySem.W.fnOf "_law_small_boxes" "_law_small_boxes" (defArgs s_law_small_boxes) (defBody s_law_small_boxes) (defScope s_law_small_boxes) .none kV2 dc2 pm2 an2 cd2 ct2
    | 9 => PySem.W.fnOf "_law_at" "_law_at" (defArgs s_law_at) (defBody s_law_at) (defScope s_law_at) .none kV3 dc3 pm3 an3 cd3 ct3
    | 11 => PySem.W.fnOf "_law_stands" "_law_stands" (defArgs s_law_stands) (defBody s_law_stands) (defScope s_law_stands) .none kV4 dc4 pm4 an4 cd4 ct4
    | 4 => PySem.W.fnOf "names_in" "names_in" (defArgs s_names_in) (defBody s_names_in) (defScope s_names_in) .none kV5 dc5 pm5 an5 cd5 ct5
    | 8 => PySem.W.fnOf "_law_tree" "_law_tree" (defArgs s_law_tree) (defBody s_law_tree) (defScope s_law_tree) .none kV6 dc6 pm6 an6 cd6 ct6
    | 12 => PySem.W.fnOf "_law_names" "_law_names" (defArgs s_law_names) (defBody s_law_names) (defScope s_law_names) .none kV7 dc7 pm7 an7 cd7 ct7
    | 3 => PySem.W.fnOf "holds" "holds" (defArgs s_holds) (defBody s_holds) (defScope s_holds) .none kV8 dc8 pm8 an8 cd8 ct8
    | 10 => PySem.W.fnOf "_law_holds" "_law_holds" (defArgs s_law_holds) (defBody s_law_holds) (defScope s_law_holds) .none kV9 dc9 pm9 an9 cd9 ct9
    | 13 => PySem.W.fnOf "_law_right" "_law_right" (defArgs s_law_right) (defBody s_law_right) (defScope s_law_right) .none kV10 dc10 pm10 an10 cd10 ct10
    | 14 => PySem.W.fnOf "law" "law" (defArgs s_law) (defBody s_law) (defScope s_law) .none kV11 dc11 pm11 an11 cd11 ct11
    | _ => PySem.W.fnOf "law" "law" (defArgs s_law) (defBody s_law) (defScope s_law) .none kV11 dc11 pm11 an11 cd11 ct11) := by
    have F0 := fun_mk (st := s_place_of) l0 c0 k0
    have b0 := F0.binds (ps := ["boxes", "name"]) fun _ _ _ _ _ _ us hl => match us, hl with | [_, _], _ => rfl
    have F1 := fun_mk (st := s_law_numbers) l1 c1 k1
    have b1 := F1.binds (ps := ["_law_cell", "_law_salt", "_law_sizes"]) fun _ _ _ _ _ _ us hl => match us, hl with | [_, _, _], _ => rfl
    have F2 := fun_mk (st := s_law_small_boxes) l2 c2 k2
    have b2 := F2.binds (ps := ["_law_digits"]) fun _ _ _ _ _ _ us hl => match us, hl with | [_], _ => rfl
    have F3 := fun_mk (st := s_law_at) l3 c3 k3
    have b3 := F3.binds (ps := ["_law_boxes", "_law_name"]) fun _ _ _ _ _ _ us hl => match us, hl with | [_, _], _ => rfl
    have F4 := fun_mk (st := s_law_stands) l4 c4 k4
    have b4 := F4.binds (ps := ["_law_boxes"]) fun _ _ _ _ _ _ us hl => match us, hl with | [_], _ => rfl
    have F5 := fun_mk (st := s_names_in) l5 c5 k5
    have b5 := F5.binds (ps := ["condition"]) fun _ _ _ _ _ _ us hl => match us, hl with | [_], _ => rfl
    have F6 := fun_mk (st := s_law_tree) l6 c6 k6
    have b6 := F6.binds (ps := ["_law_digits", "_law_boxes", "_law_deep"]) fun _ _ _ _ _ _ us hl => match us, hl with | [_, _, _], _ => rfl
    have F7 := fun_mk (st := s_law_names) l7 c7 k7
    have b7 := F7.binds (ps := ["_law_condition"]) fun _ _ _ _ _ _ us hl => match us, hl with | [_], _ => rfl
    have F8 := fun_mk (st := s_holds) l8 c8 k8
    have b8 := F8.binds (ps := ["boxes", "condition", "stand"]) fun _ _ _ _ _ _ us hl => match us, hl with | [_, _, _], _ => rfl
    have F9 := fun_mk (st := s_law_holds) l9 c9 k9
    have b9 := F9.binds (ps := ["_law_boxes", "_law_condition", "_law_stand"]) fun _ _ _ _ _ _ us hl => match us, hl with | [_, _, _], _ => rfl
    have F10 := fun_mk (st := s_law_right) l10 c10 k10
    have b10 := F10.binds (ps := ["_law_boxes", "_law_condition"]) fun _ _ _ _ _ _ us hl => match us, hl with | [_, _], _ => rfl
    have F11 := fun_mk (st := s_law) l11 c11 k11
    have b11 := F11.binds (ps := ["_law_script"]) fun _ _ _ _ _ _ us hl => match us, hl with | [_], _ => rfl
    exact ⟨PySem.W.mg_of X G a0, F0, b0, PySem.W.mg_of X G a1, F1, b1, PySem.W.mg_of X G a2, F2, b2, PySem.W.mg_of X G a3, F3, b3, PySem.W.mg_of X G a4, F4, b4, PySem.W.mg_of X G a5, F5, b5, PySem.W.mg_of X G a6, F6, b6, PySem.W.mg_of X G a7, F7, b7, PySem.W.mg_of X G a8, F8, b8, PySem.W.mg_of X G a9, F9, b9, PySem.W.mg_of X G a10, F10, b10, PySem.W.mg_of X G a11, F11, b11, PySem.W.mg_none_of X G z0, PySem.W.mg_none_of X G z1, PySem.W.mg_none_of X G z2, PySem.W.mg_none_of X G z3, PySem.W.mg_none_of X G z4, PySem.W.mg_none_of X G z5, PySem.W.mg_none_of X G z6, PySem.W.mg_none_of X G z7, PySem.W.mg_none_of X G z8, PySem.W.mg_none_of X G z9, PySem.W.mg_none_of X G z10, PySem.W.mg_none_of X G z11, PySem.W.mg_none_of X G z12, PySem.W.mg_none_of X G z13, PySem.W.mg_none_of X G z14⟩
  exact ⟨PySem.W.fnOf "law" "law" (defArgs s_law) (defBody s_law) (defScope s_law) .none kV11 dc11 pm11 an11 cd11 ct11, fun s v => .of_eq rfl, fun base _ _ hy => ok_law M hy⟩
end
end K03

open PyProof.Rows PySem L2 PySem.Spec PySem.W
set_option maxHeartbeats 0 in
theorem PySem.Challenge.cw_showshigh_k03_where_conditions_hold_holds : PySem.Challenge.rw_showshigh_k03_where_conditions_hold.Holds := by
  w_on
  o_law
  k_head
  (case hw => w_witness2)
  k_fill
  refine VL.law_end (l := PySem.Challenge.rw_showshigh_k03_where_conditions_hold) (n := 63) (k := 15) (x := "_law_script") (m := .sh) (g := K03.f_law) rfl (by decide) rfl ⟨rfl, by decide, by decide⟩ (by decide +kernel) (fun w h Y => PySem.W.kIn_of Y) ?F K03.law_true
  case F =>
    intro w mg fa h KX G hmg
    refine' K03.all_mk KX G hmg ?a0 ?l0 ?c0 ?k0 ?a1 ?l1 ?c1 ?k1 ?a2 ?l2 ?c2 ?k2 ?a3 ?l3 ?c3 ?k3 ?a4 ?l4 ?c4 ?k4 ?a5 ?l5 ?c5 ?k5 ?a6 ?l6 ?c6 ?k6 ?a7 ?l7 ?c7 ?k7 ?a8 ?l8 ?c8 ?k8 ?a9 ?l9 ?c9 ?k9 ?a10 ?l10 ?c10 ?k10 ?a11 ?l11 ?c11 ?k11 ?z0 ?z1 ?z2 ?z3 ?z4 ?z5 ?z6 ?z7 ?z8 ?z9 ?z10 ?z11 ?z12 ?z13 ?z14
    (case a0 => k_is)
    (case l0 => k_is)
    (case c0 => k_is)
    (case k0 => k_is)
    (case a1 => k_is)
    (case l1 => k_is)
    (case c1 => k_is)
    (case k1 => k_is)
    (case a2 => k_is)
    (case l2 => k_is)
    (case c2 => k_is)
    (case k2 => k_is)
    (case a3 => k_is)
    (case l3 => k_is)
    (case c3 => k_is)
    (case k3 => k_is)
    (case a4 => k_is)
    (case l4 => k_is)
    (case c4 => k_is)
    (case k4 => k_is)
    (case a5 => k_is)
    (case l5 => k_is)
    (case c5 => k_is)
    (case k5 => k_is)
    (case a6 => k_is)
    (case l6 => k_is)
    (case c6 => k_is)
    (case k6 => k_is)
    (case a7 => k_is)
    (case l7 => k_is)
    (case c7 => k_is)
    (case k7 => k_is)
    (case a8 => k_is)
    (case l8 => k_is)
    (case c8 => k_is)
    (case k8 => k_is)
    (case a9 => k_is)
    (case l9 => k_is)
    (case c9 => k_is)
    (case k9 => k_is)
    (case a10 => k_is)
    (case l10 => k_is)
    (case c10 => k_is)
    (case k10 => k_is)
    (case a11 => k_is)
    (case l11 => k_is)
    (case c11 => k_is)
    (case k11 => k_is)
    (case z0 => k_is)
    (case z1 => k_is)
    (case z2 => k_is)
    (case z3 => k_is)
    (case z4 => k_is)
    (case z5 => k_is)
    (case z6 => k_is)
    (case z7 => k_is)
    (case z8 => k_is)
    (case z9 => k_is)
    (case z10 => k_is)
    (case z11 => k_is)
    (case z12 => k_is)
    (case z13 => k_is)
    (case z14 => k_is)

