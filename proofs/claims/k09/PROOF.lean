import PyProof.Rows.All
import Wide.All
import OpenK.AllK
import Wide.FinOn
import HandS.Base
import HandS.Call
import HandS.List
import HandS.Comp
import HandS.Iter
import HandS.Dict
import HandS.Text
import HandS.Exc
import KE.KDictKeyed
import HandS.IsInst
import HandS.TupAny
import HandS.Style
import HandS.Deep
import HandS.NoneIn
import HandS.WordsExc
import KE.GoesEnum
import HandS.Zip
import HandS.Ends
import HandS.TupMul
import HandS.Small
import HandS.SetBool
import HandS.SetKeys
import KE.KUnpackStar
import HandS.ExcValue
import HandS.ExcOwn
import HandS.SetTxt0
import HandS.TupSets
import HandS.SetFor
import HandS.MakeKwOnly
import HandS.WideBits
import HandS.DictComp
import HandS.SortOrd
import HandS.ExcInit
import KE.KExcInit
import HandS.RaiseMore
import HandS.TryOnly
import HandS.TryMany
import HandS.ExcIs
import HandS.ExcField
import KE.KEqNest
import HandS.Conv
import HandS.Walk
import KE.KSortTupAny
import HandS.FStr
import HandS.DictTup
import PyProof.InstNe
import KE.GoesEnumKw
import KE.GoesMore
import PyProof.EnumMake
import PyProof.ListNew
import HandS.ListItems
import OpenK.KOps
import PyProof.TupleOfSeq
import KE.KDictPairs
import PyProof.TupleOfStr
import PyProof.MeetsIn
import KE.KExcPX
import PyProof.Rows.FactsExc_KeyError
import PyProof.StrLawsRepr
import KE.DataCmp
import KE.KExcLine
import KE.RegKIsAll
import KE.RegKTryMore
import KE.OsRunLaw
import PySem.Challenge.RW_showshigh_k09_refusals_made
set_option Elab.async false
set_option linter.all false
set_option bootstrap.genMatcherCode false
set_option maxRecDepth 120000
set_option maxHeartbeats 2400000
namespace HdK09
open PySem PySem.W PySem.Calls PyProof.Rows
noncomputable abbrev hR : OpenRow := OpenLaw.row PySem.Challenge.rw_showshigh_k09_refusals_made
noncomputable abbrev hq : Program := view hR.prog [25]
noncomputable def hn0 : List PySem.Str := [("__name__" : PySem.Str), ("ShowError" : PySem.Str), ("NoMachine" : PySem.Str), ("NoRun" : PySem.Str), ("NoStand" : PySem.Str), ("NoMust" : PySem.Str), ("TooMany" : PySem.Str), ("NoText" : PySem.Str), ("Unlike" : PySem.Str), ("NoStays" : PySem.Str), ("NoWord" : PySem.Str), ("NoTable" : PySem.Str), ("NoNames" : PySem.Str), ("NoRow" : PySem.Str), ("NoDeed" : PySem.Str), ("NoNumber" : PySem.Str), ("NoName" : PySem.Str), ("Bare" : PySem.Str), ("_law_numbers" : PySem.Str), ("_law_odd" : PySem.Str), ("_law_all" : PySem.Str), ("_law_kinds" : PySem.Str), ("_law_over" : PySem.Str), ("_law_by_names" : PySem.Str)]
noncomputable def hn : List PySem.Str := hn0
theorem run_split {α γ δ : Type} {r : Option α} {f : α → Bool} {g : α → γ} {h : α → δ} {a : Bool} {b : γ} {c : δ} (h1 : r.map f = some a) (h2 : r.map g = some b) (h3 : r.map h = some c) : r.map (fun s => (f s, g s, h s)) = some (a, b, c) := by
  cases r with
  | none => cases h1
  | some s =>
    cases h1
    cases h2
    cases h3
    rfl
theorem run1 (w : World) (os : OsState) : (HeadRun.endF (HeadRun.stepQ (HeadRun.denQ HeadRun.tabQ) hR.prog w) 20000 hR.prog w os).map (fun s => HeadRun.looksF hR.prog (boot_heap w.params) s.abs) = some true := by kernel_rfl
theorem run2 (w : World) (os : OsState) : (HeadRun.endF (HeadRun.stepQ (HeadRun.denQ HeadRun.tabQ) hR.prog w) 20000 hR.prog w os).map (fun s => HeadRun.seenQ hq hn (importedModules hR.prog.main.body) (fun s => xlAt hq [] s && recOk (RowW.records hR.toRowW) s) s.abs) = some (openGood hq hn) := by kernel_rfl
end HdK09
open PySem PySem.W PySem.Calls PyProof.Rows in
local macro_rules
  | `(tactic| o_headL $H:term) => `(tactic| (refine PySem.W.holds_open (q := HdK09.hq) (loose := HdK09.hn) (Xt := fun s => xlAt HdK09.hq [] s && recOk (RowW.records (OpenRow.toRowW HdK09.hR)) s) (XP := XL HdK09.hq []) (Yf := Hook.obs $H) (Ya := Hook.val $H) (YP := Hook.says $H) (N := 21000) ?hl (Hook.of $H) (Hook.keeps $H) (fun s e => xl_of s (Bool.and_eq_true_iff.mp e).1) XL.keeps (by rfl) (by rfl) (by rfl) (fun s e => recFacts_of (Bool.and_eq_true_iff.mp e).2) (by rfl) (by first | assumption | decide +kernel) (by decide +kernel) ⟨rfl, rfl, rfl, rfl, rfl, by decide +kernel⟩ ?hw ?hc; (case hl => (refine HeadRun.left_oneK (M := 20000) (by kernel_rfl) (by rfl) (fun s => by kernel_rfl) (by rfl) ?_; intro w os; refine HdK09.run_split (HdK09.run1 w os) (HdK09.run2 w os) ?_; kernel_rfl))))
namespace VL
open PyProof.Rows PySem L2 PySem.Spec

inductive D where
  | non | bl (b : Bool) | int (i : Int) | str (x : Str) | lst (xs : List D) | tup (xs : List D) | dic (kvs : List (D × D)) | obj (c : Str) (fs : List (Str × D)) | tdc (kvs : List (List Key × D)) | ctp (xs : List D)
  deriving Inhabited
noncomputable def D.mut : D → Bool
  | .lst _ => true
  | .dic _ => true
  | .obj _ _ => true
  | .tdc _ => true
  | _ => false
inductive R (α : Type) where
  | ok (a : α) | ex (c : Str) (fs : List (Str × D)) | bad
noncomputable def R.bind {α β : Type} (x : R α) (f : α → R β) : R β := match x with
  | .ok a => f a
  | .ex c fs => .ex c fs
  | .bad => .bad
noncomputable instance : Monad R where
  pure := R.ok
  bind := R.bind
inductive Kd where
  | lst | tdc (ks : List (List Key)) | dic (ks : List Key) | obj (c : Str) (fs : List Str) | nkd (ks : List NestedKey) | tup
inductive Tr where
  | sh (d : D) | nd (k : Kd) (ts : List Tr)
inductive Sl where
  | no | sh (d : D) | ow (d : D) | dp (t : Tr)
noncomputable abbrev Lo := List Sl

noncomputable abbrev Fro := Addr → Prop
noncomputable def LsV (K : PySem.W.Frag) (H : Hp) (a : Addr) (xs : List V) : Prop :=
  H a = some (.lst xs) ∨ (∃ (its : Array Value) (n : Nat), H a = some (.frz { cls := .type "list", data := .seq its n } (.lst xs))) ∨
    ∃ (its : Array Value) (n : Nat), K.lookup a = some { cls := .type "list", data := .seq its n } ∧ its.size ≤ sizeLine ∧ Vals xs its.toList
noncomputable def FzL (K : PySem.W.Frag) (H : Hp) (F : Fro) (a : Addr) (xs : List V) : Prop :=
  (F a ∧ H a = some (.lst xs)) ∨ (∃ (its : Array Value) (n : Nat), H a = some (.frz { cls := .type "list", data := .seq its n } (.lst xs))) ∨
    ∃ (its : Array Value) (n : Nat), K.lookup a = some { cls := .type "list", data := .seq its n } ∧ its.size ≤ sizeLine ∧ Vals xs its.toList
noncomputable def exK (a : Addr) (cls : Value) (d : Option Addr) : HO := .ext fun h => ∃ o, h.get? a = some o ∧ Zc cls d o ∧ ∃ vs, o.data = .fields vs
noncomputable def NsP (K : PySem.W.Frag) (c : Str) (C : Addr) : Prop := PySem.W.nsIn K mainGlobals c = some (some (.ref C)) ∧ PySem.W.findIn K (.ref C) "__getattribute__" ≠ some (some (.builtin "BaseException.__getattribute__"))
noncomputable def XdAt (H : Hp) (d : Option Addr) (fs : List (Str × V)) : Prop := (fs = [] ∧ d = none) ∨ ∃ dx, d = some dx ∧ H dx = some (.xd fs)
noncomputable def kD : Key → D
  | .inl i => .int i
  | .inr x => .str x
mutual
inductive Sh (K : PySem.W.Frag) (H : Hp) (F : Fro) : V → D → Prop
  | non : Sh K H F .non .non
  | bl (b : Bool) : Sh K H F (.bl b) (.bl b)
  | int (i : Int) : Sh K H F (.int i) (.int i)
  | str (x : Str) : Sh K H F (.str x) (.str x)
  | lst {a : Addr} {xs : List V} {ds : List D} : FzL K H F a xs → ShL K H F xs ds → Sh K H F (.ref a) (.lst ds)
  | tup {a : Addr} {xs : List V} {ds : List D} : H a = some (.tup xs) → ShL K H F xs ds → Sh K H F (.ref a) (.tup ds)
  | ctp {a : Addr} {xs : List V} {ds : List D} : SqT K H a xs → ShL K H F xs ds → Sh K H F (.ref a) (.ctp ds)
  | dic {a : Addr} {o : Obj} {kvs : List (Key × V)} {ds : List D} : H a = some (.frz o (.dK kvs)) → ShL K H F (kvs.map (·.2)) ds → Sh K H F (.ref a) (.dic ((kvs.map fun p => kD p.1).zip ds))
  | obj {a C dx : Addr} {c : Str} {fs : List (Str × V)} {ds : List D} : F a → H a = some (.ins C dx fs) → NsP K c C → ShL K H F (fs.map (·.2)) ds → Sh K H F (.ref a) (.obj c ((fs.map (·.1)).zip ds))
  | exc {a C : Addr} {d : Option Addr} {c : Str} {fs : List (Str × V)} {ds : List D} : F a → H a = some (exK a (.ref C) d) → PySem.W.nsIn K mainGlobals c = some (some (.ref C)) → PySem.W.findIn K (.ref C) "__getattribute__" = some (some (.builtin "BaseException.__getattribute__")) → XdAt H d fs → ShL K H F (fs.map (·.2)) ds → Sh K H F (.ref a) (.obj c ((fs.map (·.1)).zip ds))
  | tdc {a : Addr} {o : Obj} {kvs : List (List Key × V)} {ds : List D} : H a = some (.frz o (.dT kvs)) → ShL K H F (kvs.map (·.2)) ds → Sh K H F (.ref a) (.tdc ((kvs.map (·.1)).zip ds))
inductive ShL (K : PySem.W.Frag) (H : Hp) (F : Fro) : List V → List D → Prop
  | nil : ShL K H F [] []
  | cons {v : V} {vs : List V} {d : D} {ds : List D} : Sh K H F v d → ShL K H F vs ds → ShL K H F (v :: vs) (d :: ds)
end
inductive Ow (K : PySem.W.Frag) (H : Hp) (F : Fro) : Addr → D → Prop
  | lst {a : Addr} {xs : List V} {ds : List D} : H a = some (.lst xs) → ShL K H F xs ds → Ow K H F a (.lst ds)
  | dic {a : Addr} {kvs : List (Key × V)} {ds : List D} : H a = some (.dK kvs) → ShL K H F (kvs.map (·.2)) ds → Ow K H F a (.dic ((kvs.map fun p => kD p.1).zip ds))
  | obj {a C dx : Addr} {c : Str} {fs : List (Str × V)} {ds : List D} : H a = some (.ins C dx fs) → NsP K c C → ShL K H F (fs.map (·.2)) ds → Ow K H F a (.obj c ((fs.map (·.1)).zip ds))
  | tdc {a : Addr} {kvs : List (List Key × V)} {ds : List D} : H a = some (.dT kvs) → ShL K H F (kvs.map (·.2)) ds → Ow K H F a (.tdc ((kvs.map (·.1)).zip ds))

noncomputable def Kp (F : Fro) (H H' : Hp) : Prop := ∀ a o, H a = some o → (F a ∨ ¬ Mut (some o)) → H' a = some o
noncomputable def The (F : Fro) (H : Hp) : Prop := ∀ a, F a → H a ≠ none
structure Le (H : Hp) (F : Fro) (H' : Hp) (F' : Fro) : Prop where
  keep : ∀ a o, H a = some o → H' a = some o
  sub : ∀ a, F a → F' a
  new : ∀ a, F' a → F a ∨ H a = none
  the : The F' H'
theorem Le.kp {H H' : Hp} {F F' : Fro} (l : Le H F H' F') : Kp F H H' := fun a o e _ => l.keep a o e
theorem Le.refl {H : Hp} {F : Fro} (t : The F H) : Le H F H F := ⟨fun _ _ e => e, fun _ h => h, fun _ h => .inl h, t⟩
theorem none_of_keep {H H' : Hp} (k : ∀ a o, H a = some o → H' a = some o) {a : Addr} (h : H' a = none) : H a = none := by
  cases q : H a with
  | none => rfl
  | some o => rw [k a o q] at h; cases h
theorem Le.trans {H H1 H2 : Hp} {F F1 F2 : Fro} (a : Le H F H1 F1) (b : Le H1 F1 H2 F2) : Le H F H2 F2 :=
  ⟨fun x o e => b.keep x o (a.keep x o e), fun x h => b.sub x (a.sub x h), fun x h => by
    rcases b.new x h with q | q
    · exact a.new x q
    · exact .inr (none_of_keep a.keep q), b.the⟩
section
variable {K : PySem.W.Frag} {H H' : Hp} {F F' : Fro} {a : Addr}
theorem LsV.sql {xs : List V} (h : LsV K H a xs) : SqL K H a xs := by
  rcases h with h | ⟨its, n, h⟩ | ⟨its, n, h, z, r⟩
  · exact .inl (.inl h)
  · exact .inl (.inr ⟨_, h⟩)
  · exact .inr ⟨_, its, n, h, rfl, rfl, rfl, z, r⟩
theorem FzL.ls {xs : List V} (h : FzL K H F a xs) : LsV K H a xs := by
  rcases h with ⟨_, h⟩ | h | h
  · exact .inl h
  · exact .inr (.inl h)
  · exact .inr (.inr h)
theorem FzL.sql {xs : List V} (h : FzL K H F a xs) : SqL K H a xs := h.ls.sql
theorem FzL.mono {xs : List V} (h : FzL K H F a xs) (k : Kp F H H') (s : ∀ a, F a → F' a) : FzL K H' F' a xs := by
  rcases h with ⟨f, h⟩ | ⟨its, n, h⟩ | h
  · exact .inl ⟨s a f, k a _ h (.inl f)⟩
  · exact .inr (.inl ⟨its, n, k a _ h (.inr fun z => z)⟩)
  · exact .inr (.inr h)
theorem sqt_mono {xs : List V} (h : SqT K H a xs) (k : Kp F H H') : SqT K H' a xs := by
  rcases h with (h | ⟨o, h⟩) | h
  · exact .inl (.inl (k a _ h (.inr fun z => z)))
  · exact .inl (.inr ⟨o, k a _ h (.inr fun z => z)⟩)
  · exact .inr h
theorem Sh.mono (k : Kp F H H') (s : ∀ a, F a → F' a) {v : V} {d : D} (h : Sh K H F v d) : Sh K H' F' v d :=
  Sh.rec (motive_1 := fun v d _ => Sh K H' F' v d) (motive_2 := fun vs ds _ => ShL K H' F' vs ds) .non (fun b => .bl b) (fun i => .int i) (fun x => .str x) (fun h _ r => .lst (h.mono k s) r) (fun h _ r => .tup (k _ _ h (.inr fun z => z)) r)
    (fun h _ r => .ctp (sqt_mono h k) r) (fun h _ r => .dic (k _ _ h (.inr fun z => z)) r) (fun f h c _ r => .obj (s _ f) (k _ _ h (.inl f)) c r)
    (fun f h c g x _ r => .exc (s _ f) (k _ _ h (.inl f)) c g (x.imp id fun ⟨dx, e, hx⟩ => ⟨dx, e, k _ _ hx (.inr fun z => z)⟩) r) (fun h _ r => .tdc (k _ _ h (.inr fun z => z)) r) .nil (fun _ _ h r => .cons h r) h
theorem ShL.mono (k : Kp F H H') (s : ∀ a, F a → F' a) {vs : List V} {ds : List D} (h : ShL K H F vs ds) : ShL K H' F' vs ds := by
  induction ds generalizing vs with
  | nil => cases h; exact .nil
  | cons d ds ih => rcases h with _ | ⟨h, r⟩; exact .cons (Sh.mono k s h) (ih r)
theorem Sh.le {v : V} {d : D} (h : Sh K H F v d) (l : Le H F H' F') : Sh K H' F' v d := h.mono l.kp l.sub
theorem ShL.le {vs : List V} {ds : List D} (h : ShL K H F vs ds) (l : Le H F H' F') : ShL K H' F' vs ds := h.mono l.kp l.sub
theorem ShL.length : ∀ {vs : List V} {ds : List D}, ShL K H F vs ds → vs.length = ds.length
  | _, _, .nil => rfl
  | _, _, .cons _ r => congrArg (· + 1) r.length
theorem ShL.get : ∀ {vs : List V} {ds : List D}, ShL K H F vs ds → ∀ {i : Nat} {v : V}, vs[i]? = some v → ∃ d, ds[i]? = some d ∧ Sh K H F v d
  | _, _, .nil, _, _, e => by simp at e
  | _, _, .cons h r, 0, v, e => ⟨_, rfl, by simp at e; subst e; exact h⟩
  | _, _, .cons h r, i + 1, v, e => by
    obtain ⟨d, q, z⟩ := ShL.get r (i := i) (v := v) (by simpa using e)
    exact ⟨d, by simpa using q, z⟩
theorem ShL.getD : ∀ {vs : List V} {ds : List D}, ShL K H F vs ds → ∀ {i : Nat} {d : D}, ds[i]? = some d → ∃ v, vs[i]? = some v ∧ Sh K H F v d
  | _, _, .nil, _, _, e => by simp at e
  | _, _, .cons h r, 0, v, e => ⟨_, rfl, by simp at e; subst e; exact h⟩
  | _, _, .cons h r, i + 1, v, e => by
    obtain ⟨d, q, z⟩ := ShL.getD r (i := i) (d := v) (by simpa using e)
    exact ⟨d, by simpa using q, z⟩
theorem ShL.append : ∀ {vs ws : List V} {ds es : List D}, ShL K H F vs ds → ShL K H F ws es → ShL K H F (vs ++ ws) (ds ++ es)
  | _, _, _, _, .nil, s => s
  | _, _, _, _, .cons h r, s => .cons h (ShL.append r s)
theorem ShL.take : ∀ {vs : List V} {ds : List D} (n : Nat), ShL K H F vs ds → ShL K H F (vs.take n) (ds.take n)
  | _, _, 0, _ => .nil
  | _, _, _ + 1, .nil => .nil
  | _, _, n + 1, .cons h r => .cons h (ShL.take n r)
theorem ShL.drop : ∀ {vs : List V} {ds : List D} (n : Nat), ShL K H F vs ds → ShL K H F (vs.drop n) (ds.drop n)
  | _, _, 0, r => r
  | _, _, _ + 1, .nil => .nil
  | _, _, n + 1, .cons h r => ShL.drop n r
theorem ShL.set {v : V} {d : D} (q : Sh K H F v d) : ∀ {vs : List V} {ds : List D} (i : Nat), ShL K H F vs ds → ShL K H F (vs.set i v) (ds.set i d)
  | _, _, _, .nil => .nil
  | _, _, 0, .cons _ r => .cons q r
  | _, _, i + 1, .cons h r => .cons h (ShL.set q i r)
theorem Ow.mono (k : Kp F H H') (s : ∀ a, F a → F' a) {d : D} (o : Ow K H F a d) (e : ∀ u, H a = some u → H' a = some u) : Ow K H' F' a d := by
  cases o with
  | lst h r => exact .lst (e _ h) (r.mono k s)
  | dic h r => exact .dic (e _ h) (r.mono k s)
  | obj h c r => exact .obj (e _ h) c (r.mono k s)
  | tdc h r => exact .tdc (e _ h) (r.mono k s)
theorem Ow.there {d : D} (o : Ow K H F a d) : H a ≠ none := by
  cases o with
  | lst h r => rw [h]; simp
  | dic h r => rw [h]; simp
  | obj h _ r => rw [h]; simp
  | tdc h r => rw [h]; simp
noncomputable def D.isDic : D → Bool
  | .dic _ => true
  | .tdc _ => true
  | _ => false
theorem Ow.freeze {d : D} (o : Ow K H F a d) (f : F a) (nd : d.isDic = false) : Sh K H F (.ref a) d := by
  cases o with
  | lst h r => exact .lst (.inl ⟨f, h⟩) r
  | dic h r => cases nd
  | obj h c r => exact .obj f h c r
  | tdc h r => cases nd
theorem kp_own {u u' : HO} (nf : ¬ F a) (h : H a = some u) (mu : Mut (some u)) : Kp F H (upd H a u') := fun b w e z => by
  have nb : b ≠ a := fun q => by
    subst q
    rcases z with z | z
    · exact nf z
    · rw [h] at e; cases e; exact z mu
  rw [upd_ne nb]; exact e
theorem Ow.freezeD {d : D} (o : Ow K H F a d) (hd : d.isDic = true) (nf : ¬ F a) : ∃ u, H a = some u ∧ Mut (some u) ∧ ∀ od, Sh K (upd H a (.frz od u)) F (.ref a) d := by
  cases o with
  | @dic kvs ds h r => exact ⟨_, h, trivial, fun od => .dic (o := od) upd_same (r.mono (kp_own nf h trivial) fun _ z => z)⟩
  | @tdc kvs ds h r => exact ⟨_, h, trivial, fun od => .tdc (o := od) upd_same (r.mono (kp_own nf h trivial) fun _ z => z)⟩
  | _ => cases hd
theorem Ow.mut {d : D} (o : Ow K H F a d) : d.mut = true := by cases o <;> rfl
noncomputable def Fro.add (F : Fro) (a : Addr) : Fro := fun b => F b ∨ b = a
theorem le_add {H0 : Hp} {F0 : Fro} (l : Le H0 F0 H F) (n : H0 a = none) (t : H a ≠ none) : Le H0 F0 H (F.add a) :=
  ⟨l.keep, fun b h => .inl (l.sub b h), fun b h => by
    rcases h with h | rfl
    · exact l.new b h
    · exact .inr n, fun b h => by
    rcases h with h | rfl
    · exact l.the b h
    · exact t⟩
end

structure VG where
  K : PySem.W.Frag
  mg : Str → Option Value
  H0 : Hp
  F0 : Fro
  W : WX
  me : Option Addr
noncomputable abbrev Om := Addr → Option (List Nat)
mutual
inductive NkAt (K : PySem.W.Frag) (H : Hp) : NestedKey → V → Prop
  | num (i : Int) : NkAt K H (.num i) (.int i)
  | tup {b : Addr} {vs : List V} {ks : List NestedKey} : H b = some (.tup vs) → NkAll K H ks vs → NkAt K H (.tup ks) (.ref b)
inductive NkAll (K : PySem.W.Frag) (H : Hp) : List NestedKey → List V → Prop
  | nil : NkAll K H [] []
  | cons {k : NestedKey} {v : V} {ks : List NestedKey} {vs : List V} : NkAt K H k v → NkAll K H ks vs → NkAll K H (k :: ks) (v :: vs)
end
noncomputable def ndEs (P : Program) (w : World) (ks : List NestedKey) (bs : List Addr) (us : List Value) : List (NestedKey × Addr × Value) := ks.zip (bs.zip us)
noncomputable def ndP (a : Addr) (ks : List NestedKey) (bs : List Addr) (vs : List V) (h : Heap) : Prop := ∃ us, Vals vs us ∧ ∃ o es ep, h.get? a = some o ∧ o.ExactDict ∧ o.data = .dict es ep ∧ (∀ (P : Program) (w : World), es.toList = (ndEs P w ks bs us).map (entryOfKey (nestedKind P w))) ∧ ks.Nodup
noncomputable def ndK (a : Addr) (ks : List NestedKey) (bs : List Addr) (vs : List V) : HO := .ext (ndP a ks bs vs)
noncomputable def KdH (K : PySem.W.Frag) (H : Hp) (a : Addr) (vs : List V) : Kd → Prop
  | .nkd ks => ks.length = vs.length ∧ (∀ k ∈ ks, k.depth ≤ 8) ∧ ks.length ≤ sizeLine ∧ ∃ bs : List Addr, bs.length = ks.length ∧ NkAll K H ks (bs.map V.ref) ∧ H a = some (ndK a ks bs vs) ∧ (a == sysModules) = false ∧ ∃ h : Heap, ndP a ks bs vs h
  | .lst => H a = some (.lst vs)
  | .tup => H a = some (.tup vs)
  | .tdc ks => ks.length = vs.length ∧ H a = some (.dT (ks.zip vs))
  | .dic ks => ks.length = vs.length ∧ H a = some (.dK (ks.zip vs))
  | .obj c fs => fs.length = vs.length ∧ ∃ C dx, H a = some (.ins C dx (fs.zip vs)) ∧ NsP K c C
mutual
inductive Dw (K : PySem.W.Frag) (H0 H : Hp) (F : Fro) (ω : Om) : List Nat → V → Tr → Prop
  | sh {p : List Nat} {v : V} {d : D} : Sh K H F v d → Dw K H0 H F ω p v (.sh d)
  | nd {p : List Nat} {a : Addr} {k : Kd} {vs : List V} {ts : List Tr} : ω a = some p → H0 a = none → ¬ F a → KdH K H a vs k → DwL K H0 H F ω p 0 vs ts → Dw K H0 H F ω p (.ref a) (.nd k ts)
inductive DwL (K : PySem.W.Frag) (H0 H : Hp) (F : Fro) (ω : Om) : List Nat → Nat → List V → List Tr → Prop
  | nil {p : List Nat} {n : Nat} : DwL K H0 H F ω p n [] []
  | cons {p : List Nat} {n : Nat} {v : V} {vs : List V} {t : Tr} {ts : List Tr} : Dw K H0 H F ω (p ++ [n]) v t → DwL K H0 H F ω p (n + 1) vs ts → DwL K H0 H F ω p n (v :: vs) (t :: ts)
end
section
variable {K : PySem.W.Frag} {H0 H H' : Hp} {F F' : Fro} {ω ω' : Om} {p0 : List Nat}
theorem KdH.there {a : Addr} {vs : List V} {k : Kd} (h : KdH K H a vs k) : H a ≠ none := by
  cases k with
  | lst => rw [show H a = _ from h]; simp
  | tup => rw [show H a = _ from h]; simp
  | tdc ks => rw [h.2]; simp
  | dic ks => rw [h.2]; simp
  | obj c fs => obtain ⟨_, C, dx, e, _⟩ := h; rw [e]; simp
  | nkd ks => obtain ⟨_, _, _, bs, _, _, e, _⟩ := h; rw [e]; simp
mutual
theorem NkAt.mono (k : Kp F H H') : ∀ {x : NestedKey} {v : V}, NkAt K H x v → NkAt K H' x v
  | _, _, .num i => .num i
  | _, _, .tup h r => .tup (k _ _ h (.inr fun z => z)) (NkAll.mono k r)
theorem NkAll.mono (k : Kp F H H') : ∀ {xs : List NestedKey} {vs : List V}, NkAll K H xs vs → NkAll K H' xs vs
  | _, _, .nil => .nil
  | _, _, .cons h r => .cons (NkAt.mono k h) (NkAll.mono k r)
end
theorem KdH.noSet {a : Addr} {vs : List V} {k : Kd} {φ : Heap → Prop} (q : KdH K H a vs k) (h : H a = some (.ext φ)) (hc : ∀ h, φ h → ∃ o, h.get? a = some o ∧ o.cls = .type "set") : False := by
  cases k with
  | lst => rw [show H a = _ from q] at h; cases h
  | tup => rw [show H a = _ from q] at h; cases h
  | tdc ks => rw [q.2] at h; cases h
  | dic ks => rw [q.2] at h; cases h
  | obj c fs => obtain ⟨_, C, dx, e, _⟩ := q; rw [e] at h; cases h
  | nkd ks =>
    obtain ⟨_, _, _, bs, _, _, e, _, h0, hp⟩ := q
    rw [e] at h
    have e2 : ndP a ks bs vs = φ := HO.ext.inj (Option.some.inj h)
    obtain ⟨o, g1, g2⟩ := hc h0 (e2 ▸ hp)
    obtain ⟨us, _, o', es, ep, g3, g4, _⟩ := hp
    rw [g1] at g3
    cases g3
    rw [g4.1] at g2
    exact absurd g2 (by decide)
theorem KdH.eq (kp : Kp F H H') {a : Addr} {vs : List V} {k : Kd} (h : KdH K H a vs k) (e : H' a = H a) : KdH K H' a vs k := by
  cases k with
  | nkd ks => obtain ⟨z1, z2, z3, bs, z4, z5, q, z6⟩ := h; exact ⟨z1, z2, z3, bs, z4, z5.mono kp, e.trans q, z6⟩
  | lst => exact e.trans h
  | tup => exact e.trans h
  | tdc ks => exact ⟨h.1, e.trans h.2⟩
  | dic ks => exact ⟨h.1, e.trans h.2⟩
  | obj c fs => obtain ⟨z, C, dx, q, n⟩ := h; exact ⟨z, C, dx, e.trans q, n⟩
mutual
theorem Dw.mono (k : Kp F H H') (s : ∀ a, F a → F' a) (hn : ∀ a q, ω a = some q → p0 <+: q → H0 a = none → ¬ F a → H a ≠ none → H' a = H a ∧ ¬ F' a ∧ ω' a = ω a) : ∀ {p : List Nat} {v : V} {t : Tr}, p0 <+: p → Dw K H0 H F ω p v t → Dw K H0 H' F' ω' p v t
  | _, _, _, _, .sh h => .sh (h.mono k s)
  | p, _, _, hp, .nd (a := a) e n nf h r => by
    obtain ⟨z1, z2, z3⟩ := hn a p e hp n nf h.there
    exact .nd (z3.trans e) n z2 (KdH.eq k h z1) (DwL.mono k s hn hp r)
theorem DwL.mono (k : Kp F H H') (s : ∀ a, F a → F' a) (hn : ∀ a q, ω a = some q → p0 <+: q → H0 a = none → ¬ F a → H a ≠ none → H' a = H a ∧ ¬ F' a ∧ ω' a = ω a) : ∀ {p : List Nat} {n : Nat} {vs : List V} {ts : List Tr}, p0 <+: p → DwL K H0 H F ω p n vs ts → DwL K H0 H' F' ω' p n vs ts
  | _, _, _, _, _, .nil => .nil
  | p, n, _, _, hp, .cons h r => .cons (Dw.mono k s hn (hp.trans (List.prefix_append p [n])) h) (DwL.mono k s hn hp r)
end
end
noncomputable def DP (G : VG) (σ : L2.St) (H : Hp) (ρ : Lo) (F : Fro) (ω : Om) : Prop := (∀ (i : Nat) (t : Tr), ρ[i]? = some (.dp t) → ∃ v, σ[i]? = some (some v) ∧ Dw G.K G.H0 H F ω [i] v t) ∧
  ∀ (i : Nat) (a : Addr) (d : D), σ[i]? = some (some (.ref a)) → ρ[i]? = some (.ow d) → ω a = none
section
variable {G : VG} {σ : L2.St} {H H' : Hp} {ρ : Lo} {F F' : Fro} {ω : Om}
theorem dp_none (h : ∀ (i : Nat) (t : Tr), ρ[i]? ≠ some (.dp t)) : ∃ ω, DP G σ H ρ F ω := ⟨fun _ => none, fun i t e => absurd e (h i t), fun _ _ _ _ _ => rfl⟩
theorem dp_mono (h : DP G σ H ρ F ω) (k : Kp F H H') (s : ∀ a, F a → F' a) (hn : ∀ a q, ω a = some q → ¬ F a → H a ≠ none → H' a = H a ∧ ¬ F' a) : DP G σ H' ρ F' ω :=
  ⟨fun i t e => by
    obtain ⟨v, q, w⟩ := h.1 i t e
    exact ⟨v, q, w.mono (p0 := [i]) k s (fun a q e _ _ nf t => ⟨(hn a q e nf t).1, (hn a q e nf t).2, rfl⟩) (List.prefix_refl _)⟩, h.2⟩
theorem dp_rho (h : DP G σ H ρ F ω) {i : Nat} {x : Sl} (h1 : ∀ t, x ≠ .dp t) (h2 : ∀ d, x = .ow d → ∃ d0, ρ[i]? = some (.ow d0)) : DP G σ H (ρ.set i x) F ω :=
  ⟨fun j t e => by
    by_cases hj : i = j
    · subst hj
      rw [List.getElem?_set] at e
      simp only [if_true] at e
      split at e
      · exact absurd (Option.some.inj e) (h1 t)
      · cases e
    · rw [List.getElem?_set_ne hj] at e
      exact h.1 j t e, fun j a d e1 e2 => by
    by_cases hj : i = j
    · subst hj
      rw [List.getElem?_set] at e2
      simp only [if_true] at e2
      split at e2
      · obtain ⟨d0, q⟩ := h2 d (Option.some.inj e2)
        exact h.2 i a d0 e1 q
      · cases e2
    · rw [List.getElem?_set_ne hj] at e2
      exact h.2 j a d e1 e2⟩
theorem dp_set (h : DP G σ H ρ F ω) {i : Nat} {x : Sl} {y : Option V} (h1 : ∀ t, x ≠ .dp t) (h2 : ∀ d a, x = .ow d → y = some (.ref a) → ω a = none) : DP G (σ.set i y) H (ρ.set i x) F ω :=
  ⟨fun j t e => by
    by_cases hj : i = j
    · subst hj
      rw [List.getElem?_set] at e
      simp only [if_true] at e
      split at e
      · exact absurd (Option.some.inj e) (h1 t)
      · cases e
    · rw [List.getElem?_set_ne hj] at e ⊢
      exact h.1 j t e, fun j a d e1 e2 => by
    by_cases hj : i = j
    · subst hj
      rw [List.getElem?_set] at e1 e2
      simp only [if_true] at e1 e2
      split at e2
      · split at e1
        · exact h2 d a (Option.some.inj e2) (Option.some.inj e1)
        · cases e1
      · cases e2
    · rw [List.getElem?_set_ne hj] at e1 e2
      exact h.2 j a d e1 e2⟩
theorem dp_le (h : ∃ ω, DP G σ H ρ F ω) (l : Le H F H' F') (own : ∀ (i : Nat) (a : Addr) (d : D), σ[i]? = some (some (.ref a)) → ρ[i]? = some (.ow d) → H a ≠ none) : ∃ ω, DP G σ H' ρ F' ω ∧ ∀ b, H b = none → ω b = none := by
  obtain ⟨ω, h⟩ := h
  refine ⟨fun b => match H b with | none => none | some _ => ω b, ⟨fun i t e => ?_, fun i a d e1 e2 => ?_⟩, fun b e => by dsimp only; rw [e]⟩
  · obtain ⟨v, q, w⟩ := h.1 i t e
    refine ⟨v, q, w.mono (p0 := [i]) l.kp l.sub (fun a q e _ _ nf t => ?_) (List.prefix_refl _)⟩
    cases z : H a with
    | none => exact absurd z t
    | some o =>
      exact ⟨l.keep a o z, fun f => (l.new a f).elim nf t, by dsimp only; all_goals (first | rfl | rw [z])⟩
  · have n := own i a d e1 e2
    cases z : H a with
    | none => exact absurd z n
    | some o =>
      dsimp only
      rw [z]
      exact h.2 i a d e1 e2
end
noncomputable def RSl (G : VG) (H : Hp) (F : Fro) (x : Option V) : Sl → Prop
  | .no => True
  | .sh d => ∃ v, x = some v ∧ Sh G.K H F v d
  | .ow d => ∃ a, x = some (.ref a) ∧ G.H0 a = none ∧ ¬ F a ∧ Ow G.K H F a d
  | .dp _ => True
structure Rel (G : VG) (σ : L2.St) (H : Hp) (ρ : Lo) (F : Fro) : Prop where
  len : σ.length = ρ.length
  sl : ∀ (i : Nat) (x : Option V) (s : Sl), σ[i]? = some x → ρ[i]? = some s → RSl G H F x s
  apart : ∀ (i j : Nat) (a : Addr) (d d' : D), σ[i]? = some (some (.ref a)) → ρ[i]? = some (.ow d) → σ[j]? = some (some (.ref a)) → ρ[j]? = some (.ow d') → i = j
  le : Le G.H0 G.F0 H F
  first : ∀ (a : Addr) (d : D), G.me = some a → ρ[0]? = some (.ow d) → σ[0]? = some (some (.ref a))
  dp : ∃ ω, DP G σ H ρ F ω
theorem first_set {o : Option Addr} {σ : L2.St} {ρ : Lo} {i : Nat} {x : Option V} {s : Sl} (hs : i = 0 → ∀ d, s ≠ .ow d) (f : ∀ (a : Addr) (d : D), o = some a → ρ[0]? = some (.ow d) → σ[0]? = some (some (.ref a))) :
    ∀ (a : Addr) (d : D), o = some a → (ρ.set i s)[0]? = some (.ow d) → (σ.set i x)[0]? = some (some (.ref a)) := fun a d e h => by
  by_cases hi : i = 0
  · subst hi
    rw [List.getElem?_set] at h
    simp only [if_true] at h
    split at h
    · exact absurd (Option.some.inj h) (hs rfl d)
    · cases h
  · rw [List.getElem?_set_ne hi] at h ⊢
    exact f a d e h
theorem first_set1 {o : Option Addr} {σ : L2.St} {ρ : Lo} {i : Nat} {s : Sl} (hs : i = 0 → (∃ d, ρ[0]? = some (.ow d)) ∨ ∀ d, s ≠ .ow d) (f : ∀ (a : Addr) (d : D), o = some a → ρ[0]? = some (.ow d) → σ[0]? = some (some (.ref a))) :
    ∀ (a : Addr) (d : D), o = some a → (ρ.set i s)[0]? = some (.ow d) → σ[0]? = some (some (.ref a)) := fun a d e h => by
  by_cases hi : i = 0
  · subst hi
    rcases hs rfl with ⟨d', h'⟩ | hs
    · exact f a d' e h'
    · rw [List.getElem?_set] at h
      simp only [if_true] at h
      split at h
      · exact absurd (Option.some.inj h) (hs d)
      · cases h
  · rw [List.getElem?_set_ne hi] at h
    exact f a d e h
section
variable {G : VG} {σ : L2.St} {H H' : Hp} {ρ : Lo} {F F' : Fro}
theorem Rel.there (r : Rel G σ H ρ F) (i : Nat) (a : Addr) (d : D) (e1 : σ[i]? = some (some (.ref a))) (e2 : ρ[i]? = some (.ow d)) : H a ≠ none := by
  obtain ⟨b, e, _, _, w⟩ := r.sl i _ _ e1 e2
  cases e
  exact w.there
theorem Rel.dpLe (r : Rel G σ H ρ F) (l : Le H F H' F') : ∃ ω, DP G σ H' ρ F' ω ∧ ∀ b, H b = none → ω b = none := dp_le r.dp l r.there
theorem Rel.step (r : Rel G σ H ρ F) (l : Le H F H' F') : Rel G σ H' ρ F' := by
  refine ⟨r.len, fun i x s h1 h2 => ?_, r.apart, r.le.trans l, r.first, (r.dpLe l).imp fun _ h => h.1⟩
  have q := r.sl i x s h1 h2
  cases s with
  | no => trivial
  | sh d => obtain ⟨v, e, z⟩ := q; exact ⟨v, e, z.le l⟩
  | dp t => trivial
  | ow d =>
    obtain ⟨a, e, n, nf, o⟩ := q
    refine ⟨a, e, n, fun f => ?_, o.mono l.kp l.sub fun u e => l.keep _ u e⟩
    rcases l.new a f with z | z
    · exact nf z
    · exact o.there z
theorem Rel.wipe1 (r : Rel G σ H ρ F) (i : Nat) (x : Option V) : Rel G (σ.set i x) H (ρ.set i .no) F := by
  refine ⟨by simpa using r.len, fun j y s h1 h2 => ?_, fun j k a d d' h1 h2 h3 h4 => ?_, r.le, first_set (fun _ _ z => nomatch z) r.first, r.dp.imp fun _ h => dp_set h (fun _ z => nomatch z) fun _ _ z => nomatch z⟩
  · by_cases hj : i = j
    · subst hj
      rw [List.getElem?_set] at h2
      simp only [if_true] at h2
      split at h2
      · cases h2; trivial
      · cases h2
    · rw [List.getElem?_set_ne hj] at h1 h2
      exact r.sl j y s h1 h2
  · have e1 : i ≠ j := fun z => by
      subst z
      rw [List.getElem?_set] at h2
      simp only [if_true] at h2
      split at h2 <;> cases h2
    have e2 : i ≠ k := fun z => by
      subst z
      rw [List.getElem?_set] at h4
      simp only [if_true] at h4
      split at h4 <;> cases h4
    rw [List.getElem?_set_ne e1] at h1 h2
    rw [List.getElem?_set_ne e2] at h3 h4
    exact r.apart j k a d d' h1 h2 h3 h4
theorem Rel.setSh (r : Rel G σ H ρ F) (i : Nat) {v : V} {d : D} (h : Sh G.K H F v d) : Rel G (σ.set i (some v)) H (ρ.set i (.sh d)) F := by
  have w := r.wipe1 i (some v)
  refine ⟨by simpa using r.len, fun j y s h1 h2 => ?_, fun j k a d1 d' h1 h2 h3 h4 => ?_, r.le, first_set (fun _ _ z => nomatch z) r.first, r.dp.imp fun _ h => dp_set h (fun _ z => nomatch z) fun _ _ z => nomatch z⟩
  · by_cases hj : i = j
    · subst hj
      rw [List.getElem?_set] at h1 h2
      simp only [if_true] at h1 h2
      split at h2
      · split at h1
        · cases h2; cases h1; exact ⟨v, rfl, h⟩
        · cases h1
      · cases h2
    · rw [List.getElem?_set_ne hj] at h1 h2
      exact r.sl j y s h1 h2
  · have e1 : i ≠ j := fun z => by
      subst z
      rw [List.getElem?_set] at h2
      simp only [if_true] at h2
      split at h2 <;> cases h2
    have e2 : i ≠ k := fun z => by
      subst z
      rw [List.getElem?_set] at h4
      simp only [if_true] at h4
      split at h4 <;> cases h4
    rw [List.getElem?_set_ne e1] at h1 h2
    rw [List.getElem?_set_ne e2] at h3 h4
    exact r.apart j k a d1 d' h1 h2 h3 h4
theorem Rel.setOw (r0 : Rel G σ H ρ F) (l : Le H F H' F') (i : Nat) {a : Addr} {d : D} (na : H a = none) (nf : ¬ F' a) (o : Ow G.K H' F' a d) (i0 : i ≠ 0) : Rel G (σ.set i (some (.ref a))) H' (ρ.set i (.ow d)) F' := by
  have r := r0.step l
  have n : G.H0 a = none := none_of_keep r0.le.keep na
  have no : ∀ (j : Nat) (d' : D), j ≠ i → σ[j]? = some (some (.ref a)) → ρ[j]? = some (.ow d') → False := fun j d' _ h1 h2 => r0.there j a d' h1 h2 na
  refine ⟨by simpa using r.len, fun j y s h1 h2 => ?_, fun j k b d1 d' h1 h2 h3 h4 => ?_, r.le, first_set (fun z => absurd z i0) r.first, (r0.dpLe l).imp fun _ h => dp_set h.1 (fun _ z => nomatch z) fun _ b _ z => by cases z; exact h.2 a na⟩
  · by_cases hj : i = j
    · subst hj
      rw [List.getElem?_set] at h1 h2
      simp only [if_true] at h1 h2
      split at h2
      · split at h1
        · cases h2; cases h1; exact ⟨a, rfl, n, nf, o⟩
        · cases h1
      · cases h2
    · rw [List.getElem?_set_ne hj] at h1 h2
      exact r.sl j y s h1 h2
  · by_cases e1 : i = j
    · by_cases e2 : i = k
      · (first | lia | omega)
      · subst e1
        rw [List.getElem?_set_ne e2] at h3 h4
        rw [List.getElem?_set] at h1
        simp only [if_true] at h1
        split at h1
        · cases h1; exact (no k d' (Ne.symm e2) h3 h4).elim
        · cases h1
    · by_cases e2 : i = k
      · subst e2
        rw [List.getElem?_set_ne e1] at h1 h2
        rw [List.getElem?_set] at h3
        simp only [if_true] at h3
        split at h3
        · cases h3; exact (no j d1 (Ne.symm e1) h1 h2).elim
        · cases h3
      · rw [List.getElem?_set_ne e1] at h1 h2
        rw [List.getElem?_set_ne e2] at h3 h4
        exact r.apart j k b d1 d' h1 h2 h3 h4
theorem Rel.write (r : Rel G σ H ρ F) {i : Nat} {a : Addr} {d d' : D} (hσ : σ[i]? = some (some (.ref a))) (hρ : ρ[i]? = some (.ow d)) {u : HO} (hm : ∀ o, H a = some o → Mut (some o))
    (o : Ow G.K (upd H a u) F a d') : Rel G σ (upd H a u) (ρ.set i (.ow d')) F := by
  obtain ⟨b, e, n, nf, ob⟩ := r.sl i _ _ hσ hρ
  cases e
  have kp : Kp F H (upd H a u) := fun b w e h => by
    have nb : b ≠ a := fun z => by
      subst z
      rcases h with h | h
      · exact nf h
      · exact h (hm w e)
    rw [upd_ne nb]; exact e
  refine ⟨by simpa using r.len, fun j y s h1 h2 => ?_, fun j k c d1 d2 h1 h2 h3 h4 => ?_, ⟨fun b w e => ?_, r.le.sub, r.le.new, fun b f => ?_⟩, first_set1 (fun z => .inl ⟨d, by rw [← z]; exact hρ⟩) r.first, r.dp.imp fun ω h => dp_rho (dp_mono h kp (fun _ z => z) fun b q eq nfb _ => ⟨upd_ne fun z => (by subst z; rw [h.2 i b d hσ hρ] at eq; cases eq), nfb⟩) (fun _ z => nomatch z) fun _ _ => ⟨d, hρ⟩⟩
  · by_cases hj : i = j
    · subst hj
      rw [hσ] at h1
      rw [List.getElem?_set] at h2
      simp only [if_true] at h2
      split at h2
      · cases h2; cases h1; exact ⟨a, rfl, n, nf, o⟩
      · cases h2
    · rw [List.getElem?_set_ne hj] at h2
      have q := r.sl j y s h1 h2
      cases s with
      | no => trivial
      | sh d => obtain ⟨v, e, z⟩ := q; exact ⟨v, e, z.mono kp fun _ h => h⟩
      | dp t => trivial
      | ow d2 =>
        obtain ⟨b, e, n', nf', o'⟩ := q
        subst e
        have nb : b ≠ a := fun z => by
          subst z
          exact hj (r.apart i j b d d2 hσ hρ h1 h2)
        exact ⟨b, rfl, n', nf', o'.mono kp (fun _ h => h) fun w e => by rw [upd_ne nb]; exact e⟩
  · have fix : ∀ {k : Nat} {d3 : D}, (ρ.set i (Sl.ow d'))[k]? = some (Sl.ow d3) → ∃ d4, ρ[k]? = some (Sl.ow d4) := fun {k d3} h => by
      by_cases hk : i = k
      · subst hk; exact ⟨d, hρ⟩
      · rw [List.getElem?_set_ne hk] at h; exact ⟨d3, h⟩
    obtain ⟨x1, q1⟩ := fix h2
    obtain ⟨x2, q2⟩ := fix h4
    exact r.apart j k c x1 x2 h1 q1 h3 q2
  · have nb : b ≠ a := fun z => by subst z; rw [n] at e; cases e
    rw [upd_ne nb]; exact r.le.keep b w e
  · by_cases hb : b = a
    · subst hb; exact absurd f nf
    · rw [upd_ne hb]; exact r.le.the b f
theorem Rel.freeze (r : Rel G σ H ρ F) {i : Nat} {d0 : D} (hρ : ρ[i]? = some (.ow d0)) (nd : d0.isDic = false) : ∃ F', Rel G σ H (ρ.set i (.sh d0)) F' ∧ ∀ b, F b → F' b := by
  have hi : i < σ.length := by rw [r.len]; exact (List.getElem?_eq_some_iff.mp hρ).1
  obtain ⟨a, e, n, nf, o⟩ := r.sl i _ _ (List.getElem?_eq_getElem hi) hρ
  have hσ : σ[i]? = some (some (.ref a)) := by rw [List.getElem?_eq_getElem hi, e]
  have kp : Kp F H H := fun _ _ e _ => e
  refine ⟨F.add a, ⟨by simpa using r.len, fun j y s h1 h2 => ?_, fun j k c d1 d2 h1 h2 h3 h4 => ?_, le_add r.le n o.there, first_set1 (fun _ => .inr fun _ z => nomatch z) r.first, r.dp.imp fun ω h => dp_rho (dp_mono h kp (fun _ z => .inl z) fun b q eq nfb _ => ⟨rfl, fun z => z.elim nfb fun z => (by subst z; rw [h.2 i b _ hσ hρ] at eq; cases eq)⟩) (fun _ z => nomatch z) fun _ z => nomatch z⟩, fun _ h => .inl h⟩
  · by_cases hj : i = j
    · subst hj
      rw [hσ] at h1
      rw [List.getElem?_set] at h2
      simp only [if_true] at h2
      split at h2
      · cases h2; cases h1
        exact ⟨_, rfl, (o.mono kp (fun _ h => Or.inl h) fun _ e => e).freeze (.inr rfl) nd⟩
      · cases h2
    · rw [List.getElem?_set_ne hj] at h2
      have q := r.sl j y s h1 h2
      cases s with
      | no => trivial
      | sh d => obtain ⟨v, e, z⟩ := q; exact ⟨v, e, z.mono kp fun _ h => .inl h⟩
      | dp t => trivial
      | ow d2 =>
        obtain ⟨b, e, n', nf', o'⟩ := q
        subst e
        refine ⟨b, rfl, n', fun z => ?_, o'.mono kp (fun _ h => .inl h) fun _ e => e⟩
        rcases z with z | z
        · exact nf' z
        · subst z; exact hj (r.apart i j b _ d2 hσ hρ h1 h2)
  · have e1 : i ≠ j := fun z => by
      subst z
      rw [List.getElem?_set] at h2
      simp only [if_true] at h2
      split at h2 <;> cases h2
    have e2 : i ≠ k := fun z => by
      subst z
      rw [List.getElem?_set] at h4
      simp only [if_true] at h4
      split at h4 <;> cases h4
    rw [List.getElem?_set_ne e1] at h2
    rw [List.getElem?_set_ne e2] at h4
    exact r.apart j k c d1 d2 h1 h2 h3 h4
theorem Rel.freezeD (r : Rel G σ H ρ F) {i : Nat} {d0 : D} (hρ : ρ[i]? = some (.ow d0)) (hd : d0.isDic = true) : ∃ a u, H a = some u ∧ Mut (some u) ∧ ¬ F a ∧ ∀ od, Rel G σ (upd H a (.frz od u)) (ρ.set i (.sh d0)) F := by
  have hi : i < σ.length := by rw [r.len]; exact (List.getElem?_eq_some_iff.mp hρ).1
  obtain ⟨a, e, n, nf, o⟩ := r.sl i _ _ (List.getElem?_eq_getElem hi) hρ
  have hσ : σ[i]? = some (some (.ref a)) := by rw [List.getElem?_eq_getElem hi, e]
  obtain ⟨u, ha, mu, z⟩ := o.freezeD hd nf
  refine ⟨a, u, ha, mu, nf, fun od => ?_⟩
  have kp : Kp F H (upd H a (.frz od u)) := kp_own nf ha mu
  refine ⟨by simpa using r.len, fun j y s h1 h2 => ?_, fun j k c d1 d2 h1 h2 h3 h4 => ?_, ⟨fun b w e9 => ?_, r.le.sub, r.le.new, fun b f => ?_⟩, first_set1 (fun _ => .inr fun _ z => nomatch z) r.first, r.dp.imp fun ω h => dp_rho (dp_mono h kp (fun _ z => z) fun b q eq nfb _ => ⟨upd_ne fun z => (by subst z; rw [h.2 i b _ hσ hρ] at eq; cases eq), nfb⟩) (fun _ z => nomatch z) fun _ z => nomatch z⟩
  · by_cases hj : i = j
    · subst hj
      rw [hσ] at h1
      rw [List.getElem?_set] at h2
      simp only [if_true] at h2
      split at h2
      · cases h2; cases h1
        exact ⟨_, rfl, z od⟩
      · cases h2
    · rw [List.getElem?_set_ne hj] at h2
      have q := r.sl j y s h1 h2
      cases s with
      | no => trivial
      | sh d => obtain ⟨v, e, z⟩ := q; exact ⟨v, e, z.mono kp fun _ h => h⟩
      | dp t => trivial
      | ow d2 =>
        obtain ⟨b, e, n', nf', o'⟩ := q
        subst e
        have nb : b ≠ a := fun z => by
          subst z
          exact hj (r.apart i j b _ d2 hσ hρ h1 h2)
        exact ⟨b, rfl, n', nf', o'.mono kp (fun _ h => h) fun w e => by rw [upd_ne nb]; exact e⟩
  · have e1 : i ≠ j := fun z => by
      subst z
      rw [List.getElem?_set] at h2
      simp only [if_true] at h2
      split at h2 <;> cases h2
    have e2 : i ≠ k := fun z => by
      subst z
      rw [List.getElem?_set] at h4
      simp only [if_true] at h4
      split at h4 <;> cases h4
    rw [List.getElem?_set_ne e1] at h2
    rw [List.getElem?_set_ne e2] at h4
    exact r.apart j k c d1 d2 h1 h2 h3 h4
  · have nb : b ≠ a := fun z => by subst z; rw [n] at e9; cases e9
    rw [upd_ne nb]; exact r.le.keep b w e9
  · have nb : b ≠ a := fun z => nf (z ▸ f)
    rw [upd_ne nb]; exact r.le.the b f
end
end VL

namespace VL
open PyProof.Rows PySem L2 PySem.Spec

inductive Md where
  | sh | fr | bw
noncomputable def RB (K : PySem.W.Frag) (H : Hp) (F : Fro) (v : V) (d : D) : Prop := (∃ a, v = .ref a ∧ ¬ F a ∧ Ow K H F a d) ∨ Sh K H F v d
noncomputable def Rp (K : PySem.W.Frag) (m : Md) (H H' : Hp) (F' : Fro) (v : V) (d : D) : Prop := match m with
  | .sh => Sh K H' F' v d
  | .fr => (∃ a, v = .ref a ∧ H a = none ∧ ¬ F' a ∧ Ow K H' F' a d) ∨ (d.mut = false ∧ Sh K H' F' v d)
  | .bw => RB K H' F' v d
noncomputable def Xr (G : VG) (H : Hp) (F : Fro) (cls : Value) (dd : Option Addr) (c : Str) (fs : List (Str × D)) : Prop :=
  G.mg c = some cls ∧ ∃ vs, ShL G.K H F vs (fs.map (·.2)) ∧ ((fs = [] ∧ dd = none) ∨ ∃ a, dd = some a ∧ H a = some (.xd ((fs.map (·.1)).zip vs)))
noncomputable def Out {α β : Type} (G : VG) (σ : L2.St) (H : Hp) (F : Fro) (r : R α) (S : α → β → Hp → Fro → Prop) (Q : β → Hp → Prop) : Prop := match r with
  | .ok a => ∀ b H' F', Le H F H' F' → S a b H' F' → Q b H'
  | .ex c fs => ∀ cls dd H' F', Le H F H' F' → Xr G H' F' cls dd c fs → G.W cls dd σ H'
  | .bad => False
noncomputable def tV (G : VG) (m : Md) (f : Lo → R D) : TE := fun σ H Q => ∃ ρ F, Rel G σ H ρ F ∧ Out G σ H F (f ρ) (fun d v H' F' => Rp G.K m H H' F' v d) Q
noncomputable def tT (G : VG) (f : Lo → R Bool) : TT := fun σ H Q => ∃ ρ F, Rel G σ H ρ F ∧ Out G σ H F (f ρ) (fun a b _ _ => b = a) Q
noncomputable def tA (G : VG) (f : Lo → R (List D)) : TA := fun σ H Q => ∃ ρ F, Rel G σ H ρ F ∧ Out G σ H F (f ρ) (fun ds vs H' F' => ShL G.K H' F' vs ds) Q
structure VE (X : Cx) (G : VG) (m : Md) (e : Expr) (f : Lo → R D) : Prop where
  pe : PE X e (tV G m f)
structure VT (X : Cx) (G : VG) (e : Expr) (f : Lo → R Bool) : Prop where
  pt : PT X e (tT G f)
structure VW (X : Cx) (G : VG) (e : Expr) (f : Lo → R Bool) : Prop where
  pw : PW X e (tT G f)
structure VA (X : Cx) (G : VG) (es : List Expr) (f : Lo → R (List D)) : Prop where
  pa : PA X es (tA G f)

section
variable {K : PySem.W.Frag} {G : VG} {σ : L2.St} {H H' H1 : Hp} {F F' F1 : Fro} {ρ : Lo} {m m1 m2 : Md} {v : V} {d : D}
theorem rb_of (h : Rp K m H H' F' v d) : RB K H' F' v d := by
  cases m with
  | sh => exact .inr h
  | fr =>
    rcases h with ⟨a, e, _, nf, o⟩ | ⟨_, h⟩
    · exact .inl ⟨a, e, nf, o⟩
    · exact .inr h
  | bw => exact h
theorem RB.le (h : RB K H F v d) (l : Le H F H' F') : RB K H' F' v d := by
  rcases h with ⟨a, e, nf, o⟩ | h
  · refine .inl ⟨a, e, fun f => ?_, o.mono l.kp l.sub fun u e => l.keep _ u e⟩
    rcases l.new a f with z | z
    · exact nf z
    · exact o.there z
  · exact .inr (h.le l)
theorem Rp.back (h : Rp K m H1 H' F' v d) (k : ∀ a o, H a = some o → H1 a = some o) : Rp K m H H' F' v d := by
  cases m with
  | sh => exact h
  | fr =>
    rcases h with ⟨a, e, n, nf, o⟩ | h
    · exact .inl ⟨a, e, none_of_keep k n, nf, o⟩
    · exact .inr h
  | bw => exact h
theorem Rp.le (h : Rp K m H H1 F1 v d) (l : Le H1 F1 H' F') : Rp K m H H' F' v d := by
  cases m with
  | sh => exact Sh.le h l
  | fr =>
    rcases h with ⟨a, e, n, nf, o⟩ | ⟨hm, h⟩
    · refine .inl ⟨a, e, n, fun f => ?_, o.mono l.kp l.sub fun u e => l.keep _ u e⟩
      rcases l.new a f with z | z
      · exact nf z
      · exact o.there z
    · exact .inr ⟨hm, h.le l⟩
  | bw => exact RB.le h l
theorem fr_sh (h : Rp K .fr H H1 F1 v d) (l : Le H F H1 F1) : (∃ F2, Le H F H1 F2 ∧ Sh K H1 F2 v d ∧ ∀ a, F1 a → F2 a) ∨
    ∃ a u, H1 a = some u ∧ Mut (some u) ∧ ∀ od, Le H F (upd H1 a (.frz od u)) F1 ∧ Sh K (upd H1 a (.frz od u)) F1 v d := by
  rcases h with ⟨a, e, n, nf, o⟩ | ⟨_, h⟩
  · subst e
    by_cases hd : d.isDic = true
    · obtain ⟨u, ha, mu, z⟩ := o.freezeD hd nf
      refine .inr ⟨a, u, ha, mu, fun od => ⟨⟨fun b w e => ?_, l.sub, l.new, fun b f => ?_⟩, z od⟩⟩
      · rw [upd_ne (ne_of_none e n)]; exact l.keep b w e
      · rw [upd_ne (fun z => nf (by rw [← z]; exact f))]; exact l.the b f
    · exact .inl ⟨F1.add a, le_add l n o.there, (o.mono (fun _ _ e _ => e) (fun _ h => Or.inl h) fun _ e => e).freeze (.inr rfl) (by simpa using hd), fun _ h => .inl h⟩
  · exact .inl ⟨F1, l, h, fun _ h => h⟩
variable {α β : Type} {r : R α} {S S' : α → β → Hp → Fro → Prop} {Q Q' : β → Hp → Prop}
theorem Out.le (o : Out G σ H F r S Q) (l : Le H F H1 F1) (hS : ∀ a b H' F', S' a b H' F' → S a b H' F') : Out G σ H1 F1 r S' Q := by
  cases r with
  | ok a => exact fun b H' F' l' s => o b H' F' (l.trans l') (hS _ _ _ _ s)
  | ex c fs => exact fun cls dd H' F' l' x => o cls dd H' F' (l.trans l') x
  | bad => exact o
theorem Out.mono (o : Out G σ H F r S Q) (hq : ∀ b H', Q b H' → Q' b H') : Out G σ H F r S Q' := by
  cases r with
  | ok a => exact fun b H' F' l' s => hq _ _ (o b H' F' l' s)
  | ex c fs => exact o
  | bad => exact o
theorem Out.bind {γ δ : Type} {f : R γ} {k : γ → R α} {S1 : γ → δ → Hp → Fro → Prop} {Q1 : δ → Hp → Prop} (o : Out G σ H F (f.bind k) S Q) (hS : ∀ H1 F1, Le H F H1 F1 → ∀ a b H' F', S' a b H' F' → S a b H' F')
    (h : ∀ c x H1 F1, f = .ok c → Le H F H1 F1 → S1 c x H1 F1 → (∀ {S'' : α → β → Hp → Fro → Prop}, (∀ a b H' F', S'' a b H' F' → S a b H' F') → Out G σ H1 F1 (k c) S'' Q) → Q1 x H1) : Out G σ H F f S1 Q1 := by
  cases f with
  | ok c => exact fun x H1 F1 l s => h c x H1 F1 rfl l s fun {S''} hs => Out.le (r := k c) o l hs
  | ex c fs => exact o
  | bad => exact o
end

section
variable {X : Cx} {e : Expr} {st : Stmt} {sts : List Stmt}
theorem pe_imp {t t' : TE} (h : PE X e t) (i : ∀ σ H Q, t' σ H Q → t σ H Q) : PE X e t' := ⟨fun pins s σ H Q I q => h.run pins s σ H Q I (i σ H Q q)⟩
theorem pt_imp {t t' : TT} (h : PT X e t) (i : ∀ σ H Q, t' σ H Q → t σ H Q) : PT X e t' := ⟨fun pins s σ H Q I q => h.run pins s σ H Q I (i σ H Q q)⟩
theorem pw_imp {t t' : TT} (h : PW X e t) (i : ∀ σ H Q, t' σ H Q → t σ H Q) : PW X e t' := ⟨fun w pins s σ H Q I q => h.run w pins s σ H Q I (i σ H Q q)⟩
theorem pa_imp {es : List Expr} {t t' : TA} (h : PA X es t) (i : ∀ σ H Q, t' σ H Q → t σ H Q) : PA X es t' := ⟨fun pos pins s σ H Q I q => h.run pos pins s σ H Q I (i σ H Q q)⟩
theorem ps_imp {t t' : TS} (h : PS X st t) (i : ∀ D σ H, t' D σ H → t D σ H) : PS X st t' := ⟨fun pins s σ H D I q => h.run pins s σ H D I (i D σ H q)⟩
theorem pss_imp {t t' : TS} (h : PSs X sts t) (i : ∀ D σ H, t' D σ H → t D σ H) : PSs X sts t' := ⟨fun pins s σ H D I q => h.run pins s σ H D I (i D σ H q)⟩
end

noncomputable def R.opt {α : Type} : Option α → R α
  | some a => .ok a
  | none => .bad
noncomputable def Ans (G : VG) (m : Md) (H : Hp) (F : Fro) (o : Option D) (Q : VK) : Prop := ∃ e, o = some e ∧ ∀ v H' F', Le H F H' F' → Rp G.K m H H' F' v e → Q v H'
noncomputable def Op1 (G : VG) (m : Md) (r : V → Hp → VK → Prop) (op : D → Option D) : Prop :=
  ∀ (H : Hp) (F : Fro) (x : V) (a : D) (Q : VK), The F H → RB G.K H F x a → Ans G m H F (op a) Q → r x H Q
noncomputable def Op2 (G : VG) (m : Md) (r : R2) (op : D → D → Option D) : Prop :=
  ∀ (H : Hp) (F : Fro) (x y : V) (a b : D) (Q : VK), The F H → RB G.K H F x a → RB G.K H F y b → Ans G m H F (op a b) Q → r x y H Q
section
variable {X : Cx} {G : VG} {m m1 m2 m3 : Md} {a b c : Expr} {fa fb fc : Lo → R D} {pos : Pos} {σ : L2.St} {H : Hp} {Q : VK}
noncomputable def b1 (fa : Lo → R D) (op : D → Option D) : Lo → R D := fun ρ => (fa ρ).bind fun x => R.opt (op x)
noncomputable def b2 (fa fb : Lo → R D) (op : D → D → Option D) : Lo → R D := fun ρ => (fa ρ).bind fun x => (fb ρ).bind fun y => R.opt (op x y)
theorem ans_of {F : Fro} {o : Option D} {r : R D} (e : r = R.opt o) (h : Out G σ H F r (fun d v H' F' => Rp G.K m H H' F' v d) Q) : Ans G m H F o Q := by
  subst e
  cases o with
  | some d => exact ⟨d, rfl, h⟩
  | none => exact h.elim
theorem t1_of {r : V → Hp → VK → Prop} {op : D → Option D} (ho : Op1 G m r op) (h : tV G m (b1 fa op) σ H Q) : tUn r (tV G m1 fa) σ H Q := by
  obtain ⟨ρ, F, rl, o⟩ := h
  refine ⟨ρ, F, rl, Out.bind (S' := fun d v H' F' => Rp G.K m H H' F' v d) o (fun _ _ _ _ _ _ _ h => h) fun d x H1 F1 _ l s k => ?_⟩
  exact ho H1 F1 x d Q l.the (rb_of s) (ans_of rfl (k fun d v H' F' h => h.back l.keep))
theorem t2_of {r : R2} {op : D → D → Option D} (ho : Op2 G m r op) (h : tV G m (b2 fa fb op) σ H Q) : tOp r (tV G m1 fa) (tV G m2 fb) σ H Q := by
  obtain ⟨ρ, F, rl, o⟩ := h
  refine ⟨ρ, F, rl, Out.bind (S' := fun d v H' F' => Rp G.K m H H' F' v d) o (fun _ _ _ _ _ _ _ h => h) fun d x H1 F1 _ l s k => ?_⟩
  have o1 := k (S'' := fun d v H' F' => Rp G.K m H1 H' F' v d) fun d v H' F' h => h.back l.keep
  refine ⟨ρ, F1, rl.step l, Out.bind (S' := fun d v H' F' => Rp G.K m H1 H' F' v d) o1 (fun _ _ _ _ _ _ _ h => h) fun d2 y H2 F2 _ l2 s2 k2 => ?_⟩
  exact ho H2 F2 x y d d2 Q l2.the ((rb_of s).le l2) (rb_of s2) (ans_of rfl (k2 fun d v H' F' h => h.back l2.keep))
theorem ve_op {op : Operator} {r : R2} {f : D → D → Option D} (hp : OpR X (binaryOp op) r) (ho : Op2 G m r f) (ha : VE X G m1 a fa) (hb : VE X G m2 b fb) : VE X G m (.BinOp a op b pos) (b2 fa fb f) :=
  ⟨pe_imp (pe_op hp ha.pe hb.pe) fun _ _ _ h => t2_of ho h⟩
theorem ve_un {op : UnaryOp} {r : V → Hp → VK → Prop} {f : D → Option D} (hp : UnR X (unaryOp op) r) (ho : Op1 G m r f) (ha : VE X G m1 a fa) : VE X G m (.UnaryOp op a pos) (b1 fa f) :=
  ⟨pe_imp (pe_un hp ha.pe) fun _ _ _ h => t1_of ho h⟩
theorem ve_cmp {op : CmpOp} {r : R2} {f : D → D → Option D} (hp : OpR X (compareOp op) r) (ho : Op2 G m r f) (ha : VE X G m1 a fa) (hb : VE X G m2 b fb) (hm : behindInMarks op b = false) : VE X G m (.Compare a [op] [b] pos) (b2 fa fb f) :=
  ⟨pe_imp (pe_cmpR hp ha.pe hb.pe hm) fun _ _ _ h => t2_of ho h⟩
noncomputable def tb (f : Lo → R D) : Lo → R Bool := fun ρ => (f ρ).bind fun d => match d with
  | .bl b => .ok b
  | _ => .bad
theorem tb_of {f : Lo → R D} {Q : Bool → Hp → Prop} (h : tT G (tb f) σ H Q) : tV G m f σ H (fun x H' => ∃ k, x = .bl k ∧ Q k H') := by
  obtain ⟨ρ, F, rl, o⟩ := h
  refine ⟨ρ, F, rl, Out.bind (S' := fun a b _ _ => b = a) o (fun _ _ _ _ _ _ _ h => h) fun d x H1 F1 _ l s k => ?_⟩
  have q := k (S'' := fun a b _ _ => b = a) fun _ _ _ _ h => h
  cases d with
  | bl b =>
    have e : x = .bl b := by
      rcases rb_of s with ⟨a, _, _, o⟩ | s
      · cases o
      · cases s; rfl
    exact ⟨b, e, q b H1 F1 (Le.refl l.the) rfl⟩
  | _ => exact q.elim
theorem vt_cmp {op : CmpOp} {r : R2} {f : D → D → Option D} (hp : OpR X (compareOp op) r) (ho : Op2 G .sh r f) (ha : VE X G m1 a fa) (hb : VE X G m2 b fb) (hm : behindInMarks op b = false) : VT X G (.Compare a [op] [b] pos) (tb (b2 fa fb f)) :=
  ⟨pt_imp (pt_cmpR hp ha.pe hb.pe hm) fun _ _ _ h => t2_of ho (tb_of h)⟩
theorem vt_val (ha : VE X G m a fa) (he : ∀ whole, isTrue a X.env whole = (do let v ← whole; standAt a.pos; holding [v] (truthy v)) := by intro _; rfl) : VT X G a (tb fa) :=
  ⟨pt_imp (pt_val ha.pe he) fun _ _ _ h => tb_of h⟩
end
end VL

namespace VL
open PyProof.Rows PySem L2 PySem.Spec

section
variable {X : Cx} {G : VG} {m : Md} {pos : Pos} {σ : L2.St} {H : Hp} {Q : VK}
noncomputable def eV (i : Nat) : Lo → R D := fun ρ => match ρ[i]? with
  | some (.sh d) => .ok d
  | _ => .bad
noncomputable def eC (d : D) : Lo → R D := fun _ => .ok d
theorem Rel.at {ρ : Lo} {F : Fro} (r : Rel G σ H ρ F) {i : Nat} {s : Sl} (e : ρ[i]? = some s) : ∃ x, σ[i]? = some x ∧ RSl G H F x s := by
  have hi : i < σ.length := by rw [r.len]; exact (List.getElem?_eq_some_iff.mp e).1
  exact ⟨σ[i], List.getElem?_eq_getElem hi, r.sl i _ s (List.getElem?_eq_getElem hi) e⟩
theorem eV_of {i : Nat} (h : tV G .sh (eV i) σ H Q) : tVar i σ H Q := by
  obtain ⟨ρ, F, rl, o⟩ := h
  unfold eV at o
  split at o
  · rename_i d e
    obtain ⟨x, ex, v, ev, s⟩ := rl.at e
    subst ev
    exact ⟨v, ex, o v H F (Le.refl rl.le.the) s⟩
  · exact o.elim
theorem vv (i : Nat) {x : Str} (hN : X.N[i]? = some x := by rfl) (hv : Vis X.env.scope x := by first | exact Or.inl rfl | exact Or.inr (Or.inl rfl) | exact Or.inr (Or.inr rfl)) (hd : (x == ("__debug__" : Str)) = false := by decide)
    (hcd : (x == ("__classdict__" : Str)) = false := by decide) : VE X G .sh (.Name x pos) (eV i) := ⟨pe_imp (pe_var hN hv hd hcd) fun _ _ _ h => eV_of h⟩
theorem eC_of {d : D} {v : V} (hs : ∀ H F, Sh G.K H F v d) (hm : d.mut = false) (h : tV G m (eC d) σ H Q) : tC v σ H Q := by
  obtain ⟨ρ, F, rl, o⟩ := h
  refine o v H F (Le.refl rl.le.the) ?_
  cases m with
  | sh => exact hs _ _
  | fr => exact .inr ⟨hm, hs _ _⟩
  | bw => exact .inr (hs _ _)
theorem vi {i j} : VE X G m (.Constant (.int i) j pos) (eC (.int i)) := ⟨pe_imp pe_int fun _ _ _ h => eC_of (fun _ _ => .int i) rfl h⟩
theorem vbl {b j} : VE X G m (.Constant (.bool b) j pos) (eC (.bl b)) := ⟨pe_imp pe_bl fun _ _ _ h => eC_of (fun _ _ => .bl b) rfl h⟩
theorem vn {j} : VE X G m (.Constant .none j pos) (eC .non) := ⟨pe_imp pe_non fun _ _ _ h => eC_of (fun _ _ => .non) rfl h⟩
theorem vs {x j} : VE X G m (.Constant (.str x) j pos) (eC (.str x)) := ⟨pe_imp pe_str fun _ _ _ h => eC_of (fun _ _ => .str x) rfl h⟩
end

section
variable {X : Cx} {G : VG} {m : Md} {e : Expr} {f : Lo → R D}
theorem ve_fs (h : VE X G .fr e f) : VE X G .sh e f := ⟨⟨fun pins s σ H Q I ⟨ρ, F, rl, o⟩ => by
  revert o
  cases ef : f ρ with
  | ok d =>
    intro o
    refine thn (h.pe.run pins s σ H (fun v H' => ∃ F', Le H F H' F' ∧ Rp G.K .fr H H' F' v d) I ⟨ρ, F, rl, by rw [ef]; exact fun v H' F' l r => ⟨F', l, r⟩⟩) fun u s1 ⟨v, H1, I1, rv, F1, l, r⟩ => ?_
    rcases fr_sh r l with ⟨F2, l2, s2, _⟩ | ⟨a, u', ha, mu, z⟩
    · exact ⟨v, H1, I1, rv, o v H1 F2 l2 s2⟩
    · obtain ⟨od, I2⟩ := I1.lock ha mu
      obtain ⟨l2, s2⟩ := z od
      exact ⟨v, _, I2, rv, o v _ F1 l2 s2⟩
  | ex c fs => exact fun o => h.pe.run pins s σ H Q I ⟨ρ, F, rl, by rw [ef]; exact o⟩
  | bad => exact fun o => o.elim⟩⟩
end

section
variable {X : Cx} {G : VG} {m m1 m2 : Md} {a b c : Expr} {rest : List Expr} {fa fb : Lo → R D} {ga gb gc : Lo → R Bool} {pos : Pos} {σ : L2.St} {H : Hp}
noncomputable def tAndB (f g : Lo → R Bool) : Lo → R Bool := fun ρ => (f ρ).bind fun b => if b = true then g ρ else .ok false
noncomputable def tOrB (f g : Lo → R Bool) : Lo → R Bool := fun ρ => (f ρ).bind fun b => if b = true then .ok true else g ρ
noncomputable def tNotB (f : Lo → R Bool) : Lo → R Bool := fun ρ => (f ρ).bind fun b => .ok (!b)
theorem vw_and1 (h : VT X G a ga) : VW X G (.BoolOp .And [a] pos) ga := ⟨pw_and1 h.pt⟩
theorem vw_or1 (h : VT X G a ga) : VW X G (.BoolOp .Or [a] pos) ga := ⟨pw_or1 h.pt⟩
theorem VW.vt (h : VW X G a ga) : VT X G a ga := ⟨h.pw.pt⟩
theorem vw_and (ha : VT X G a ga) (hb : VW X G (.BoolOp .And (b :: rest) pos) gb) : VW X G (.BoolOp .And (a :: b :: rest) pos) (tAndB ga gb) := ⟨pw_imp (pw_and ha.pt hb.pw) fun σ H Q ⟨ρ, F, rl, o⟩ => by
  refine ⟨ρ, F, rl, Out.bind (S' := fun a b _ _ => b = a) o (fun _ _ _ _ _ _ _ h => h) fun d x H1 F1 _ l s k => ?_⟩
  subst s
  have q := k (S'' := fun a b _ _ => b = a) fun _ _ _ _ h => h
  cases x with
  | true => exact ⟨ρ, F1, rl.step l, q⟩
  | false => exact q false H1 F1 (Le.refl l.the) rfl⟩
theorem vw_or (ha : VT X G a ga) (hb : VW X G (.BoolOp .Or (b :: rest) pos) gb) : VW X G (.BoolOp .Or (a :: b :: rest) pos) (tOrB ga gb) := ⟨pw_imp (pw_or ha.pt hb.pw) fun σ H Q ⟨ρ, F, rl, o⟩ => by
  refine ⟨ρ, F, rl, Out.bind (S' := fun a b _ _ => b = a) o (fun _ _ _ _ _ _ _ h => h) fun d x H1 F1 _ l s k => ?_⟩
  subst s
  have q := k (S'' := fun a b _ _ => b = a) fun _ _ _ _ h => h
  cases x with
  | true => exact q true H1 F1 (Le.refl l.the) rfl
  | false => exact ⟨ρ, F1, rl.step l, q⟩⟩
theorem vt_not (ha : VT X G a ga) : VT X G (.UnaryOp .Not a pos) (tNotB ga) := ⟨pt_imp (pt_not ha.pt) fun σ H Q ⟨ρ, F, rl, o⟩ => by
  refine ⟨ρ, F, rl, Out.bind (S' := fun a b _ _ => b = a) o (fun _ _ _ _ _ _ _ h => h) fun d x H1 F1 _ l s k => ?_⟩
  subst s
  exact k (S'' := fun a b _ _ => b = a) (fun _ _ _ _ h => h) (!x) H1 F1 (Le.refl l.the) rfl⟩
theorem rp_bl {K : PySem.W.Frag} {H H' : Hp} {F' : Fro} (b : Bool) : Rp K m H H' F' (.bl b) (.bl b) := by
  cases m with
  | sh => exact .bl b
  | fr => exact .inr ⟨rfl, .bl b⟩
  | bw => exact .inr (.bl b)
end

section
variable {X : Cx} {G : VG} {m m1 m2 : Md} {e : Expr} {es : List Expr} {fa : Lo → R D} {ft : Lo → R (List D)} {pos : Pos}
noncomputable def aNil : Lo → R (List D) := fun _ => .ok []
noncomputable def aCons (f : Lo → R D) (g : Lo → R (List D)) : Lo → R (List D) := fun ρ => (f ρ).bind fun d => (g ρ).bind fun ds => .ok (d :: ds)
theorem va_nil : VA X G [] aNil := ⟨pa_imp pa_nil fun σ H Q ⟨ρ, F, rl, o⟩ => o [] H F (Le.refl rl.le.the) .nil⟩
theorem va_cons (ha : VE X G .sh e fa) (hr : VA X G es ft) (hs : starEach (e :: es) X.env = (false, eval e X.env) :: starEach es X.env := by rfl) : VA X G (e :: es) (aCons fa ft) := ⟨pa_imp (pa_cons ha.pe hr.pa hs) fun σ H Q ⟨ρ, F, rl, o⟩ => by
  refine ⟨ρ, F, rl, Out.bind (S' := fun ds vs H' F' => ShL G.K H' F' vs ds) o (fun _ _ _ _ _ _ _ h => h) fun d x H1 F1 _ l s k => ?_⟩
  have o1 := k (S'' := fun ds vs H' F' => ShL G.K H' F' vs ds) fun _ _ _ _ h => h
  refine ⟨ρ, F1, rl.step l, Out.bind (S' := fun ds vs H' F' => ShL G.K H' F' vs ds) o1 (fun _ _ _ _ _ _ _ h => h) fun ds xs H2 F2 _ l2 s2 k2 => ?_⟩
  exact k2 (S'' := fun ds vs H' F' => ShL G.K H' F' vs ds) (fun _ _ _ _ h => h) _ H2 F2 (Le.refl l2.the) (.cons (Sh.le s l2) s2)⟩
noncomputable def fits (n : Nat) : Bool := decide (n ≤ 16777216)
theorem fits_line {n : Nat} (h : fits n = true) : n ≤ sizeLine := by
  have := of_decide_eq_true h
  have e : sizeLine = 16777216 := sizeLine_eq
  (first | lia | omega)
noncomputable def eTup (f : Lo → R (List D)) : Lo → R D := fun ρ => (f ρ).bind fun ds => if fits ds.length = true then .ok (.tup ds) else .bad
noncomputable def eLst (f : Lo → R (List D)) : Lo → R D := fun ρ => (f ρ).bind fun ds => if fits ds.length = true then .ok (.lst ds) else .bad
theorem le_new {H : Hp} {F : Fro} {p : Addr} {o : HO} (t : The F H) (h : H p = none) : Le H F (upd H p o) F :=
  ⟨fun a u e => by rw [upd_ne (ne_of_none e h)]; exact e, fun _ h => h, fun _ h => .inl h, fun a f => by
    by_cases ha : a = p
    · subst ha; rw [upd_same]; simp
    · rw [upd_ne ha]; exact t a f⟩
theorem rp_tup {K : PySem.W.Frag} {H H' : Hp} {F' : Fro} {v : V} {ds : List D} (h : Sh K H' F' v (.tup ds)) : Rp K m H H' F' v (.tup ds) := by
  cases m with
  | sh => exact h
  | fr => exact .inr ⟨rfl, h⟩
  | bw => exact .inr h
theorem ans_lst {G : VG} {m : Md} {H : Hp} {F : Fro} {vs : List V} {ds : List D} {p : Addr} (t : The F H) (h : H p = none) (s : ShL G.K H F vs ds) :
    ∃ F', Le H F (upd H p (.lst vs)) F' ∧ Rp G.K m H (upd H p (.lst vs)) F' (.ref p) (.lst ds) ∧ ∀ a, F a → F' a := by
  have l := le_new (o := .lst vs) t h
  have np : ¬ F p := fun z => t p z h
  have w : Ow G.K (upd H p (.lst vs)) F p (.lst ds) := .lst upd_same (s.le l)
  cases m with
  | fr => exact ⟨F, l, .inl ⟨p, rfl, h, np, w⟩, fun _ h => h⟩
  | bw => exact ⟨F, l, .inl ⟨p, rfl, np, w⟩, fun _ h => h⟩
  | sh => exact ⟨F.add p, le_add l h w.there, (w.mono (fun _ _ e _ => e) (fun _ h => Or.inl h) fun _ e => e).freeze (.inr rfl) rfl, fun _ h => .inl h⟩
theorem ve_tup {x1} (ha : VA X G es ft) : VE X G m (.Tuple es x1 pos) (eTup ft) := ⟨pe_imp (pe_tup ha.pa) fun σ H Q ⟨ρ, F, rl, o⟩ => by
  refine ⟨ρ, F, rl, Out.bind (S' := fun d v H' F' => Rp G.K m H H' F' v d) o (fun _ _ _ _ _ _ _ h => h) fun ds vs H1 F1 _ l s k => ?_⟩
  have q := k (S'' := fun d v H' F' => Rp G.K m H1 H' F' v d) fun d v H' F' h => h.back l.keep
  by_cases hf : fits ds.length = true
  · rw [if_pos hf] at q
    refine ⟨by rw [s.length]; exact fits_line hf, fun p hp => ?_⟩
    have l2 := le_new (o := .tup vs) l.the hp
    exact q (.ref p) _ F1 l2 (rp_tup (.tup upd_same (s.le l2)))
  · rw [if_neg hf] at q; exact q.elim⟩
theorem ve_lst (ha : VA X G es ft) : VE X G m (.List es pos) (eLst ft) := ⟨pe_imp (pe_lst ha.pa) fun σ H Q ⟨ρ, F, rl, o⟩ => by
  refine ⟨ρ, F, rl, Out.bind (S' := fun d v H' F' => Rp G.K m H H' F' v d) o (fun _ _ _ _ _ _ _ h => h) fun ds vs H1 F1 _ l s k => ?_⟩
  have q := k (S'' := fun d v H' F' => Rp G.K m H1 H' F' v d) fun d v H' F' h => h.back l.keep
  by_cases hf : fits ds.length = true
  · rw [if_pos hf] at q
    refine ⟨by rw [s.length]; exact fits_line hf, fun p hp => ?_⟩
    obtain ⟨F2, l2, r2, _⟩ := ans_lst (m := m) l.the hp s
    exact q (.ref p) _ F2 l2 r2
  · rw [if_neg hf] at q; exact q.elim⟩
theorem ve_b1 {x : Str} {p : Pos} {id : String} {r : List V → Hp → VK → Prop} {f : D → Option D} (hc : CallR X (.builtin id) r) (ho : Op1 G m (fun x => r [x]) f) (hg : Gl X x) (hm : X.mg x = none) (hv : bootBuiltins x = some (.builtin id)) (ha : VE X G m1 e fa)
    (hn : x ≠ "__name__" := by decide) (hdb : (x == ("__debug__" : Str)) = false := by decide)
    (he : starEach [e] X.env = (false, eval e X.env) :: starEach [] X.env := by rfl) : VE X G m (.Call (.Name x p) [e] [] pos) (b1 fa f) :=
  ⟨pe_imp (pe_callB hc hg hm hv (pa_cons ha.pe pa_nil he) hn hdb he rfl) fun _ _ _ h => t1_of (m1 := m1) ho h⟩
theorem ve_ty1 {x : Str} {p : Pos} {T : String} {r : List V → Hp → VK → Prop} {f : D → Option D} (hc : CallR X (.type T) r) (ho : Op1 G m (fun x => r [x]) f) (hg : Gl X x) (hm : X.mg x = none) (hv : bootBuiltins x = some (.type T)) (ha : VE X G m1 e fa)
    (hn : x ≠ "__name__" := by decide) (hdb : (x == ("__debug__" : Str)) = false := by decide)
    (he : starEach [e] X.env = (false, eval e X.env) :: starEach [] X.env := by rfl) : VE X G m (.Call (.Name x p) [e] [] pos) (b1 fa f) :=
  ⟨pe_imp (pe_callTy hc hg hm hv (pa_cons ha.pe pa_nil he) hn hdb he rfl) fun _ _ _ h => t1_of (m1 := m1) ho h⟩
theorem ve_b2 {x : Str} {p : Pos} {id : String} {e2 : Expr} {fb : Lo → R D} {r : List V → Hp → VK → Prop} {f : D → D → Option D} (hc : CallR X (.builtin id) r) (ho : Op2 G m (fun x y => r [x, y]) f) (hg : Gl X x) (hm : X.mg x = none) (hv : bootBuiltins x = some (.builtin id))
    (ha : VE X G m1 e fa) (hb : VE X G m2 e2 fb)
    (hn : x ≠ "__name__" := by decide) (hdb : (x == ("__debug__" : Str)) = false := by decide)
    (he : starEach [e, e2] X.env = (false, eval e X.env) :: starEach [e2] X.env := by rfl) (he2 : starEach [e2] X.env = (false, eval e2 X.env) :: starEach [] X.env := by rfl) (hpl : (backTo pos (starEach [e2] X.env)).any (·.1) = false := by rfl) :
    VE X G m (.Call (.Name x p) [e, e2] [] pos) (b2 fa fb f) :=
  ⟨pe_imp (pe_callB hc hg hm hv (pa_cons ha.pe (pa_cons hb.pe pa_nil he2) he) hn hdb he hpl) fun _ _ _ h => t2_of (m1 := m1) (m2 := m2) ho h⟩
end
end VL

namespace VL
open PyProof.Rows PySem L2 PySem.Spec

section
variable {K : PySem.W.Frag} {H H' : Hp} {F F' : Fro} {v : V} {m : Md}
theorem rb_int {i : Int} (h : RB K H F v (.int i)) : v = .int i := by
  rcases h with ⟨a, _, _, o⟩ | h
  · cases o
  · cases h; rfl
theorem rb_bl {i : Bool} (h : RB K H F v (.bl i)) : v = .bl i := by
  rcases h with ⟨a, _, _, o⟩ | h
  · cases o
  · cases h; rfl
theorem rb_str {i : Str} (h : RB K H F v (.str i)) : v = .str i := by
  rcases h with ⟨a, _, _, o⟩ | h
  · cases o
  · cases h; rfl
theorem rb_non (h : RB K H F v .non) : v = .non := by
  rcases h with ⟨a, _, _, o⟩ | h
  · cases o
  · cases h; rfl
theorem rb_lst {ds : List D} (h : RB K H F v (.lst ds)) : ∃ a xs, v = .ref a ∧ LsV K H a xs ∧ ShL K H F xs ds := by
  rcases h with ⟨a, e, _, o⟩ | h
  · cases o with
    | lst h r => exact ⟨a, _, e, .inl h, r⟩
  · cases h with
    | lst h r => exact ⟨_, _, rfl, h.ls, r⟩
theorem rb_tupT {ds : List D} (h : RB K H F v (.tup ds)) : ∃ a xs, v = .ref a ∧ H a = some (.tup xs) ∧ ShL K H F xs ds := by
  rcases h with ⟨a, e, _, o⟩ | h
  · cases o
  · cases h with
    | tup h r => exact ⟨_, _, rfl, h, r⟩
theorem rb_tup {ds : List D} (h : RB K H F v (.tup ds)) : ∃ a xs, v = .ref a ∧ SqT K H a xs ∧ ShL K H F xs ds := by
  obtain ⟨a, xs, e, h, r⟩ := rb_tupT h
  exact ⟨a, xs, e, .inl (.inl h), r⟩
theorem rb_ctp {ds : List D} (h : RB K H F v (.ctp ds)) : ∃ a xs, v = .ref a ∧ SqT K H a xs ∧ ShL K H F xs ds := by
  rcases h with ⟨a, e, _, o⟩ | h
  · cases o
  · cases h with
    | ctp h r => exact ⟨_, _, rfl, h, r⟩
theorem rb_dic {es : List (D × D)} (h : RB K H F v (.dic es)) : ∃ a kvs ds, v = .ref a ∧ Rd H a (.dK kvs) ∧ ShL K H F (kvs.map (·.2)) ds ∧ es = (kvs.map fun p => kD p.1).zip ds := by
  rcases h with ⟨a, e, _, o⟩ | h
  · cases o with
    | dic h r => exact ⟨a, _, _, e, .inl h, r, rfl⟩
  · cases h with
    | dic h r => exact ⟨_, _, _, rfl, .inr ⟨_, h⟩, r, rfl⟩
noncomputable def NotX (K : PySem.W.Frag) (c : Str) : Prop := ∀ C, PySem.W.nsIn K mainGlobals c = some (some (.ref C)) → PySem.W.findIn K (.ref C) "__getattribute__" ≠ some (some (.builtin "BaseException.__getattribute__"))
theorem rp_int (i : Int) : Rp K m H H' F' (.int i) (.int i) := by
  cases m with
  | sh => exact .int i
  | fr => exact .inr ⟨rfl, .int i⟩
  | bw => exact .inr (.int i)
theorem rp_str (i : Str) : Rp K m H H' F' (.str i) (.str i) := by
  cases m with
  | sh => exact .str i
  | fr => exact .inr ⟨rfl, .str i⟩
  | bw => exact .inr (.str i)
end

mutual
noncomputable def py : D → PyData
  | .non => .none
  | .bl b => .bool b
  | .int i => .int i
  | .str x => .str x
  | .lst xs => .list (pyL xs)
  | .tup xs => .tuple (pyL xs)
  | .dic _ => .dict []
  | .obj _ _ => .dict []
  | .tdc _ => .dict []
  | .ctp xs => .tuple (pyL xs)
noncomputable def pyL : List D → List PyData
  | [] => []
  | d :: ds => py d :: pyL ds
end
noncomputable def D.sha (d : D) : Bool := SeqAt.shaped (py d)
section
variable {K : PySem.W.Frag} {H : Hp} {F : Fro}
theorem Sh.dp {v : V} {d : D} (h : Sh K H F v d) : (py d).canLay0 = true → Dp K H v (py d) :=
  Sh.rec (motive_1 := fun v d _ => (py d).canLay0 = true → Dp K H v (py d)) (motive_2 := fun vs ds _ => PyData.canLayAll0 (pyL ds) = true → DpAll K H vs (pyL ds)) (fun _ => .non) (fun b _ => .bl b) (fun i _ => .int i) (fun x _ => .str x) (fun h _ r c => .lst h.sql (r c))
    (fun h _ r c => .tup (.inl (.inl h)) (r c)) (fun h _ r c => .tup h (r c)) (fun _ _ _ c => Bool.noConfusion c) (fun _ _ _ _ _ c => Bool.noConfusion c) (fun _ _ _ _ _ _ _ c => Bool.noConfusion c) (fun _ _ _ c => Bool.noConfusion c) (fun _ => .nil)
    (fun _ _ h r c => .cons (h (Bool.and_eq_true_iff.mp c).1) (r (Bool.and_eq_true_iff.mp c).2)) h
theorem ShL.dp {vs : List V} {ds : List D} (h : ShL K H F vs ds) (c : PyData.canLayAll0 (pyL ds) = true) : DpAll K H vs (pyL ds) := by
  induction ds generalizing vs with
  | nil => cases h; exact .nil
  | cons d ds ih => rcases h with _ | ⟨h, r⟩; exact .cons (Sh.dp h (Bool.and_eq_true_iff.mp c).1) (ih r (Bool.and_eq_true_iff.mp c).2)
theorem RB.dp {v : V} {d : D} (h : RB K H F v d) (c : d.sha = true) : Dp K H v (py d) := by
  have c0 : (py d).canLay0 = true := SeqAt.canLay_of_shaped c
  rcases h with ⟨a, e, _, o⟩ | h
  · subst e
    cases o with
    | lst h r => exact .lst (.inl (.inl h)) (ShL.dp r (by simpa [py, PyData.canLay0] using c0))
    | dic h r => simp [py, PyData.canLay0] at c0
    | obj h _ r => simp [py, PyData.canLay0] at c0
    | tdc h r => simp [py, PyData.canLay0] at c0
  · exact h.dp c0
end
noncomputable def D.eqv (a b : D) : Bool := PyData.eqv (py a) (py b)

noncomputable def opAdd : D → D → Option D
  | .int i, .int j => some (.int (i + j))
  | .str x, .str y => if fits (x.length + y.length) = true then some (.str (x ++ y)) else none
  | .lst xs, .lst ys => if fits (xs.length + ys.length) = true then some (.lst (xs ++ ys)) else none
  | .tup xs, .tup ys => if fits (xs.length + ys.length) = true then some (.tup (xs ++ ys)) else none
  | .tup xs, .ctp ys => if fits (xs.length + ys.length) = true then some (.ctp (xs ++ ys)) else none
  | .ctp xs, .tup ys => if fits (xs.length + ys.length) = true then some (.ctp (xs ++ ys)) else none
  | .ctp xs, .ctp ys => if fits (xs.length + ys.length) = true then some (.ctp (xs ++ ys)) else none
  | _, _ => none
noncomputable def opSub : D → D → Option D
  | .int i, .int j => some (.int (i - j))
  | _, _ => none
noncomputable def small64 (i : Int) : Bool := decide (-(2 ^ 64) < i ∧ i < 2 ^ 64)
noncomputable def opMul : D → D → Option D
  | .int i, .int j => if (small64 i || small64 j) = true then some (.int (i * j)) else none
  | _, _ => none
noncomputable def opDiv : D → D → Option D
  | .int i, .int j => if decide (0 < j ∧ j < 1073741824) = true then some (.int (i / j)) else none
  | _, _ => none
noncomputable def opMod : D → D → Option D
  | .int i, .int j => if decide (0 < j) = true then some (.int (i % j)) else none
  | _, _ => none
noncomputable def opPow : D → D → Option D
  | .int i, .int j => if decide (0 ≤ j ∧ j ≤ 1000000 ∧ i.natAbs < 2 ^ 64) = true then some (.int (i ^ j.toNat)) else none
  | _, _ => none
noncomputable def opNeg : D → Option D
  | .int i => some (.int (-i))
  | _ => none
noncomputable def twoS : D → D → Bool
  | .str _, .str _ => true
  | _, _ => false
noncomputable def emT : D → D → Bool
  | .tup xs, .tup ys => xs.isEmpty || ys.isEmpty
  | _, _ => false
noncomputable def emL : D → D → Bool
  | .lst xs, .lst ys => xs.isEmpty || ys.isEmpty
  | _, _ => false
noncomputable def opEq (a b : D) : Option D := if ((((a.sha && b.sha) || twoS a b) || emT a b) || emL a b) = true then some (.bl (a.eqv b)) else none
noncomputable def opNe (a b : D) : Option D := if ((a.sha && b.sha) || twoS a b) = true then some (.bl (!a.eqv b)) else none
noncomputable def opLt : D → D → Option D
  | .int i, .int j => some (.bl (decide (i < j)))
  | _, _ => none
noncomputable def opGt : D → D → Option D
  | .int i, .int j => some (.bl (decide (j < i)))
  | _, _ => none
noncomputable def opGe : D → D → Option D
  | .int i, .int j => some (.bl (decide (j ≤ i)))
  | _, _ => none
noncomputable def oneSign (x : Str) : Option Nat := match x.cps.toList with
  | [c] => some c
  | _ => none
noncomputable def isIn (a : D) : D → Option Bool
  | .str z => match a with
    | .str x => (oneSign x).map fun c => decide (c ∈ z.cps.toList)
    | _ => none
  | .lst ds => if (a.sha && (D.lst ds).sha) = true then some (ds.any fun z => z.eqv a) else none
  | .tup ds => if (a.sha && (D.tup ds).sha) = true then some (ds.any fun z => z.eqv a) else none
  | .ctp ds => if (a.sha && (D.tup ds).sha) = true then some (ds.any fun z => z.eqv a) else none
  | _ => none
noncomputable def opIn (a b : D) : Option D := (isIn a b).map D.bl
section
variable {X : Cx} {pins : List (Addr × Obj)} {σ : L2.St} {H : Hp} {s : Shared} {a : Addr} {xs : List V}
theorem inv_ls (I : Inv X pins σ H s) (h : LsV X.K H a xs) : xs.length ≤ sizeLine ∧ ∃ (its : List Value) (n : Nat), Vals xs its ∧ s.heap.get? a = some { cls := .type "list", data := .seq its.toArray n } := by
  rcases h with h | ⟨its, n, h⟩ | ⟨its, n, h, z, r⟩
  · obtain ⟨z, its, n, r, e⟩ := I.hok a _ h
    exact ⟨z, its, n, r, e⟩
  · obtain ⟨e, z, js, k, r, e2⟩ := I.hok a _ h
    rw [e] at e2
    have e3 := Option.some.inj e2
    injection e3 with _ _ e4 _
    injection e4 with e5 _
    exact ⟨z, js, n, r, by rw [← e5]; exact e⟩
  · refine ⟨?_, its.toList, n, r, ?_⟩
    · have q := r.length
      simp only [Array.length_toList] at q
      (first | lia | omega)
    · exact I.kIn a _ h
noncomputable def rCatL (K : PySem.W.Frag) : R2 := fun x y H Q => ∃ a b xs ys, x = .ref a ∧ y = .ref b ∧ LsV K H a xs ∧ LsV K H b ys ∧ xs.length + ys.length ≤ sizeLine ∧ ∀ p, H p = none → Q (.ref p) (upd H p (.lst (xs ++ ys)))
theorem op_catL : OpR X (binaryOp .Add) (rCatL X.K) := by
  intro pins s σ H x y v u Q I r1 r2 ⟨a, b, xs, ys, e1, e2, h1, h2, hz, q⟩
  subst e1 e2
  cases r1
  cases r2
  obtain ⟨z1, i1, n1, v1, g1⟩ := inv_ls I h1
  obtain ⟨z2, i2, n2, v2, g2⟩ := inv_ls I h2
  have k1 := v1.length
  have k2 := v2.length
  refine PySem.P.add_list g1 g2 ?_ (by simp only [List.size_toArray]; (first | lia | omega))
  rw [show i1.toArray ++ i2.toArray = (i1 ++ i2).toArray from List.append_toArray _ _]
  exact ⟨.ref _, _, I.lnew (t' := s.toks) (v1.append v2) (by simp only [List.length_append]; (first | lia | omega)), rfl, q _ I.fresh⟩
noncomputable def rInT (K : PySem.W.Frag) (neg : Bool) : R2 := fun x y H Q => ∃ d ds, Dp K H x d ∧ Dp K H y (.tuple ds) ∧ SeqAt.shaped d = true ∧ SeqAt.shaped (.tuple ds) = true ∧ Q (.bl (if neg then !ds.any fun z => PyData.eqv z d else ds.any fun z => PyData.eqv z d)) H
theorem op_inT (hu : X.A.units + 65 < cLine) : OpR X (compareOp .In) (rInT X.K false) := by
  intro pins s σ H x y v u Q I r1 r2 ⟨d, ds, hd, he, sd, se, q⟩
  obtain ⟨a1, q1⟩ := Dp.reads I d x v hd r1
  obtain ⟨a2, q2⟩ := Dp.reads I (.tuple ds) y u he r2
  exact SeqAt.in_tuple_reads q2 q1 (SeqAt.canLay_of_shaped se) (SeqAt.canLay_of_shaped sd) (room_in_shaped sd hu) ⟨.bl _, H, I, rfl, q⟩
end
section
variable {G : VG} {H : Hp} {F : Fro} {m : Md} {Q : VK}
theorem ans_ok {H : Hp} {F : Fro} {e : D} {v : V} (t : The F H) (h : Ans G m H F (some e) Q) (r : Rp G.K m H H F v e) : Q v H := by
  obtain ⟨e', h1, h2⟩ := h
  cases h1
  exact h2 v H F (Le.refl t) r
theorem ans_no (h : Ans G m H F none Q) : False := by
  obtain ⟨_, h1, _⟩ := h
  cases h1
theorem ans_if {c : Bool} {e : D} (h : Ans G m H F (if c = true then some e else none) Q) : c = true ∧ Ans G m H F (some e) Q := by
  cases c with
  | true => exact ⟨rfl, h⟩
  | false => exact (ans_no h).elim
theorem ans_new {e : List D} {xs : List V} (t : The F H) (s : ShL G.K H F xs e) (h : Ans G m H F (some (.lst e)) Q) : ∀ p, H p = none → Q (.ref p) (upd H p (.lst xs)) := fun p hp => by
  obtain ⟨e', h1, h2⟩ := h
  cases h1
  obtain ⟨F', l, r, _⟩ := ans_lst (m := m) t hp s
  exact h2 _ _ F' l r
theorem ans_newT {e : List D} {xs : List V} (t : The F H) (s : ShL G.K H F xs e) (h : Ans G m H F (some (.tup e)) Q) : ∀ p, H p = none → Q (.ref p) (upd H p (.tup xs)) := fun p hp => by
  obtain ⟨e', h1, h2⟩ := h
  cases h1
  have l := le_new (o := .tup xs) t hp
  exact h2 _ _ F l (rp_tup (.tup upd_same (s.le l)))
noncomputable def rAdd2 (K : PySem.W.Frag) : R2 := fun x y H Q => (rI0 (fun i j => .int (i + j)) x y H Q ∨ (∃ i j, x = .str i ∧ y = .str j ∧ i.length + j.length ≤ sizeLine ∧ Q (.str (i ++ j)) H)) ∨ (rCatL K x y H Q ∨ rCatA K x y H Q)
theorem or_add {X : Cx} : OpR X (binaryOp .Add) (rAdd2 X.K) := (op_add.or op_add_str).or (op_catL.or op_catA)
theorem rp_ctp {K : PySem.W.Frag} {H H' : Hp} {F' : Fro} {v : V} {ds : List D} (h : Sh K H' F' v (.ctp ds)) : Rp K m H H' F' v (.ctp ds) := by
  cases m with
  | sh => exact h
  | fr => exact .inr ⟨rfl, h⟩
  | bw => exact .inr h
theorem ans_newC {e : List D} {xs : List V} (t : The F H) (s : ShL G.K H F xs e) (h : Ans G m H F (some (.ctp e)) Q) : ∀ p, H p = none → Q (.ref p) (upd H p (.tup xs)) := fun p hp => by
  obtain ⟨e', h1, h2⟩ := h
  cases h1
  have l := le_new (o := .tup xs) t hp
  exact h2 _ _ F l (rp_ctp (.ctp (.inl (.inl upd_same)) (s.le l)))
theorem add_ctp {xs ys : List V} {ds es : List D} {p q : Addr} {Q} (t : The F H) (la : SqT G.K H p xs) (sa : ShL G.K H F xs ds) (lb : SqT G.K H q ys) (sb : ShL G.K H F ys es) (hf : fits (ds.length + es.length) = true) (h : Ans G m H F (some (.ctp (ds ++ es))) Q) : rCatA G.K (.ref p) (.ref q) H Q := by
  refine ⟨p, q, xs, ys, rfl, rfl, la, lb, by rw [sa.length, sb.length]; exact fits_line hf, fun e => ?_, fun n e => ?_, fun _ _ => ans_newC t (sa.append sb) h⟩
  · subst e
    cases sa
    exact ans_ok t h (rp_ctp (.ctp lb sb))
  · subst e
    cases sb
    exact ans_ok t h (rp_ctp (.ctp la (by rw [List.append_nil]; exact sa)))
theorem o2_add : Op2 G m (rAdd2 G.K) opAdd := by
  intro H F x y a b Q t ra rb h
  cases a <;> cases b <;> first
    | exact (ans_no h).elim
    | skip
  · exact .inl (.inl ⟨_, _, rb_int ra, rb_int rb, ans_ok t h (rp_int _)⟩)
  · obtain ⟨hf, h⟩ := ans_if h
    exact .inl (.inr ⟨_, _, rb_str ra, rb_str rb, fits_line hf, ans_ok t h (rp_str _)⟩)
  · obtain ⟨hf, h⟩ := ans_if h
    obtain ⟨a, xs, ea, la, sa⟩ := rb_lst ra
    obtain ⟨b, ys, eb, lb, sb⟩ := rb_lst rb
    exact .inr (.inl ⟨a, b, xs, ys, ea, eb, la, lb, by rw [sa.length, sb.length]; exact fits_line hf, ans_new t (sa.append sb) h⟩)
  · obtain ⟨hf, h⟩ := ans_if h
    obtain ⟨a, xs, ea, la, sa⟩ := rb_tupT ra
    obtain ⟨b, ys, eb, lb, sb⟩ := rb_tupT rb
    subst ea eb
    refine .inr (.inr ⟨a, b, xs, ys, rfl, rfl, .inl (.inl la), .inl (.inl lb), by rw [sa.length, sb.length]; exact fits_line hf, fun e => ?_, fun n e => ?_, fun _ _ => ans_newT t (sa.append sb) h⟩)
    · subst e
      cases sa
      exact ans_ok t h (rp_tup (.tup lb sb))
    · subst e
      cases sb
      exact ans_ok t h (rp_tup (.tup la (by rw [List.append_nil]; exact sa)))
  · obtain ⟨hf, h⟩ := ans_if h
    obtain ⟨a, xs, ea, la, sa⟩ := rb_tup ra
    obtain ⟨b, ys, eb, lb, sb⟩ := rb_ctp rb
    subst ea eb
    exact .inr (.inr (add_ctp t la sa lb sb hf h))
  · obtain ⟨hf, h⟩ := ans_if h
    obtain ⟨a, xs, ea, la, sa⟩ := rb_ctp ra
    obtain ⟨b, ys, eb, lb, sb⟩ := rb_tup rb
    subst ea eb
    exact .inr (.inr (add_ctp t la sa lb sb hf h))
  · obtain ⟨hf, h⟩ := ans_if h
    obtain ⟨a, xs, ea, la, sa⟩ := rb_ctp ra
    obtain ⟨b, ys, eb, lb, sb⟩ := rb_ctp rb
    subst ea eb
    exact .inr (.inr (add_ctp t la sa lb sb hf h))
theorem o2_sub : Op2 G m (rI0 fun i j => .int (i - j)) opSub := by
  intro H F x y a b Q t ra rb h
  cases a <;> cases b <;> first
    | exact (ans_no h).elim
    | exact ⟨_, _, rb_int ra, rb_int rb, ans_ok t h (rp_int _)⟩
theorem o2_mul : Op2 G m (rI CMul fun i j => .int (i * j)) opMul := by
  intro H F x y a b Q t ra rb h
  cases a <;> cases b <;> first
    | exact (ans_no h).elim
    | skip
  obtain ⟨hf, h⟩ := ans_if h
  rw [Bool.or_eq_true] at hf
  exact ⟨_, _, rb_int ra, rb_int rb, hf.elim (fun z => .inl (of_decide_eq_true z)) fun z => .inr (of_decide_eq_true z), ans_ok t h (rp_int _)⟩
theorem o2_div : Op2 G m (rI CDiv fun i j => .int (i / j)) opDiv := by
  intro H F x y a b Q t ra rb h
  cases a <;> cases b <;> first
    | exact (ans_no h).elim
    | skip
  obtain ⟨hf, h⟩ := ans_if h
  have hz := of_decide_eq_true hf
  exact ⟨_, _, rb_int ra, rb_int rb, hz, ans_ok t h (rp_int _)⟩
theorem o2_mod : Op2 G m (rI (fun _ j => 0 < j) fun i j => .int (i % j)) opMod := by
  intro H F x y a b Q t ra rb h
  cases a <;> cases b <;> first
    | exact (ans_no h).elim
    | skip
  obtain ⟨hf, h⟩ := ans_if h
  have hz := of_decide_eq_true hf
  exact ⟨_, _, rb_int ra, rb_int rb, hz, ans_ok t h (rp_int _)⟩
theorem o2_pow : Op2 G m (rI CPow fun i j => .int (i ^ j.toNat)) opPow := by
  intro H F x y a b Q t ra rb h
  cases a <;> cases b <;> first
    | exact (ans_no h).elim
    | skip
  obtain ⟨hf, h⟩ := ans_if h
  have hz := of_decide_eq_true hf
  exact ⟨_, _, rb_int ra, rb_int rb, hz, ans_ok t h (rp_int _)⟩
theorem o1_neg : Op1 G m (rU fun i => .int (-i)) opNeg := by
  intro H F x a Q t ra h
  cases a <;> first
    | exact (ans_no h).elim
    | exact ⟨_, rb_int ra, ans_ok t h (rp_int _)⟩
theorem o2_cmp {p : Int → Int → Bool} {f : D → D → Option D} (h1 : ∀ i j, f (.int i) (.int j) = some (.bl (p i j))) (h2 : ∀ a b, f a b ≠ none → ∃ i j, a = .int i ∧ b = .int j) : Op2 G m (rI0 fun i j => .bl (p i j)) f := by
  intro H F x y a b Q t ra rb h
  have hn : f a b ≠ none := fun z => by rw [z] at h; exact ans_no h
  obtain ⟨i, j, rfl, rfl⟩ := h2 a b hn
  rw [h1] at h
  exact ⟨_, _, rb_int ra, rb_int rb, ans_ok t h (rp_bl _)⟩
theorem o2_lt : Op2 G m (rI0 fun i j => .bl (decide (i < j))) opLt := o2_cmp (fun _ _ => rfl) fun a b h => by cases a <;> cases b <;> first | exact absurd rfl h | exact ⟨_, _, rfl, rfl⟩
theorem o2_gt : Op2 G m (rI0 fun i j => .bl (decide (j < i))) opGt := o2_cmp (fun _ _ => rfl) fun a b h => by cases a <;> cases b <;> first | exact absurd rfl h | exact ⟨_, _, rfl, rfl⟩
theorem o2_ge : Op2 G m (rI0 fun i j => .bl (decide (j ≤ i))) opGe := o2_cmp (fun _ _ => rfl) fun a b h => by cases a <;> cases b <;> first | exact absurd rfl h | exact ⟨_, _, rfl, rfl⟩
noncomputable def rEmT (K : PySem.W.Frag) : R2 := fun x y H Q => ∃ a b xs ys, x = .ref a ∧ y = .ref b ∧ SqT K H a xs ∧ SqT K H b ys ∧ (xs = [] ∨ ys = []) ∧ Q (.bl (xs.isEmpty && ys.isEmpty)) H
theorem op_emT {X : Cx} (hu : X.A.units < cLine) : OpR X (compareOp .Eq) (rEmT X.K) := by
  intro pins s σ H x y v u Q I r1 r2 ⟨a, b, xs, ys, e1, e2, h1, h2, hz, q⟩
  subst e1 e2
  cases r1
  cases r2
  obtain ⟨i1, v1, g1, _⟩ := I.tuple h1
  obtain ⟨i2, v2, g2, _⟩ := I.tuple h2
  have l1 := v1.length
  have l2 := v2.length
  refine SeqAt.eq_tupleAt (e := fun _ => true) g1 g2 hu (fun j k1 k2 => ?_) ⟨.bl _, H, I, ?_, q⟩
  · rw [List.size_toArray] at k1 k2
    rcases hz with rfl | rfl
    · simp at l1; (first | lia | omega)
    · simp at l2; (first | lia | omega)
  · show Value.bool _ = Value.bool _
    congr 1
    rw [List.size_toArray, List.size_toArray, ← l1, ← l2]
    rcases hz with rfl | rfl
    · cases ys <;> rfl
    · cases xs <;> rfl
noncomputable def rEmL (K : PySem.W.Frag) : R2 := fun x y H Q => ∃ a b xs ys, x = .ref a ∧ y = .ref b ∧ SqL K H a xs ∧ SqL K H b ys ∧ (xs = [] ∨ ys = []) ∧ Q (.bl (xs.isEmpty && ys.isEmpty)) H
theorem op_emL {X : Cx} (hu : X.A.units < cLine) : OpR X (compareOp .Eq) (rEmL X.K) := by
  intro pins s σ H x y v u Q I r1 r2 ⟨a, b, xs, ys, e1, e2, h1, h2, hz, q⟩
  subst e1 e2
  cases r1
  cases r2
  obtain ⟨i1, v1, g1, _⟩ := I.list h1
  obtain ⟨i2, v2, g2, _⟩ := I.list h2
  have l1 := v1.length
  have l2 := v2.length
  by_cases hs : i1.length = i2.length
  · refine SeqAt.eq_listAt (e := fun _ => true) g1.isList g2.isList (by simpa using hs) hu (fun j k1 k2 => ?_) ⟨.bl _, H, I, ?_, q⟩
    · rw [List.size_toArray] at k1 k2
      rcases hz with rfl | rfl
      · simp at l1; (first | lia | omega)
      · simp at l2; (first | lia | omega)
    · show Value.bool _ = Value.bool _
      congr 1
      have e1 : xs = [] := by
        rcases hz with rfl | rfl
        · rfl
        · exact List.length_eq_zero_iff.mp (by simp at l2; (first | lia | omega))
      have e2 : ys = [] := by
        rcases hz with rfl | rfl
        · exact List.length_eq_zero_iff.mp (by simp at l1; (first | lia | omega))
        · rfl
      subst e1 e2
      exact List.all_eq_true.mpr fun _ _ => rfl
  · refine SeqAt.eq_list_lengthsAt g1.isList g2.isList (by simpa using hs) hu ⟨.bl _, H, I, ?_, q⟩
    show Value.bool _ = Value.bool _
    congr 1
    cases xs with
    | nil =>
      cases ys with
      | nil => simp at l1 l2; exact absurd (by (first | lia | omega)) hs
      | cons => rfl
    | cons => rfl
noncomputable def rEq3 (K : PySem.W.Frag) : R2 := fun x y H Q => ((rEqD K x y H Q ∨ rEq x y H Q) ∨ rEmT K x y H Q) ∨ rEmL K x y H Q
noncomputable def rNe3 (K : PySem.W.Frag) : R2 := fun x y H Q => rNeD K x y H Q ∨ rNe x y H Q
theorem or_eq3 {X : Cx} (hu : X.A.units + 64 < cLine) : OpR X (compareOp .Eq) (rEq3 X.K) := (((op_eqD hu).or op_eq).or (op_emT (by (first | lia | omega)))).or (op_emL (by (first | lia | omega)))
theorem or_ne3 {X : Cx} (hu : X.A.units + 64 < cLine) : OpR X (compareOp .NotEq) (rNe3 X.K) := (op_neD hu).or op_ne
theorem two_s {a b : D} (h : twoS a b = true) : ∃ x y, a = .str x ∧ b = .str y := by
  cases a <;> cases b <;> first | exact ⟨_, _, rfl, rfl⟩ | cases h
theorem em_t {a b : D} (h : emT a b = true) : ∃ xs ys, a = .tup xs ∧ b = .tup ys ∧ (xs = [] ∨ ys = []) ∧ a.eqv b = (xs.isEmpty && ys.isEmpty) := by
  cases a <;> cases b <;> first
    | (cases h; done)
    | skip
  rename_i xs ys
  have h : (xs.isEmpty || ys.isEmpty) = true := h
  rw [Bool.or_eq_true, List.isEmpty_iff, List.isEmpty_iff] at h
  refine ⟨xs, ys, rfl, rfl, h, ?_⟩
  rcases h with rfl | rfl
  · cases ys <;> simp [D.eqv, py, pyL, PyData.eqv, PyData.eqvAll]
  · cases xs <;> simp [D.eqv, py, pyL, PyData.eqv, PyData.eqvAll]
theorem em_l {a b : D} (h : emL a b = true) : ∃ xs ys, a = .lst xs ∧ b = .lst ys ∧ (xs = [] ∨ ys = []) ∧ a.eqv b = (xs.isEmpty && ys.isEmpty) := by
  cases a <;> cases b <;> first
    | (cases h; done)
    | skip
  rename_i xs ys
  have h : (xs.isEmpty || ys.isEmpty) = true := h
  rw [Bool.or_eq_true, List.isEmpty_iff, List.isEmpty_iff] at h
  refine ⟨xs, ys, rfl, rfl, h, ?_⟩
  rcases h with rfl | rfl
  · cases ys <;> simp [D.eqv, py, pyL, PyData.eqv, PyData.eqvAll]
  · cases xs <;> simp [D.eqv, py, pyL, PyData.eqv, PyData.eqvAll]
theorem o2_eq : Op2 G m (rEq3 G.K) opEq := by
  intro H F x y a b Q t ra rb h
  obtain ⟨hf, h0⟩ := ans_if h
  clear h
  have h := h0
  clear h0
  rw [Bool.or_eq_true, Bool.or_eq_true, Bool.or_eq_true, Bool.and_eq_true] at hf
  rcases hf with ((hf | hf) | hf) | hf
  · exact .inl (.inl (.inl ⟨_, _, ra.dp hf.1, rb.dp hf.2, hf.1, hf.2, ans_ok t h (rp_bl _)⟩))
  · obtain ⟨s, z, e1, e2⟩ := two_s hf
    subst e1 e2
    rw [rb_str ra, rb_str rb]
    exact .inl (.inl (.inr ⟨rfl, by rw [dec_str]; exact ans_ok t h (rp_bl _)⟩))
  · obtain ⟨xs, ys, e1, e2, hz, e3⟩ := em_t hf
    rw [e3] at h
    subst e1 e2
    obtain ⟨p, vs, e1, l1, s1⟩ := rb_tup ra
    obtain ⟨q, ws, e2, l2, s2⟩ := rb_tup rb
    subst e1 e2
    have k1 : vs.isEmpty = xs.isEmpty := by cases s1 <;> rfl
    have k2 : ws.isEmpty = ys.isEmpty := by cases s2 <;> rfl
    refine .inl (.inr ⟨p, q, vs, ws, rfl, rfl, l1, l2, ?_, by rw [k1, k2]; exact ans_ok t h (rp_bl _)⟩)
    rcases hz with rfl | rfl
    · cases s1; exact .inl rfl
    · cases s2; exact .inr rfl
  · obtain ⟨xs, ys, e1, e2, hz, e3⟩ := em_l hf
    rw [e3] at h
    subst e1 e2
    obtain ⟨p, vs, e1, l1, s1⟩ := rb_lst ra
    obtain ⟨q, ws, e2, l2, s2⟩ := rb_lst rb
    subst e1 e2
    have k1 : vs.isEmpty = xs.isEmpty := by cases s1 <;> rfl
    have k2 : ws.isEmpty = ys.isEmpty := by cases s2 <;> rfl
    refine .inr ⟨p, q, vs, ws, rfl, rfl, l1.sql, l2.sql, ?_, by rw [k1, k2]; exact ans_ok t h (rp_bl _)⟩
    rcases hz with rfl | rfl
    · cases s1; exact .inl rfl
    · cases s2; exact .inr rfl
theorem o2_ne : Op2 G m (rNe3 G.K) opNe := by
  intro H F x y a b Q t ra rb h
  obtain ⟨hf, h⟩ := ans_if h
  rw [Bool.or_eq_true, Bool.and_eq_true] at hf
  rcases hf with hf | hf
  · exact .inl ⟨_, _, ra.dp hf.1, rb.dp hf.2, hf.1, hf.2, ans_ok t h (rp_bl _)⟩
  · obtain ⟨s, z, e1, e2⟩ := two_s hf
    subst e1 e2
    rw [rb_str ra, rb_str rb]
    exact .inr ⟨rfl, by rw [dec_str]; exact ans_ok t h (rp_bl _)⟩
theorem any_py (a : D) : ∀ ds : List D, (ds.any fun z => z.eqv a) = (pyL ds).any fun z => PyData.eqv z (py a)
  | [] => rfl
  | d :: ds => by
    rw [List.any_cons, pyL, List.any_cons, any_py a ds]
    rfl
noncomputable def rIn2 (K : PySem.W.Frag) : R2 := fun x y H Q => (∃ (c : Nat) (z : Str), x = .str ⟨#[c]⟩ ∧ y = .str z ∧ Q (.bl (decide (c ∈ z.cps.toList))) H) ∨ (rInD K x y H Q ∨ rInT K false x y H Q)
theorem or_in {X : Cx} (hu : X.A.units + 65 < cLine) : OpR X (compareOp .In) (rIn2 X.K) := op_in_sign.or ((op_inD hu).or (op_inT hu))
theorem one_sign {x : Str} {c : Nat} (h : oneSign x = some c) : x = ⟨#[c]⟩ := by
  unfold oneSign at h
  split at h
  · rename_i d e
    cases h
    have e2 : x.cps = #[c] := by
      have e3 := congrArg List.toArray e
      simpa using e3
    cases x
    cases e2
    rfl
  · cases h
theorem in_cases {a b : D} {k : Bool} (h : isIn a b = some k) :
    (∃ x z c, a = .str x ∧ b = .str z ∧ x = ⟨#[c]⟩ ∧ k = decide (c ∈ z.cps.toList)) ∨ (∃ ds, b = .lst ds ∧ a.sha = true ∧ (D.lst ds).sha = true ∧ k = ds.any fun z => z.eqv a) ∨
      ∃ ds, (b = .tup ds ∨ b = .ctp ds) ∧ a.sha = true ∧ (D.tup ds).sha = true ∧ k = ds.any fun z => z.eqv a := by
  cases b with
  | str z =>
    cases a with
    | str x =>
      have h' : (oneSign x).map (fun c => decide (c ∈ z.cps.toList)) = some k := h
      cases e : oneSign x with
      | none => rw [e] at h'; cases h'
      | some c =>
        rw [e] at h'
        exact .inl ⟨x, z, c, rfl, rfl, one_sign e, (Option.some.inj h').symm⟩
    | _ => cases h
  | lst ds =>
    have h' : (if (a.sha && (D.lst ds).sha) = true then some (ds.any fun z => z.eqv a) else none) = some k := h
    split at h'
    · rename_i q
      rw [Bool.and_eq_true] at q
      exact .inr (.inl ⟨ds, rfl, q.1, q.2, (Option.some.inj h').symm⟩)
    · cases h'
  | tup ds =>
    have h' : (if (a.sha && (D.tup ds).sha) = true then some (ds.any fun z => z.eqv a) else none) = some k := h
    split at h'
    · rename_i q
      rw [Bool.and_eq_true] at q
      exact .inr (.inr ⟨ds, .inl rfl, q.1, q.2, (Option.some.inj h').symm⟩)
    · cases h'
  | ctp ds =>
    have h' : (if (a.sha && (D.tup ds).sha) = true then some (ds.any fun z => z.eqv a) else none) = some k := h
    split at h'
    · rename_i q
      rw [Bool.and_eq_true] at q
      exact .inr (.inr ⟨ds, .inr rfl, q.1, q.2, (Option.some.inj h').symm⟩)
    · cases h'
  | _ => cases h
theorem o2_in : Op2 G m (rIn2 G.K) opIn := by
  intro H F x y a b Q t ra rb h
  unfold opIn at h
  cases e : isIn a b with
  | none => rw [e] at h; exact (ans_no h).elim
  | some k =>
    rw [e] at h
    have q : Q (.bl k) H := ans_ok t h (rp_bl k)
    rcases in_cases e with ⟨x', z, c, rfl, rfl, rfl, hk⟩ | ⟨ds, rfl, h1, h2, hk⟩ | ⟨ds, rfl | rfl, h1, h2, hk⟩
    · exact .inl ⟨c, z, rb_str ra, rb_str rb, hk ▸ q⟩
    · exact .inr (.inl ⟨_, _, ra.dp h1, rb.dp h2, h1, h2, by rw [← any_py, ← hk]; exact q⟩)
    · exact .inr (.inr ⟨_, _, ra.dp h1, rb.dp h2, h1, h2, by rw [← any_py, ← hk]; exact q⟩)
    · exact .inr (.inr ⟨_, _, ra.dp h1, rb.dp h2, h1, h2, by rw [← any_py, ← hk]; exact q⟩)
end
end VL

namespace VL
open PyProof.Rows PySem L2 PySem.Spec

structure VX (X : Cx) (G : VG) (k : Nat) : Prop where
  K : X.K = G.K
  mg : X.mg = G.mg
  room : Room k X.A
  calm : X.calm = true
  gds : X.A.guards = some []
  sysm : ∃ o es ep, X.base.get? sysModules = some o ∧ o.data = .dict es ep
  nd : X.N.Nodup
  tk : Takes X G.W
structure VX0 (X : Cx) (G : VG) (k : Nat) : Prop where
  K : X.K = G.K
  mg : X.mg = G.mg
  un : X.A.units + 16 * k + 200 < cLine
  gds : X.A.guards = some []
  sysm : ∃ o es ep, X.base.get? sysModules = some o ∧ o.data = .dict es ep
  nd : X.N.Nodup
theorem VX.lo {X : Cx} {G : VG} {k : Nat} (x : VX X G k) : VX0 X G k := ⟨x.K, x.mg, x.room.un, x.gds, x.sysm, x.nd⟩
theorem VX.u65 {X : Cx} {G : VG} {k : Nat} (x : VX X G k) : X.A.units + 65 < cLine := by have := x.room.un; (first | lia | omega)

section
variable {X : Cx} {G : VG} {k : Nat} {m m1 m2 : Md} {a b : Expr} {fa fb : Lo → R D} {pos : Pos}
theorem ve_add (x : VX X G k) (ha : VE X G m1 a fa) (hb : VE X G m2 b fb) : VE X G m (.BinOp a .Add b pos) (b2 fa fb opAdd) := ve_op (x.K ▸ or_add) o2_add ha hb
theorem ve_sub (ha : VE X G m1 a fa) (hb : VE X G m2 b fb) : VE X G m (.BinOp a .Sub b pos) (b2 fa fb opSub) := ve_op op_sub o2_sub ha hb
theorem ve_mul (ha : VE X G m1 a fa) (hb : VE X G m2 b fb) : VE X G m (.BinOp a .Mult b pos) (b2 fa fb opMul) := ve_op op_mul o2_mul ha hb
theorem ve_div (ha : VE X G m1 a fa) (hb : VE X G m2 b fb) : VE X G m (.BinOp a .FloorDiv b pos) (b2 fa fb opDiv) := ve_op op_fdiv o2_div ha hb
theorem ve_mod (ha : VE X G m1 a fa) (hb : VE X G m2 b fb) : VE X G m (.BinOp a .Mod b pos) (b2 fa fb opMod) := ve_op op_mod o2_mod ha hb
theorem ve_pow (ha : VE X G m1 a fa) (hb : VE X G m2 b fb) : VE X G m (.BinOp a .Pow b pos) (b2 fa fb opPow) := ve_op op_pow o2_pow ha hb
theorem ve_neg (ha : VE X G m1 a fa) : VE X G m (.UnaryOp .USub a pos) (b1 fa opNeg) := ve_un un_neg o1_neg ha
theorem ve_eq (x : VX X G k) (ha : VE X G m1 a fa) (hb : VE X G m2 b fb) : VE X G m (.Compare a [.Eq] [b] pos) (b2 fa fb opEq) := ve_cmp (x.K ▸ or_eq3 x.room.units) o2_eq ha hb (nomark _)
theorem ve_lt (ha : VE X G m1 a fa) (hb : VE X G m2 b fb) : VE X G m (.Compare a [.Lt] [b] pos) (b2 fa fb opLt) := ve_cmp op_lt o2_lt ha hb (nomark _)
theorem ve_in (x : VX X G k) (ha : VE X G m1 a fa) (hb : VE X G m2 b fb) (hm : behindInMarks .In b = false := by rfl) : VE X G m (.Compare a [.In] [b] pos) (b2 fa fb opIn) := ve_cmp (x.K ▸ or_in x.u65) o2_in ha hb hm
theorem vt_ne (x : VX X G k) (ha : VE X G m1 a fa) (hb : VE X G m2 b fb) : VT X G (.Compare a [.NotEq] [b] pos) (tb (b2 fa fb opNe)) := vt_cmp (x.K ▸ or_ne3 x.room.units) o2_ne ha hb (nomark _)
theorem vt_gt (ha : VE X G m1 a fa) (hb : VE X G m2 b fb) : VT X G (.Compare a [.Gt] [b] pos) (tb (b2 fa fb opGt)) := vt_cmp op_gt o2_gt ha hb (nomark _)
theorem vt_ge (ha : VE X G m1 a fa) (hb : VE X G m2 b fb) : VT X G (.Compare a [.GtE] [b] pos) (tb (b2 fa fb opGe)) := vt_cmp op_ge o2_ge ha hb (nomark _)
end

section
variable {X : Cx} {G : VG} {m m1 m2 m3 : Md} {a b c : Expr} {fa fb fc : Lo → R D} {pos : Pos} {σ : L2.St} {H : Hp} {Q : VK}
noncomputable def b3 (fa fb fc : Lo → R D) (op op' : D → D → Option D) : Lo → R D := fun ρ => (fa ρ).bind fun x => (fb ρ).bind fun y => match op x y with
  | some (.bl true) => (fc ρ).bind fun z => R.opt (op' y z)
  | some (.bl false) => .ok (.bl false)
  | _ => .bad
end

section
variable {G : VG} {m : Md}
noncomputable def opLen : D → Option D
  | .str x => if fits x.length = true then some (.int x.length) else none
  | .lst ds => some (.int ds.length)
  | .tup ds => some (.int ds.length)
  | .ctp ds => some (.int ds.length)
  | _ => none
theorem o1_len : Op1 G m (fun y => (fun xs H Q => ∃ x n, xs = [x] ∧ LenV G.K x H n ∧ Q (.int (n : Nat)) H) [y]) opLen := by
  intro H F x a Q t ra h
  cases a with
  | str z =>
    obtain ⟨hf, h⟩ := ans_if h
    rw [rb_str ra]
    exact ⟨_, z.length, rfl, ⟨fits_line hf, rfl⟩, ans_ok t h (rp_int _)⟩
  | lst ds =>
    obtain ⟨p, xs, e, l, s⟩ := rb_lst ra
    subst e
    exact ⟨_, xs.length, rfl, .inl ⟨xs, l.sql, rfl⟩, by rw [s.length]; exact ans_ok t h (rp_int _)⟩
  | tup ds =>
    obtain ⟨p, xs, e, l, s⟩ := rb_tup ra
    subst e
    exact ⟨_, xs.length, rfl, .inr ⟨xs, l, rfl⟩, by rw [s.length]; exact ans_ok t h (rp_int _)⟩
  | ctp ds =>
    obtain ⟨p, xs, e, l, s⟩ := rb_ctp ra
    subst e
    exact ⟨_, xs.length, rfl, .inr ⟨xs, l, rfl⟩, by rw [s.length]; exact ans_ok t h (rp_int _)⟩
  | _ => exact (ans_no h).elim
noncomputable def opMax : D → D → Option D
  | .int i, .int j => some (.int (if j > i then j else i))
  | _, _ => none
theorem o2_max : Op2 G m (fun x y => (fun xs H Q => ∃ i j, xs = [V.int i, .int j] ∧ Q (.int (if j > i then j else i)) H) [x, y]) opMax := by
  intro H F x y a b Q t ra rb h
  cases a <;> cases b <;> first
    | exact (ans_no h).elim
    | (rw [rb_int ra, rb_int rb]; exact ⟨_, _, rfl, ans_ok t h (rp_int _)⟩)
noncomputable def opInt : D → Option D
  | .int i => some (.int i)
  | .bl k => some (.int (if k then 1 else 0))
  | _ => none
theorem o1_int : Op1 G m (fun y => (fun xs H Q => (∃ i, xs = [V.int i] ∧ Q (.int i) H) ∨ ∃ k, xs = [V.bl k] ∧ Q (.int (if k then 1 else 0)) H) [y]) opInt := by
  intro H F x a Q t ra h
  cases a <;> first
    | exact (ans_no h).elim
    | skip
  · rw [rb_bl ra]; exact .inr ⟨_, rfl, ans_ok t h (rp_int _)⟩
  · rw [rb_int ra]; exact .inl ⟨_, rfl, ans_ok t h (rp_int _)⟩
end
section
variable {X : Cx} {G : VG} {k : Nat} {m m1 m2 : Md} {a b : Expr} {fa fb : Lo → R D} {p pos : Pos}
theorem ve_len (x : VX X G k) (hm : X.mg "len" = none) (ha : VE X G m1 a fa) (hg : Gl X "len" := by rfl) (he : starEach [a] X.env = (false, eval a X.env) :: starEach [] X.env := by rfl) : VE X G m (.Call (.Name "len" p) [a] [] pos) (b1 fa opLen) :=
  ve_b1 (call_len (X := X)) (x.K ▸ o1_len) hg hm PySem.boot_len ha (by decide) (by decide) he
theorem ve_max (x : VX X G k) (hm : X.mg "max" = none) (ha : VE X G m1 a fa) (hb : VE X G m2 b fb) (hg : Gl X "max" := by rfl)
    (he : starEach [a, b] X.env = (false, eval a X.env) :: starEach [b] X.env := by rfl) (he2 : starEach [b] X.env = (false, eval b X.env) :: starEach [] X.env := by rfl) (hpl : (backTo pos (starEach [b] X.env)).any (·.1) = false := by rfl) : VE X G m (.Call (.Name "max" p) [a, b] [] pos) (b2 fa fb opMax) :=
  ve_b2 (call_max2 x.calm) o2_max hg hm (by decide +kernel) ha hb (by decide) (by decide) he he2 hpl
theorem ve_int (hm : X.mg "int" = none) (ha : VE X G m1 a fa) (hg : Gl X "int" := by rfl) (he : starEach [a] X.env = (false, eval a X.env) :: starEach [] X.env := by rfl) : VE X G m (.Call (.Name "int" p) [a] [] pos) (b1 fa opInt) :=
  ve_ty1 call_int1 o1_int hg hm (by decide +kernel) ha (by decide) (by decide) he
end

section
variable {X : Cx} {G : VG} {k : Nat} {m m1 : Md} {a : Expr} {fa : Lo → R D} {p q pos : Pos}
noncomputable def isList : D → Bool
  | .lst _ => true
  | _ => false
noncomputable def plainD : D → Bool
  | .obj _ _ => false
  | .ctp _ => false
  | .tdc _ => false
  | _ => true
end
end VL

namespace VL
open PyProof.Rows PySem L2 PySem.Spec

section
variable {K : PySem.W.Frag} {H : Hp} {F : Fro}
theorem shl_at {vs : List V} {ds : List D} (s : ShL K H F vs ds) {i : Int} {d : D} (h : atI ds i = some d) : ∃ v, atI vs i = some v ∧ Sh K H F v d := by
  unfold atI at h ⊢
  rw [s.length]
  cases e : ixN ds.length i with
  | none => rw [e] at h; cases h
  | some j =>
    rw [e] at h
    exact s.getD h
end
section
variable {G : VG} {m : Md}
noncomputable def opIx : D → D → Option D
  | .lst ds, .int i => atI ds i
  | .tup ds, .int i => atI ds i
  | .ctp ds, .int i => atI ds i
  | .str z, .int i => if fits z.length = true then (atI z.cps.toList i).map fun c => .str ⟨#[c]⟩ else none
  | _, _ => none
theorem o2_ix : Op2 G .sh (rIx G.K) opIx := by
  intro H F x y a b Q t ra rb h
  cases b with
  | int i =>
    cases a with
    | lst ds =>
      obtain ⟨p, xs, e, l, s⟩ := rb_lst ra
      have h' : Ans G .sh H F (atI ds i) Q := h
      cases q : atI ds i with
      | none => rw [q] at h'; exact (ans_no h').elim
      | some d =>
        rw [q] at h'
        obtain ⟨v, ev, sv⟩ := shl_at s q
        exact .inl ⟨p, xs, i, v, e, rb_int rb, l.sql, ev, ans_ok t h' sv⟩
    | tup ds =>
      obtain ⟨p, xs, e, l, s⟩ := rb_tup ra
      have h' : Ans G .sh H F (atI ds i) Q := h
      cases q : atI ds i with
      | none => rw [q] at h'; exact (ans_no h').elim
      | some d =>
        rw [q] at h'
        obtain ⟨v, ev, sv⟩ := shl_at s q
        exact .inr (.inl ⟨p, xs, i, v, e, rb_int rb, l, ev, ans_ok t h' sv⟩)
    | ctp ds =>
      obtain ⟨p, xs, e, l, s⟩ := rb_ctp ra
      have h' : Ans G .sh H F (atI ds i) Q := h
      cases q : atI ds i with
      | none => rw [q] at h'; exact (ans_no h').elim
      | some d =>
        rw [q] at h'
        obtain ⟨v, ev, sv⟩ := shl_at s q
        exact .inr (.inl ⟨p, xs, i, v, e, rb_int rb, l, ev, ans_ok t h' sv⟩)
    | str z =>
      obtain ⟨hf, h'⟩ : fits z.length = true ∧ Ans G .sh H F ((atI z.cps.toList i).map fun c => D.str ⟨#[c]⟩) Q := by
        cases hf : fits z.length with
        | true => exact ⟨rfl, by have h2 : Ans G .sh H F (if fits z.length = true then (atI z.cps.toList i).map fun c => D.str ⟨#[c]⟩ else none) Q := h; rw [hf] at h2; exact h2⟩
        | false =>
          have h2 : Ans G .sh H F (if fits z.length = true then (atI z.cps.toList i).map fun c => D.str ⟨#[c]⟩ else none) Q := h
          rw [hf] at h2
          exact (ans_no h2).elim
      cases q : atI z.cps.toList i with
      | none => rw [q] at h'; exact (ans_no h').elim
      | some c =>
        rw [q] at h'
        exact .inr (.inr ⟨z, i, c, rb_str ra, rb_int rb, fits_line hf, q, ans_ok t h' (.str _)⟩)
    | _ => exact (ans_no h).elim
  | _ => cases a <;> exact (ans_no h).elim
noncomputable def cutD (ds : List D) (lo hi : Option Int) : List D := (ds.drop (HT.sIx ds.length 0 lo)).take (HT.sIx ds.length ds.length hi - HT.sIx ds.length 0 lo)
theorem shl_cut {K : PySem.W.Frag} {H : Hp} {F : Fro} {vs : List V} {ds : List D} (s : ShL K H F vs ds) (lo hi : Option Int) : ShL K H F (cutV vs lo hi) (cutD ds lo hi) := by
  unfold cutV cutD
  rw [s.length]
  exact (s.drop _).take _
noncomputable def opCut (lo hi : Option Int) : D → Option D
  | .lst ds => some (.lst (cutD ds lo hi))
  | .tup ds => some (.tup (cutD ds lo hi))
  | .str z => if fits z.length = true then some (.str (cutS z lo hi)) else none
  | _ => none
noncomputable def rCut (K : PySem.W.Frag) : V → Option Int → Option Int → Hp → VK → Prop := fun x lo hi H Q => rSlL K x lo hi H Q ∨ (rSlA K x lo hi H Q ∨ rSlS x lo hi H Q)
theorem sl_cut {X : Cx} : SlR X (rCut X.K) := sl_list.or (sl_tupA.or sl_str)
end
section
variable {X : Cx} {G : VG} {k : Nat} {m m1 m2 : Md} {a b : Expr} {fa fb : Lo → R D} {pos p2 : Pos}
theorem ve_ix (x : VX X G k) (ha : VE X G m1 a fa) (hb : VE X G m2 b fb) (hs : PlainIx b := by exact fun _ _ => rfl) : VE X G .sh (.Subscript a b pos) (b2 fa fb opIx) :=
  ⟨pe_imp (pe_ix (x.K ▸ ix_seq) ha.pe hb.pe hs) fun _ _ _ h => t2_of o2_ix h⟩
structure VO (X : Cx) (G : VG) (o : Option Expr) (f : Lo → R (Option Int)) : Prop where
  po : PO X o (fun σ H Q => ∃ ρ F, Rel G σ H ρ F ∧ Out G σ H F (f ρ) (fun a b _ _ => b = a) Q)
noncomputable def oN : Lo → R (Option Int) := fun _ => .ok none
noncomputable def oS (f : Lo → R D) : Lo → R (Option Int) := fun ρ => (f ρ).bind fun d => match d with
  | .int i => .ok (some i)
  | _ => .bad
theorem po_imp {o : Option Expr} {t t' : TO} (h : PO X o t) (i : ∀ σ H Q, t' σ H Q → t σ H Q) : PO X o t' := ⟨fun pins s σ H Q I q => h.run pins s σ H Q I (i σ H Q q)⟩
theorem vo_none : VO X G none oN := ⟨po_imp po_none fun σ H Q ⟨ρ, F, rl, o⟩ => o none H F (Le.refl rl.le.the) rfl⟩
theorem vo_some (ha : VE X G m1 a fa) : VO X G (some a) (oS fa) := ⟨po_imp (po_some ha.pe) fun σ H Q ⟨ρ, F, rl, o⟩ => by
  refine ⟨ρ, F, rl, Out.bind (S' := fun a b _ _ => b = a) o (fun _ _ _ _ _ _ _ h => h) fun d x H1 F1 _ l s k => ?_⟩
  have q := k (S'' := fun a b _ _ => b = a) fun _ _ _ _ h => h
  cases d with
  | int i => exact ⟨i, rb_int (rb_of s), q _ H1 F1 (Le.refl l.the) rfl⟩
  | _ => exact q.elim⟩
noncomputable def eSl (fa : Lo → R D) (fl fh : Lo → R (Option Int)) : Lo → R D := fun ρ => (fa ρ).bind fun x => (fl ρ).bind fun lo => (fh ρ).bind fun hi => R.opt (opCut lo hi x)
theorem ve_sl {lo hi : Option Expr} {fl fh : Lo → R (Option Int)} (x : VX X G k) (ha : VE X G m1 a fa) (hl : VO X G lo fl) (hh : VO X G hi fh) : VE X G m (.Subscript a (.Slice lo hi none p2) pos) (eSl fa fl fh) :=
  ⟨pe_imp (pe_slice (x.K ▸ sl_cut) ha.pe hl.po hh.po) fun σ H Q ⟨ρ, F, rl, o⟩ => by
    refine ⟨ρ, F, rl, Out.bind (S' := fun d v H' F' => Rp G.K m H H' F' v d) o (fun _ _ _ _ _ _ _ h => h) fun d v H1 F1 _ l s k => ?_⟩
    have o1 := k (S'' := fun d v H' F' => Rp G.K m H1 H' F' v d) fun d v H' F' h => h.back l.keep
    refine ⟨ρ, F1, rl.step l, Out.bind (S' := fun d v H' F' => Rp G.K m H1 H' F' v d) o1 (fun _ _ _ _ _ _ _ h => h) fun lo y H2 F2 _ l2 s2 k2 => ?_⟩
    subst s2
    have o2 := k2 (S'' := fun d v H' F' => Rp G.K m H2 H' F' v d) fun d v H' F' h => h.back l2.keep
    refine ⟨ρ, F2, (rl.step l).step l2, Out.bind (S' := fun d v H' F' => Rp G.K m H2 H' F' v d) o2 (fun _ _ _ _ _ _ _ h => h) fun hi z H3 F3 _ l3 s3 k3 => ?_⟩
    subst s3
    have o3 := ans_of rfl (k3 (S'' := fun d v H' F' => Rp G.K m H3 H' F' v d) fun d v H' F' h => h.back l3.keep)
    have r := ((rb_of s).le l2).le l3
    cases d with
    | lst ds =>
      obtain ⟨p, xs, e, ll, sl⟩ := rb_lst r
      exact .inl ⟨p, xs, e, ll.sql, ans_new l3.the (shl_cut sl y z) o3⟩
    | tup ds =>
      obtain ⟨p, xs, e, ll, sl⟩ := rb_tupT r
      subst e
      refine .inr (.inl ⟨p, xs, rfl, .inl (.inl ll), fun hw => ?_, fun _ => ans_newT l3.the (shl_cut sl y z) o3⟩)
      have ed : cutD ds y z = ds := by
        unfold cutD
        rw [sl.length] at hw
        rw [hw.1, hw.2]
        simp
      have o4 : Ans G m H3 F3 (some (.tup (cutD ds y z))) Q := o3
      rw [ed] at o4
      exact ans_ok l3.the o4 (rp_tup (.tup ll sl))
    | str c =>
      obtain ⟨hf, o4⟩ := ans_if o3
      exact .inr (.inr ⟨c, rb_str r, fits_line hf, ans_ok l3.the o4 (rp_str _)⟩)
    | _ => exact (ans_no o3).elim⟩
end

structure Wk (G : VG) (J : It) (ds : List D) (H1 : Hp) (F1 : Fro) : Prop where
  goes : ∀ i H, i < ds.length → Kp F1 H1 H → J.go i H
  stops : ∀ H, Kp F1 H1 H → J.stop ds.length H
  few : ds.length ≤ sizeLine
  yields : ∀ i H F x H', i < ds.length → Kp F1 H1 H → (∀ a, F1 a → F a) → The F H → J.yld i H x H' → ∃ d F', ds[i]? = some d ∧ Le H F H' F' ∧ Sh G.K H' F' x d
structure VI (X : Cx) (G : VG) (tg iter : Expr) (f : Lo → R (List D)) : Prop where
  pi : PI X tg iter (fun σ H R => ∃ ρ F, Rel G σ H ρ F ∧ Out G σ H F (f ρ) (fun ds J H' F' => Wk G J ds H' F') R)
section
variable {X : Cx} {G : VG} {k : Nat} {m m1 m2 : Md} {tg a b : Expr} {fa fb : Lo → R D} {pos p : Pos}
theorem fz_keep {xs : List V} {H H' : Hp} {F : Fro} {q : Addr} (h : FzL G.K H F q xs) (k : Kp F H H') : SqL G.K H' q xs := (h.mono k fun _ h => h).sql
noncomputable def items : D → R (List D)
  | .lst ds => .ok ds
  | .tup ds => .ok ds
  | .ctp ds => .ok ds
  | .str z => if fits z.length = true then .ok (z.cps.toList.map fun c => .str ⟨#[c]⟩) else .bad
  | .dic kvs => if fits kvs.length = true then .ok (kvs.map (·.1)) else .bad
  | _ => .bad
noncomputable def rng (a b : Int) : List D := (List.range (b - a).toNat).map fun i => .int (a + (i : Nat))
noncomputable def fits62 (i : Int) : Bool := decide (-(2 ^ 62) ≤ i ∧ i < 2 ^ 62)
noncomputable def iR1 (f : Lo → R D) : Lo → R (List D) := fun ρ => (f ρ).bind fun d => match d with
  | .int j => if (fits62 j && fits j.toNat) = true then .ok (rng 0 j) else .bad
  | _ => .bad
theorem wk_rng {H1 : Hp} {F1 : Fro} {lo : Int} {n : Nat} (hn : n ≤ sizeLine) : Wk G (Itr lo n) ((List.range n).map fun i => .int (lo + (i : Nat))) H1 F1 := by
  refine ⟨fun i H2 hi k => show i < n by simpa using hi, fun H2 k => by show n ≤ _; simp, by simpa using hn, fun i H2 F2 x H3 hi k sb t y => ?_⟩
  obtain ⟨e, ex⟩ := y
  subst e ex
  have hi' : i < n := by simpa using hi
  exact ⟨.int (lo + i), F2, by rw [List.getElem?_map, List.getElem?_range hi']; rfl, Le.refl t, .int _⟩
theorem vi_range1 (hm : X.mg "range" = none) (ha : VE X G m1 a fa) (hg : Gl X "range" := by rfl) (hs : starEach [a] X.env = [(false, eval a X.env)] := by rfl) : VI X G tg (.Call (.Name "range" p) [a] [] pos) (iR1 fa) := by
  have h0 := pi_range1 (X := X) (tg := tg) (p := p) (pos := pos) hg hm (pa_cons ha.pe pa_nil (by rw [hs]; rfl)) hs
  refine ⟨⟨fun pins s σ H Rr I ⟨ρ, F, rl, o⟩ => h0.run pins s σ H Rr I ⟨ρ, F, rl, Out.bind (S' := fun ds J H' F' => Wk G J ds H' F') o (fun _ _ _ _ _ _ _ h => h) fun d v H1 F1 _ l s k => ?_⟩⟩⟩
  have q := k (S'' := fun ds J H' F' => Wk G J ds H' F') fun _ _ _ _ h => h
  cases d with
  | int j =>
    by_cases hf : (fits62 j && fits j.toNat) = true
    · have q' : Out G σ H1 F1 (if (fits62 j && fits j.toNat) = true then R.ok (rng 0 j) else R.bad) (fun ds J H' F' => Wk G J ds H' F') Rr := q
      rw [if_pos hf] at q'
      rw [Bool.and_eq_true] at hf
      have h62 := of_decide_eq_true hf.1
      refine ⟨j, by rw [rb_int (rb_of s)], h62.1, h62.2, q' _ H1 F1 (Le.refl l.the) ?_⟩
      have e : rng 0 j = (List.range j.toNat).map fun i => .int (0 + (i : Nat)) := by unfold rng; rw [Int.sub_zero]
      rw [e]
      exact wk_rng (fits_line hf.2)
    · have q' : Out G σ H1 F1 (if (fits62 j && fits j.toNat) = true then R.ok (rng 0 j) else R.bad) (fun ds J H' F' => Wk G J ds H' F') Rr := q
      rw [if_neg hf] at q'
      exact q'.elim
  | _ => exact q.elim
end
end VL

namespace VL
open PyProof.Rows PySem L2 PySem.Spec

structure VP (X : Cx) (G : VG) (tg : Expr) (ws : List Nat) (g : D → Lo → R Lo) : Prop where
  pg : PG X tg (fun v σ H Q => ∃ ρ F d, Rel G σ H ρ F ∧ Sh G.K H F v d ∧ match g d ρ with
    | .ok ρ' => ∀ σ', Rel G σ' H ρ' F → σ'.length = σ.length → (∀ i, i ∉ ws → σ'[i]? = σ[i]?) → Q σ' H
    | _ => False)
structure VPs (X : Cx) (G : VG) (tgs : List Expr) (ws : List Nat) (g : List D → Lo → R Lo) : Prop where
  pgs : PGs X tgs (fun vs σ H Q => ∃ ρ F ds, Rel G σ H ρ F ∧ ShL G.K H F vs ds ∧ match g ds ρ with
    | .ok ρ' => ∀ σ', Rel G σ' H ρ' F → σ'.length = σ.length → (∀ i, i ∉ ws → σ'[i]? = σ[i]?) → Q σ' H
    | _ => False)
section
variable {X : Cx} {G : VG} {k : Nat} {e : Expr} {es : List Expr} {pos : Pos}
theorem pg_imp {t t' : TG} (h : PG X e t) (i : ∀ v σ H Q, t' v σ H Q → t v σ H Q) : PG X e t' := ⟨fun pins s σ H v u Q I r q => h.run pins s σ H v u Q I r (i v σ H Q q)⟩
theorem pgs_imp {t t' : TGs} (h : PGs X es t) (i : ∀ v σ H Q, t' v σ H Q → t v σ H Q) : PGs X es t' := ⟨fun pins s σ H v u Q I r q => h.run pins s σ H v u Q I r (i v σ H Q q)⟩
noncomputable def gS (i : Nat) : D → Lo → R Lo := fun d ρ => .ok (ρ.set i (.sh d))
theorem vp_name (i : Nat) {x : Str} (xx : VX X G k) (hN : X.N[i]? = some x := by rfl) (hx : Loc X.env.scope x := by first | exact Or.inl rfl | exact Or.inr rfl) (hf : X.fn x = true ∨ X.env.scope.names.lookup x = some .local := by first | exact .inl rfl | exact .inr rfl) : VP X G (.Name x pos) [i] (gS i) :=
  ⟨pg_imp (pg_name (i := i) xx.nd hN hx hf) fun v σ H Q ⟨ρ, F, d, rl, s, q⟩ => q _ (rl.setSh i s) (by simp) fun j hj => List.getElem?_set_ne (by simpa using (fun e => hj (by simp [e])))⟩
noncomputable def gNil2 : List D → Lo → R Lo := fun ds ρ => match ds with
  | [] => .ok ρ
  | _ => .bad
noncomputable def gCons2 (g : D → Lo → R Lo) (gr : List D → Lo → R Lo) : List D → Lo → R Lo := fun ds ρ => match ds with
  | d :: r => (g d ρ).bind fun ρ' => gr r ρ'
  | [] => .bad
noncomputable def gT2 (n : Nat) (g : List D → Lo → R Lo) : D → Lo → R Lo := fun d ρ => match d with
  | .tup ds => if ds.length = n then g ds ρ else .bad
  | .lst ds => if ds.length = n then g ds ρ else .bad
  | _ => .bad
theorem pg_or {t t' : TG} (h : PG X e t) (h' : PG X e t') : PG X e (fun v σ H Q => t v σ H Q ∨ t' v σ H Q) := ⟨fun pins s σ H v u Q I r q => q.elim (h.run pins s σ H v u Q I r) (h'.run pins s σ H v u Q I r)⟩
theorem vps_nil : VPs X G [] [] gNil2 := ⟨pgs_imp pgs_nil fun vs σ H Q ⟨ρ, F, ds, rl, s, q⟩ => by
  cases s with
  | nil => exact ⟨rfl, q σ rl rfl fun _ _ => rfl⟩
  | cons _ _ => exact q.elim⟩
theorem vps_cons {ws ws' : List Nat} {g : D → Lo → R Lo} {gr : List D → Lo → R Lo} (h : VP X G e ws g) (hr : VPs X G es ws' gr) (hs : (assignEach (e :: es) X.env).map (·.2) = assign e X.env :: (assignEach es X.env).map (·.2) := by rfl) : VPs X G (e :: es) (ws ++ ws') (gCons2 g gr) :=
  ⟨pgs_imp (pgs_cons h.pg hr.pgs hs) fun vs σ H Q ⟨ρ, F, ds, rl, s, q⟩ => by
    cases s with
    | nil => exact q.elim
    | @cons v vr d dr s1 s2 =>
      refine ⟨v, vr, rfl, ρ, F, d, rl, s1, ?_⟩
      have q : match (g d ρ).bind fun ρ' => gr dr ρ' with
        | .ok ρ' => ∀ σ', Rel G σ' H ρ' F → σ'.length = σ.length → (∀ i, i ∉ ws ++ ws' → σ'[i]? = σ[i]?) → Q σ' H
        | _ => False := q
      cases e1 : g d ρ with
      | ok ρ1 =>
        rw [e1] at q
        intro σ1 r1 l1 k1
        refine ⟨ρ1, F, dr, r1, s2, ?_⟩
        have q : match gr dr ρ1 with
          | .ok ρ' => ∀ σ', Rel G σ' H ρ' F → σ'.length = σ.length → (∀ i, i ∉ ws ++ ws' → σ'[i]? = σ[i]?) → Q σ' H
          | _ => False := q
        cases e2 : gr dr ρ1 with
        | ok ρ2 =>
          rw [e2] at q
          intro σ2 r2 l2 k2
          exact q σ2 r2 (l2.trans l1) fun i hi => (k2 i fun z => hi (List.mem_append_right _ z)).trans (k1 i fun z => hi (List.mem_append_left _ z))
        | ex c fs => rw [e2] at q; exact q.elim
        | bad => rw [e2] at q; exact q.elim
      | ex c fs => rw [e1] at q; exact q.elim
      | bad => rw [e1] at q; exact q.elim⟩
theorem vp_tup {ws : List Nat} {g : List D → Lo → R Lo} {n kk : Nat} (x : VX X G k) (h : VPs X G es ws g) (hn : (assignEach es X.env).length = n := by rfl) (hst : (assignEach es X.env).findIdx? (·.1) = none := by rfl) : VP X G (.Tuple es kk pos) ws (gT2 n g) :=
  ⟨pg_imp (pg_or (pg_tup (n := n) x.calm h.pgs hn hst) (pg_unl (n := n) x.calm h.pgs hn hst)) fun v σ H Q ⟨ρ, F, d, rl, s, q⟩ => by
    cases d with
    | tup ds =>
      have q : match (if ds.length = n then g ds ρ else R.bad) with
        | .ok ρ' => ∀ σ', Rel G σ' H ρ' F → σ'.length = σ.length → (∀ i, i ∉ ws → σ'[i]? = σ[i]?) → Q σ' H
        | _ => False := q
      by_cases hl : ds.length = n
      · rw [if_pos hl] at q
        cases s with
        | tup hq r => exact .inl ⟨_, _, rfl, x.K ▸ .inl (.inl hq), r.length.trans hl, ρ, F, ds, rl, r, q⟩
      · rw [if_neg hl] at q; exact q.elim
    | lst ds =>
      have q : match (if ds.length = n then g ds ρ else R.bad) with
        | .ok ρ' => ∀ σ', Rel G σ' H ρ' F → σ'.length = σ.length → (∀ i, i ∉ ws → σ'[i]? = σ[i]?) → Q σ' H
        | _ => False := q
      by_cases hl : ds.length = n
      · rw [if_pos hl] at q
        cases s with
        | lst hq r => exact .inr ⟨_, _, rfl, x.K ▸ hq.sql, r.length.trans hl, ρ, F, ds, rl, r, q⟩
      · rw [if_neg hl] at q; exact q.elim
    | _ => exact q.elim⟩
end

inductive Fl where
  | nx (ρ : Lo) | bk (ρ : Lo) | ct (ρ : Lo) | rt (d : D) | ex (c : Str) (fs : List (Str × D)) (ρ : Lo) | bad
theorem Kp.trans {F F1 : Fro} {H H1 H2 : Hp} (a : Kp F H H1) (s : ∀ a, F a → F1 a) (b : Kp F1 H1 H2) : Kp F H H2 := fun x o e h => b x o (a x o e h) (h.elim (fun z => .inl (s x z)) .inr)
theorem Kp.refl {F : Fro} {H : Hp} : Kp F H H := fun _ _ e _ => e
noncomputable def D.isLst : D → Bool
  | .lst _ => true
  | _ => false
structure Pts (K : PySem.W.Frag) (H0 H' : Hp) (F' : Fro) (vs : List V) (ds : List D) : Prop where
  len : vs.length = ds.length
  at_ : ∀ (i : Nat) (v : V) (d : D), vs[i]? = some v → ds[i]? = some d → (d.isLst = true ∧ ∃ a, v = .ref a ∧ H0 a = none ∧ ¬ F' a ∧ Ow K H' F' a d) ∨ (d.isLst = false ∧ Sh K H' F' v d)
  apart : ∀ (i j : Nat) (a : Addr) (d d' : D), vs[i]? = some (.ref a) → ds[i]? = some d → d.isLst = true → vs[j]? = some (.ref a) → ds[j]? = some d' → d'.isLst = true → i = j
noncomputable def FT (K : PySem.W.Frag) (H0 H' : Hp) (F' : Fro) (v : V) (d : D) : Prop := match d with
  | .tup ds => ∃ p vs, v = .ref p ∧ H0 p = none ∧ ¬ F' p ∧ H' p = some (.tup vs) ∧ Pts K H0 H' F' vs ds
  | d => Rp K .fr H0 H' F' v d
noncomputable def RpR (K : PySem.W.Frag) (m : Md) (H0 H' : Hp) (F' : Fro) (v : V) (d : D) : Prop := match m with
  | .bw => FT K H0 H' F' v d
  | .sh => Rp K .sh H0 H' F' v d
  | .fr => Rp K .fr H0 H' F' v d
theorem rpR_of {K : PySem.W.Frag} {m : Md} {H0 H' : Hp} {F' : Fro} {v : V} {d : D} (hm : m ≠ .bw) (h : Rp K m H0 H' F' v d) : RpR K m H0 H' F' v d := by
  cases m with
  | bw => exact absurd rfl hm
  | sh => exact h
  | fr => exact h
theorem rpR_to {K : PySem.W.Frag} {m : Md} {H0 H' : Hp} {F' : Fro} {v : V} {d : D} (hm : m ≠ .bw) (h : RpR K m H0 H' F' v d) : Rp K m H0 H' F' v d := by
  cases m with
  | bw => exact absurd rfl hm
  | sh => exact h
  | fr => exact h
theorem rpR_b {K : PySem.W.Frag} {m : Md} {H0 H' : Hp} {F' : Fro} {v : V} {d : D} (hd : ∀ ds, d ≠ .tup ds) (h : RpR K m H0 H' F' v d) : RB K H' F' v d := by
  cases m with
  | sh => exact rb_of (m := .sh) (H := H0) h
  | fr => exact rb_of (m := .fr) (H := H0) h
  | bw =>
    cases d with
    | tup ds => exact absurd rfl (hd ds)
    | _ => exact rb_of (m := .fr) (H := H0) h
noncomputable def SO (G : VG) (m : Md) (H : Hp) (F : Fro) (Dn : Ends) : Fl → Prop
  | .nx ρ => ∀ σ' H' F', Rel G σ' H' ρ F' → Kp F H H' → (∀ a, F a → F' a) → Dn.nx σ' H'
  | .bk ρ => ∀ σ' H' F', Rel G σ' H' ρ F' → Kp F H H' → (∀ a, F a → F' a) → Dn.bk σ' H'
  | .ct ρ => ∀ σ' H' F', Rel G σ' H' ρ F' → Kp F H H' → (∀ a, F a → F' a) → Dn.ct σ' H'
  | .rt d => ∀ v H' F', Le G.H0 G.F0 H' F' → RpR G.K m G.H0 H' F' v d → Dn.rt v H'
  | .ex c fs ρ => ∀ cls dd σ' H' F', Rel G σ' H' ρ F' → Kp F H H' → (∀ a, F a → F' a) → Xr G H' F' cls dd c fs → G.W cls dd σ' H'
  | .bad => False
noncomputable def tS (G : VG) (m : Md) (f : Lo → Fl) : TS := fun Dn σ H => ∃ ρ F, Rel G σ H ρ F ∧ SO G m H F Dn (f ρ)
structure VS (X : Cx) (G : VG) (m : Md) (st : Stmt) (f : Lo → Fl) : Prop where
  ps : PS X st (tS G m f)
structure VB (X : Cx) (G : VG) (m : Md) (sts : List Stmt) (f : Lo → Fl) : Prop where
  pss : PSs X sts (tS G m f)
noncomputable def fb {α : Type} (r : R α) (ρ : Lo) (k : α → Fl) : Fl := match r with
  | .ok a => k a
  | .ex c fs => .ex c fs ρ
  | .bad => .bad
section
variable {G : VG} {m m1 : Md} {H H1 : Hp} {F F1 : Fro} {Dn Dn' : Ends} {σ : L2.St} {ρ : Lo}
theorem SO.move {r : Fl} (h : SO G m H F Dn r) (k : Kp F H H1) (s : ∀ a, F a → F1 a) : SO G m H1 F1 Dn r := by
  cases r with
  | nx ρ => exact fun σ' H' F' rl k' s' => h σ' H' F' rl (k.trans s k') fun a z => s' a (s a z)
  | bk ρ => exact fun σ' H' F' rl k' s' => h σ' H' F' rl (k.trans s k') fun a z => s' a (s a z)
  | ct ρ => exact fun σ' H' F' rl k' s' => h σ' H' F' rl (k.trans s k') fun a z => s' a (s a z)
  | rt d => exact h
  | ex c fs ρ => exact fun cls dd σ' H' F' rl k' s' x => h cls dd σ' H' F' rl (k.trans s k') (fun a z => s' a (s a z)) x
  | bad => exact h
theorem SO.le {r : Fl} (h : SO G m H F Dn r) (l : Le H F H1 F1) : SO G m H1 F1 Dn r := h.move l.kp l.sub
theorem out_s {α β : Type} {S : α → β → Hp → Fro → Prop} {Q : β → Hp → Prop} {f : R α} {kk : α → Fl} (rl : Rel G σ H ρ F) (o : SO G m H F Dn (fb f ρ kk)) (h : ∀ a b H1 F1, f = .ok a → Le H F H1 F1 → S a b H1 F1 → SO G m H1 F1 Dn (kk a) → Q b H1) : Out G σ H F f S Q := by
  cases f with
  | ok a => exact fun b H' F' l s => h a b H' F' rfl l s (SO.le o l)
  | ex c fs => exact fun cls dd H' F' l x => o cls dd σ H' F' (rl.step l) l.kp l.sub x
  | bad => exact o
end

section
variable {X : Cx} {G : VG} {k : Nat} {m m1 : Md} {e : Expr} {st : Stmt} {sts rest : List Stmt} {f : Lo → R D} {c : Lo → R Bool} {g u : Lo → Fl} {pos pos' : Pos}
noncomputable def sq (f g : Lo → Fl) : Lo → Fl := fun ρ => match f ρ with
  | .nx ρ' => g ρ'
  | r => r
noncomputable def sNx : Lo → Fl := fun ρ => .nx ρ
theorem vb_nil : VB X G m [] sNx := ⟨pss_imp pss_nil fun Dn σ H ⟨ρ, F, rl, o⟩ => o σ H F rl Kp.refl fun _ z => z⟩
theorem so_seq {f g : Lo → Fl} {Dn : Ends} {H : Hp} {F : Fro} {ρ : Lo} (o : SO G m H F Dn (sq f g ρ)) : SO G m H F { Dn with nx := tS G m g Dn } (f ρ) := by
  unfold sq at o
  cases e : f ρ with
  | nx ρ' =>
    rw [e] at o
    exact fun σ' H' F' rl k s => ⟨ρ', F', rl, SO.move (r := g ρ') o k s⟩
  | bk ρ' => rw [e] at o; exact o
  | ct ρ' => rw [e] at o; exact o
  | rt d => rw [e] at o; exact o
  | ex c fs ρ' => rw [e] at o; exact o
  | bad => rw [e] at o; exact o
theorem vb_cons (h1 : VS X G m st g) (h2 : VB X G m rest u) : VB X G m (st :: rest) (sq g u) :=
  ⟨pss_imp (pss_cons h1.ps h2.pss) fun Dn σ H ⟨ρ, F, rl, o⟩ => ⟨ρ, F, rl, so_seq o⟩⟩
theorem vb_one (h1 : VS X G m st g) : VB X G m [st] g := ⟨pss_one h1.ps⟩
noncomputable def fz (i : Nat) : Lo → Lo := fun ρ => match ρ[i]? with
  | some (.ow d) => ρ.set i (.sh d)
  | _ => ρ
theorem rel_fz {σ : L2.St} {H : Hp} {ρ : Lo} {F : Fro} (r : Rel G σ H ρ F) (i : Nat) : (∃ F', Rel G σ H (fz i ρ) F' ∧ ∀ a, F a → F' a) ∨
    ∃ a u, H a = some u ∧ Mut (some u) ∧ ¬ F a ∧ ∀ od, Rel G σ (upd H a (.frz od u)) (fz i ρ) F := by
  unfold fz
  split
  · rename_i d e
    cases d with
    | dic es => exact .inr (r.freezeD e rfl)
    | tdc es => exact .inr (r.freezeD e rfl)
    | _ => exact .inl (r.freeze e rfl)
  · exact .inl ⟨F, r, fun _ z => z⟩
theorem vs_fz (i : Nat) (h : VS X G m st g) : VS X G m st (fun ρ => g (fz i ρ)) := ⟨⟨fun pins s σ H Dn I ⟨ρ, F, rl, o⟩ => by
  rcases rel_fz rl i with ⟨F', r', s'⟩ | ⟨a, kvs, ha, mu, nf, z⟩
  · exact h.ps.run pins s σ H Dn I ⟨fz i ρ, F', r', SO.move o (fun a u e z => e) s'⟩
  · obtain ⟨od, I2⟩ := I.lock ha mu
    exact h.ps.run pins s σ _ Dn I2 ⟨fz i ρ, F, z od, SO.move o (kp_own nf ha mu) fun _ z => z⟩⟩⟩
noncomputable def sSet (i : Nat) (f : Lo → R D) : Lo → Fl := fun ρ => fb (f ρ) ρ fun d => .nx (ρ.set i (.sh d))
theorem vs_set (i : Nat) {x : Str} (xx : VX X G k) (h : VE X G .sh e f) (hi : X.N[i]? = some x := by rfl) (hx : Loc X.env.scope x := by first | exact Or.inl rfl | exact Or.inr rfl) (hs : swapsWith e (some (.Name x pos')) pos.line X.env = pure false := by rfl)
    (hf : X.fn x = true ∨ X.env.scope.names.lookup x = some .local := by first | exact .inl rfl | exact .inr rfl) : VS X G m (.Assign [.Name x pos'] e pos) (sSet i f) :=
  ⟨ps_imp (ps_set (i := i) xx.nd hi hx h.pe hs hf) fun Dn σ H ⟨ρ, F, rl, o⟩ => ⟨ρ, F, rl, out_s rl o fun d v H1 F1 _ l s o1 => o1 _ H1 F1 ((rl.step l).setSh i s) Kp.refl fun _ z => z⟩⟩
noncomputable def nSl (d : D) : Sl := if d.mut = true then .ow d else .sh d
noncomputable def sNew (i : Nat) (f : Lo → R D) : Lo → Fl := fun ρ => fb (f ρ) ρ fun d => .nx (ρ.set i (nSl d))
theorem rel_new {σ : L2.St} {H H1 : Hp} {ρ : Lo} {F F1 : Fro} {d : D} {v : V} (rl : Rel G σ H ρ F) (l : Le H F H1 F1) (s : Rp G.K .fr H H1 F1 v d) (i : Nat) (i0 : i ≠ 0) : Rel G (σ.set i (some v)) H1 (ρ.set i (nSl d)) F1 := by
  rcases s with ⟨a, e, n, nf, o⟩ | ⟨hm, s⟩
  · subst e
    unfold nSl
    rw [if_pos o.mut]
    exact rl.setOw l i n nf o i0
  · unfold nSl
    rw [hm]
    exact (rl.step l).setSh i s
theorem vs_new (i : Nat) {x : Str} (xx : VX X G k) (h : VE X G .fr e f) (hi : X.N[i]? = some x := by rfl) (hx : Loc X.env.scope x := by first | exact Or.inl rfl | exact Or.inr rfl) (hs : swapsWith e (some (.Name x pos')) pos.line X.env = pure false := by rfl)
    (hf : X.fn x = true ∨ X.env.scope.names.lookup x = some .local := by first | exact .inl rfl | exact .inr rfl) (i0 : i ≠ 0 := by decide) : VS X G m (.Assign [.Name x pos'] e pos) (sNew i f) :=
  ⟨ps_imp (ps_set (i := i) xx.nd hi hx h.pe hs hf) fun Dn σ H ⟨ρ, F, rl, o⟩ => ⟨ρ, F, rl, out_s rl o fun d v H1 F1 _ l s o1 => o1 _ H1 F1 (rel_new rl l s i i0) Kp.refl fun _ z => z⟩⟩
noncomputable def sRet (f : Lo → R D) : Lo → Fl := fun ρ => fb (f ρ) ρ fun d => .rt d
theorem rp_base {σ : L2.St} {H H1 : Hp} {ρ : Lo} {F F1 : Fro} {d : D} {v : V} {m : Md} (rl : Rel G σ H ρ F) (s : Rp G.K m H H1 F1 v d) : Rp G.K m G.H0 H1 F1 v d := s.back rl.le.keep
theorem vs_ret (h : VE X G m e f) (hmb : m ≠ .bw := by intro z; cases z) : VS X G m (.Return (some e) pos) (sRet f) :=
  ⟨ps_imp (ps_ret h.pe) fun Dn σ H ⟨ρ, F, rl, o⟩ => ⟨ρ, F, rl, out_s rl o fun d v H1 F1 _ l s o1 => o1 v H1 F1 (rl.le.trans l) (rpR_of hmb (rp_base rl s))⟩⟩
theorem rpR_non {K : PySem.W.Frag} {H H' : Hp} {F' : Fro} {m : Md} : RpR K m H H' F' .non .non := by
  cases m with
  | sh => exact .non
  | fr => exact .inr ⟨rfl, .non⟩
  | bw => exact .inr ⟨rfl, .non⟩
noncomputable def sIf (c : Lo → R Bool) (f g : Lo → Fl) : Lo → Fl := fun ρ => fb (c ρ) ρ fun b => if b = true then f ρ else g ρ
theorem vs_if {ce : Expr} {bs bs' : List Stmt} (hc : VT X G ce c) (h1 : VB X G m bs g) (h2 : VB X G m bs' u) : VS X G m (.If ce bs bs' pos) (sIf c g u) :=
  ⟨ps_imp (ps_if hc.pt h1.pss h2.pss) fun Dn σ H ⟨ρ, F, rl, o⟩ => ⟨ρ, F, rl, out_s rl o fun b b' H1 F1 _ l s o1 => by
    subst s
    cases b' with
    | true => exact ⟨ρ, F1, rl.step l, o1⟩
    | false => exact ⟨ρ, F1, rl.step l, o1⟩⟩⟩
noncomputable def sApp (i : Nat) (f : Lo → R D) : Lo → Fl := fun ρ => match ρ[i]? with
  | some (.ow (.lst ds)) => fb (f ρ) ρ fun d => if fits (ds.length + 1) = true then .nx (ρ.set i (.ow (.lst (ds ++ [d])))) else .bad
  | _ => .bad
theorem rel_lst {σ : L2.St} {H H1 : Hp} {ρ : Lo} {F F1 : Fro} {i : Nat} {ds : List D} (rl : Rel G σ H ρ F) (e : ρ[i]? = some (.ow (.lst ds))) : ∃ a vs, σ[i]? = some (some (.ref a)) ∧ ¬ F a ∧ H a = some (.lst vs) ∧ ShL G.K H F vs ds := by
  obtain ⟨x, ex, a, ea, n, nf, w⟩ := rl.at e
  subst ea
  cases w with
  | lst h r => exact ⟨a, _, ex, nf, h, r⟩
theorem kp_upd {H : Hp} {F : Fro} {a : Addr} {vs : List V} {u : HO} (nf : ¬ F a) (h : H a = some (.lst vs)) : Kp F H (upd H a u) := fun b w e z => by
  have nb : b ≠ a := fun q => by
    subst q
    rcases z with z | z
    · exact nf z
    · rw [h] at e; cases e; exact z trivial
  rw [upd_ne nb]; exact e
theorem rel_put {σ : L2.St} {H : Hp} {ρ : Lo} {F : Fro} {i : Nat} {a : Addr} {vs ws : List V} {ds es : List D} (rl : Rel G σ H ρ F) (e : ρ[i]? = some (.ow (.lst ds))) (ex : σ[i]? = some (some (.ref a))) (nf : ¬ F a) (h : H a = some (.lst vs)) (s : ShL G.K H F ws es) :
    Rel G σ (upd H a (.lst ws)) (ρ.set i (.ow (.lst es))) F :=
  rl.write ex e (fun o q => by rw [h] at q; cases q; trivial) (.lst upd_same (s.mono (kp_upd nf h) fun _ z => z))
theorem vs_append (i : Nat) {x : Str} {ap cp : Pos} (h : VE X G .sh e f) (hN : X.N[i]? = some x := by rfl) (hv : Vis X.env.scope x := by first | exact Or.inl rfl | exact Or.inr (Or.inl rfl) | exact Or.inr (Or.inr rfl)) (hd : (x == ("__debug__" : Str)) = false := by decide)
    (hcd : (x == ("__classdict__" : Str)) = false := by decide) (hpe : PE X (.Call (.Attribute (.Name x pos') "append" ap) [e] [] cp) (tBM X.K "list" rAppend (tVar i) (tCons (tV G .sh f) tNil)))
    (hs : swapsWith (.Call (.Attribute (.Name x pos') "append" ap) [e] [] cp) none pos.line X.env = pure false := by rfl) : VS X G m (.Expr (.Call (.Attribute (.Name x pos') "append" ap) [e] [] cp) pos) (sApp i f) :=
  ⟨ps_imp (ps_expr hpe hs) fun Dn σ H ⟨ρ, F, rl, o⟩ => by
    unfold sApp at o
    split at o
    · rename_i ds e
      obtain ⟨a, vs, ex, nf, ha, s⟩ := rel_lst (H1 := H) (F1 := F) rl e
      refine ⟨.ref a, ex, .inl ⟨rfl, _, .inl (.inl ha)⟩, ρ, F, rl, out_s rl o fun d v H1 F1 _ l s1 o1 => ?_⟩
      by_cases hf : fits (ds.length + 1) = true
      · rw [if_pos hf] at o1
        have nf1 : ¬ F1 a := fun z => (l.new a z).elim nf fun q => by rw [ha] at q; cases q
        have ha1 := l.keep a _ ha
        have hl : vs.length < sizeLine := by have := fits_line hf; rw [s.length]; (first | lia | omega)
        exact ⟨a, vs, v, rfl, rfl, ha1, hl, o1 σ _ F1 (rel_put (rl.step l) e ex nf1 ha1 ((s.le l).append (.cons s1 .nil))) (kp_upd nf1 ha1) fun _ z => z⟩
      · rw [if_neg hf] at o1; exact o1.elim
    · exact o.elim⟩

noncomputable def forL (asg : D → Lo → R Lo) (body : Lo → Fl) : List D → Lo → Fl
  | [], ρ => .nx ρ
  | d :: ds, ρ => match asg d ρ with
    | .ok ρ1 => match body ρ1 with
      | .nx ρ2 => forL asg body ds ρ2
      | .ct ρ2 => forL asg body ds ρ2
      | .bk ρ2 => .nx ρ2
      | r => r
    | _ => .bad
noncomputable def sFor (it : Lo → R (List D)) (asg : D → Lo → R Lo) (body : Lo → Fl) : Lo → Fl := fun ρ => fb (it ρ) ρ fun ds => forL asg body ds ρ
theorem drop_get {α : Type} {l : List α} {i : Nat} {a : α} (h : l[i]? = some a) : l.drop i = a :: l.drop (i + 1) := by
  obtain ⟨h1, h2⟩ := List.getElem?_eq_some_iff.mp h
  rw [List.drop_eq_getElem_cons h1, h2]
theorem vs_for {tg iter : Expr} {bs : List Stmt} {ws : List Nat} {it : Lo → R (List D)} {asg : D → Lo → R Lo} {body : Lo → Fl} (xx : VX X G k) (hp : PassesOwn (model X.prog X.w) X.A X.env X.xe) (hi : VI X G tg iter it) (hg : VP X G tg ws asg) (hb : VB X G m bs body)
    (hs : ∀ x, foldedSetIterable iter X.env x = pure x := by intro _; rfl) : VS X G m (.For tg iter bs [] pos) (sFor it asg body) :=
  ⟨ps_imp (ps_for hp xx.calm hi.pi hg.pg hb.pss hs) fun Dn σ H ⟨ρ, F, rl, o⟩ => ⟨ρ, F, rl, out_s rl o fun ds J H1 F1 _ l wk o1 => by
    refine ⟨fun i n σ H => n = ds.length - i ∧ i ≤ ds.length ∧ ∃ ρ F, Rel G σ H ρ F ∧ Kp F1 H1 H ∧ (∀ a, F1 a → F a) ∧ SO G m H F Dn (forL asg body (ds.drop i) ρ), ⟨_, rfl, Nat.zero_le _, ρ, F1, rl.step l, Kp.refl, fun _ z => z, o1⟩, ?_⟩
    rintro i n σ H ⟨rfl, hi, ρ, F, rl, kp, sb, o⟩
    by_cases hlt : i < ds.length
    · have hd : ds[i]? = some ds[i] := List.getElem?_eq_getElem hlt
      rw [drop_get hd] at o
      refine .inr ⟨wk.goes i H hlt kp, fun σ' H' => ∃ ρ' F', Rel G σ' H' ρ' F' ∧ Kp F1 H1 H' ∧ (∀ a, F1 a → F' a) ∧ SO G m H' F' Dn (forL asg body (ds.drop (i + 1)) ρ'), fun σ' H' ⟨ρ', F', a1, a2, a3, a4⟩ => ⟨ds.length - (i + 1), by (first | lia | omega), rfl, hlt, ρ', F', a1, a2, a3, a4⟩, fun y H' hy => ?_⟩
      obtain ⟨d, F2, ed, l2, sd⟩ := wk.yields i H F y H' hlt kp sb rl.le.the hy
      rw [hd] at ed
      cases ed
      refine ⟨ρ, F2, ds[i], rl.step l2, sd, ?_⟩
      have o : SO G m H F Dn (match asg ds[i] ρ with
        | .ok ρ1 => match body ρ1 with
          | .nx ρ2 => forL asg body (ds.drop (i + 1)) ρ2
          | .ct ρ2 => forL asg body (ds.drop (i + 1)) ρ2
          | .bk ρ2 => .nx ρ2
          | r => r
        | _ => .bad) := o
      have o := SO.le o l2
      cases e1 : asg ds[i] ρ with
      | ok ρ1 =>
        rw [e1] at o
        intro σ2 rl2 _ _
        refine ⟨ρ1, F2, rl2, ?_⟩
        have o : SO G m H' F2 Dn (match body ρ1 with
          | .nx ρ2 => forL asg body (ds.drop (i + 1)) ρ2
          | .ct ρ2 => forL asg body (ds.drop (i + 1)) ρ2
          | .bk ρ2 => .nx ρ2
          | r => r) := o
        have kp2 : Kp F1 H1 H' := kp.trans sb l2.kp
        have sb2 : ∀ a, F1 a → F2 a := fun a z => l2.sub a (sb a z)
        cases e2 : body ρ1 with
        | nx ρ2 => rw [e2] at o; exact fun σ3 H3 F3 rl3 kp3 sb3 => ⟨ρ2, F3, rl3, kp2.trans sb2 kp3, fun a z => sb3 a (sb2 a z), SO.move o kp3 sb3⟩
        | ct ρ2 => rw [e2] at o; exact fun σ3 H3 F3 rl3 kp3 sb3 => ⟨ρ2, F3, rl3, kp2.trans sb2 kp3, fun a z => sb3 a (sb2 a z), SO.move o kp3 sb3⟩
        | bk ρ2 => rw [e2] at o; exact o
        | rt d => rw [e2] at o; exact o
        | ex c fs ρ2 => rw [e2] at o; exact o
        | bad => rw [e2] at o; exact o
      | ex c fs => rw [e1] at o; exact o.elim
      | bad => rw [e1] at o; exact o.elim
    · have e : i = ds.length := by (first | lia | omega)
      subst e
      rw [List.drop_length] at o
      exact .inl ⟨wk.stops H kp, o σ H F rl Kp.refl fun _ z => z⟩⟩⟩

end
end VL

namespace VL
open PyProof.Rows PySem L2 PySem.Spec

noncomputable abbrev VG.nox (G : VG) : VG := { G with W := fun _ _ _ _ => False }
theorem Rel.nox {G : VG} {σ : L2.St} {H : Hp} {ρ : Lo} {F : Fro} (r : Rel G σ H ρ F) : Rel G.nox σ H ρ F := ⟨r.len, r.sl, r.apart, r.le, r.first, r.dp⟩
theorem VX.blk {X : Cx} {G : VG} {k : Nat} (x : VX X G k) (s : Shared) (H : Hp) (scope : Scope) (cenv : Env) (fp : List Addr) : VX (X.blk s H scope cenv fp) G.nox k :=
  ⟨x.K, x.mg, x.room, x.calm, x.gds, x.sysm, x.nd, takes0⟩
noncomputable def wipeL (ρ : Lo) : List Nat → Lo
  | [] => ρ
  | v :: vs => (wipeL ρ vs).set v .no
theorem Rel.wipe {G : VG} {σ : L2.St} {H : Hp} {ρ : Lo} {F : Fro} (r : Rel G σ H ρ F) : ∀ vs : List Nat, Rel G (L2.wipe σ vs) H (wipeL ρ vs) F
  | [] => r
  | v :: vs => (Rel.wipe r vs).wipe1 v none
noncomputable def lcL (asg : D → Lo → R Lo) (tst : Lo → R Bool) (elt : Lo → R D) (ρ0 : Lo) : List D → R (List D)
  | [] => .ok []
  | d :: ds => match asg d ρ0 with
    | .ok ρ1 => match tst ρ1 with
      | .ok true => match elt ρ1 with
        | .ok e => (lcL asg tst elt ρ0 ds).bind fun es => .ok (e :: es)
        | _ => .bad
      | .ok false => lcL asg tst elt ρ0 ds
      | _ => .bad
    | _ => .bad
noncomputable def eLc (it : Lo → R (List D)) (asg : D → Lo → R Lo) (tst : Lo → R Bool) (elt : Lo → R D) (vs : List Nat) : Lo → R D := fun ρ => (it ρ).bind fun ds => (lcL asg tst elt (wipeL ρ vs) ds).bind fun es => .ok (.lst es)
structure VTs (X : Cx) (G : VG) (ifs : List Expr) (f : Lo → R Bool) : Prop where
  pts : PTs X ifs (tT G f)
noncomputable def tsY : Lo → R Bool := fun _ => .ok true
theorem vts_nil {X : Cx} {G : VG} : VTs X G [] tsY := ⟨⟨fun pins s σ H Q I ⟨ρ, F, rl, o⟩ => pts_nil.run pins s σ H Q I (o true H F (Le.refl rl.le.the) rfl)⟩⟩
theorem wipe_get {σ : L2.St} {i : Nat} : ∀ {vs : List Nat}, i ∉ vs → (L2.wipe σ vs)[i]? = σ[i]?
  | [], _ => rfl
  | v :: vs, h => by
    have h' : i ≠ v ∧ i ∉ vs := by simpa using h
    show ((L2.wipe σ vs).set v none)[i]? = _
    rw [List.getElem?_set_ne (Ne.symm h'.1), wipe_get h'.2]
theorem wipe_none {σ : L2.St} {i : Nat} : ∀ {vs : List Nat}, i ∈ vs → i < σ.length → (L2.wipe σ vs)[i]? = some none
  | [], h, _ => by simp at h
  | v :: vs, h, hl => by
    show ((L2.wipe σ vs).set v none)[i]? = _
    by_cases e : v = i
    · subst e
      rw [List.getElem?_set_self (by rw [wipe_length]; exact hl)]
    · rw [List.getElem?_set_ne e]
      refine wipe_none (List.mem_of_ne_of_mem (Ne.symm e) h) hl
theorem wipe_same {σ σ' : L2.St} {vs ws : List Nat} (hw : ∀ i ∈ ws, i ∈ vs) (hl : σ'.length = σ.length) (h : ∀ i, i ∉ ws → σ'[i]? = σ[i]?) : L2.wipe σ' vs = L2.wipe σ vs := by
  apply List.ext_getElem?
  intro i
  by_cases hi : i ∈ vs
  · by_cases hl2 : i < σ.length
    · rw [wipe_none hi hl2, wipe_none hi (by rw [hl]; exact hl2)]
    · rw [List.getElem?_eq_none (by rw [wipe_length]; (first | lia | omega)), List.getElem?_eq_none (by rw [wipe_length]; (first | lia | omega))]
  · rw [wipe_get hi, wipe_get hi]
    exact h i fun z => hi (hw i z)
theorem wipe_wipe (σ : L2.St) (vs : List Nat) : L2.wipe (L2.wipe σ vs) vs = L2.wipe σ vs := wipe_same (ws := vs) (fun _ h => h) (wipe_length _ _) fun _ h => wipe_get h
section
variable {X : Cx} {G : VG} {k : Nat} {m : Md} {elt tg iter : Expr} {ifs : List Expr} {scope : Scope} {own : List (Str × Nat)} {ws : List Nat} {pos : Pos} {it : Lo → R (List D)} {asg : D → Lo → R Lo} {tst : Lo → R Bool} {fe : Lo → R D}
theorem lc_of {σ : L2.St} {H : Hp} {Q : VK} (hw : ∀ i ∈ ws, i ∈ own.map (·.2)) (h : tV G .fr (eLc it asg tst fe (own.map (·.2))) σ H Q) :
    tLc (fun σ H R => ∃ ρ F, Rel G σ H ρ F ∧ Out G σ H F (it ρ) (fun ds J H' F' => Wk G J ds H' F') R)
      (fun v σ H Q => ∃ ρ F d, Rel G.nox σ H ρ F ∧ Sh G.nox.K H F v d ∧ match asg d ρ with
        | .ok ρ' => ∀ σ', Rel G.nox σ' H ρ' F → σ'.length = σ.length → (∀ i, i ∉ ws → σ'[i]? = σ[i]?) → Q σ' H
        | _ => False) (tT G.nox tst) (tV G.nox .sh fe) (own.map (·.2)) σ H Q := by
  obtain ⟨ρ, F, rl, o⟩ := h
  refine ⟨ρ, F, rl, Out.bind (S' := fun d v H' F' => Rp G.K .fr H H' F' v d) o (fun _ _ _ _ _ _ _ h => h) fun ds J H1 F1 _ l wk kk => ?_⟩
  have o1 := kk (S'' := fun d v H' F' => Rp G.K .fr H1 H' F' v d) fun d v H' F' h => h.back l.keep
  intro p hp
  have np : ¬ F1 p := fun z => l.the p z hp
  cases el : lcL asg tst fe (wipeL ρ (own.map (·.2))) ds with
  | bad => rw [el] at o1; exact o1.elim
  | ex c fs =>
    -- a comprehension's own parts raise nothing here
    have no : ∀ ds : List D, lcL asg tst fe (wipeL ρ (own.map (·.2))) ds ≠ .ex c fs := by
      intro ds
      induction ds with
      | nil => intro z; cases z
      | cons d ds ih =>
        intro z
        unfold lcL at z
        split at z
        · split at z
          · split at z
            · cases q : lcL asg tst fe (wipeL ρ (own.map (·.2))) ds with
              | ok es => rw [q] at z; cases z
              | ex c' fs' => rw [q] at z; cases z; exact ih q
              | bad => rw [q] at z; cases z
            · cases z
          · exact ih z
          · cases z
        · cases z
    exact (no ds el).elim
  | ok es =>
    rw [el] at o1
    have s0 : (upd H1 p (.lst [])) p = some (.lst []) := upd_same
    have l0 := le_new (o := .lst []) l.the hp
    refine ⟨fun i n H2 => n = ds.length - i ∧ i ≤ ds.length ∧ ∃ F2 vs acc rest, Le H1 F1 H2 F2 ∧ H2 p = some (.lst vs) ∧ ¬ F2 p ∧ ShL G.K H2 F2 vs acc ∧ acc.length ≤ i ∧ lcL asg tst fe (wipeL ρ (own.map (·.2))) (ds.drop i) = .ok rest ∧ es = acc ++ rest,
      ⟨_, rfl, Nat.zero_le _, F1, [], [], es, l0, s0, np, .nil, Nat.zero_le _, el, rfl⟩, ?_⟩
    rintro i n H2 ⟨rfl, hi, F2, vs, acc, rest, l2, ep, np2, sa, hacc, hr, ees⟩
    by_cases hlt : i < ds.length
    · have hd : ds[i]? = some ds[i] := List.getElem?_eq_getElem hlt
      refine .inr ⟨wk.goes i H2 hlt l2.kp, fun H' => ∃ n', n' < ds.length - i ∧ (n' = ds.length - (i + 1) ∧ i + 1 ≤ ds.length ∧ ∃ F2 vs acc rest, Le H1 F1 H' F2 ∧ H' p = some (.lst vs) ∧ ¬ F2 p ∧ ShL G.K H' F2 vs acc ∧ acc.length ≤ i + 1 ∧ lcL asg tst fe (wipeL ρ (own.map (·.2))) (ds.drop (i + 1)) = .ok rest ∧ es = acc ++ rest), fun H' q => q, fun x H3 hy => ?_⟩
      obtain ⟨d, F3, ed, l3, sd⟩ := wk.yields i H2 F2 x H3 hlt l2.kp l2.sub l2.the hy
      rw [hd] at ed
      cases ed
      rw [drop_get hd] at hr
      have rl3 : Rel G (L2.wipe σ (own.map (·.2))) H3 (wipeL ρ (own.map (·.2))) F3 := (((rl.step l).step l2).step l3).wipe _
      have ep3 := l3.keep p _ ep
      have np3 : ¬ F3 p := fun z => (l3.new p z).elim np2 fun q => by rw [ep] at q; cases q
      refine ⟨_, F3, ds[i], rl3.nox, sd, ?_⟩
      unfold lcL at hr
      cases ea : asg ds[i] (wipeL ρ (own.map (·.2))) with
      | ok ρ1 =>
        rw [ea] at hr
        dsimp only at hr
        intro σ2 rl4 hl4 hk4
        refine ⟨(wipe_same hw hl4 hk4).trans (wipe_wipe _ _), ρ1, F3, rl4, ?_⟩
        cases et : tst ρ1 with
        | ok t =>
          rw [et] at hr
          intro b H4 F4 l4 eb
          subst eb
          have ep4 := l4.keep p _ ep3
          have np4 : ¬ F4 p := fun z => (l4.new p z).elim np3 fun q => by rw [ep3] at q; cases q
          cases b with
          | false =>
            exact ⟨_, Nat.sub_lt_sub_left hlt (Nat.lt_succ_self i), rfl, hlt, F4, vs, acc, rest, (l2.trans l3).trans l4, ep4, np4, (sa.le l3).le l4, by (first | lia | omega), hr, ees⟩
          | true =>
            rw [if_pos rfl]
            dsimp only at hr
            refine ⟨ρ1, F4, rl4.step l4, ?_⟩
            cases ee : fe ρ1 with
            | ok e =>
              rw [ee] at hr
              intro y H5 F5 l5 sy
              have ep5 := l5.keep p _ ep4
              have np5 : ¬ F5 p := fun z => (l5.new p z).elim np4 fun q => by rw [ep4] at q; cases q
              have sa5 := ((sa.le l3).le l4).le l5
              obtain ⟨rest', er, e3⟩ : ∃ rest', lcL asg tst fe (wipeL ρ (own.map (·.2))) (ds.drop (i + 1)) = .ok rest' ∧ rest = e :: rest' := by
                have hr : (lcL asg tst fe (wipeL ρ (own.map (·.2))) (ds.drop (i + 1))).bind (fun es => R.ok (e :: es)) = .ok rest := hr
                cases q : lcL asg tst fe (wipeL ρ (own.map (·.2))) (ds.drop (i + 1)) with
                | ok r' => rw [q] at hr; cases hr; exact ⟨r', rfl, rfl⟩
                | ex _ _ => rw [q] at hr; cases hr
                | bad => rw [q] at hr; cases hr
              have hz : vs.length < sizeLine := by
                have h1 := sa5.length
                have h2 := wk.few
                (first | lia | omega)
              have kp5 : Kp F5 H5 (upd H5 p (.lst (vs ++ [y]))) := kp_upd np5 ep5
              have l6 : Le H1 F1 (upd H5 p (.lst (vs ++ [y]))) F5 := by
                have l7 := ((l2.trans l3).trans l4).trans l5
                refine ⟨fun a u e => ?_, l7.sub, l7.new, fun a z => ?_⟩
                · rw [upd_ne (ne_of_none e hp)]; exact l7.keep a u e
                · by_cases ha : a = p
                  · subst ha; exact absurd z np5
                  · rw [upd_ne ha]; exact l7.the a z
              refine ⟨vs, ep5, hz, _, Nat.sub_lt_sub_left hlt (Nat.lt_succ_self i), rfl, hlt, F5, vs ++ [y], acc ++ [e], rest', l6, upd_same, np5, ?_, by simpa using hacc, er, by rw [ees, e3]; simp⟩
              exact (sa5.append (.cons sy .nil)).mono kp5 fun _ z => z
            | ex _ _ => rw [ee] at hr; cases hr
            | bad => rw [ee] at hr; cases hr
        | ex _ _ => rw [et] at hr; dsimp only at hr; cases hr
        | bad => rw [et] at hr; dsimp only at hr; cases hr
      | ex _ _ => rw [ea] at hr; cases hr
      | bad => rw [ea] at hr; cases hr
    · have e : i = ds.length := by (first | lia | omega)
      subst e
      rw [List.drop_length] at hr
      cases hr
      refine .inl ⟨wk.stops H2 l2.kp, ?_⟩
      rw [List.append_nil] at ees
      subst ees
      exact o1 _ H2 F2 l2 (.inl ⟨p, rfl, hp, np2, .lst ep sa⟩)
theorem ve_lc (x : VX X G k) (hi : VI X G tg iter it) (ok : BlkOk X.N X.env.scope scope own) (hw : ∀ i ∈ ws, i ∈ own.map (·.2))
    (hg : ∀ (s : Shared) (H : Hp) (C : Addr) (cl : List (Str × Addr)) (fp : List Addr), VX (X.blk s H scope (compEnvC scope cl C X.env) fp) G.nox k → VP (X.blk s H scope (compEnvC scope cl C X.env) fp) G.nox tg ws asg)
    (ht : ∀ (s : Shared) (H : Hp) (C : Addr) (cl : List (Str × Addr)) (fp : List Addr), VX (X.blk s H scope (compEnvC scope cl C X.env) fp) G.nox k → VTs (X.blk s H scope (compEnvC scope cl C X.env) fp) G.nox ifs tst)
    (he : ∀ (s : Shared) (H : Hp) (C : Addr) (cl : List (Str × Addr)) (fp : List Addr), VX (X.blk s H scope (compEnvC scope cl C X.env) fp) G.nox k → VE (X.blk s H scope (compEnvC scope cl C X.env) fp) G.nox .sh elt fe) (hs : ∀ x, foldedSetIterable iter X.env x = pure x := by intro _; rfl) :
    VE X G .fr (.ListComp elt [⟨tg, iter, ifs, 0⟩] scope pos) (eLc it asg tst fe (own.map (·.2))) :=
  ⟨pe_imp (pe_lc x.calm x.nd hi.pi ok (fun s H C cl fp => (hg s H C cl fp (x.blk ..)).pg) (fun s H C cl fp => (ht s H C cl fp (x.blk ..)).pts) (fun s H C cl fp => (he s H C cl fp (x.blk ..)).pe) hs) fun σ H Q h => lc_of hw h⟩
end
end VL

namespace VL
open PyProof.Rows PySem L2 PySem.Spec

structure FnG (P : Program) (w : World) (K : PySem.W.Frag) (mg : Str → Option Value) (base : Heap) (k : Nat) (f : Addr) (fd : FuncData) (ps : List Str) (sp : Sp) : Prop where
  len : ∀ vs H Q E, sp vs H Q E → vs.length = ps.length
  run : ∀ (A : Around) (outer : List Env) (s : Shared) (H : Hp) (args : Args) (us : List Value) (vs : List V) (Q : VK) (E : XK), Room k A → A.guards = some [] → Env0 P w K mg base A outer s H → BindsTo s fd args (ps.zip us) → Vals vs us → sp vs H Q E →
    codeAny (model P w) A (.call (.ref f) args) (CR (L2.CX P w) outer P w H s Q E) s
theorem fng_of {P : Program} {w : World} {K : PySem.W.Frag} {mg : Str → Option Value} {base : Heap} {k : Nat} {f : Addr} {fd : FuncData} {x qual : Str} {st : Stmt} {N ps : List Str} {sp : Sp} (F : Fun K x qual st f fd) (S : FnScope N ps (defScope st))
    (len : ∀ vs H Q E, sp vs H Q E → vs.length = ps.length)
    (hb : ∀ (cdv : Value) (A : Around) (outer : List Env) (s : Shared) (H : Hp) (vs : List V) (Q : VK) (E : XK), Room k (A.deeper (envOfC qual (defScope st) s.heap.objs.size f cdv)) → A.guards = some [] → sp vs H Q E →
      ∃ t, PSs (cxOf (L2.CX P w) P w K mg base N qual (defScope st) f cdv A outer s H E) (defBody st) t ∧ t { nx := fun _ H' => Q .non H', rt := Q } (L2.start N vs) H) : FnG P w K mg base (k + 1) f fd ps sp := by
  obtain ⟨oc, od, kV, doc, pm, an, cdv, ct, osl, rfl, lk, hcd⟩ := F.ex
  refine ⟨len, ?_⟩
  intro A outer s H args us vs Q E room gds e0 hbind hv hsp
  have inK : K.In s.heap := e0.mod.kin.keeps fun b o e => (e0.bs b o e).1
  have nolim : s.heap.NoLimit := e0.mod.nolimit.keeps fun b o e => (e0.bs b o e).1
  have places : ∀ y ∈ ps.zip us, (defScope st).names.lookup y.1 = some .local ∨ ((defScope st).names.lookup y.1 = some .cell ∧ ((cellsFrom (s.heap.objs.size + 1) (defScope st).names []).lookup y.1).isSome = true) := by
    intro y hy
    obtain ⟨n, v⟩ := y
    exact (S.par n (List.of_mem_zip hy).1).imp id fun q => ⟨q, PySem.W.cellsFrom_some _ _ _ (.inl q)⟩
  refine codeAny_call_function room.depth (inK _ _ lk) rfl S.co S.gen rfl (PySem.W.codeRec_of inK hcd) (hbind _ _ _ _ ?_)
  refine wpAny_newFunctionEnv_cells S.kind places ?_
  intro env he s1 ic
  subst he
  refine ⟨nolim.keeps ic.toInCall.keep, codeAny_func ?_⟩
  obtain ⟨t, ht, hq⟩ := hb cdv A outer s H vs Q E (room.deeper _) gds hsp
  have I0 := inv_start (CX := L2.CX P w) (mg := mg) (E := E) (cd := cdv) S room.hd e0 (len _ _ _ _ hsp) hv ic
  refine wpAny_mono (ht.run [] s1 (L2.start N vs) H _ I0 hq) ?_ fun e s' hs => hs
  intro fl s' hs
  cases fl with
  | ret u =>
    obtain ⟨v, σ', H', J, rv, q⟩ := hs
    exact ⟨v, H', J.os, J.bare, J.base, J.hok, rv, q⟩
  | next =>
    obtain ⟨σ', H', J, q⟩ := hs
    exact ⟨V.non, H', J.os, J.bare, J.base, J.hok, rfl, q⟩
  | brk =>
    obtain ⟨_, _, _, z⟩ := hs
    exact False.elim z
  | cont =>
    obtain ⟨_, _, _, z⟩ := hs
    exact False.elim z

noncomputable def spV (K : PySem.W.Frag) (mg : Str → Option Value) (n : Nat) (m : Md) (g : List D → R D) : Sp := fun vs H Q E => ∃ F ds, The F H ∧ ShL K H F vs ds ∧ ds.length = n ∧ match g ds with
  | .ok d => ∀ v H' F', Le H F H' F' → RpR K m H H' F' v d → Q v H'
  | .ex c fs => ∀ cls dd H' F', Le H F H' F' → Xr ⟨K, mg, H, F, fun _ _ _ _ => False, none⟩ H' F' cls dd c fs → E cls dd H'
  | .bad => False
noncomputable def runF (body : Lo → Fl) (n : Nat) (ds : List D) : R D := match body (ds.map Sl.sh ++ List.replicate (n - ds.length) .no) with
  | .rt d => .ok d
  | .nx _ => .ok .non
  | .ex c fs _ => .ex c fs
  | _ => .bad
theorem rsl_start {G : VG} {H : Hp} {F : Fro} : ∀ {vs : List V} {ds : List D} {n : Nat} {i : Nat} {x : Option V} {s : Sl}, ShL G.K H F vs ds → (vs.map some ++ List.replicate n none)[i]? = some x → (ds.map Sl.sh ++ List.replicate n .no)[i]? = some s → RSl G H F x s
  | _, _, n, i, x, s, .nil, _, h2 => by
    have e : s = .no := by
      have h2 : (List.replicate n Sl.no)[i]? = some s := by simpa using h2
      rw [List.getElem?_replicate] at h2
      split at h2
      · exact (Option.some.inj h2).symm
      · cases h2
    subst e
    trivial
  | _, _, n, 0, x, s, .cons h r, h1, h2 => by
    simp at h1 h2
    subst h1 h2
    exact ⟨_, rfl, h⟩
  | _, _, n, i + 1, x, s, .cons h r, h1, h2 => rsl_start r (by simpa using h1) (by simpa using h2)
theorem sl_start {i : Nat} {d : D} : ∀ {ds : List D} {n : Nat}, (ds.map Sl.sh ++ List.replicate n .no)[i]? = some (.ow d) → False := by
  intro ds n h
  by_cases hi : i < (ds.map Sl.sh).length
  · rw [List.getElem?_append_left hi, List.getElem?_map] at h
    cases e : ds[i]? with
    | none => rw [e] at h; cases h
    | some _ => rw [e] at h; cases h
  · rw [List.getElem?_append_right (by (first | lia | omega)), List.getElem?_replicate] at h
    split at h <;> cases h
theorem dp_start {i : Nat} {t : Tr} : ∀ {ds : List D} {n : Nat}, (ds.map Sl.sh ++ List.replicate n .no)[i]? = some (.dp t) → False := by
  intro ds n h
  by_cases hi : i < (ds.map Sl.sh).length
  · rw [List.getElem?_append_left hi, List.getElem?_map] at h
    cases e : ds[i]? with
    | none => rw [e] at h; cases h
    | some _ => rw [e] at h; cases h
  · rw [List.getElem?_append_right (by (first | lia | omega)), List.getElem?_replicate] at h
    split at h <;> cases h
theorem rel_start {G : VG} {N : List Str} {vs : List V} {ds : List D} (t : The G.F0 G.H0) (s : ShL G.K G.H0 G.F0 vs ds) : Rel G (L2.start N vs) G.H0 (ds.map Sl.sh ++ List.replicate (N.length - ds.length) .no) G.F0 := by
  have hl := s.length
  refine ⟨by unfold L2.start; simp [hl], fun i x sl h1 h2 => ?_, fun i j a d d' _ h _ _ => (sl_start h).elim, Le.refl t, fun a d _ h => (sl_start h).elim, dp_none fun i t h => dp_start h⟩
  unfold L2.start at h1
  rw [hl] at h1
  exact rsl_start s h1 h2
theorem fn_v {P : Program} {w : World} {K : PySem.W.Frag} {mg : Str → Option Value} {base : Heap} {k : Nat} {f : Addr} {fd : FuncData} {x qual : Str} {st : Stmt} {N ps : List Str} {m : Md} {body : Lo → Fl} (F : Fun K x qual st f fd) (S : FnScope N ps (defScope st)) (hsys : ∃ o es ep, base.get? sysModules = some o ∧ o.data = .dict es ep)
    (hb : ∀ (cdv : Value) (A : Around) (outer : List Env) (s : Shared) (H : Hp) (E : XK) (G : VG), G.mg = mg → VX (cxOf (L2.CX P w) P w K mg base N qual (defScope st) f cdv A outer s H E) G k →
      VB (cxOf (L2.CX P w) P w K mg base N qual (defScope st) f cdv A outer s H E) G m (defBody st) body) : FnG P w K mg base (k + 1) f fd ps (spV K mg ps.length m (runF body N.length)) := by
  refine fng_of F S (fun vs H Q E h => ?_) fun cdv A outer s H vs Q E room gds h => ?_
  · obtain ⟨F, ds, _, s, hl, _⟩ := h
    exact s.length.trans hl
  · obtain ⟨F0, ds, t, sd, hl, h⟩ := h
    have hx : VX (cxOf (L2.CX P w) P w K mg base N qual (defScope st) f cdv A outer s H E) ⟨K, mg, H, F0, fun cls d _ H' => E cls d H', none⟩ k :=
      ⟨rfl, rfl, room, rfl, gds, hsys, S.nd, takes_of rfl rfl rfl rfl⟩
    refine ⟨_, (hb cdv A outer s H E _ rfl hx).pss, _, F0, rel_start (G := ⟨K, mg, H, F0, fun cls d _ H' => E cls d H', none⟩) t sd, ?_⟩
    unfold runF at h
    cases e : body (ds.map Sl.sh ++ List.replicate (N.length - ds.length) .no) with
    | nx ρ => rw [e] at h; exact fun σ' H' F' rl _ _ => h .non H' F' rl.le rpR_non
    | rt d => rw [e] at h; exact fun v H' F' l r => h v H' F' l r
    | ex c fs ρ => rw [e] at h; exact fun cls dd σ' H' F' rl _ _ x => h cls dd H' F' rl.le x
    | bk ρ => rw [e] at h; exact h.elim
    | ct ρ => rw [e] at h; exact h.elim
    | bad => rw [e] at h; exact h.elim

section
variable {X : Cx} {G : VG} {k j : Nat} {f : Addr} {fd : FuncData} {ps : List Str} {sp : Sp} {m : Md} {g : List D → R D} {e : Expr} {es : List Expr} {fa : Lo → R (List D)} {nm : Str} {p pos : Pos}
theorem run_g {pins : List (Addr × Obj)} {σ : L2.St} {H : Hp} {s : Shared} {Q : VK} {us : List Value} {vs : List V} {E : XK} {dvs : List V} {ds : List Value} (x : VX X G k) (F : FnG X.prog X.w X.K X.mg X.base j f fd ps sp) (hj : j ≤ k) (hb : Binds X.K fd ps ds) (hd : Vals dvs ds) (hx : PassesAt (L2.CX X.prog X.w) X σ E)
    (I : Inv X pins σ H s) (r : Vals vs us) (h : sp (vs ++ dvs) H Q E) : wpAny (model X.prog X.w) X.A (call (.ref f) us) (EP X pins σ Q) X.xe s := by
  have r2 := r.append hd
  have hl : (us ++ ds).length = ps.length := r2.length.symm.trans (F.len _ _ _ _ h)
  refine wpAny_call (codeAny_mono (F.run X.A X.stack s H ⟨us, []⟩ (us ++ ds) (vs ++ dvs) Q E (x.room.mono hj) x.gds I.env0 (hb s us I.kIn hl) r2 h) ?_)
  intro rr s' hq
  cases rr with
  | error e => exact hx pins H s e s' I hq
  | ok fl =>
    cases fl with
    | ret u => exact I.after hq
    | next => exact hq.elim
    | brk => exact hq.elim
    | cont => exact hq.elim
noncomputable def eCall (g : List D → R D) (fa : Lo → R (List D)) : Lo → R D := fun ρ => (fa ρ).bind g
theorem sp_of {σ : L2.St} {H : Hp} {F : Fro} {Q : VK} {n : Nat} {vs : List V} {ds : List D} (t : The F H) (s : ShL G.K H F vs ds) (hl : ds.length = n) (o : Out G σ H F (g ds) (fun d v H' F' => Rp G.K m H H' F' v d) Q) (hmb : m ≠ .bw := by intro z; cases z) : spV G.K G.mg n m g vs H Q (WE G.W σ) := by
  refine ⟨F, ds, t, s, hl, ?_⟩
  cases e : g ds with
  | ok d => rw [e] at o; exact fun v H' F' l r => o v H' F' l (rpR_to hmb r)
  | ex c fs => rw [e] at o; exact fun cls dd H' F' l xr => o cls dd H' F' l xr
  | bad => rw [e] at o; exact o
theorem ve_call {n : Nat} (x : VX X G k) (F : FnG X.prog X.w X.K X.mg X.base j f fd ps (spV X.K X.mg n m g)) (hj : j ≤ k) (hm : X.mg nm = some (.ref f)) (hk : PySem.W.keepIn X.K (.ref f) = true) (hb : Binds X.K fd ps []) (ha : VA X G (e :: es) fa) (hn : ∀ ρ ds, fa ρ = .ok ds → ds.length = n)
    (hg : Gl X nm := by rfl) (hdb : (nm == ("__debug__" : Str)) = false := by decide) (he : starEach (e :: es) X.env = (false, eval e X.env) :: starEach es X.env := by rfl) (hpl : (backTo pos (starEach es X.env)).any (·.1) = false := by rfl) (hmb : m ≠ .bw := by intro z; cases z) : VE X G m (.Call (.Name nm p) (e :: es) [] pos) (eCall g fa) := by
  refine ⟨⟨fun pins s σ H Q I ⟨ρ, F0, rl, o⟩ => ?_⟩⟩
  refine wpAny_Call_Name_kw (ld_glob I hg hm ?_ hdb)
  have h1 : tA G fa σ H fun vs H1 => spV X.K X.mg n m g vs H1 Q (WE G.W σ) := ⟨ρ, F0, rl, Out.bind (S' := fun d v H' F' => Rp G.K m H H' F' v d) o (fun _ _ _ _ _ _ _ h => h) fun ds vs H1 F1 ef l s kk => by
    rw [x.K, x.mg]
    exact sp_of l.the s (hn ρ ds ef) (kk (S'' := fun d v H' F' => Rp G.K m H1 H' F' v d) fun d v H' F' h => h.back l.keep) hmb⟩
  refine PySem.W.callWith_K (h₀ := X.base) I.ok.mod.kin hk (thn (ha.pa.run pos pins s σ H _ I h1) fun us s1 ⟨vs, H1, I1, r, q⟩ => ⟨I1.kIn, ?_⟩) he hpl
  exact run_g (ds := []) (dvs := []) x F hj hb .nil (passAt x.tk σ) I1 r (by rw [List.append_nil]; exact q)
theorem len_nil {ρ : Lo} {ds : List D} (h : aNil ρ = .ok ds) : ds.length = 0 := by cases h; rfl
theorem len_cons {n : Nat} {f : Lo → R D} {fr : Lo → R (List D)} (hr : ∀ ρ ds, fr ρ = .ok ds → ds.length = n) : ∀ ρ ds, aCons f fr ρ = .ok ds → ds.length = n + 1 := by
  intro ρ ds h
  unfold aCons at h
  cases e : f ρ with
  | ok d =>
    rw [e] at h
    cases q : fr ρ with
    | ok r =>
      have h : (fr ρ).bind (fun ds => R.ok (d :: ds)) = .ok ds := h
      rw [q] at h
      cases h
      exact congrArg (· + 1) (hr ρ r q)
    | ex _ _ => have h : (fr ρ).bind (fun ds => R.ok (d :: ds)) = .ok ds := h; rw [q] at h; cases h
    | bad => have h : (fr ρ).bind (fun ds => R.ok (d :: ds)) = .ok ds := h; rw [q] at h; cases h
  | ex _ _ => rw [e] at h; cases h
  | bad => rw [e] at h; cases h
end
end VL

namespace VL
open PyProof.Rows PySem L2 PySem.Spec

mutual
noncomputable def rok : D → Bool
  | .lst xs => rokL xs
  | .tup xs => rokL xs
  | .dic kvs => kvs.isEmpty
  | .obj _ _ => false
  | .tdc _ => false
  | .ctp _ => false
  | .non => true
  | .bl _ => true
  | .int _ => true
  | .str _ => true
noncomputable def rokL : List D → Bool
  | [] => true
  | d :: ds => rok d && rokL ds
end
section
variable {X : Cx} {G : VG} {k : Nat} {pins : List (Addr × Obj)} {σ : L2.St} {H : Hp} {F : Fro} {s : Shared}
theorem not_sys (x : VX0 X G k) (I : Inv X pins σ H s) {a : Addr} (h : H a ≠ none) : a ≠ sysModules := fun e => by
  obtain ⟨o, es, ep, ho, _⟩ := x.sysm
  exact h (by rw [e]; exact (I.bs _ o ho).2)
theorem ls_sys (x : VX0 X G k) (I : Inv X pins σ H s) {a : Addr} {xs : List V} (h : LsV X.K H a xs) : a ≠ sysModules := by
  rcases h with h | ⟨its, n, h⟩ | ⟨its, n, h, _⟩
  · exact not_sys x I (by rw [h]; simp)
  · exact not_sys x I (by rw [h]; simp)
  · intro e
    obtain ⟨o, es, ep, ho, hd⟩ := x.sysm
    have h2 := I.ok.mod.kin a _ h
    rw [e, ho] at h2
    cases h2
    cases hd
theorem dk_rd0 (I : Inv X pins σ H s) {a : Addr} {kvs : List (Key × V)} (h : Rd H a (.dK kvs)) : ObjOk X.prog X.w H s.heap a (.dK kvs) := h.ok I.hok
theorem dic_reads (I : Inv X pins σ H s) {a : Addr} (h : Rd H a (.dK [])) : Reads s.heap (.ref a) (.dict []) [a] ∧ a ≠ sysModules := by
  obtain ⟨_, hs, vs, kv, o, es, ep, ho, hx, hd, _, hp, _⟩ := dk_rd0 I h
  cases kv
  have e : es = #[] := by
    have hp : Pairs _ es.toList [] := hp
    generalize hl : es.toList = l at hp
    cases hp
    exact Array.toList_inj.mp (by rw [hl])
  subst e
  exact ⟨Reads.dict (as := []) (bs := []) ho hx.1 hd .nil .nil, by simpa using hs⟩
mutual
theorem Sh.rds (x : VX0 X G k) (I : Inv X pins σ H s) : ∀ {v : V} {d : D} {u : Value}, Sh X.K H F v d → RelV v u → rok d = true → ∃ as, Reads s.heap u (py d) as ∧ sysModules ∉ as
  | _, _, _, .non, r, _ => by cases r; exact ⟨_, .none, by simp⟩
  | _, _, _, .bl b, r, _ => by cases r; exact ⟨_, .bool b, by simp⟩
  | _, _, _, .int i, r, _ => by obtain ⟨t, rfl⟩ := r; exact ⟨_, .int i t, by simp⟩
  | _, _, _, .str z, r, _ => by obtain ⟨t, rfl⟩ := r; exact ⟨_, .str z t, by simp⟩
  | _, _, _, .lst h l, r, c => by
    cases r
    obtain ⟨its, rv, ⟨o, n, ho, hc, _, hd⟩, _⟩ := I.list h.sql
    obtain ⟨as, q, nq⟩ := ShL.rds x I l rv (by simpa [rok] using c)
    exact ⟨_, Reads.list ho hc hd q, fun z => (List.mem_cons.mp z).elim (fun e => ls_sys x I h.ls e.symm) nq⟩
  | _, _, _, .tup h l, r, c => by
    cases r
    obtain ⟨its, rv, ⟨o, ho, hc, n, hd⟩, _⟩ := I.tuple (.inl (.inl h))
    obtain ⟨as, q, nq⟩ := ShL.rds x I l rv (by simpa [rok] using c)
    exact ⟨_, Reads.tuple ho hc hd q, nq⟩
  | _, _, _, .obj _ _ _ _, _, c => by simp [rok] at c
  | _, _, _, .exc _ _ _ _ _ _, _, c => by simp [rok] at c
  | _, _, _, .tdc _ _, _, c => by simp [rok] at c
  | _, _, _, .ctp _ _, _, c => by simp [rok] at c
  | _, _, _, .dic (kvs := kvs) (ds := ds) h l, r, c => by
    cases r
    have e : kvs = [] := by
      have hl := l.length
      rw [List.length_map] at hl
      have c : ((kvs.map fun p => kD p.1).zip ds).isEmpty = true := by simpa [rok] using c
      cases kvs with
      | nil => rfl
      | cons a b =>
        cases ds with
        | nil => simp at hl
        | cons d e => simp at c
    subst e
    obtain ⟨q, nq⟩ := dic_reads I (.inr ⟨_, h⟩)
    exact ⟨_, q, by simpa using Ne.symm nq⟩
theorem ShL.rds (x : VX0 X G k) (I : Inv X pins σ H s) : ∀ {vs : List V} {ds : List D} {us : List Value}, ShL X.K H F vs ds → Vals vs us → rokL ds = true → ∃ as, ReadsAll s.heap us (pyL ds) as ∧ sysModules ∉ as
  | _, _, _, .nil, r, _ => by cases r; exact ⟨_, .nil, by simp⟩
  | _, _, _, .cons h l, r, c => by
    cases r with
    | cons r1 r2 =>
      rw [rokL, Bool.and_eq_true] at c
      obtain ⟨as, q, nq⟩ := Sh.rds x I h r1 c.1
      obtain ⟨bs, p, np⟩ := ShL.rds x I l r2 c.2
      exact ⟨_, .cons q p, fun z => (List.mem_append.mp z).elim nq np⟩
end
theorem RB.rds (x : VX0 X G k) (I : Inv X pins σ H s) {v : V} {d : D} {u : Value} (h : RB X.K H F v d) (r : RelV v u) (c : rok d = true) : ∃ as, Reads s.heap u (py d) as ∧ sysModules ∉ as := by
  rcases h with ⟨a, e, _, o⟩ | h
  · subst e
    cases r
    cases o with
    | lst h l =>
      obtain ⟨its, rv, ⟨o, n, ho, hc, _, hd⟩, _⟩ := I.list (.inl (.inl h))
      obtain ⟨as, q, nq⟩ := ShL.rds x I l rv (by simpa [rok] using c)
      exact ⟨_, Reads.list ho hc hd q, fun z => (List.mem_cons.mp z).elim (fun e => not_sys x I (by rw [h]; simp) e.symm) nq⟩
    | @dic kvs ds h l =>
      have e : kvs = [] := by
        have hl := l.length
        rw [List.length_map] at hl
        have c : ((kvs.map fun p => kD p.1).zip ds).isEmpty = true := by simpa [rok] using c
        cases kvs with
        | nil => rfl
        | cons a b =>
          cases ds with
          | nil => simp at hl
          | cons d e => simp at c
      subst e
      obtain ⟨q, nq⟩ := dic_reads I (.inl h)
      exact ⟨_, q, by simpa using Ne.symm nq⟩
    | obj _ _ _ => simp [rok] at c
    | tdc _ _ => simp [rok] at c
  · exact h.rds x I r c
noncomputable def opRepr (d : D) : Option D := if (((rok d && (py d).showable) && fits (py d).shown.length) && decide ((py d).depth ≤ 64)) = true then some (.str (py d).shown) else none
noncomputable def rRepr (K : PySem.W.Frag) : V → Hp → VK → Prop := fun v H Q => ∃ F d, RB K H F v d ∧ rok d = true ∧ (py d).showable = true ∧ (py d).shown.length ≤ sizeLine ∧ (py d).depth ≤ 64 ∧ Q (.str (py d).shown) H
theorem cr_repr (x : VX0 X G k) : CallR X (.builtin "repr") (fun xs H Q => ∃ v, xs = [v] ∧ rRepr X.K v H Q) := by
  intro pins s σ H xs us Q I r ⟨v, e, F, d, hb, hk, hs, hz, hdp, q⟩
  subst e
  obtain ⟨u, rfl, rv⟩ := vals1 r
  obtain ⟨as, rd, nq⟩ := hb.rds x I rv hk
  have hu : X.A.units + ((py d).depth + 1) < cLine := by have := x.un; (first | lia | omega)
  have big : ∀ a, u = .ref a → wpAny (model X.prog X.w) X.A (call (.builtin "repr") [u]) (EP X pins σ Q) X.xe s := fun a e => by
    subst e
    exact repr_of_reads' rd hs (fun _ => nq) x.gds hu (fun _ _ e => e) (fun h' t tk hk => ⟨.str _, H, I.kept hk, ⟨t, rfl⟩, q⟩) hz
  have num : ∀ (y : Str) (t : Tok), (py d).shown = y → EP X pins σ Q (.str y t) { s with toks := s.toks + 1 } := fun y t e => ⟨.str y, H, I.tok _, ⟨t, rfl⟩, e ▸ q⟩
  cases d with
  | non => rw [rb_non hb] at rv; cases rv; exact PySem.P.repr_of_none (num _ _ rfl)
  | bl b => rw [rb_bl hb] at rv; cases rv; exact PySem.P.repr_of_bool (num _ _ (by cases b <;> rfl))
  | int i => rw [rb_int hb] at rv; obtain ⟨t, rfl⟩ := rv; exact PySem.P.repr_of_int (by simpa [py, PyData.showable] using hs) (num _ _ (by simp only [py, PyData.shown]))
  | str z => rw [rb_str hb] at rv; obtain ⟨t, rfl⟩ := rv; exact PySem.P.repr_of_str (num _ _ (by simp only [py, PyData.shown])) (by simpa only [py, PyData.shown] using hz)
  | lst ds => obtain ⟨a, _, e, _⟩ := rb_lst hb; subst e; cases rv; exact big a rfl
  | tup ds => obtain ⟨a, _, e, _⟩ := rb_tup hb; subst e; cases rv; exact big a rfl
  | dic ds => obtain ⟨a, _, _, e, _⟩ := rb_dic hb; subst e; cases rv; exact big a rfl
  | obj c fs => simp [rok] at hk
  | tdc fs => simp [rok] at hk
  | ctp fs => simp [rok] at hk
end
section
variable {X : Cx} {G : VG} {k : Nat} {m m1 : Md} {a : Expr} {fa : Lo → R D} {p pos : Pos}
theorem ve_repr0 (x : VX0 X G k) (hm : X.mg "repr" = none) (ha : VE X G m1 a fa) (hg : Gl X "repr" := by rfl) (he : starEach [a] X.env = (false, eval a X.env) :: starEach [] X.env := by rfl) : VE X G m (.Call (.Name "repr" p) [a] [] pos) (b1 fa opRepr) :=
  ve_b1 (r := fun xs H Q => ∃ v, xs = [v] ∧ rRepr X.K v H Q) (cr_repr x) (by
    intro H F y d Q t ra h
    obtain ⟨hf, h⟩ := ans_if h
    rw [Bool.and_eq_true, Bool.and_eq_true, Bool.and_eq_true] at hf
    exact ⟨y, rfl, F, d, x.K ▸ ra, hf.1.1.1, hf.1.1.2, fits_line hf.1.2, of_decide_eq_true hf.2, ans_ok t h (rp_str _)⟩) hg hm (by decide +kernel) ha (by decide) (by decide) he
theorem ve_repr (x : VX X G k) (hm : X.mg "repr" = none) (ha : VE X G m1 a fa) (hg : Gl X "repr" := by rfl) (he : starEach [a] X.env = (false, eval a X.env) :: starEach [] X.env := by rfl) : VE X G m (.Call (.Name "repr" p) [a] [] pos) (b1 fa opRepr) := ve_repr0 x.lo hm ha hg he
end

section
variable {X : Cx} {G : VG} {pos : Pos}
theorem ve_dict0 : VE X G .fr (.Dict [] [] pos) (eC (.dic [])) := ⟨pe_imp pe_dnewK fun σ H Q ⟨ρ, F, rl, o⟩ => by
  intro p hp
  have l := le_new (o := .dK []) rl.le.the hp
  have np : ¬ F p := fun z => rl.le.the p z hp
  exact o (.ref p) _ F l (.inl ⟨p, rfl, hp, np, .dic (kvs := []) (ds := []) upd_same .nil⟩)⟩
end
end VL

namespace VL
open PyProof.Rows PySem L2 PySem.Spec

inductive Src where
  | L (a : Addr) | T (a : Addr)
noncomputable def Src.ad : Src → Addr
  | .L a => a
  | .T a => a
noncomputable def Src.At (K : PySem.W.Frag) (H : Hp) : Src → List V → Prop
  | .L a, xs => SqL K H a xs
  | .T a, xs => SqT K H a xs
noncomputable def Src.In (h : Heap) (its : Array Value) : Src → Prop
  | .L a => h.IsList a its
  | .T a => h.IsTuple a its
noncomputable def Src.obj : Src → Obj
  | .L a => { cls := .type "list_iterator", data := .fields #[.ref a, .int 0 0] }
  | .T a => { cls := .type "tuple_iterator", data := .fields #[.ref a, .int 0 0] }
noncomputable def Src.St (it : Addr) (i : Nat) (h : Heap) : Src → Prop
  | .L a => h.IsListIter it a i
  | .T a => h.IsTupleIter it a i
section
variable {X : Cx} {pins : List (Addr × Obj)} {σ : L2.St} {H : Hp} {s : Shared} {xs ys : List V} {it : Addr} {i : Nat} {h h' : Heap}
theorem Src.here {S : Src} (I : Inv X pins σ H s) (a : S.At X.K H xs) : ∃ its : List Value, Vals xs its ∧ S.In s.heap its.toArray ∧ xs.length ≤ sizeLine := by
  cases S with
  | L a => obtain ⟨its, r, p, z⟩ := I.list a; exact ⟨its, r, p.isList, z⟩
  | T a => obtain ⟨its, r, p, z⟩ := I.tuple a; exact ⟨its, r, p, z⟩
theorem Src.inj {S : Src} (I : Inv X pins σ H s) (a : S.At X.K H xs) (b : S.At X.K H ys) : xs = ys := by
  cases S with
  | L _ => exact I.list_inj a b
  | T _ => exact I.tuple_inj a b
theorem Src.st_at {S : Src} (t : S.St it i h) (k : ∀ o, h.get? it = some o → h'.get? it = some o) : S.St it i h' := by
  cases S with
  | L a => exact Heap.IsListIter.at t k
  | T a => exact Heap.IsTupleIter.at t k
theorem Src.begins (S : Src) (its : Array Value) : Begins (.ref S.ad) S.obj fun h => S.In h its := by
  cases S with
  | L a => exact begins_list a its
  | T a => exact begins_tuple a its
end
noncomputable def seqD : D → Option (List D)
  | .lst ds => some ds
  | .tup ds => some ds
  | .ctp ds => some ds
  | _ => none
noncomputable def zipD (xs ys : List D) : List D := List.zipWith (fun x y => .tup [x, y]) xs ys
section
variable {X : Cx} {G : VG} {k : Nat} {a b : Expr} {fa fb : Lo → R D} {p pos tpos : Pos} {elts : List Expr} {kk : Nat}
noncomputable def enumD (xs : List D) : List D := zipD ((List.range xs.length).map fun i => .int (i : Nat)) xs
noncomputable def iE (f : Lo → R D) : Lo → R (List D) := fun ρ => (f ρ).bind fun d => match d with
  | .lst xs => .ok (enumD xs)
  | _ => .bad
theorem vi_enum (x : VX X G k) (hm : X.mg "enumerate" = none) (ha : VE X G .sh a fa) (hg : Gl X "enumerate" := by rfl) (hs : starEach [a] X.env = [(false, eval a X.env)] := by rfl) :
    VI X G (.Tuple elts kk tpos) (.Call (.Name "enumerate" p) [a] [] pos) (iE fa) := by
  refine ⟨⟨fun pins s σ H Rr I ⟨ρ, F, rl, o⟩ => ?_⟩⟩
  have hs' : starEach [a] X.env = (false, eval a X.env) :: starEach [] X.env := by rw [hs]; rfl
  have h1 : tCons (tV G .sh fa) tNil σ H fun vs H' => ∃ F' v xs, vs = [v] ∧ The F' H' ∧ Sh G.K H' F' v (.lst xs) ∧ ∀ J, Wk G J (enumD xs) H' F' → Rr J H' := by
    refine ⟨ρ, F, rl, Out.bind (S' := fun ds J H' F' => Wk G J ds H' F') o (fun _ _ _ _ _ _ _ h => h) fun d v H1 F1 _ l s1 kk1 => ?_⟩
    have o1 := kk1 (S'' := fun ds J H' F' => Wk G J ds H' F') fun _ _ _ _ h => h
    cases d with
    | lst xs => exact ⟨F1, v, xs, rfl, l.the, s1, fun J wk => o1 J H1 F1 (Le.refl l.the) wk⟩
    | _ => exact o1.elim
  have h0 := pi_enum (X := X) (p := p) (pos := pos) (tpos := tpos) (elts := elts) (kk := kk) hg hm (pa_cons ha.pe pa_nil hs') hs
  have eK := x.K
  refine Call_ (ld_blt I hg hm PyProof.Rows.boot_enumerate (PyProof.Rows.callWith_type1 (thn ((pa_cons ha.pe pa_nil hs').run pos pins s σ H _ I h1) fun us s1 ⟨vs, H1, I1, r1, q1⟩ => ?_) hs rfl))
  obtain ⟨F1, v, ds, ev, th, sd, q⟩ := q1
  subst ev
  obtain ⟨u1, rfl, rv⟩ := vals1 r1
  cases sd with
  | @lst ad xs _ fz sl =>
    cases rv
    obtain ⟨its, r2, pl, hz⟩ := I1.list (eK ▸ fz.sql)
    refine call_enumerate_list pl.isList fun h' he hit hsz hk => wpAny_pyIter_enum he ?_
    refine ⟨s1.heap.objs.size + 1, [s1.heap.objs.size + 1, s1.heap.objs.size], _, _, H1, rfl, I1.kept (t' := s1.toks) hk, turn_enum ad (s1.heap.objs.size + 1) s1.heap.objs.size, ⟨⟨.none, he⟩, hit, Nat.succ_ne_self _⟩, fun c hc => ?_, q _ ?_⟩
    · have hle : s1.heap.objs.size ≤ c := by
        have hc : c = s1.heap.objs.size + 1 ∨ c = s1.heap.objs.size := by simpa using hc
        rcases hc with e | e <;> subst e
        · exact Nat.le_add_right _ _
        · exact Nat.le_refl _
      exact I1.fpOk hle (I1.hok.fresh hle)
    · have n1 := sl.length
      have nz : (enumD ds).length = ds.length := by unfold enumD zipD; rw [List.length_zipWith]; simp
      refine ⟨fun i H2 hi k2 => ?_, fun H2 k2 => ?_, ?_, fun i H2 F2 y H3 hi k2 sb t hy => ?_⟩
      · have b1 : i < xs.length := by (first | lia | omega)
        exact ⟨xs, xs[i], eK ▸ fz_keep fz k2, by simp [b1]⟩
      · exact ⟨xs, eK ▸ fz_keep fz k2, by (first | lia | omega)⟩
      · (first | lia | omega)
      · obtain ⟨T, v1, e3, nT, e4, g1⟩ := hy
        subst e3 e4
        obtain ⟨d1, q1, w1⟩ := sl.get (g1 xs (eK ▸ fz_keep fz k2))
        have l := le_new (o := .tup [.int (i : Nat), v1]) t nT
        refine ⟨.tup [.int (i : Nat), d1], F2, ?_, l, .tup upd_same (.cons (.int _) (.cons ((w1.mono k2 sb).le l) .nil))⟩
        unfold enumD zipD
        rw [List.getElem?_zipWith, q1, List.getElem?_map, List.getElem?_range (by (first | lia | omega))]
        rfl
end
end VL

namespace VL
open PyProof.Rows PySem L2 PySem.Spec

noncomputable abbrev Sysm (base : Heap) : Prop := ∃ o es ep, base.get? sysModules = some o ∧ o.data = .dict es ep
noncomputable abbrev GoalL (s₁ : Shared) : Result → Shared → Prop := fun r s' => r = .ok (.ret (.bool true)) ∧ OldK s₁.heap s'.heap ∧ s'.os = s₁.os ∧ AllBare s'.gens
theorem shl_ints {K : PySem.W.Frag} {H : Hp} {F : Fro} : ∀ ns : List Int, ShL K H F (ns.map V.int) (ns.map D.int)
  | [] => .nil
  | n :: ns => .cons (.int n) (shl_ints ns)
section
variable {P : Program} {w : World} {K : PySem.W.Frag} {mg mb : Str → Option Value} {k : Nat} {fa a : Addr} {fd : FuncData} {x : Str} {m : Md} {g : List D → R D} {s₁ : Shared} {vs : List Value} {ns : List Int}
theorem law_core {H : Hp} (KX : K.In s₁.heap) (hns : s₁.heap.Ns mainGlobals mg) (hb : s₁.heap.Ns builtinsNs mb) (hbb : ∀ x : Str, x ≠ "__name__" → mb x = bootBuiltins x) (hlim : s₁.heap.NoLimit) (hy : s₁.heap.NoSeer) (hg : s₁.gens = #[])
    (ha : s₁.heap.get? a = some { cls := .type "list", data := .seq vs.toArray }) (hr : Room k callerA)
    (F : ∀ base : Heap, K.In base → base.Ns mainGlobals mg → Sysm base → FnG P w K mg base k fa fd [x] (spV K mg 1 m g)) (hbind : ∀ (s : Shared) (u : Value), BindsTo s fd ⟨[u], []⟩ [(x, u)])
    (hl : g [.lst (ns.map D.int)] = .ok (.bl true)) (hF : FzL K H (fun _ => False) a (ns.map V.int)) (hok : HOk P w H s₁.heap) (only : ∀ b u, H b = some u → b = a ∧ K.lookup a = none ∧ ∃ o xs, u = .frz o (.lst xs)) :
    codeAny (model P w) callerA (.call (.ref fa) ⟨[.ref a], []⟩) (GoalL s₁) s₁ := by
  -- what is no list is not tracked
  have apart : ∀ {b : Addr} {o : Obj} {es : Array DictEntry} {ep : Nat}, s₁.heap.get? b = some o → o.data = .dict es ep → (hidT s₁.heap H).get? b = some o := by
    intro b o es ep e d
    refine hidT_get e ?_
    cases q : H b with
    | none => rfl
    | some u =>
      obtain ⟨rfl, _⟩ := only b u q
      rw [e] at ha
      cases ha
      cases d
  have onNs : ∀ {b : Addr} {f : Str → Option Value}, s₁.heap.Ns b f → (hidT s₁.heap H).Ns b f := by
    rintro b f ⟨o, es, ep, e, d, r⟩
    exact ⟨o, es, ep, apart e d, d, r⟩
  have inK : K.In (hidT s₁.heap H) := by
    intro b o e
    refine hidT_get (KX b o e) ?_
    cases q : H b with
    | none => rfl
    | some u =>
      obtain ⟨rfl, z, _⟩ := only b u q
      rw [z] at e
      cases e
  obtain ⟨lc, l1, l2⟩ := hlim
  have md : L2.Mod K mg (hidT s₁.heap H) := ⟨inK, onNs hns, ⟨mb, onNs hb, hbb⟩, ⟨lc, onNs l1, l2⟩⟩
  have e0 : Env0 P w K mg (hidT s₁.heap H) callerA [] s₁ H := by
    refine ⟨rfl, md, fun b o e => of_hidT e, Nat.le_of_eq (hidT_size _ _), trivial, fun b z => ?_, hok, .of_eq hg⟩
    exact nomatch z
  have sy : Sysm (hidT s₁.heap H) := by
    obtain ⟨mm, ⟨o, es, ep, e, d, _⟩, _⟩ := hy.mods
    exact ⟨o, es, ep, apart e d, d⟩
  have sp : spV K mg 1 m g [.ref a] H (fun v _ => v = .bl true) fun _ _ _ => False := by
    refine ⟨fun _ => False, [.lst (ns.map D.int)], fun _ z => z.elim, .cons (.lst hF (shl_ints ns)) .nil, rfl, ?_⟩
    rw [hl]
    intro v H' F' l r
    exact rb_bl (rpR_b (fun _ z => nomatch z) r)
  refine codeAny_mono ((F _ inK (onNs hns) sy).run callerA [] s₁ H ⟨[.ref a], []⟩ [.ref a] [.ref a] _ _ hr rfl e0 (hbind s₁ (.ref a)) (.cons rfl .nil) sp) fun r s' h => ?_
  cases r with
  | error e =>
    obtain ⟨_, _, _, _, _, _, _, _, _, _, _, _, z⟩ := h
    exact z.elim
  | ok fl =>
    cases fl with
    | next => exact h.elim
    | brk => exact h.elim
    | cont => exact h.elim
    | ret u =>
      obtain ⟨v, H', os, bare, un, hok', r', rfl⟩ := h
      cases (show u = Value.bool true from r')
      refine ⟨rfl, OldK.of_keep fun b o e => ?_, os, bare⟩
      cases q : H b with
      | none => exact un.keep b o e q (fun z => nomatch (show b ∈ ([] : List Addr) from z)) (by simp)
      | some u =>
        obtain ⟨_, _, ob, xs, rfl⟩ := only b u q
        have o1 := (hok b _ q).1
        have o2 := (hok' b _ (un.frzs b ob _ q)).1
        rw [e] at o1
        cases o1
        exact o2
theorem law_v (KX : K.In s₁.heap) (hns : s₁.heap.Ns mainGlobals mg) (hb : s₁.heap.Ns builtinsNs mb) (hbb : ∀ x : Str, x ≠ "__name__" → mb x = bootBuiltins x) (hlim : s₁.heap.NoLimit) (hy : s₁.heap.NoSeer) (hg : s₁.gens = #[])
    (ha : s₁.heap.get? a = some { cls := .type "list", data := .seq vs.toArray }) (hi : IntsAre vs ns) (hz : ns.length ≤ sizeLine) (hr : Room k callerA)
    (F : ∀ base : Heap, K.In base → base.Ns mainGlobals mg → Sysm base → FnG P w K mg base k fa fd [x] (spV K mg 1 m g)) (hbind : ∀ (s : Shared) (u : Value), BindsTo s fd ⟨[u], []⟩ [(x, u)])
    (hl : g [.lst (ns.map D.int)] = .ok (.bl true)) : codeAny (model P w) callerA (.call (.ref fa) ⟨[.ref a], []⟩) (GoalL s₁) s₁ := by
  have rv := vals_ints hi
  cases q : K.lookup a with
  | some o =>
    have e := KX a o q
    rw [ha] at e
    cases e
    refine law_core (H := fun _ => none) KX hns hb hbb hlim hy hg ha hr F hbind hl (.inr (.inr ⟨_, _, q, ?_, rv⟩)) (fun b u z => nomatch z) (fun b u z => nomatch z)
    simpa [hi.length] using hz
  | none =>
    have self : (fun b => if b = a then some (HO.frz { cls := .type "list", data := .seq vs.toArray } (.lst (ns.map V.int))) else none) a = some (HO.frz { cls := .type "list", data := .seq vs.toArray } (.lst (ns.map V.int))) := if_pos rfl
    refine law_core (H := fun b => if b = a then some (HO.frz { cls := .type "list", data := .seq vs.toArray } (.lst (ns.map V.int))) else none) KX hns hb hbb hlim hy hg ha hr F hbind hl (.inr (.inl ⟨_, _, self⟩)) (fun b u z => ?_) fun b u z => ?_
    · by_cases e : b = a
      · subst e
        rw [self] at z
        cases z
        exact ⟨ha, by rw [List.length_map]; exact hz, vs, _, rv, ha⟩
      · have z' : (if b = a then some (HO.frz { cls := .type "list", data := .seq vs.toArray } (.lst (ns.map V.int))) else none) = some u := z
        rw [if_neg e] at z'
        cases z'
    · have z' : (if b = a then some (HO.frz { cls := .type "list", data := .seq vs.toArray } (.lst (ns.map V.int))) else none) = some u := z
      by_cases e : b = a
      · rw [if_pos e] at z'
        cases z'
        exact ⟨e, q, _, _, rfl⟩
      · rw [if_neg e] at z'
        cases z'
end
theorem law_end {l : PySem.W.OpenLaw} {n k : Nat} {q : Program} {loose : List Str} {XP : (Str → Option Value) → Heap → Prop} {YP : World → Heap → Prop} {d : DefRec} {K : Params → PySem.W.Frag} {x : Str} {m : Md} {g : List D → R D}
    (hn : l.most = some n) (hn2 : n ≤ sizeLine) (hdf : d.params.defaults = []) (hr : Room k callerA) (hq : importsNone q = true) (hY : ∀ (w : World) (h : Heap), YP w h → (K w.params).In h)
    (F : ∀ (w : World) (mg : Str → Option Value) (fa : Addr) (h : Heap), (K w.params).In h → h.Ns mainGlobals mg → mg d.name = some (.ref fa) → ∃ fd : FuncData, (∀ (s : Shared) (u : Value), BindsTo s fd ⟨[u], []⟩ [(x, u)]) ∧
        ∀ base : Heap, (K w.params).In base → base.Ns mainGlobals mg → Sysm base → FnG l.prog w (K w.params) mg base k fa fd [x] (spV (K w.params) mg 1 m g))
    (hl : ∀ ns : List Int, ns.length ≤ n → g [.lst (ns.map D.int)] = .ok (.bl true)) : PySem.W.WalkO q loose XP YP l.row.toRowW d [] (fun f vs => PySem.call f vs) := by
  refine Att.attach_call hn hdf fun w s₀ s₁ mg mb fa o pm cd doc a vs ns G Y ho hd hcd hmg hobj hints hlen hg => ?_
  obtain ⟨fd, bd, F'⟩ := F w mg fa _ (hY w _ Y) G.T.g hmg
  exact law_v (hY w _ Y) G.T.g G.T.b G.T.builtins G.T.nolimit (G.T.seer hq) hg hobj hints (Nat.le_trans hlen hn2) hr F' bd (hl ns hlen)
end VL

namespace VL
open PyProof.Rows PySem L2 PySem.Spec

noncomputable def opRep : D → D → Option D
  | .lst ds, .int k => if (fits62 k && fits (ds.length * k.toNat)) = true then some (.lst (List.replicate k.toNat ds).flatten) else none
  | _, _ => none
section
variable {X : Cx} {G : VG} {m m1 m2 : Md} {a b e : Expr} {fa fb f : Lo → R D} {pos : Pos} {k : Nat}
theorem shl_rep {K : PySem.W.Frag} {H : Hp} {F : Fro} {vs : List V} {ds : List D} (s : ShL K H F vs ds) : ∀ n : Nat, ShL K H F (List.replicate n vs).flatten (List.replicate n ds).flatten
  | 0 => .nil
  | n + 1 => by
    rw [List.replicate_succ, List.replicate_succ, List.flatten_cons, List.flatten_cons]
    exact s.append (shl_rep s n)
theorem ve_rep (ha : VE X G .fr a fa) (hb : VE X G m2 b fb) : VE X G m (.BinOp a .Mult b pos) (b2 fa fb opRep) := ⟨pe_imp (pe_op op_rep ha.pe hb.pe) fun σ H Q ⟨ρ, F, rl, o⟩ => by
  refine ⟨ρ, F, rl, Out.bind (S' := fun d v H' F' => Rp G.K m H H' F' v d) o (fun _ _ _ _ _ _ _ h => h) fun d x H1 F1 e1 l s kk => ?_⟩
  clear e1
  have o1 := kk (S'' := fun d v H' F' => Rp G.K m H1 H' F' v d) fun d v H' F' h => h.back l.keep
  refine ⟨ρ, F1, rl.step l, Out.bind (S' := fun d v H' F' => Rp G.K m H1 H' F' v d) o1 (fun _ _ _ _ _ _ _ h => h) fun d2 y H2 F2 e2 l2 s2 k2 => ?_⟩
  clear e2
  have an := ans_of (m := m) (G := G) (F := F2) (H := H2) rfl (k2 (S'' := fun d v H' F' => Rp G.K m H2 H' F' v d) fun d v H' F' h => h.back l2.keep)
  obtain ⟨z, ez, an⟩ := an
  cases d <;> cases d2 <;> try (cases ez; done)
  rename_i ds n
  have ez : (if (fits62 n && fits (ds.length * n.toNat)) = true then some (D.lst (List.replicate n.toNat ds).flatten) else none) = some z := ez
  by_cases hf : (fits62 n && fits (ds.length * n.toNat)) = true
  · rw [if_pos hf] at ez
    cases ez
    rw [Bool.and_eq_true] at hf
    have f1 := of_decide_eq_true hf.1
    have f2 := fits_line hf.2
    rcases s with ⟨p, rfl, _, _, w⟩ | ⟨z, _⟩
    · cases w with
      | lst hp sh =>
        refine ⟨p, n, _, rfl, rb_int (rb_of s2), l2.keep _ _ hp, by (first | lia | omega), by (first | lia | omega), by rw [sh.length]; exact f2, fun q hq => ?_⟩
        obtain ⟨F3, l3, r3, _⟩ := ans_lst (G := G) (m := m) l2.the hq (shl_rep (sh.le l2) n.toNat)
        exact an _ _ F3 l3 r3
    · cases z
  · rw [if_neg hf] at ez
    cases ez⟩
end

section
variable {X : Cx} {G : VG} {m : Md} {k : Nat} {pos : Pos}
end
end VL

namespace VL
open PyProof.Rows PySem L2 PySem.Spec
noncomputable def sFz (i : Nat) (g : Lo → Fl) : Lo → Fl := fun ρ => g (fz i ρ)
section
variable {X : Cx} {G : VG} {k : Nat} {m : Md} {e : Expr} {f : Lo → R D} {pos pos' : Pos}
theorem va_app (i : Nat) {x : Str} {ap cp : Pos} (h : VE X G .sh e f) (hN : X.N[i]? = some x := by rfl) (hv : Vis X.env.scope x := by first | exact Or.inl rfl | exact Or.inr (Or.inl rfl) | exact Or.inr (Or.inr rfl)) (hd : (x == ("__debug__" : Str)) = false := by decide)
    (hcd : (x == ("__classdict__" : Str)) = false := by decide) (he : starEach [e] X.env = (false, eval e X.env) :: starEach [] X.env := by rfl)
    (hbase : attributeBase (.Name x pos') "append" X.env (eval (.Name x pos') X.env) = eval (.Name x pos') X.env := by rfl)
    (hfew : ((backTo cp (starEach [e] X.env)).all (fun x => !x.1) && (backToKw cp (keywordEach [] X.env)).all (fun x => x.1.isSome) && decide ([e].length + ([] : List Keyword).length + (if ([] : List Keyword).isEmpty then 0 else 1) < 30)) = true := by rfl)
    (hline : (ap.endLine == cp.line) = true := by rfl)
    (hs : swapsWith (.Call (.Attribute (.Name x pos') "append" ap) [e] [] cp) none pos.line X.env = pure false := by rfl) : VS X G m (.Expr (.Call (.Attribute (.Name x pos') "append" ap) [e] [] cp) pos) (sApp i f) :=
  vs_append i h hN hv hd hcd (pe_bm F.plainAttrs_list F.slot_list_append F.type_list_append mt_append (pe_var hN hv hd hcd) (pa_cons h.pe pa_nil he) hbase hfew hline he rfl) hs
end
end VL

namespace VL
open PyProof.Rows PySem L2 PySem.Spec
end VL

namespace VL
open PyProof.Rows PySem L2 PySem.Spec
inductive RBL (K : PySem.W.Frag) (H : Hp) (F : Fro) : List V → List D → Prop
  | nil : RBL K H F [] []
  | cons {v : V} {vs : List V} {d : D} {ds : List D} : ((∃ a, v = .ref a ∧ ¬ F a ∧ d.isDic = false ∧ Ow K H F a d) ∨ Sh K H F v d) → RBL K H F vs ds → RBL K H F (v :: vs) (d :: ds)
section
variable {K : PySem.W.Frag} {H H' : Hp} {F F' : Fro}
end
noncomputable def D.atom : D → Bool
  | .non => true
  | .bl _ => true
  | .int _ => true
  | .str _ => true
  | _ => false
noncomputable def tAb (G : VG) (f : Lo → R (List D)) : TA := fun σ H Q => ∃ ρ F, Rel G σ H ρ F ∧ Out G σ H F (f ρ) (fun ds vs H' F' => RBL G.K H' F' vs ds) Q
structure VAb (X : Cx) (G : VG) (es : List Expr) (f : Lo → R (List D)) : Prop where
  pa : PA X es (tAb G f)
section
variable {X : Cx} {G : VG} {m m1 : Md} {e : Expr} {es : List Expr} {fa : Lo → R D} {ft : Lo → R (List D)}
end
section
variable {X : Cx} {G : VG} {k j : Nat} {f : Addr} {fd : FuncData} {ps : List Str} {m m2 : Md} {g : List D → R D} {e : Expr} {es : List Expr} {fa : Lo → R (List D)} {nm : Str} {p pos : Pos}
end
end VL

namespace VL
open PyProof.Rows PySem L2 PySem.Spec
section
variable {X : Cx} {G : VG} {m m1 m2 : Md} {a b e o : Expr} {fa fb f : Lo → R D} {pos : Pos} {k : Nat}
end
end VL

namespace VL
open PyProof.Rows PySem L2 PySem.Spec
end VL

namespace VL
open PyProof.Rows PySem L2 PySem.Spec
noncomputable def dput (kvs : List (D × D)) (k v : D) : List (D × D) := if (kvs.any fun p => p.1.eqv k) = true then kvs.map fun p => if p.1.eqv k = true then (p.1, v) else p else kvs ++ [(k, v)]
noncomputable def kyD : D → Option Key
  | .int i => some (.inl i)
  | .str x => some (.inr x)
  | _ => none
section
variable {K : PySem.W.Frag} {H : Hp} {F : Fro}
end

noncomputable def putS (k v : D) : Option Sl → Option D
  | some (.ow (.lst ds)) => match k with
    | .int j => (ixN ds.length j).map fun n => .lst (ds.set n v)
    | _ => none
  | some (.ow (.dic kvs)) => match kyD k with
    | some _ => if fits (kvs.length + 1) = true then some (.dic (dput kvs k v)) else none
    | none => none
  | _ => none
section
variable {X : Cx} {G : VG} {k : Nat} {m m1 m2 : Md} {e ie o : Expr} {f fi fe fa fb' fc : Lo → R D} {pos pos' p1 p2 : Pos}
end
end VL

namespace VL
open PyProof.Rows PySem L2 PySem.Spec
section
variable {prog : Program} {w : World} {A : Around} {E : Value → Shared → Prop} {s : Shared}
end
section
variable {X : Cx}
end
theorem ShL.reverse {K : PySem.W.Frag} {H : Hp} {F : Fro} : ∀ {vs : List V} {ds : List D}, ShL K H F vs ds → ShL K H F vs.reverse ds.reverse
  | _, _, .nil => .nil
  | _, _, .cons h r => by
    rw [List.reverse_cons, List.reverse_cons]
    exact r.reverse.append (.cons h .nil)
section
variable {X : Cx} {G : VG} {k : Nat} {m m1 m2 : Md} {e a b : Expr} {es : List Expr} {fa fb' f : Lo → R D} {pos pos' p1 p2 p3 : Pos}
noncomputable def sPar (i j : Nat) (fa : Lo → R (List D)) : Lo → Fl := fun ρ => fb (fa ρ) ρ fun ds => match ds with
  | [d, e] => .nx ((ρ.set i (.sh d)).set j (.sh e))
  | _ => .bad
theorem vs_par (i j : Nat) {x y : Str} {ta : Lo → R (List D)} {px py pt : Pos} {kt k2 pt2} (xx : VX X G k) (ha : VA X G [a, b] ta) (hi : X.N[i]? = some x := by rfl) (hj : X.N[j]? = some y := by rfl) (hij : i ≠ j := by decide)
    (hx : X.env.scope.names.lookup x = some .local := by rfl) (hy : X.env.scope.names.lookup y = some .local := by rfl)
    (hw : swappedStores [.Tuple [.Name x px, .Name y py] kt pt] (.Tuple [a, b] k2 pt2) X.env = pure (some [x, y]) := by rfl)
    (hs : swapsWithSole [.Tuple [.Name x px, .Name y py] kt pt] (.Tuple [a, b] k2 pt2) pos.line X.env = pure false := by rfl) : VS X G m (.Assign [.Tuple [.Name x px, .Name y py] kt pt] (.Tuple [a, b] k2 pt2) pos) (sPar i j ta) :=
  ⟨ps_imp (ps_par (i := i) (j := j) xx.calm xx.nd hi hj hij hx hy ha.pa hw hs) fun Dn σ H ⟨ρ, F, rl, o⟩ => ⟨ρ, F, rl, out_s rl o fun ds vs H1 F1 _ l s o1 => by
    match ds, s, o1 with
    | [d, e], .cons s1 (.cons s2 .nil), o1 => exact ⟨_, _, rfl, o1 _ H1 F1 (((rl.step l).setSh i s1).setSh j s2) Kp.refl fun _ z => z⟩
    | [], _, o1 => exact o1.elim
    | [_], _, o1 => exact o1.elim
    | _ :: _ :: _ :: _, _, o1 => exact o1.elim⟩⟩
end
section
variable {X : Cx} {G : VG} {k j : Nat} {f : Addr} {fd : FuncData} {ps : List Str} {m : Md} {g : List D → R D} {nm : Str} {p pos : Pos}
end
end VL

namespace VL
open PyProof.Rows PySem L2 PySem.Spec
section
variable {X : Cx}
end

section
variable {X : Cx} {G : VG} {k : Nat} {m : Md} {elt tg iter : Expr} {ifs : List Expr} {scope : Scope} {own : List (Str × Nat)} {ws : List Nat} {pos p pos' : Pos} {it : Lo → R (List D)} {asg : D → Lo → R Lo} {tst : Lo → R Bool} {fe : Lo → R D}
end
end VL

namespace VL
open PyProof.Rows PySem L2 PySem.Spec
noncomputable def isDic : D → Bool
  | .dic _ => true
  | _ => false
section
variable {X : Cx} {G : VG} {k : Nat} {m m1 m2 : Md} {o e f : Expr} {fa fb' fc : Lo → R D} {apos cpos p pos : Pos}
end
end VL

namespace VL
open PyProof.Rows PySem L2 PySem.Spec PySem.W
section
variable {prog : Program} {w : World} {A : Around} {E : Value → Shared → Prop} {s : Shared}
end
section
variable {X : Cx} {pos : Pos}
end
section
variable {X : Cx} {G : VG} {k : Nat} {m m1 : Md} {e : Expr} {f : Lo → R D} {pos : Pos}
end
end VL

namespace VL
open PyProof.Rows PySem L2 PySem.Spec PySem.Froz
noncomputable def SetX (P : Program) (w : World) (h : Heap) (a : Addr) (l : List Str) : Prop :=
  ∃ D : SD, h.get? a = some (sObj "set" D) ∧ TxOk P w D l ∧ l.Nodup ∧ l.length < 4000 ∧ Ris D.2.2.place.toList ∧ (w.params.followText "set-order" = true ∨ D.2.2.led = true)
section
variable {P : Program} {w : World} {A : Around} {E : Value → Shared → Prop} {s : Shared} {a : Addr} {l : List Str}
theorem SetX.at {h h' : Heap} (R : SetX P w h a l) (k : ∀ o, h.get? a = some o → h'.get? a = some o) : SetX P w h' a l := by
  obtain ⟨D, ho, r⟩ := R
  exact ⟨D, k _ ho, r⟩
end
end VL

namespace VL
open PyProof.Rows PySem L2 PySem.Spec PySem.Froz
noncomputable def leS (x y : Str) : Bool := decide (x.cps.toList ≤ y.cps.toList)
noncomputable def srtS (l : List Str) : List Str := l.mergeSort leS
section
variable {X : Cx} {G : VG} {k : Nat} {m m1 : Md} {o : Expr} {fa : Lo → R D} {pos p : Pos}
end
end VL

namespace VL
open PyProof.Rows PySem L2 PySem.Spec PySem.Froz
section
variable {X : Cx}
end
end VL

namespace VL
open PyProof.Rows PySem L2 PySem.Spec
section
variable {elt : Expr} {gens : List Comprehension} {scope : Scope} {pos : Pos}
noncomputable def tailS (elt : Expr) (gens : List Comprehension) (scope : Scope) (pos : Pos) (d : Nat) (acc : Value) (env : Env) : Sem Unit := match gens[d + 1]? with
  | some g' => do
    let x ← eval g'.iter env
    standAt g'.iter.pos
    let x ← foldedSetIterable g'.iter env x
    let _ ← runOwn (.compStart (.SetComp elt gens scope pos) (d + 1) (← holding [x] (pyIter x)) acc env) env
  | none => do let v ← eval elt env; standAt elt.pos; let _ ← call (.builtin "set.add") [acc, v]
section
variable {P : Program} {w : World} {A : Around} {R : Result → Shared → Prop} {it acc : Value} {env : Env} {d : Nat} {tg i0 : Expr} {ifs : List Expr}
end
structure SAcc (α : Type) where
  obj : Addr → α → HO
  can : V → Hp → α → α → Prop
noncomputable def SAcc.Ok {α : Type} (X : Cx) (Z : SAcc α) : Prop := ∀ (pins : List (Addr × Obj)) (σ : L2.St) (H : Hp) (s : Shared) (D : Addr) (a a' : α) (y : V) (u : Value) (Q : Value → Shared → Prop) (E : Value → Shared → Prop),
  Inv X pins σ H s → H D = some (Z.obj D a) → RelV y u → Z.can y H a a' → (∀ s', Inv X pins σ (upd H D (Z.obj D a')) s' → Q .none s') → wpAny (model X.prog X.w) X.A (call (.builtin "set.add") [.ref D, u]) Q E s
noncomputable abbrev TTl := Addr → L2.St → Hp → (Hp → Prop) → Prop
structure PTl (X : Cx) (elt : Expr) (gens : List Comprehension) (scope : Scope) (pos : Pos) (d : Nat) (ws : List Nat) (t : TTl) : Prop where
  run : ∀ (pins : List (Addr × Obj)) (s : Shared) (σ : L2.St) (H : Hp) (D : Addr) (Nx : Hp → Prop), Inv X pins σ H s → t D σ H Nx →
    wpAny (model X.prog X.w) X.A (tailS elt gens scope pos d (.ref D) X.env) (fun _ s' => ∃ H', Inv X pins (L2.wipe σ ws) H' s' ∧ Nx H') (fun _ _ => False) s
section
variable {X : Cx} {d : Nat}
end
end
end VL

namespace VL
open PyProof.Rows PySem L2 PySem.Spec
section
variable {X : Cx}
end
end VL

namespace VL
open PyProof.Rows PySem L2 PySem.Spec
mutual
theorem Dw.off {K : PySem.W.Frag} {H0 H : Hp} {F : Fro} {ω : Om} {D : Addr} {φ : Heap → Prop} (h : H D = some (.ext φ)) (hc : ∀ h, φ h → ∃ o, h.get? D = some o ∧ o.cls = .type "set") (k : Kp F H (delH H D)) : ∀ {p : List Nat} {v : V} {t : Tr}, Dw K H0 H F ω p v t → Dw K H0 (delH H D) F ω p v t
  | _, _, _, .sh q => .sh (q.mono k fun _ z => z)
  | _, _, _, .nd (a := a) (k := kd) e n nf q r => .nd e n nf (KdH.eq k q (delH_ne fun z => by
      subst z
      exact q.noSet h hc)) (DwL.off h hc k r)
theorem DwL.off {K : PySem.W.Frag} {H0 H : Hp} {F : Fro} {ω : Om} {D : Addr} {φ : Heap → Prop} (h : H D = some (.ext φ)) (hc : ∀ h, φ h → ∃ o, h.get? D = some o ∧ o.cls = .type "set") (k : Kp F H (delH H D)) : ∀ {p : List Nat} {n : Nat} {vs : List V} {ts : List Tr}, DwL K H0 H F ω p n vs ts → DwL K H0 (delH H D) F ω p n vs ts
  | _, _, _, _, .nil => .nil
  | _, _, _, _, .cons q r => .cons (Dw.off h hc k q) (DwL.off h hc k r)
end
structure DAcc (K : PySem.W.Frag) (α β : Type) extends SAcc α where
  ext : ∀ D a, ∃ φ, obj D a = .ext φ ∧ ∀ h, φ h → ∃ o, h.get? D = some o ∧ o.cls = .type "set"
  rep : Hp → α → β → Prop
  mono : ∀ {F : Fro} {H H' : Hp} {a : α} {b : β}, Kp F H H' → rep H a b → rep H' a b
  step : β → D → Option β
  stp : ∀ {H : Hp} {F : Fro} {v : V} {d : D} {a : α} {b b' : β}, Sh K H F v d → rep H a b → step b d = some b' → ∃ a', can v H a a' ∧ rep H a' b'
noncomputable def stepsD {β : Type} (step : β → D → Option β) : β → List D → Option β
  | b, [] => some b
  | b, d :: ds => (step b d).bind fun b' => stepsD step b' ds
section
variable {X : Cx} {G : VG} {k : Nat} {α β : Type} {elt : Expr} {gens : List Comprehension} {scope : Scope} {pos : Pos} {d : Nat}
noncomputable def tTl (G : VG) (Z : DAcc G.K α β) (f : Lo → R (List D)) : TTl := fun D σ H Nx => ∃ ρ F a b es b', Rel G σ H ρ F ∧ ¬ F D ∧ G.H0 D = none ∧ H D = some (Z.obj D a) ∧ Z.rep H a b ∧ f ρ = .ok es ∧ stepsD Z.step b es = some b' ∧
  ∀ H' F' a', Le (delH H D) F (delH H' D) F' → ¬ F' D → H' D = some (Z.obj D a') → Z.rep H' a' b' → Nx H'
structure VTl (X : Cx) (G : VG) (Z : DAcc G.K α β) (elt : Expr) (gens : List Comprehension) (scope : Scope) (pos : Pos) (d : Nat) (ws : List Nat) (f : Lo → R (List D)) : Prop where
  tl : PTl X elt gens scope pos d ws (tTl G Z f)
end
end VL

namespace VL
open PyProof.Rows PySem L2 PySem.Spec PySem.Froz
theorem Wk.nox {G : VG} {J : It} {ds : List D} {H1 : Hp} {F1 : Fro} (wk : Wk G J ds H1 F1) : Wk G.nox J ds H1 F1 := ⟨wk.goes, wk.stops, wk.few, wk.yields⟩
section
variable {X : Cx} {G : VG} {k : Nat} {elt tg iter : Expr} {ifs : List Expr} {rest : List Comprehension} {scope : Scope} {own : List (Str × Nat)} {ws ws2 : List Nat} {pos p pos' : Pos} {it : Lo → R (List D)} {asg : D → Lo → R Lo} {tst : Lo → R Bool} {f2 : Lo → R (List D)}
end
end VL

namespace VL
open PyProof.Rows PySem L2 PySem.Spec PySem.Froz
section
variable {P : Program} {w : World} {A : Around} {E : Value → Shared → Prop} {s : Shared}
noncomputable abbrev SET0 (w : World) : Obj := { cls := .type "set", dict := none, data := .set #[] 0 (.fresh 0 0 (!w.params.followText "set-order")) }
end
section
variable {X : Cx}
end
section
variable {X : Cx} {G : VG} {k : Nat} {m1 : Md} {o : Expr} {fa : Lo → R D} {pos p p2 pos2 : Pos}
end
end VL

namespace VL
open PyProof.Rows PySem L2 PySem.Spec
section
variable {X : Cx} {o e : Expr} {apos cpos : Pos} {td te : TE}
end
section
variable {X : Cx} {G : VG} {k : Nat} {m : Md} {e : Expr} {f : Lo → R D} {pos pos' ap cp : Pos}
end
end VL

namespace VL
open PyProof.Rows PySem L2 PySem.Spec
section
variable {K : PySem.W.Frag} {H : Hp} {F : Fro}
theorem zip_look {f : Str} {d : D} : ∀ {fs : List (Str × V)} {ds : List D}, ShL K H F (fs.map (·.2)) ds → ((fs.map (·.1)).zip ds).lookup f = some d → ∃ v, fs.lookup f = some v ∧ Sh K H F v d
  | [], _, _, e => by cases e
  | (g, v) :: fs, d' :: ds, .cons s r, e => by
    simp only [List.map_cons, List.zip_cons_cons, List.lookup_cons] at e ⊢
    cases q : f == g with
    | true =>
      rw [q] at e
      cases e
      exact ⟨v, rfl, s⟩
    | false =>
      rw [q] at e
      exact zip_look r e
end
structure ClsK (K : PySem.W.Frag) (c : Str) (C : Addr) : Prop where
  ns : PySem.W.nsIn K mainGlobals c = some (some (.ref C))
  cl : Cls K C
section
variable {X : Cx} {G : VG} {k : Nat} {m m1 : Md} {e : Expr} {fa fe : Lo → R D} {pos pos' p1 : Pos} {c f : Str} {C : Addr}
end
end VL

namespace VL
open PyProof.Rows PySem L2 PySem.Spec
end VL

namespace VL
open PyProof.Rows PySem L2 PySem.Spec
structure VKw (X : Cx) (G : VG) (kws : List Keyword) (f : Lo → R (List D)) : Prop where
  pk : PK X kws (tA G f)
theorem pk_imp {X : Cx} {kws : List Keyword} {t t' : TA} (h : PK X kws t) (i : ∀ σ H Q, t' σ H Q → t σ H Q) : PK X kws t' := ⟨fun pos pins s σ H Q I q => h.run pos pins s σ H Q I (i σ H Q q)⟩
section
variable {X : Cx} {G : VG} {k j n : Nat} {f C : Addr} {fd : FuncData} {ps ks : List Str} {g : List D → R D} {c x : Str} {e : Expr} {es : List Expr} {kws : List Keyword} {nm : Option Str} {fa fr fk : Lo → R (List D)} {fe : Lo → R D} {p pos kpos : Pos} {gB : List Value → List Value → List Value} {gV : List V → List V → List V}
theorem vk_nil : VKw X G [] aNil := ⟨pk_imp pk_nil fun σ H Q ⟨ρ, F, rl, o⟩ => o [] H F (Le.refl rl.le.the) .nil⟩
theorem vk_cons (ha : VE X G .sh e fe) (hr : VKw X G kws fr) : VKw X G (⟨nm, e, kpos⟩ :: kws) (aCons fe fr) := ⟨pk_imp (pk_cons ha.pe hr.pk) fun σ H Q ⟨ρ, F, rl, o⟩ => by
  refine ⟨ρ, F, rl, Out.bind (S' := fun ds vs H' F' => ShL G.K H' F' vs ds) o (fun _ _ _ _ _ _ _ h => h) fun d x H1 F1 _ l s k => ?_⟩
  have o1 := k (S'' := fun ds vs H' F' => ShL G.K H' F' vs ds) fun _ _ _ _ h => h
  refine ⟨ρ, F1, rl.step l, Out.bind (S' := fun ds vs H' F' => ShL G.K H' F' vs ds) o1 (fun _ _ _ _ _ _ _ h => h) fun ds xs H2 F2 _ l2 s2 k2 => ?_⟩
  exact k2 (S'' := fun ds vs H' F' => ShL G.K H' F' vs ds) (fun _ _ _ _ h => h) _ H2 F2 (Le.refl l2.the) (.cons (Sh.le s l2) s2)⟩
theorem ShL.app {K : PySem.W.Frag} {H : Hp} {F : Fro} {vs ws : List V} {ds es : List D} (a : ShL K H F vs ds) (b : ShL K H F ws es) : ShL K H F (vs ++ ws) (ds ++ es) := a.append b
end
end VL

namespace VL
open PyProof.Rows PySem L2 PySem.Spec
section
variable {X : Cx} {G : VG} {k j n : Nat} {f C : Addr} {fd : FuncData} {ps : List Str} {g : List D → R D} {c mn : Str} {o e : Expr} {es : List Expr} {fo : Lo → R D} {fa : Lo → R (List D)} {m m2 : Md} {pos apos : Pos}
end
mutual
noncomputable def D.flat : D → Bool
  | .non => true
  | .bl _ => true
  | .int _ => true
  | .str _ => true
  | .tup xs => flatL xs
  | .ctp xs => flatL xs
  | .lst _ => false
  | .dic _ => false
  | .obj _ _ => false
  | .tdc _ => false
noncomputable def flatL : List D → Bool
  | [] => true
  | d :: ds => d.flat && flatL ds
end
section
variable {K : PySem.W.Frag} {H : Hp} {F F2 : Fro}
theorem Sh.flat {v : V} {d : D} (h : Sh K H F v d) : d.flat = true → Sh K H F2 v d :=
  Sh.rec (motive_1 := fun v d _ => d.flat = true → Sh K H F2 v d) (motive_2 := fun vs ds _ => flatL ds = true → ShL K H F2 vs ds) (fun _ => .non) (fun b _ => .bl b) (fun i _ => .int i) (fun x _ => .str x) (fun _ _ _ c => Bool.noConfusion c)
    (fun h _ r c => .tup h (r c)) (fun h _ r c => .ctp h (r c)) (fun _ _ _ c => Bool.noConfusion c) (fun _ _ _ _ _ c => Bool.noConfusion c) (fun _ _ _ _ _ _ _ c => Bool.noConfusion c) (fun _ _ _ c => Bool.noConfusion c) (fun _ => .nil)
    (fun _ _ h r c => .cons (h (Bool.and_eq_true_iff.mp c).1) (r (Bool.and_eq_true_iff.mp c).2)) h
theorem ShL.flat {vs : List V} {ds : List D} (h : ShL K H F vs ds) (c : flatL ds = true) : ShL K H F2 vs ds := by
  induction ds generalizing vs with
  | nil => cases h; exact .nil
  | cons d ds ih => rcases h with _ | ⟨h, r⟩; exact .cons (Sh.flat h (Bool.and_eq_true_iff.mp c).1) (ih r (Bool.and_eq_true_iff.mp c).2)
noncomputable def flatO : D → Bool
  | .lst xs => flatL xs
  | .dic es => flatL (es.map (·.2))
  | .tdc es => flatL (es.map (·.2))
  | _ => false
theorem zip_snd {α β : Type} : ∀ {as : List α} {bs : List β}, bs.length = as.length → (as.zip bs).map (·.2) = bs
  | [], [], _ => rfl
  | _ :: _, b :: bs, h => by rw [List.zip_cons_cons, List.map_cons, zip_snd (by simpa using h)]
theorem Ow.flat {a : Addr} {d : D} (o : Ow K H F a d) (c : flatO d = true) : Ow K H F2 a d := by
  cases o with
  | lst h r => exact .lst h (r.flat c)
  | dic h r =>
    refine .dic h (r.flat ?_)
    have q := r.length
    simp only [List.length_map] at q
    have c : flatL _ = true := c
    rwa [zip_snd (by simp [q])] at c
  | tdc h r =>
    refine .tdc h (r.flat ?_)
    have q := r.length
    simp only [List.length_map] at q
    have c : flatL _ = true := c
    rwa [zip_snd (by simp [q])] at c
  | obj _ _ _ => cases c
end
end VL

namespace VL
open PyProof.Rows PySem L2 PySem.Spec
section
variable {G : VG} {g : List D → R D} {m : Md}
end
section
variable {X : Cx} {G : VG} {k j n : Nat} {f C : Addr} {fd : FuncData} {ps : List Str} {g : List D → R D} {c mn : Str} {e : Expr} {es : List Expr} {fa : Lo → R (List D)} {m : Md} {pos apos p1 : Pos}
end
end VL

namespace VL
open PyProof.Rows PySem L2 PySem.Spec
section
variable {X : Cx} {G : VG} {k : Nat} {m m1 m2 : Md} {a b : Expr} {fa fb : Lo → R D} {pos : Pos}
end
section
variable {X : Cx} {G : VG} {k : Nat} {m : Md} {e1 e2 : Expr} {fa : Lo → R (List D)} {pos pos' ap cp : Pos}
end
end VL

namespace VL
open PyProof.Rows PySem L2 PySem.Spec
noncomputable def kysD : List D → Option (List Key)
  | [] => some []
  | d :: r => (kyD d).bind fun k => (kysD r).map (k :: ·)
noncomputable def tupKeys : D → Option (List Key)
  | .tup ds => kysD ds
  | _ => none
section
variable {K : PySem.W.Frag} {H : Hp} {F : Fro}
end
section
variable {X : Cx} {G : VG} {k : Nat} {m m1 m2 : Md} {o ie : Expr} {fa fi : Lo → R D} {pos : Pos}
end
end VL

namespace VL
open PyProof.Rows PySem L2 PySem.Spec
noncomputable def tput (es : List (List Key × D)) (k : List Key) (v : D) : List (List Key × D) := if (es.any fun p => decide (p.1 = k)) = true then es.map fun p => if p.1 = k then (p.1, v) else p else es ++ [(k, v)]
section
variable {K : PySem.W.Frag} {H : Hp} {F : Fro}
end
noncomputable def putT (k v : D) : Option Sl → Option D
  | some (.ow (.tdc es)) => match tupKeys k with
    | some ks => if fits (es.length + 1) = true then some (.tdc (tput es ks v)) else none
    | none => none
  | _ => none
section
variable {X : Cx} {G : VG} {k : Nat} {m m1 m2 : Md} {e ie o : Expr} {f fi fe fa fb' fc : Lo → R D} {pos pos' p1 p2 : Pos}
end
end VL

namespace VL
open PyProof.Rows PySem L2 PySem.Spec
section
variable {X : Cx} {G : VG} {pos : Pos}
end
end VL

namespace VL
open PyProof.Rows PySem L2 PySem.Spec
section
variable {X : Cx} {G : VG} {k : Nat} {m m1 m2 : Md} {o e f : Expr} {fa fb' fc : Lo → R D} {apos cpos p pos : Pos}
end
end VL

namespace VL
open PyProof.Rows PySem L2 PySem.Spec
section
variable {X : Cx} {G : VG} {k : Nat} {m : Md} {kx vx tg iter : Expr} {ifs : List Expr} {scope : Scope} {own : List (Str × Nat)} {ws : List Nat} {pos : Pos} {it : Lo → R (List D)} {asg : D → Lo → R Lo} {tst : Lo → R Bool} {fk fv : Lo → R D}
end
end VL

namespace VL
open PyProof.Rows PySem L2 PySem.Spec
open AutoSeq1 (wpAny_loadPart')
section
variable {X : Cx} {G : VG} {k : Nat} {a : Expr} {fa : Lo → R D} {p pos tpos : Pos} {elts : List Expr} {kk : Nat}
end
end VL

namespace VL
open PyProof.Rows PySem L2 PySem.Spec
section
variable {X : Cx} {G : VG} {k : Nat} {m : Md} {elt tg iter tg1 iter1 : Expr} {ifs ifs1 : List Expr} {scope : Scope} {own : List (Str × Nat)} {ws ws1 vs1 : List Nat} {pos : Pos} {it it1 : Lo → R (List D)} {asg asg1 : D → Lo → R Lo} {tst tst1 : Lo → R Bool} {fe : Lo → R D}
end
end VL

namespace VL
open PyProof.Rows PySem L2 PySem.Spec
noncomputable def cod (k : List Int) : Int := TS.code 64 k
noncomputable def insT (x : List Int) : List (List Int) → List (List Int)
  | [] => [x]
  | y :: r => if cod x ≤ cod y then x :: y :: r else y :: insT x r
noncomputable def srtT (l : List (List Int)) : List (List Int) := l.foldr insT []
noncomputable def addT (l : List (List Int)) (k : List Int) : List (List Int) := if k ∈ l then l else k :: l
noncomputable def addsT (l ks : List (List Int)) : List (List Int) := ks.foldl addT l
theorem insT_perm (x : List Int) : ∀ l : List (List Int), (insT x l).Perm (x :: l)
  | [] => .refl _
  | y :: r => by
    unfold insT
    split
    · exact .refl _
    · exact ((insT_perm x r).cons y).trans (.swap x y r)
theorem srtT_perm : ∀ l : List (List Int), (srtT l).Perm l
  | [] => .refl _
  | x :: r => (insT_perm x _).trans ((srtT_perm r).cons x)
noncomputable def AscT (l : List (List Int)) : Prop := l.Pairwise fun a b => cod a ≤ cod b
theorem insT_asc (x : List Int) : ∀ {l : List (List Int)}, AscT l → AscT (insT x l)
  | [], _ => List.pairwise_singleton _ _
  | y :: r, h => by
    obtain ⟨h1, h2⟩ := List.pairwise_cons.mp h
    unfold insT
    split
    · rename_i q
      refine List.pairwise_cons.mpr ⟨fun z hz => ?_, h⟩
      rcases List.mem_cons.mp hz with rfl | hz
      · exact q
      · exact Int.le_trans q (h1 z hz)
    · rename_i q
      refine List.pairwise_cons.mpr ⟨fun z hz => ?_, insT_asc x h2⟩
      rcases List.mem_cons.mp ((insT_perm x r).mem_iff.mp hz) with rfl | hz
      · (first | lia | omega)
      · exact h1 z hz
theorem srtT_asc : ∀ l : List (List Int), AscT (srtT l)
  | [] => .nil
  | x :: r => insT_asc x (srtT_asc r)
theorem cod_inj : ∀ {a b : List Int}, a.length = b.length → TS.Bd 64 a → TS.Bd 64 b → cod a = cod b → a = b
  | [], [], _, _, _, _ => rfl
  | x :: a, y :: b, hl, ha, hb, e => by
    have hl2 : a.length = b.length := by simpa using hl
    rcases Int.lt_trichotomy x y with h | h | h
    · have := TS.code_lt hl2 ha.tail hb.tail h
      unfold cod at e
      (first | lia | omega)
    · subst h
      have e : x * 64 ^ a.length + cod a = x * 64 ^ b.length + cod b := e
      rw [hl2] at e
      rw [cod_inj hl2 ha.tail hb.tail (by (first | lia | omega))]
    · have := TS.code_lt hl2.symm hb.tail ha.tail h
      unfold cod at e
      (first | lia | omega)
theorem asc_uniq : ∀ {l m : List (List Int)}, AscT l → AscT m → l.Perm m → (∀ a ∈ l, ∀ b ∈ l, cod a = cod b → a = b) → l = m
  | [], m, _, _, p, _ => p.nil_eq
  | x :: l, [], _, _, p, _ => by have := p.length_eq; simp at this
  | x :: l, y :: m, h1, h2, p, inj => by
    obtain ⟨a1, a2⟩ := List.pairwise_cons.mp h1
    obtain ⟨b1, b2⟩ := List.pairwise_cons.mp h2
    have hy : y ∈ x :: l := p.mem_iff.mpr List.mem_cons_self
    have hx : x ∈ y :: m := p.mem_iff.mp List.mem_cons_self
    have xy : cod x ≤ cod y := by
      rcases List.mem_cons.mp hy with e | h
      · rw [e]; exact Int.le_refl _
      · exact a1 y h
    have yx : cod y ≤ cod x := by
      rcases List.mem_cons.mp hx with e | h
      · rw [e]; exact Int.le_refl _
      · exact b1 x h
    have e : x = y := inj x List.mem_cons_self y hy (Int.le_antisymm xy yx)
    subst e
    rw [asc_uniq a2 b2 p.cons_inv fun a ha b hb => inj a (List.mem_cons_of_mem _ ha) b (List.mem_cons_of_mem _ hb)]
theorem addsT_mem {k : List Int} : ∀ {ks l : List (List Int)}, k ∈ addsT l ks ↔ k ∈ l ∨ k ∈ ks
  | [], l => by simp [addsT]
  | x :: ks, l => by
    have e : addsT l (x :: ks) = addsT (addT l x) ks := rfl
    rw [e, addsT_mem (ks := ks)]
    have m : k ∈ addT l x ↔ k ∈ l ∨ k = x := by
      unfold addT
      split
      · rename_i q
        exact ⟨.inl, fun z => z.elim id fun e => e ▸ q⟩
      · rw [List.mem_cons]
        exact Or.comm
    rw [m, List.mem_cons, or_assoc]
theorem addsT_nodup : ∀ {ks l : List (List Int)}, l.Nodup → (addsT l ks).Nodup
  | [], _, h => h
  | x :: ks, l, h => addsT_nodup (ks := ks) (l := addT l x) (by
    unfold addT
    split
    · exact h
    · rename_i q
      exact List.nodup_cons.mpr ⟨q, h⟩)
theorem cod_injs {d : Nat} {ks : List (List Int)} (h : ∀ q ∈ ks, q.length = d ∧ TS.Bd 64 q) : ∀ a ∈ ks, ∀ b ∈ ks, cod a = cod b → a = b := fun a ha b hb e => cod_inj ((h a ha).1.trans (h b hb).1.symm) (h a ha).2 (h b hb).2 e
section
variable {K : PySem.W.Frag} {H : Hp} {F : Fro}
end
section
variable {X : Cx} {G : VG} {k : Nat} {m1 : Md} {o : Expr} {fa : Lo → R D} {pos p p2 pos2 : Pos}
end
end VL

namespace VL
open PyProof.Rows PySem L2 PySem.Spec
section
variable {X : Cx} {G : VG} {k : Nat} {elt tg iter : Expr} {ifs : List Expr} {rest : List Comprehension} {scope : Scope} {own : List (Str × Nat)} {ws ws2 : List Nat} {pos p pos' : Pos} {it : Lo → R (List D)} {asg : D → Lo → R Lo} {tst : Lo → R Bool} {f2 : Lo → R (List D)}
end
end VL

namespace VL
open PyProof.Rows PySem L2 PySem.Spec
section
variable {X : Cx} {G : VG} {k j n : Nat} {f : Addr} {fd : FuncData} {ps ks : List Str} {sp : Sp} {m : Md} {g : List D → R D} {e : Expr} {es : List Expr} {fa fk : Lo → R (List D)} {nm : Str} {p pos : Pos} {kws : List Keyword} {gB : List Value → List Value → List Value} {gV : List V → List V → List V}
end
section
variable {prog : Program} {w : World} {A : Around} {E : Value → Shared → Prop} {s : Shared}
end
section
variable {X : Cx} {G : VG} {k : Nat} {m1 : Md} {o : Expr} {fa : Lo → R D} {pos p : Pos}
end
end VL
namespace VL
open PyProof.Rows PySem L2 PySem.Spec
section
variable {X : Cx} {G : VG} {k : Nat} {m m1 : Md} {e : Expr} {f : Lo → R D} {pos pos' : Pos}
end
end VL

namespace VL
open PyProof.Rows PySem L2 PySem.Spec
structure KBd (K : PySem.W.Frag) (fd : FuncData) (ps : List Str) (n : Nat) (dds : List D) : Prop where
  ex : ∃ (ds : List Value) (dvs : List V), (∀ (H : Hp) (F : Fro), ShL K H F dvs dds) ∧ KBn K fd ps n [] (fun us _ => us ++ ds) (fun vs _ => vs ++ dvs)
section
variable {X : Cx} {G : VG} {k j n : Nat} {f C : Addr} {fd : FuncData} {ps : List Str} {g : List D → R D} {c : Str} {e : Expr} {es : List Expr} {fa : Lo → R (List D)} {p pos : Pos} {dds : List D}
end
end VL
namespace VL
open PyProof.Rows PySem L2 PySem.Spec
section
variable {X : Cx} {G : VG} {k : Nat} {m m1 : Md} {a : Expr} {fa : Lo → R D} {p q pos : Pos}
end
end VL

namespace VL
open PyProof.Rows PySem L2 PySem.Spec
structure EcK (K : PySem.W.Frag) (C : Addr) (bmB : List Value) (newId : String) : Prop where
  ini : PySem.W.excInitIn K C bmB newId = true
  ovr : PySem.W.excOver K C bmB = true
  dct : PySem.W.hasDictIn K C = true
  sat : PySem.W.findIn K (.ref C) "__setattr__" = some (some (.builtin "object.__setattr__"))
  sub : PySem.W.subIn K (.ref C) (.type "BaseException") = some true
  typ : PySem.W.typeIn K (.ref C) = some (.type "type")
  kep : PySem.W.keepIn K (.ref C) = true
section
open Builtin Builtin.ObjectAttr
variable {prog : Program} {w : World} {A : Around} {R : Result → Shared → Prop} {hp : Heap} {g : Array GenState} {dr : Drawn} {tk0 : Nat} {os : OsState} {K : PySem.W.Frag} {C x dx : Addr} {B newId : String} {bmB : List Value} {nm : Str} {tk : Tok} {v : Value} {fv : Array Value}
theorem no_taker (hno : PySem.W.findIn K (.ref C) nm = some none) : PySem.W.takerIn K C nm = some none := by
  unfold PySem.W.takerIn
  rw [hno]
  rfl
theorem ec_first (SF : StoreFacts B bmB "object.__setattr__" "object") (kin : K.In hp) (hx : hp.get? x = some { cls := .ref C, data := .fields fv }) (E : EcK K C bmB newId) (hno : PySem.W.findIn K (.ref C) nm = some none)
    (fin : ∀ h' t' d, (∀ b o, b ≠ x → hp.get? b = some o → h'.get? b = some o) → hp.objs.size ≤ d → d ≠ x → h'.get? x = some { cls := .ref C, dict := some d, data := .fields fv } → h'.Ns1 d (fun y => if y = nm then some v else none) → R (.ok (.ret .none)) ⟨h', g, dr, t', os⟩) :
    codeAny (model prog w) A (.call (.builtin "object.__setattr__") ⟨[.ref x, .str nm tk, v], []⟩) R ⟨hp, g, dr, tk0, os⟩ := by
  have inst : PySem.W.InstAt hp x { cls := .ref C, data := .fields fv } C none := ⟨hx, rfl, rfl, trivial⟩
  have far : x ≠ hp.objs.size := Nat.ne_of_lt (Heap.lt_size hx)
  obtain ⟨cd, hcd, hdd⟩ := PySem.W.any_some E.dct
  have seen : PySem.W.Looks (model prog w) hp (classData C) cd := PySem.W.looks_clsIn kin hcd
  refine PySem.W.osa_openX SF kin inst E.ovr (no_taker hno) fun b => ?_
  show wpAny _ _ (storeInOwnDict (.ref x) (.ref C) (.str nm tk) nm v b) _ _ _
  obtain ⟨n1, n2, n3, n4, n5, n6, n7, n8, n9, n10, n11⟩ := cd
  dsimp only at hdd
  subst hdd
  unfold storeInOwnDict ownDictForStores
  repeat (first | with_reducible refine PySem.HandSPX.store_in_new ?_ ?_ | with_reducible refine wpAny_loadPart_at hx ?_ | with_reducible refine seen.at ?_ | wp_step)
  · exact ⟨_, #[], _, (Heap.get?_update_ne _ _ _ _ far.symm).trans (Heap.get?_push_at rfl rfl), rfl, fun e he => absurd he (by simp), fun _ => rfl⟩
  · intro h2 t2 ns same
    have old : (hp.push { cls := .type "dict", data := .dict #[] }).get? x = some { cls := .ref C, data := .fields fv } := Heap.get?_push_of_some _ hx
    refine fin h2 t2 hp.objs.size (fun b o nb e => ?_) (Nat.le_refl _) far.symm ?_ ns
    · exact (same.2 b (Nat.ne_of_lt (Heap.lt_size e))).trans ((Heap.get?_update_ne _ _ _ _ nb).trans (Heap.get?_push_of_some _ e))
    · exact (same.2 x far).trans (Heap.get?_update_self _ old rfl)
theorem ec_more {m0 : Str → Option Value} {nl : List Str} (SF : StoreFacts B bmB "object.__setattr__" "object") (kin : K.In hp) (hx : hp.get? x = some { cls := .ref C, dict := some dx, data := .fields fv }) (hns : hp.Ns1 dx m0) (hw : Within m0 nl) (hz : nl.length ≤ 1000) (E : EcK K C bmB newId) (hno : PySem.W.findIn K (.ref C) nm = some none)
    (fin : ∀ h' t', (∀ b o, b ≠ dx → hp.get? b = some o → h'.get? b = some o) → h'.Ns1 dx (fun y => if y = nm then some v else m0 y) → R (.ok (.ret .none)) ⟨h', g, dr, t', os⟩) :
    codeAny (model prog w) A (.call (.builtin "object.__setattr__") ⟨[.ref x, .str nm tk, v], []⟩) R ⟨hp, g, dr, tk0, os⟩ := by
  obtain ⟨oD, es0, ep0, hoD, _, _⟩ := hns.count hw
  have inst : PySem.W.InstAt hp x { cls := .ref C, dict := some dx, data := .fields fv } C (some oD) := ⟨hx, rfl, rfl, hoD⟩
  obtain ⟨cd, hcd, hdd⟩ := PySem.W.any_some E.dct
  have seen : PySem.W.Looks (model prog w) hp (classData C) cd := PySem.W.looks_clsIn kin hcd
  refine PySem.W.osa_openX SF kin inst E.ovr (no_taker hno) fun b => ?_
  show wpAny _ _ (storeInOwnDict (.ref x) (.ref C) (.str nm tk) nm v b) _ _ _
  obtain ⟨n1, n2, n3, n4, n5, n6, n7, n8, n9, n10, n11⟩ := cd
  dsimp only at hdd
  subst hdd
  unfold storeInOwnDict ownDictForStores
  repeat (first | with_reducible refine PySem.OEX.store_in_old hns hw hz ?_ | with_reducible refine wpAny_loadPart_at hx ?_ | with_reducible refine seen.at ?_ | wp_step)
  intro h2 t2 ns same
  exact fin h2 t2 (fun b o nb e => (same.2 b nb).trans e) ns
end
section
variable {X : Cx} {pins : List (Addr × Obj)} {σ : L2.St} {H : Hp} {s : Shared} {a C dx : Addr} {f : Str} {y : V} {u : Value} {fs : List (Str × V)} {Q : Unit → Shared → Prop} {E : Value → Shared → Prop} {A : Around} {B newId initId : String} {bmB : List Value}
theorem ecs_first (SF : StoreFacts B bmB "object.__setattr__" "object") (T : EcK X.K C bmB newId) (I : Inv X pins σ H s) (ha : H a = some (exo a C none)) (hno : PySem.W.findIn X.K (.ref C) f = some none) (ry : RelV y u)
    (go : ∀ d s', H d = none → d ≠ a → Inv X pins σ (upd (upd H d (exd d [(f, y)])) a (exo a C (some d))) s' → Q () s') : wpAny (model X.prog X.w) A (setAttr (.ref a) f u) Q E s := by
  obtain ⟨t1, ho⟩ := exo_at I.hok ha
  obtain ⟨hh, gg, d0, t0, os0⟩ := s
  refine PySem.W.set_plain I.kIn (ox := { cls := .ref C, dict := none, data := .fields #[.ref t1, .none, .none, .none, .bool false, .none] }) (od := none) ⟨ho, rfl, rfl, trivial⟩ T.sat ?_
  refine ec_first SF I.kIn ho T hno fun h2 t2 d keep hd nd hx ns => ?_
  have un : H d = none := I.hok.fresh hd
  have lo : ∀ {b : Addr} {o : Obj}, hh.get? b = some o → b ≠ d := fun {b o} e => Nat.ne_of_lt (Nat.lt_of_lt_of_le (Heap.lt_size e) hd)
  have off : ∀ {b : Addr}, H b = none → b ≠ a := fun {b} n e => by
    rw [e, ha] at n
    cases n
  have U : Un X.fs [] H (upd (upd H d (exd d [(f, y)])) a (exo a C (some d))) hh h2 := {
    keep := fun b o e n _ _ => keep b o (off n) e
    slot := fun b o e n _ _ => ⟨o.slots, keep b o (off n) e⟩
    free := fun b o e n _ => (upd_ne (off n)).trans ((upd_ne (lo e)).trans n)
    there := fun b o e _ => by
      by_cases c : b = a
      · exact ⟨_, by rw [c]; exact hx⟩
      · exact ⟨o, keep b o c e⟩
    tups := fun b xs e => (upd_ne (at_ne ha e exo_tup)).trans ((upd_ne (ne_of_none e un)).trans e)
    frzs := fun b o v e => (upd_ne (at_ne ha e exo_frz)).trans ((upd_ne (ne_of_none e un)).trans e)
    tbls := fun b ps e => ⟨#[], by rw [upd_ne (at_ne ha e exo_tbl), upd_ne (ne_of_none e un), e]; simp⟩ }
  refine go d _ un nd (I.un (t' := t2) U fun b o e => ?_)
  by_cases c : b = a
  · subst c
    rw [upd_same] at e
    cases e
    exact exo_ok hx
  · rw [upd_ne c] at e
    by_cases c2 : b = d
    · subst c2
      rw [upd_same] at e
      cases e
      exact exd_ok ns (relO_put (fs := []) ry fun _ => True.intro)
    · rw [upd_ne c2] at e
      refine (I.hok b o e).stay (fun z w hz e2 => keep z w ?_ e2) (fun z hz => ?_) fun z xs hz => ?_
      · rcases hz with rfl | hz
        · exact c
        · exact at_ne ha hz exo_own
      · rw [upd_ne (at_ne ha hz exo_own), upd_ne (ne_of_none hz un)]
        exact hz
      · rw [upd_ne (at_ne ha hz exo_tup), upd_ne (ne_of_none hz un)]
        exact hz
theorem ecs_more (SF : StoreFacts B bmB "object.__setattr__" "object") (T : EcK X.K C bmB newId) (I : Inv X pins σ H s) (ha : H a = some (exo a C (some dx))) (hd : H dx = some (exd dx fs)) (hl : fs.length ≤ 900) (hno : PySem.W.findIn X.K (.ref C) f = some none) (ry : RelV y u)
    (go : ∀ s', Inv X pins σ (upd H dx (exd dx ((f, y) :: fs))) s' → Q () s') : wpAny (model X.prog X.w) A (setAttr (.ref a) f u) Q E s := by
  obtain ⟨t1, ho⟩ := exo_at I.hok ha
  obtain ⟨m0, ns0, r0⟩ := exd_at I.hok hd
  have wi := within_of r0
  obtain ⟨hh, gg, d0, t0, os0⟩ := s
  obtain ⟨oD, _, _, eD, _, _⟩ := ns0.count wi
  refine PySem.W.set_plain I.kIn (ox := { cls := .ref C, dict := some dx, data := .fields #[.ref t1, .none, .none, .none, .bool false, .none] }) (od := some oD) ⟨ho, rfl, rfl, eD⟩ T.sat ?_
  refine ec_more SF I.kIn ho ns0 wi (by rw [List.length_map]; (first | lia | omega)) T hno fun h2 t2 keep ns => ?_
  have ex : ∃ o, h2.get? dx = some o := by
    obtain ⟨o, _, _, e', _⟩ := ns
    exact ⟨o, e'⟩
  exact go _ (I.write (t' := t2) (x := dx) (e := dx) (o := exd dx ((f, y) :: fs)) (by rw [hd]; exact True.intro) (.inl rfl) keep ex (exd_ok ns (relO_put ry r0)))
theorem eci_base {us : List Value} {Q : Value → Shared → Prop} (FB : ExcBaseFacts B newId initId bmB) (T : EcK X.K C bmB newId) (I : Inv X pins σ H s) (ha : H a = some (exo a C none)) (hl : us.length ≤ sizeLine) (go : ∀ s', Inv X pins σ H s' → Q .none s') :
    wpAny (model X.prog X.w) A (call (.builtin initId) (.ref a :: us)) Q E s := by
  obtain ⟨nm, N, qn, bs, bm, hdct, sn, sub, ab, col, dd, k0, k1, k2, k3, k5, hC, hbm⟩ := PySem.W.excInit_of I.kIn T.ini
  obtain ⟨t1, ho⟩ := exo_at I.hok ha
  obtain ⟨hh, gg, d0, t0, os0⟩ := s
  refine wpAny_call (PySem.HandSPX.init_base FB hbm hC ho hl fun h2 t2 keep hx => ?_)
  have J := I.write (t' := t0) (x := a) (e := a) (o := exo a C none) (by rw [ha]; exact True.intro) (.inl rfl) keep ⟨_, hx⟩ (exo_ok hx)
  have same : upd H a (exo a C none) = H := by
    funext b
    by_cases c : b = a
    · rw [c, upd_same, ha]
    · rw [upd_ne c]
  rw [same] at J
  exact go _ J
end
noncomputable def tEcI (K : PySem.W.Frag) (bmB : List Value) (newId : String) (ta : TA) : TE := fun σ H Q => ta σ H fun vs H1 => ∃ (a C : Addr) (ws : List V), vs = .ref a :: ws ∧ ws.length ≤ 1000 ∧ EcK K C bmB newId ∧ H1 a = some (exo a C none) ∧ Q .non H1
section
variable {X : Cx} {e : Expr} {es : List Expr} {ta : TA} {x : Str} {p1 p2 pos : Pos} {S : Addr} {newId initId : String} {B : String} {bmB : List Value}
theorem pe_ecinit (FB : ExcBaseFacts B newId initId bmB) (hg : Gl X x) (hm : X.mg x = some (.ref S)) (gS : PySem.W.specialIn X.K (.ref S) "__getattribute__" = some (some (.builtin "type.__getattribute__"))) (rS : PySem.W.readsIn X.K S (.type "type") = true)
    (fS : PySem.W.findCls X.K (.ref S) (.type "type") "__init__" = some (.val (.builtin initId))) (hh : PySem.W.handedIn (.builtin initId) = true) (ha : PA X (e :: es) ta) (hdb : (x == ("__debug__" : Str)) = false := by decide) {pl : Sem Bool}
    (hc : eval (.Call (.Attribute (.Name x p1) "__init__" p2) (e :: es) [] pos) X.env = (do
      let o ← eval (.Name x p1) X.env
      standAt p2.atName
      let (m, pre) ← holding [o] (getMethod o "__init__" pl)
      callWith pos m pre (backTo pos (starEach (e :: es) X.env)) (backToKw pos (keywordEach [] X.env))) := by rfl)
    (he : starEach (e :: es) X.env = (false, eval e X.env) :: starEach es X.env := by rfl) (hpl : (backTo pos (starEach es X.env)).any (·.1) = false := by rfl) :
    PE X (.Call (.Attribute (.Name x p1) "__init__" p2) (e :: es) [] pos) (tEcI X.K bmB newId ta) := by
  refine ⟨fun pins s σ H Q I h => ?_⟩
  refine PySem.W.methodCall_KW (ld_glob I hg hm ?_ hdb) hc
  refine PySem.W.method_cls I.kIn gS (PySem.W.cls_value I.kIn rS fS hh ?_)
  show wpAny _ _ (callWith pos (Value.builtin initId) [] (backTo pos (starEach (e :: es) X.env)) []) _ _ _
  refine PyProof.Rows.callWith_method1 (thn (ha.run pos pins _ σ H _ (I.tok _) h) fun us s1 ⟨vs, H1, I1, r1, a, C, ws, ev, hl, T, ea, q⟩ => ?_) he hpl
  subst ev
  cases r1 with
  | @cons _ u0 _ ur ra rw' =>
    obtain rfl : u0 = Value.ref a := ra
    have hlen : ur.length ≤ sizeLine := by
      rw [← Paired.length rw', sizeLine_eq]
      (first | lia | omega)
    exact eci_base FB T I1 ea hlen fun s' J => ⟨.non, H1, J, rfl, q⟩
end
noncomputable def tEcS (K : PySem.W.Frag) (bmB : List Value) (newId : String) (f : Str) (to te : TE) : TS := fun D σ H => te σ H fun y H1 => to σ H1 fun x H2 => ∃ a C : Addr, x = .ref a ∧ EcK K C bmB newId ∧ PySem.W.findIn K (.ref C) f = some none ∧
  ((H2 a = some (exo a C none) ∧ ∀ d, H2 d = none → d ≠ a → D.nx σ (upd (upd H2 d (exd d [(f, y)])) a (exo a C (some d)))) ∨
    ∃ (d : Addr) (fs : List (Str × V)), H2 a = some (exo a C (some d)) ∧ H2 d = some (exd d fs) ∧ fs.length ≤ 900 ∧ D.nx σ (upd H2 d (exd d ((f, y) :: fs))))
section
variable {X : Cx} {o e : Expr} {to te : TE} {f : Str} {p' pos : Pos} {B newId : String} {bmB : List Value}
theorem ps_ecst (SF : StoreFacts B bmB "object.__setattr__" "object") (ho : PE X o to) (he : PE X e te) (hs : swapsWith e (some (.Attribute o f p')) pos.line X.env = pure false := by rfl) : PS X (.Assign [.Attribute o f p'] e pos) (tEcS X.K bmB newId f to te) := by
  refine ⟨fun pins s σ H D I h => ?_⟩
  refine plainObj_wpAny_Assign_Attribute (thn (he.run pins s σ H _ I h) fun v s1 ⟨y, H1, I1, ry, q1⟩ => thn (ho.run pins s1 σ H1 _ I1 q1) fun w s2 ⟨x, H2, I2, rx, a, C, ex, T, hno, q⟩ => ?_) hs
  subst ex
  obtain rfl : w = Value.ref a := rx
  rcases q with ⟨ea, q⟩ | ⟨d, fs, ea, ed, hl, q⟩
  · exact ecs_first SF T I2 ea hno ry fun d s' n ne J => ⟨σ, _, J, q d n ne⟩
  · exact ecs_more SF T I2 ea ed hl hno ry fun s' J => ⟨σ, _, J, q⟩
end
noncomputable def EcDone (H : Hp) (a C d : Addr) (fs : List (Str × V)) (H' : Hp) : Prop := H d = none ∧ d ≠ a ∧ H' a = some (exo a C (some d)) ∧ H' d = some (exd d fs) ∧ ∀ b, b ≠ a → b ≠ d → H' b = H b
noncomputable def spE (K : PySem.W.Frag) (bmB : List Value) (newId : String) (ns : List Str) : Sp := fun vs H Q _ => ∃ (a C : Addr) (ws : List V), vs = .ref a :: ws ∧ ws.length = ns.length ∧ EcK K C bmB newId ∧ (∀ f ∈ ns, PySem.W.findIn K (.ref C) f = some none) ∧ H a = some (exo a C none) ∧
  ∀ d H', EcDone H a C d ((ns.zip ws).reverse) H' → Q .non H'
section
variable {P : Program} {w : World} {K : PySem.W.Frag} {mg : Str → Option Value} {base : Heap} {k : Nat} {f : Addr} {fd : FuncData} {x qual m f1 f2 : Str} {st : Stmt} {newId : String} {bmB : List Value}
theorem spE_len {ns : List Str} {vs : List V} {H : Hp} {Q : VK} {E : XK} (h : spE K bmB newId ns vs H Q E) : vs.length = ns.length + 1 := by
  obtain ⟨a, C, ws, rfl, hl, _⟩ := h
  rw [List.length_cons, hl]
theorem done1 {H : Hp} {a C d : Addr} {y : V} (ha : H a = some (exo a C none)) (hd : H d = none) (nd : d ≠ a) : EcDone H a C d [(f1, y)] (upd (upd H d (exd d [(f1, y)])) a (exo a C (some d))) :=
  ⟨hd, nd, upd_same, (upd_ne nd).trans upd_same, fun b n1 n2 => (upd_ne n1).trans (upd_ne n2)⟩
theorem done_more {H H1 : Hp} {a C d : Addr} {y : V} {fs : List (Str × V)} (h : EcDone H a C d fs H1) : EcDone H a C d ((f2, y) :: fs) (upd H1 d (exd d ((f2, y) :: fs))) :=
  ⟨h.1, h.2.1, (upd_ne h.2.1.symm).trans h.2.2.1, upd_same, fun b n1 n2 => (upd_ne n2).trans (h.2.2.2.2 b n1 n2)⟩
theorem ec_fn1 (F : Fun K x qual st f fd) (Sc : FnScope ["self", f1] ["self", f1] (defScope st))
    (hb : ∀ (cdv : Value) (A : Around) (outer : List Env) (s : Shared) (H : Hp) (E : XK), PSs (cxOf (L2.CX P w) P w K mg base ["self", f1] qual (defScope st) f cdv A outer s H E) (defBody st) (tSeq (tDrop (tEcI K bmB newId (tCons (tVar 0) (tCons (tC (.str m)) tNil)))) (tEcS K bmB newId f1 (tVar 0) (tVar 1)))) :
    FnG P w K mg base (k + 1) f fd ["self", f1] (spE K bmB newId [f1]) := by
  refine fng_of F Sc (fun vs H Q E h => spE_len h) fun cdv A outer s H vs Q E room gds h => ⟨_, hb cdv A outer s H E, ?_⟩
  obtain ⟨a, C, ws, rfl, hl, T, hno, ha, q⟩ := h
  match ws, hl with
  | [y], _ =>
    exact ⟨_, rfl, a, C, [.str m], rfl, by simp, T, ha, y, rfl, .ref a, rfl, a, C, rfl, T, hno f1 (by simp), .inl ⟨ha, fun d hd nd => q d _ (done1 ha hd nd)⟩⟩
theorem ec_fn2 (F : Fun K x qual st f fd) (Sc : FnScope ["self", f1, f2] ["self", f1, f2] (defScope st))
    (hb : ∀ (cdv : Value) (A : Around) (outer : List Env) (s : Shared) (H : Hp) (E : XK), PSs (cxOf (L2.CX P w) P w K mg base ["self", f1, f2] qual (defScope st) f cdv A outer s H E) (defBody st) (tSeq (tDrop (tEcI K bmB newId (tCons (tVar 0) (tCons (tC (.str m)) tNil)))) (tSeq (tEcS K bmB newId f1 (tVar 0) (tVar 1)) (tEcS K bmB newId f2 (tVar 0) (tVar 2))))) :
    FnG P w K mg base (k + 1) f fd ["self", f1, f2] (spE K bmB newId [f1, f2]) := by
  refine fng_of F Sc (fun vs H Q E h => spE_len h) fun cdv A outer s H vs Q E room gds h => ⟨_, hb cdv A outer s H E, ?_⟩
  obtain ⟨a, C, ws, rfl, hl, T, hno, ha, q⟩ := h
  match ws, hl with
  | [y, z], _ =>
    exact ⟨_, rfl, a, C, [.str m], rfl, by simp, T, ha, y, rfl, .ref a, rfl, a, C, rfl, T, hno f1 (by simp), .inl ⟨ha, fun d hd nd =>
      ⟨z, rfl, .ref a, rfl, a, C, rfl, T, hno f2 (by simp), .inr ⟨d, _, (done1 ha hd nd).2.2.1, (done1 ha hd nd).2.2.2.1, by simp, q d _ (done_more (done1 ha hd nd))⟩⟩⟩⟩
end
noncomputable def tMkE (C : Addr) (ns : List Str) (ta : TA) : L2.St → Hp → XK → Prop := fun σ H Q => ta σ H fun vs H1 => vs.length = ns.length ∧ vs.length ≤ 1000 ∧ ∀ d, H1 d = none → Q (.ref C) (some d) (upd H1 d (.xd ((ns.zip vs).reverse)))
theorem done_let {H1 H2 : Hp} {a C d : Addr} {fs : List (Str × V)} (n : H1 a = none) (h : EcDone (upd H1 a (exo a C none)) a C d fs H2) : H1 d = none ∧ upd (L2.del H2 a) d (.xd fs) = upd H1 d (.xd fs) := by
  obtain ⟨h1, h2, h3, h4, h5⟩ := h
  rw [upd_ne h2] at h1
  refine ⟨h1, funext fun b => ?_⟩
  by_cases c : b = d
  · rw [c, upd_same, upd_same]
  · rw [upd_ne c, upd_ne c]
    by_cases c2 : b = a
    · rw [c2, L2.del_same, n]
    · rw [L2.del_ne c2, h5 b c2 c, upd_ne c2]
section
variable {X : Cx} {G : VG} {k j : Nat} {C fI : Addr} {fd : FuncData} {ps ns : List Str} {nm : Str} {e : Expr} {es : List Expr} {ta : TA} {p pos : Pos} {newId initId B : String} {bmB : List Value}
theorem pmk_ec (x : VX X G k) (T : EcK X.K C bmB newId) (FB : ExcBaseFacts B newId initId bmB) (hno : ∀ f ∈ ns, PySem.W.findIn X.K (.ref C) f = some none) (iC : PySem.W.findIn X.K (.ref C) "__init__" = some (some (.ref fI))) (tI : PySem.W.typeIn X.K (.ref fI) = some (.type "function"))
    (F1 : FnG X.prog X.w X.K X.mg X.base j fI fd ps (spE X.K bmB newId ns)) (hj : j + 1 ≤ k) (hb : Binds X.K fd ps []) (hg : Gl X nm) (hm : X.mg nm = some (.ref C)) (ha : PA X (e :: es) ta)
    (hdb : (nm == ("__debug__" : Str)) = false := by decide) (he : starEach (e :: es) X.env = (false, eval e X.env) :: starEach es X.env := by rfl) (hpl : (backTo pos (starEach es X.env)).any (·.1) = false := by rfl) :
    PMk X (.Call (.Name nm p) (e :: es) [] pos) (tMkE C ns ta) := by
  intro pins s σ H Q I h
  refine wpAny_Call_Name_kw (ld_glob I hg hm ?_ hdb)
  refine PySem.W.callWith_K (h₀ := X.base) I.ok.mod.kin T.kep (thn (ha.run pos pins s σ H _ I h) fun us s1 ⟨vs, H1, I1, r1, hn, hz, q1⟩ => ⟨I1.kIn, ?_⟩) he hpl
  show wpAny _ _ (call (.ref C) us) _ _ _
  obtain ⟨n1, n2, n3, n4, bm, n6, n7, n8, n9, n10, n11, k0, k1, k2, k3, k5, hC, hbm⟩ := PySem.W.excInit_of I1.kIn T.ini
  obtain ⟨hh, gg, d0, t0, os0⟩ := s1
  have up : hh.objs.size ≤ hh.objs.size + 1 := Nat.le_succ _
  have un : H1 (hh.objs.size + 1) = none := I1.hok.fresh up
  have keep : ∀ b o, hh.get? b = some o → ((hh.push (PySem.W.kdv_tup us)).push (PySem.HandSPX.excO C hh.objs.size)).get? b = some o := fun b o e => Heap.get?_push_of_some _ (Heap.get?_push_of_some _ e)
  have made : ((hh.push (PySem.W.kdv_tup us)).push (PySem.HandSPX.excO C hh.objs.size)).get? (hh.objs.size + 1) = some (PySem.HandSPX.excO C hh.objs.size) := by heap_get
  have I2 : Inv X pins σ (upd H1 (hh.objs.size + 1) (exo (hh.objs.size + 1) C none)) ⟨(hh.push (PySem.W.kdv_tup us)).push (PySem.HandSPX.excO C hh.objs.size), gg, d0, t0, os0⟩ :=
    I1.laid (t' := t0) (a := hh.objs.size + 1) (o := exo (hh.objs.size + 1) C none) keep up (exo_ok made)
  have r2 : Vals (V.ref (hh.objs.size + 1) :: vs) (Value.ref (hh.objs.size + 1) :: us) := .cons rfl r1
  have sp : spE X.K bmB newId ns (V.ref (hh.objs.size + 1) :: vs) (upd H1 (hh.objs.size + 1) (exo (hh.objs.size + 1) C none)) (fun v H2 => v = .non ∧ ∃ d, EcDone (upd H1 (hh.objs.size + 1) (exo (hh.objs.size + 1) C none)) (hh.objs.size + 1) C d ((ns.zip vs).reverse) H2) (fun _ _ _ => False) :=
    ⟨_, C, vs, rfl, hn, T, hno, upd_same, fun d H' h => ⟨rfl, d, h⟩⟩
  have hlen : (Value.ref (hh.objs.size + 1) :: us ++ []).length = ps.length := by
    rw [List.append_nil, ← r2.length]
    exact F1.len _ _ _ _ sp
  have hus : us.length ≤ sizeLine := by
    rw [← Paired.length r1, sizeLine_eq]
    (first | lia | omega)
  have to := hb _ (Value.ref (hh.objs.size + 1) :: us) I2.kIn hlen
  rw [List.append_nil] at to
  refine wpAny_call (PySem.HandSPX.call_own FB hbm hC (PySem.W.looks_findIn I1.kIn iC) (fun self => PySem.W.bind_fn I1.kIn self tI) hus
    (codeAny_mono (F1.run _ X.stack _ _ ⟨Value.ref (hh.objs.size + 1) :: us, []⟩ (Value.ref (hh.objs.size + 1) :: us) _ _ (fun _ _ _ => False) ((x.room.mono hj).make C us []) x.gds (I2.env0.make C us []) to r2 sp) fun r s' back => ?_))
  cases r with
  | error er => exact absurd back (by
      intro z
      obtain ⟨_, _, _, _, _, _, _, _, _, _, _, _, f⟩ := z
      exact f)
  | ok fl =>
    cases fl with
    | ret u =>
      obtain ⟨v, H2, os2, bare2, un2, hok2, rv, ev, d, done⟩ := back
      subst ev
      obtain ⟨h2, g2, d2, t2, os'⟩ := s'
      obtain ⟨l1, l2⟩ := done_let un done
      exact ⟨rv, mk_end (raises_own T.sub T.typ) I1 up keep un2 hok2 os2 bare2 done.2.2.1 done.2.2.2.1 l1 (l2 ▸ q1 d l1)⟩
    | next => exact back.elim
    | brk => exact back.elim
    | cont => exact back.elim
end
end VL

namespace VL
open PyProof.Rows PySem L2 PySem.Spec
theorem zip_rev {α β : Type} : ∀ {l : List α} {m : List β}, l.length = m.length → (l.zip m).reverse = l.reverse.zip m.reverse
  | [], [], _ => rfl
  | x :: l, y :: m, h => by
    have h : l.length = m.length := by simpa using h
    rw [List.zip_cons_cons, List.reverse_cons, List.reverse_cons, List.reverse_cons, zip_rev h, List.zip_append (by simpa using h)]
    rfl
theorem ShL.rev {K : PySem.W.Frag} {H : Hp} {F : Fro} : ∀ {vs : List V} {ds : List D}, ShL K H F vs ds → ShL K H F vs.reverse ds.reverse
  | _, _, .nil => .nil
  | _, _, .cons h r => by
    rw [List.reverse_cons, List.reverse_cons]
    exact (ShL.rev r).app (.cons h .nil)
section
variable {X : Cx} {G : VG} {m : Md} {k : Nat} {e : Expr} {es : List Expr} {fa : Lo → R (List D)} {c : Str} {C : Addr} {ns : List Str} {pos : Pos}
end
end VL

namespace VL
open PyProof.Rows PySem L2 PySem.Spec
theorem exK_ok {P : Program} {w : World} {H : Hp} {h : Heap} {a : Addr} {cls : Value} {d : Option Addr} {o : Obj} (e : h.get? a = some o) (z : Zc cls d o) (f : ∃ vs, o.data = .fields vs) : ObjOk P w H h a (exK a cls d) :=
  ⟨⟨o, e, z, f⟩, ⟨o, e⟩, fun h1 h2 q k => by
    obtain ⟨o', e', z', f'⟩ := q
    exact ⟨o', k o' e', z', f'⟩⟩
section
variable {X : Cx} {pins : List (Addr × Obj)} {σ : L2.St} {H : Hp} {s : Shared}
theorem adopt {a : Addr} {cls : Value} {d : Option Addr} {o : Obj} (I : Inv X pins σ H s) (e : s.heap.get? a = some o) (z : Zc cls d o) (f : ∃ vs, o.data = .fields vs) (n : H a = none) (n0 : X.s_0.heap.get? a = none) (nL : a ≠ X.env.locals) (nc : ∀ v, o.data ≠ .cell v)
    (np : ∀ p ∈ X.pn ++ pins, p.1 ≠ a) : Inv X pins σ (upd H a (exK a cls d)) s := by
  refine ⟨I.ok, I.os, I.bare, ?_, I.loc, I.cell, ?_, fun x c hx => ?_, fun p hp => ?_, fun b u q => ?_, I.len⟩
  · have B := I.base
    have off : ∀ {b : Addr} {o : Obj}, X.s_0.heap.get? b = some o → b ≠ a := fun {b o} q c => by
      rw [c, n0] at q
      cases q
    have un : ∀ {b : Addr} {u : HO}, H b = some u → b ≠ a := fun {b u} q c => by
      rw [c, n] at q
      cases q
    exact ⟨B.keep, B.slot, fun b o q m x => (upd_ne (off q)).trans (B.free b o q m x), B.there, fun b xs q => (upd_ne (un (B.tups b xs q))).trans (B.tups b xs q), fun b o u q => (upd_ne (un (B.frzs b o u q))).trans (B.frzs b o u q), fun b ps q => by
      obtain ⟨more, e2⟩ := B.tbls b ps q
      exact ⟨more, (upd_ne (un e2)).trans e2⟩⟩
  · exact (upd_ne fun c => nL c.symm).trans I.free
  · obtain ⟨v, ic⟩ := I.cell x c hx
    refine (upd_ne fun k => ?_).trans (I.freeC x c hx)
    rw [k] at ic
    obtain ⟨oc, e2, e3⟩ := ic
    rw [e] at e2
    cases e2
    exact nc _ e3
  · obtain ⟨h1, h2, h3⟩ := I.pin p hp
    exact ⟨h1, (upd_ne (np p hp)).trans h2, h3⟩
  · by_cases c : b = a
    · subst c
      rw [upd_same] at q
      cases q
      exact exK_ok e z f
    · rw [upd_ne c] at q
      exact (I.hok b u q).stay (fun _ _ _ e => e) (fun b' q' => (upd_ne (ne_of_none q' n)).trans q') fun b' xs q' => (upd_ne (ne_of_none q' n)).trans q'
end
section
variable {X : Cx} {x n : Str} {c : Value} {i : Nat} {body rest : List Stmt} {s0 : Stmt} {np pos pos' : Pos} {tb : WX → TS} {ts : Addr → Value → Option Addr → TS} {Wout : WX}
end
end VL

namespace VL
open PyProof.Rows PySem L2 PySem.Spec
theorem le_newF {H : Hp} {F : Fro} {a : Addr} {u : HO} (t : The F H) (n : H a = none) : Le H F (upd H a u) (F.add a) :=
  ⟨fun b o e => (upd_ne (ne_of_none e n)).trans e, fun b h => .inl h, fun b h => by
    rcases h with h | rfl
    · exact .inl h
    · exact .inr n, fun b h => by
    rcases h with h | rfl
    · by_cases c : b = a
      · rw [c, upd_same]; simp
      · rw [upd_ne c]; exact t b h
    · rw [upd_same]; simp⟩
structure CatK (X : Cx) (cv : Value) (c : Str) (b : Bool) : Prop where
  ex : ∃ C, X.mg c = some (.ref C) ∧ PySem.W.nsIn X.K mainGlobals c = some (some (.ref C)) ∧ PySem.W.findIn X.K (.ref C) "__getattribute__" = some (some (.builtin "BaseException.__getattribute__")) ∧ PySem.W.exmOne X.K (.ref C) cv = some b
theorem look_mem {α : Type} : ∀ {l : List (Str × α)} {c : Str} {b : α}, l.lookup c = some b → (c, b) ∈ l
  | [], _, _, h => by cases h
  | (c', b') :: l, c, b, h => by
    rw [List.lookup_cons] at h
    by_cases e : c == c'
    · rw [e] at h
      cases h
      rw [eq_of_beq e]
      exact List.mem_cons_self
    · have e' : (c == c') = false := by simpa using e
      rw [e'] at h
      exact List.mem_cons_of_mem _ (look_mem h)
theorem sh_exc {K : PySem.W.Frag} {H : Hp} {F : Fro} {a C : Addr} {d : Option Addr} {c : Str} {fs : List (Str × D)} {vs : List V} (f : F a) (ha : H a = some (exK a (.ref C) d)) (ns : PySem.W.nsIn K mainGlobals c = some (some (.ref C))) (g : PySem.W.findIn K (.ref C) "__getattribute__" = some (some (.builtin "BaseException.__getattribute__")))
    (s : ShL K H F vs (fs.map (·.2))) (x : (fs = [] ∧ d = none) ∨ ∃ dx, d = some dx ∧ H dx = some (.xd ((fs.map (·.1)).zip vs))) : Sh K H F (.ref a) (.obj c fs) := by
  have l := s.length
  rw [List.length_map] at l
  have e1 : ((fs.map (·.1)).zip vs).map (·.1) = fs.map (·.1) := List.map_fst_zip (by simp [l])
  have e2 : ((fs.map (·.1)).zip vs).map (·.2) = vs := List.map_snd_zip (by simp [l])
  have e3 : (fs.map (·.1)).zip (fs.map (·.2)) = fs := by
    clear x s l e1 e2
    induction fs with
    | nil => rfl
    | cons p r ih => rw [List.map_cons, List.map_cons, List.zip_cons_cons, ih]
  have q := Sh.exc (K := K) (H := H) (F := F) (fs := (fs.map (·.1)).zip vs) (ds := fs.map (·.2)) f ha ns g (by
    rcases x with ⟨e, x⟩ | x
    · subst e
      exact .inl ⟨rfl, x⟩
    · exact .inr x) (by rw [e2]; exact s)
  rw [e1, e3] at q
  exact q
section
variable {X : Cx} {G : VG} {m : Md} {k : Nat} {hx n vx : Str} {cv : Value} {iv ie : Nat} {sts : List Stmt} {np pos pos' p1 p2 p3 : Pos} {body : Lo → Fl} {ct : List (Str × Bool)}
end
end VL

namespace VL
open PyProof.Rows PySem L2 PySem.Spec
noncomputable def rXa (K : PySem.W.Frag) (f : Str) : V → Hp → VK → Prop := fun x H Q => ∃ (a C dx : Addr) (fs : List (Str × V)) (v : V), x = V.ref a ∧ H a = some (exK a (.ref C) (some dx)) ∧ XfC K C ∧ PySem.W.findIn K (.ref C) f = some none ∧ H dx = some (.xd fs) ∧ fs.lookup f = some v ∧ Q v H
theorem exK_at {P : Program} {w : World} {H : Hp} {h : Heap} {a : Addr} {cls : Value} {d : Option Addr} (hok : HOk P w H h) (e : H a = some (exK a cls d)) : ∃ o, h.get? a = some o ∧ Zc cls d o ∧ ∃ vs, o.data = .fields vs := by
  have x : ObjOk P w H h a (exK a cls d) := hok a _ e
  exact x.1
theorem pe_xa {X : Cx} {e : Expr} {te : TE} {f : Str} {pos : Pos} (he : PE X e te) (hb : attributeBase e f X.env (eval e X.env) = eval e X.env := by rfl) : PE X (.Attribute e f pos) (fun σ H Q => te σ H fun x H1 => rXa X.K f x H1 Q) := by
  refine ⟨fun pins s σ H Q I h => ?_⟩
  refine attr_of hb (thn (he.run pins s σ H _ I h) fun u s1 ⟨x, H1, I1, rx, a, C, dx, fs, v, ex, ea, T, hno, ed, lk, q⟩ => ?_)
  subst ex
  obtain rfl : u = Value.ref a := rx
  obtain ⟨o, ho, z, vs, hv⟩ := exK_at I1.hok ea
  have hx : ObjOk X.prog X.w H1 s1.heap dx (.xd fs) := I1.hok dx _ ed
  obtain ⟨m0, ns, r⟩ := hx
  obtain ⟨od, hod, hl⟩ := lookIn_ns ns
  obtain ⟨w, hw, rw'⟩ := RelO.some_of (v := v) (o := m0 f) (by rw [← lk]; exact r f)
  have J : PySem.W.InstAt s1.heap a o C (some od) := ⟨ho, z.1, by unfold PySem.W.notCls; rw [hv] <;> rfl, by rw [z.2]; exact hod⟩
  exact HandSPX.exc_get I1.kIn J T.ga T.gg T.exC (PySem.W.findObj_own T.hdC hno rfl (by rw [hl, hw])) (handed_of rw') ⟨v, H1, I1.tok _, rw', q⟩
noncomputable def opXAtt (cs : List Str) (f : Str) : D → Option D
  | .obj c es => if cs.contains c = true then es.lookup f else none
  | _ => none
noncomputable def XaK (K : PySem.W.Frag) (f c : Str) : Prop := ∃ C, PySem.W.nsIn K mainGlobals c = some (some (.ref C)) ∧ XfC K C ∧ PySem.W.findIn K (.ref C) f = some none
section
variable {X : Cx} {G : VG} {k : Nat} {m1 : Md} {e : Expr} {fa : Lo → R D} {pos : Pos} {f : Str} {cs : List Str}
theorem o1_xatt (hcs : ∀ c ∈ cs, XaK G.K f c) : Op1 G .sh (fun x H Q => rXa G.K f x H Q) (opXAtt cs f) := by
  intro H F x a Q t ra h
  cases a with
  | obj c es =>
    have h : Ans G .sh H F (if cs.contains c = true then es.lookup f else none) Q := h
    by_cases hc : cs.contains c = true
    · rw [if_pos hc] at h
      obtain ⟨C, ns, T, hno⟩ := hcs c (List.contains_iff_mem.mp hc)
      have two : ∀ {C' : Addr}, NsP G.K c C' → False := fun {C'} q => by
        have y := q.1.symm.trans ns
        injection y with y
        injection y with y
        injection y with y
        exact q.2 (y ▸ T.ga)
      have sh : Sh G.K H F x (.obj c es) := by
        rcases ra with ⟨b, e, _, o⟩ | s
        · cases o with
          | obj _ q _ => exact (two q).elim
        · exact s
      cases sh with
      | obj _ _ q _ => exact (two q).elim
      | @exc b C' d c fs ds fb hb ns' ga xd s =>
        have y := ns'.symm.trans ns
        injection y with y
        injection y with y
        injection y with y
        subst y
        obtain ⟨v0, ev, an⟩ := h
        obtain ⟨v, lk, sv⟩ := zip_look s ev
        rcases xd with ⟨e1, _⟩ | ⟨dx, e1, hd⟩
        · subst e1
          cases lk
        · subst e1
          exact ⟨b, C', dx, fs, v, rfl, hb, T, hno, hd, lk, an v H F (Le.refl t) sv⟩
    · rw [if_neg hc] at h
      exact (ans_no h).elim
  | _ => exact (ans_no h).elim
end
end VL

namespace VL
open PyProof.Rows PySem L2 PySem.Spec PySem.W
section
variable {prog : Program} {w : World} {A : Around} {E : Value → Shared → Prop} {s : Shared} {K : Frag} {x D : Addr} {ox : Obj} {od : Option Obj}
theorem dataObj {C : Addr} {name : Str} {a g : Value} (hc : (clsIn K C).isSome = true) (ha : findIn K (.ref C) name = some (some a)) (hg : specialIn K a "__get__" = some (some g)) (ht : takesIn K a = some true) : findObj K C od name = some (.bind g a) := by
  obtain ⟨cd, hc⟩ := Option.isSome_iff_exists.mp hc
  unfold findObj
  rw [hc, Option.bind_some, ha, Option.bind_some]
  simp [hg, ht]
theorem classOf {Q : Option Value → Shared → Prop} (T : L2.ExcC K D) (X : K.In s.heap) (I : InstAt s.heap x ox D od) (h : Q (some (.ref D)) { s with toks := s.toks + 1 }) : wpAny (model prog w) A (getAttr? (.ref x) "__class__") Q E s := by
  have hf : findObj K D od "__class__" = some (.bind (.builtin "getset_descriptor.__get__") (.builtin "object.__class__")) := dataObj (by obtain ⟨cd, hc, _⟩ := any_some T.hd; rw [hc]; rfl) T.ha T.hn T.ht
  obtain ⟨hh, gg, dd, tt, os0⟩ := s
  have t0 := I.type (M := model prog w)
  have t1 := looks_findIn (M := model prog w) X T.hg
  have t2 := looks_findIn (M := model prog w) X T.hk
  have t3 := looks_find (M := model prog w) X I hf
  have isB : Looks (model prog w) hh (isInstance (.ref x) (.type "BaseException")) true := t0.andThen (looks_subIn X T.hs)
  have no0 : (false && onTheHeap (Value.builtin "BaseException.__getattribute__")) = false := rfl
  have no1 : (onTheHeap (Value.ref D) && Value.builtin "BaseException.__getattribute__" == Value.builtin "object.__getattribute__") = false := by
    rw [show (Value.builtin "BaseException.__getattribute__" == Value.builtin "object.__getattribute__") = false from by decide +kernel]
    rfl
  unfold getAttr? getAttrBy? getAttrBy
  refine wpAny_bind (wpAny_mkText (wpAny_bind (wpAny_attempt (wpAny_holding (wpAny_bind (t0.at (wpAny_bind (t1.at ?_))))))))
  show wpAny _ _ (if (onTheHeap (Value.ref D) && Value.builtin "BaseException.__getattribute__" == Value.builtin "object.__getattribute__") = true then _ else _) _ _ _
  rw [no1, if_neg Bool.false_ne_true]
  unfold getAttrByItsOwn hookBefore
  refine wpAny_bind ?_
  rw [if_pos (show onTheHeap (Value.ref D) = true from rfl)]
  refine t2.at ?_
  refine wpAny_bind (wpAny_attempt (wpAny_holding ?_))
  unfold callGetattribute
  rw [no0, if_neg Bool.false_ne_true]
  unfold boundAndCalled
  rw [PySem.F.excAttr_ValueError.ga.bind (.ref x)]
  refine wpAny_bind (wpAny_pure ?_)
  show wpAny _ _ (call (.builtin "BaseException.__getattribute__") [.ref x, .str "__class__" tt]) _ _ _
  refine wpAny_call (codeAny_call_builtin PySem.F.excAttr_ValueError.ga.plain PySem.F.entry_bexc_ga ?_)
  refine @check_slot (model prog w) _ _ ⟨hh, gg, dd, tt + 1, os0⟩ "BaseException.__getattribute__" "BaseException" "__getattribute__" (.ref x) [.str "__class__" tt] [] _ (by decide +kernel) (by decide +kernel) isB (PySem.F.args_bexc_ga (.ref x) (.str "__class__" tt)) ?_
  unfold Builtin.«object.__getattribute__»
  refine wpAny_bind (wpAny_of_eq (a := ((Value.ref x : Value), [Value.str "__class__" tt])) (by first | rfl | (simp only [slotArgs]; rfl)) ?_)
  refine wpAny_bind (wpAny_pure (wpAny_bind (t0.at (wpAny_bind (t3.at ?_)))))
  show wpAny _ _ (holding [Value.builtin "object.__class__"] (call (.builtin "getset_descriptor.__get__") [.builtin "object.__class__", .ref x, .ref D]) >>= ret) _ _ _
  refine wpAny_bind (wpAny_holding (wpAny_call (class_get (s := ⟨hh, gg, dd, tt + 1, os0⟩) (ox := ox) (od := od) X I T.hm ?_)))
  refine wpAny_pure ?_
  show wpAny _ _ (handedOut (.ref D)) _ _ _
  rw [handedOut_of (v := .ref D) rfl]
  first
    | exact wpAny_pure (wpAny_pure h)
    | exact wpAny_pure h
    | exact wpAny_pure (wpAny_bind (wpAny_pure (wpAny_pure h)))
theorem kitK (T : L2.ExcC K D) : KitX K (.ref x) (.ref D) (fun h => ∃ ox od, InstAt h x ox D od) where
  ty := fun _ _ _ ⟨_, _, I⟩ => I.type
  it := fun _ _ X _ => by
    obtain ⟨c0, e0, _⟩ := any_some T.hd
    unfold clsIn at e0
    split at e0
    · rename_i a1 a2 a3 a4 ho
      intro A' Q' E' s' k q
      unfold isType loadHead
      exact wpAny_bind (wpAny_loadPart (k _ _ (X _ _ ho)) (wpAny_pure q))
    · cases e0
  ne := fun h tp dd its n sl X htp => by
    obtain ⟨c0, e0, _⟩ := any_some T.hd
    refine Bool.eq_false_iff.mpr fun q => ?_
    have e : D = tp := Value.ref.inj (beq_iff_eq.mp q)
    subst e
    unfold clsIn at e0
    split at e0
    · rename_i a1 a2 a3 a4 ho
      have z := (X _ _ ho).symm.trans htp
      cases z
    · cases e0
  ca := fun X ⟨_, _, I⟩ k => classOf T X I k
end
end VL
namespace VL
open PyProof.Rows PySem L2 PySem.Spec
noncomputable def rIsK (K : PySem.W.Frag) : List V → Hp → VK → Prop := fun xs H Q => ∃ (a C : Addr) (d : Option Addr) (fs : List (Str × V)) (c : V) (cv : Value) (b : Bool), xs = [.ref a, c] ∧ H a = some (exK a (.ref C) d) ∧ XdAt H d fs ∧ ExcC K C ∧ (∀ u, RelV c u → u = cv) ∧ PySem.W.kitOne K (.ref C) cv = some b ∧ Q (.bl b) H
theorem call_isK {X : Cx} : CallR X (.builtin "isinstance") (rIsK X.K) := by
  intro pins s σ H xs us Q I r h
  obtain ⟨a, C, d, fs, c, cv, b, rfl, ha, xd, T, hcv, e, q⟩ := h
  cases r with
  | cons rx rr =>
    cases rr with
    | cons rt rr =>
      cases rr
      cases rx
      have ec := hcv _ rt
      subst ec
      obtain ⟨o, ho, z, vs, hv⟩ := exK_at I.hok ha
      have J : ∃ ox od, PySem.W.InstAt s.heap a ox C od := by
        rcases xd with ⟨_, e1⟩ | ⟨dx, e1, hd⟩
        · subst e1
          exact ⟨o, none, ho, z.1, by unfold PySem.W.notCls; rw [hv] <;> rfl, by rw [z.2]; trivial⟩
        · subst e1
          have hx : ObjOk X.prog X.w H s.heap dx (.xd fs) := I.hok dx _ hd
          obtain ⟨m0, ⟨oD, es, ep, eo, _⟩, _⟩ := hx
          exact ⟨o, some oD, ho, z.1, by unfold PySem.W.notCls; rw [hv] <;> rfl, by rw [z.2]; exact eo⟩
      exact PySem.W.kia_one (kitK T) I.kIn J e (fun z => nomatch z) fun tk => ⟨.bl b, H, I.kept (t' := tk) fun _ _ z => z, rfl, q⟩
noncomputable def opIsx (ct : List (Str × Bool)) : D → Option D
  | .obj c _ => (ct.lookup c).map .bl
  | _ => none
noncomputable def IsxK (K : PySem.W.Frag) (cv : Value) (c : Str) (b : Bool) : Prop := ∃ C, PySem.W.nsIn K mainGlobals c = some (some (.ref C)) ∧ ExcC K C ∧ PySem.W.kitOne K (.ref C) cv = some b
section
variable {X : Cx} {G : VG} {k : Nat} {m m1 : Md} {e : Expr} {fa : Lo → R D} {p q pos : Pos} {ct : List (Str × Bool)} {T : Str} {c2 : Addr}
theorem o1_isx {cv : V} {u : Value} (hcv : ∀ w, RelV cv w → w = u) (hct : ∀ p ∈ ct, IsxK G.K u p.1 p.2) : Op1 G m (fun x H Q => rIsK G.K [x, cv] H Q) (opIsx ct) := by
  intro H F x a Q t ra h
  cases a with
  | obj c es =>
    have h : Ans G m H F ((ct.lookup c).map .bl) Q := h
    cases ek : ct.lookup c with
    | none => rw [ek] at h; exact (ans_no h).elim
    | some b =>
      rw [ek] at h
      obtain ⟨C, ns, T, hit⟩ := hct (c, b) (look_mem ek)
      have two : ∀ {C' : Addr}, NsP G.K c C' → False := fun {C'} q => by
        have y := q.1.symm.trans ns
        injection y with y
        injection y with y
        injection y with y
        exact q.2 (y ▸ T.hg)
      have sh : Sh G.K H F x (.obj c es) := by
        rcases ra with ⟨b, e, _, o⟩ | s
        · cases o with
          | obj _ q _ => exact (two q).elim
        · exact s
      cases sh with
      | obj _ _ q _ => exact (two q).elim
      | @exc b' C' d c fs ds fb hb ns' ga xd s =>
        have y := ns'.symm.trans ns
        injection y with y
        injection y with y
        injection y with y
        subst y
        obtain ⟨z, ez, an⟩ := h
        have ez : some (D.bl b) = some z := by
          have w : (ct.lookup c).map D.bl = some z := ez
          rw [ek] at w
          exact w
        cases ez
        exact ⟨b', C', d, fs, cv, u, b, rfl, hb, xd, T, hcv, hit, an _ _ F (Le.refl t) (rp_bl _)⟩
  | _ => exact (ans_no h).elim
end
end VL

namespace VL
open PyProof.Rows PySem L2 PySem.Spec
section
variable {X : Cx} {G : VG} {m : Md} {k j : Nat} {c t : Str} {C : Addr} {newId initId B : String} {bmB : List Value} {p p2 pos pos' : Pos}
end
end VL
namespace VL
open PyProof.Rows PySem L2 PySem.Spec
inductive ClsL (X : Cx) : List Expr → List Addr → Prop
  | nil : ClsL X [] []
  | cons {T : Str} {p : Pos} {es : List Expr} {C : Addr} {Cs : List Addr} : Gl X T → X.mg T = some (.ref C) → (T == ("__debug__" : Str)) = false → starEach (.Name T p :: es) X.env = (false, eval (.Name T p) X.env) :: starEach es X.env → ClsL X es Cs → ClsL X (.Name T p :: es) (C :: Cs)
section
variable {X : Cx} {G : VG} {k j : Nat} {m m1 : Md} {e : Expr} {es : List Expr} {fa : Lo → R D} {p pos tpos : Pos} {ct : List (Str × Bool)} {Cs : List Addr}
end
end VL

namespace VL
open PyProof.Rows PySem L2 PySem.Spec
section
variable {X : Cx} {G : VG} {m : Md} {k : Nat} {x y : Str} {p1 p2 ap cp pos : Pos}
end
end VL

namespace VL
open PyProof.Rows PySem L2 PySem.Spec
section
variable {X : Cx} {G : VG} {m m1 m2 : Md} {a b : Expr} {fa fb : Lo → R D} {pos : Pos}
end
end VL

namespace VL
open PyProof.Rows PySem L2 PySem.Spec
inductive ClsM (X : Cx) : List Expr → List V → List Value → Prop
  | nil : ClsM X [] [] []
  | own {T : Str} {p : Pos} {es : List Expr} {C : Addr} {vs : List V} {us : List Value} : Gl X T → X.mg T = some (.ref C) → (T == ("__debug__" : Str)) = false → starEach (.Name T p :: es) X.env = (false, eval (.Name T p) X.env) :: starEach es X.env → ClsM X es vs us → ClsM X (.Name T p :: es) (.ref C :: vs) (.ref C :: us)
  | blt {T : Str} {p : Pos} {es : List Expr} {t : String} {vs : List V} {us : List Value} : Gl X T → X.mg T = none → bootBuiltins T = some (.type t) → T ≠ "__name__" → (T == ("__debug__" : Str)) = false → starEach (.Name T p :: es) X.env = (false, eval (.Name T p) X.env) :: starEach es X.env → ClsM X es vs us → ClsM X (.Name T p :: es) (.ty t :: vs) (.type t :: us)
section
variable {X : Cx} {G : VG} {k j : Nat} {m m1 : Md} {e : Expr} {es : List Expr} {fa : Lo → R D} {p q pos tpos : Pos} {ct : List (Str × Bool)} {vs : List V} {us : List Value} {T f : Str} {c2 : Addr} {t : String} {cs : List Str}
theorem ve_isK (x : VX0 X G k) (hm : X.mg "isinstance" = none) (hT : X.mg T = some (.ref c2)) (hct : ∀ p ∈ ct, IsxK X.K (.ref c2) p.1 p.2) (ha : VE X G m1 e fa) (hg : Gl X "isinstance" := by rfl) (hgT : Gl X T := by rfl) (hdT : (T == ("__debug__" : Str)) = false := by decide)
    (he : starEach [e, .Name T q] X.env = (false, eval e X.env) :: starEach [.Name T q] X.env := by rfl) (he2 : starEach [.Name T q] X.env = (false, eval (.Name T q) X.env) :: starEach [] X.env := by rfl) (hpl : (backTo pos (starEach [.Name T q] X.env)).any (·.1) = false := by rfl) :
    VE X G m (.Call (.Name "isinstance" p) [e, .Name T q] [] pos) (b1 fa (opIsx ct)) := by
  refine ⟨pe_imp (pe_callB call_isK hg hm (by decide +kernel) (pa_cons ha.pe (pa_cons (pe_glob (v := .ref c2) hgT hT rfl hdT) pa_nil he2) he) (by decide) (by decide) he hpl) fun σ H Q h => ?_⟩
  have q := t1_of (m1 := m1) (o1_isx (m := m) (cv := .ref c2) (u := .ref c2) (fun w r => r) (x.K ▸ hct)) h
  rw [x.K]
  exact q
theorem ve_isB (x : VX0 X G k) (hm : X.mg "isinstance" = none) (hT : X.mg T = none) (hb : bootBuiltins T = some (.type t)) (hn : T ≠ "__name__") (hct : ∀ p ∈ ct, IsxK X.K (.type t) p.1 p.2) (ha : VE X G m1 e fa) (hg : Gl X "isinstance" := by rfl) (hgT : Gl X T := by rfl) (hdT : (T == ("__debug__" : Str)) = false := by decide)
    (he : starEach [e, .Name T q] X.env = (false, eval e X.env) :: starEach [.Name T q] X.env := by rfl) (he2 : starEach [.Name T q] X.env = (false, eval (.Name T q) X.env) :: starEach [] X.env := by rfl) (hpl : (backTo pos (starEach [.Name T q] X.env)).any (·.1) = false := by rfl) :
    VE X G m (.Call (.Name "isinstance" p) [e, .Name T q] [] pos) (b1 fa (opIsx ct)) := by
  refine ⟨pe_imp (pe_callB call_isK hg hm (by decide +kernel) (pa_cons ha.pe (pa_cons (pe_bltn (v := .ty t) hgT hT hb rfl hn hdT) pa_nil he2) he) (by decide) (by decide) he hpl) fun σ H Q h => ?_⟩
  have q := t1_of (m1 := m1) (o1_isx (m := m) (cv := .ty t) (u := .type t) (fun w r => r) (x.K ▸ hct)) h
  rw [x.K]
  exact q
theorem ctN {Q : Str → Bool → Prop} : ∀ p ∈ ([] : List (Str × Bool)), Q p.1 p.2 := fun p h => nomatch h
theorem ctC {Q : Str → Bool → Prop} {c : Str} {b : Bool} {l : List (Str × Bool)} (h : Q c b) (r : ∀ p ∈ l, Q p.1 p.2) : ∀ p ∈ (c, b) :: l, Q p.1 p.2 := fun p hp => by
  rcases List.mem_cons.mp hp with rfl | hp
  · exact h
  · exact r p hp
theorem csN {Q : Str → Prop} : ∀ c ∈ ([] : List Str), Q c := fun p h => nomatch h
theorem csC {Q : Str → Prop} {c : Str} {l : List Str} (h : Q c) (r : ∀ c ∈ l, Q c) : ∀ d ∈ c :: l, Q d := fun p hp => by
  rcases List.mem_cons.mp hp with rfl | hp
  · exact h
  · exact r p hp
theorem ve_xat (x : VX0 X G k) (hcs : ∀ c ∈ cs, XaK X.K f c) (ha : VE X G m1 e fa) (hb : attributeBase e f X.env (eval e X.env) = eval e X.env := by rfl) : VE X G .sh (.Attribute e f pos) (b1 fa (opXAtt cs f)) := by
  refine ⟨pe_imp (pe_xa ha.pe hb) fun σ H Q h => ?_⟩
  have q := t1_of (m1 := m1) (o1_xatt (x.K ▸ hcs)) h
  rw [x.K]
  exact q
end
structure ExF (K : PySem.W.Frag) (c : Str) (C : Addr) : Prop where
  ns : PySem.W.nsIn K mainGlobals c = some (some (.ref C))
  cc : ExcC K C
  kep : PySem.W.keepIn K (.ref C) = true
  typ : PySem.W.typeIn K (.ref C) = some (.type "type")
  sat : PySem.W.findIn K (.ref C) "__setattr__" = some (some (.builtin "object.__setattr__"))
section
variable {K : PySem.W.Frag} {c f : Str} {C : Addr} {mg : Str → Option Value}
theorem ExF.xf (T : ExF K c C) : XfC K C := ⟨T.cc.hg, T.cc.hk, T.cc.hs, T.cc.hd⟩
theorem ExF.xa (T : ExF K c C) (h : PySem.W.findIn K (.ref C) f = some none) : XaK K f c := ⟨C, T.ns, T.xf, h⟩
theorem ExF.isK {u : Value} {b : Bool} (T : ExF K c C) (h : PySem.W.kitOne K (.ref C) u = some b) : IsxK K u c b := ⟨C, T.ns, T.cc, h⟩
theorem ExF.ec {bmB : List Value} {newId : String} (T : ExF K c C) (h1 : PySem.W.excInitIn K C bmB newId = true) (h2 : PySem.W.excOver K C bmB = true) : EcK K C bmB newId := ⟨h1, h2, T.cc.hd, T.sat, T.cc.hs, T.typ, T.kep⟩
end
end VL

namespace VL
open PyProof.Rows PySem L2 PySem.Spec
section
variable {X : Cx} {pins : List (Addr × Obj)} {σ : L2.St} {H : Hp} {s : Shared}
end
inductive HdsA (X : Cx) : List ExceptHandler → List (Value × Option Nat × TS) → Prop
  | nil : HdsA X [] []
  | as {x n : Str} {c : Value} {i : Nat} {ts : TS} {b0 : Stmt} {suite : List Stmt} {np pos' : Pos} {hds : List ExceptHandler} {l : List (Value × Option Nat × TS)} (hc : Names X x c) (hi : X.N[i]? = some n) (hln : X.env.kindOf n = some .local)
      (hsu : ∀ (a : Addr) (pn : List (Addr × Obj)), PSs (X.suite a pn) (b0 :: suite) ts) (r : HdsA X hds l) : HdsA X (.ExceptHandler (some (.Name x np)) (some n) (b0 :: suite) pos' :: hds) ((c, some i, ts) :: l)
  | only {x : Str} {c : Value} {ts : TS} {b0 : Stmt} {suite : List Stmt} {np pos' : Pos} {hds : List ExceptHandler} {l : List (Value × Option Nat × TS)} (hc : Names X x c)
      (hsu : ∀ (a : Addr) (pn : List (Addr × Obj)), PSs (X.suite a pn) (b0 :: suite) ts) (r : HdsA X hds l) : HdsA X (.ExceptHandler (some (.Name x np)) none (b0 :: suite) pos' :: hds) ((c, none, ts) :: l)
section
variable {X : Cx} {body : List Stmt} {h0 : ExceptHandler} {hds : List ExceptHandler} {l : List (Value × Option Nat × TS)} {pos : Pos} {tb : WX → TS} {Wout : WX}
end
structure Hd where
  ct : List (Str × Bool)
  ie : Option Nat
  su : Lo → Fl
noncomputable def clr (ie : Nat) : Fl → Fl
  | .nx ρ => .nx (ρ.set ie .no)
  | .bk ρ => .bk (ρ.set ie .no)
  | .ct ρ => .ct (ρ.set ie .no)
  | .rt d => .rt d
  | _ => .bad
noncomputable def noEx : Fl → Fl
  | .ex _ _ _ => .bad
  | r => r
noncomputable def hF (c : Str) (fs : List (Str × D)) (ρ : Lo) : List Hd → Fl
  | [] => .ex c fs ρ
  | ⟨ct, some ie, su⟩ :: r => match ct.lookup c with
    | some true => if decide (ie < ρ.length) = true then clr ie (su (ρ.set ie (.sh (.obj c fs)))) else .bad
    | some false => hF c fs ρ r
    | none => .bad
  | ⟨ct, none, su⟩ :: r => match ct.lookup c with
    | some true => noEx (su ρ)
    | some false => hF c fs ρ r
    | none => .bad
inductive HdsV (X : Cx) (G : VG) (m : Md) (k : Nat) : List ExceptHandler → List Hd → List (Value × Option Nat × TS) → Prop
  | nil : HdsV X G m k [] [] []
  | as {x n : Str} {cv : Value} {ie : Nat} {ct : List (Str × Bool)} {su : Lo → Fl} {b0 : Stmt} {suite : List Stmt} {np pos' : Pos} {hds : List ExceptHandler} {hs : List Hd} {l : List (Value × Option Nat × TS)} (hct : ∀ p ∈ ct, CatK X cv p.1 p.2) (hc : Names X x cv) (hi : X.N[ie]? = some n) (hln : X.env.kindOf n = some .local)
      (hsu : ∀ (a : Addr) (pn : List (Addr × Obj)), VX0 (X.suite a pn) G.nox k → VB (X.suite a pn) G.nox m (b0 :: suite) su) (r : HdsV X G m k hds hs l) : HdsV X G m k (.ExceptHandler (some (.Name x np)) (some n) (b0 :: suite) pos' :: hds) (⟨ct, some ie, su⟩ :: hs) ((cv, some ie, tS G.nox m su) :: l)
  | only {x : Str} {cv : Value} {ct : List (Str × Bool)} {su : Lo → Fl} {b0 : Stmt} {suite : List Stmt} {np pos' : Pos} {hds : List ExceptHandler} {hs : List Hd} {l : List (Value × Option Nat × TS)} (hct : ∀ p ∈ ct, CatK X cv p.1 p.2) (hc : Names X x cv)
      (hsu : ∀ (a : Addr) (pn : List (Addr × Obj)), VX0 (X.suite a pn) G.nox k → VB (X.suite a pn) G.nox m (b0 :: suite) su) (r : HdsV X G m k hds hs l) : HdsV X G m k (.ExceptHandler (some (.Name x np)) none (b0 :: suite) pos' :: hds) (⟨ct, none, su⟩ :: hs) ((cv, none, tS G.nox m su) :: l)
section
variable {X : Cx} {G : VG} {m : Md} {k : Nat} {sts : List Stmt} {pos : Pos} {body : Lo → Fl} {h0 : ExceptHandler} {hds : List ExceptHandler} {hs : List Hd} {l : List (Value × Option Nat × TS)}
theorem VX.suite (x : VX X G k) (a : Addr) (pn : List (Addr × Obj)) : VX0 (X.suite a pn) G.nox k := ⟨x.K, x.mg, x.room.un, x.gds, x.sysm, x.nd⟩
theorem HdsV.base (x : VX X G k) (h : HdsV X G m k hds hs l) : HdsA X hds l := by
  induction h with
  | nil => exact .nil
  | as hct hc hi hln hsu r ih => exact .as hc hi hln (fun a pn => (hsu a pn (x.suite a pn)).pss) ih
  | only hct hc hsu r ih => exact .only hc (fun a pn => (hsu a pn (x.suite a pn)).pss) ih
end
end VL

namespace PySem.SeqAt
open AutoSeq1 (wpAny_loadPart')
open MeetsSeq MeetsSeq2 MeetsSeq3 SeqRoads2
section
variable {prog : Program} {w : World} {A : Around} {s : Shared} {E : Value → Shared → Prop}
end
section
variable {A : Around} {s : Shared} {a : Addr} {oa : Obj} {es : Array DictEntry} {n : Nat}
end
end PySem.SeqAt
namespace VL
open PyProof.Rows PySem L2 PySem.Spec
section
variable {X : Cx} {G : VG} {k : Nat} {m m1 m2 : Md} {a b : Expr} {fa fb : Lo → R D} {pos : Pos}
end
end VL

namespace VL
open PyProof.Rows PySem L2 PySem.Spec
section
variable {X : Cx} {G : VG} {k : Nat} {m m1 m2 m3 : Md} {a b c : Expr} {fa fb fc : Lo → R D} {pos : Pos}
end
section
variable {X : Cx} {G : VG} {k : Nat} {m m1 m2 : Md} {a b : Expr} {fa fb : Lo → R D} {pos : Pos}
end
end VL

namespace L2
open PyProof.Rows PySem L2 PySem.Spec
open AutoSeq1 (wpAny_loadPart')
end L2
namespace VL
open PyProof.Rows PySem L2 PySem.Spec
section
variable {X : Cx} {G : VG} {m m1 m2 : Md} {a b : Expr} {fa fb : Lo → R D} {pos : Pos} {k : Nat}
end
end VL

namespace VL
open PyProof.Rows PySem L2 PySem.Spec
noncomputable def Tr.at : Tr → List Nat → Option Tr
  | t, [] => some t
  | .nd _ ts, n :: π => match ts[n]? with
    | some t => t.at π
    | none => none
  | .sh _, _ :: _ => none
noncomputable def Tr.put : Tr → List Nat → Tr → Tr
  | _, [], u => u
  | .nd k ts, n :: π, u => match ts[n]? with
    | some t => .nd k (ts.set n (t.put π u))
    | none => .nd k ts
  | .sh d, _ :: _, _ => .sh d
noncomputable def AtP (K : PySem.W.Frag) (H : Hp) : V → Tr → List Nat → V → Prop
  | v, _, [], w => v = w
  | v, .nd k ts, n :: π, w => ∃ a vs v1 t1, v = .ref a ∧ KdH K H a vs k ∧ vs.length = ts.length ∧ vs[n]? = some v1 ∧ ts[n]? = some t1 ∧ AtP K H v1 t1 π w
  | _, .sh _, _ :: _, _ => False
section
variable {K : PySem.W.Frag} {H0 H H' : Hp} {F F' : Fro} {ω ω' : Om}
theorem pre_same {p q : List Nat} {i j : Nat} (h1 : p ++ [i] <+: q) (h2 : p ++ [j] <+: q) : i = j := by
  have e := (List.prefix_of_prefix_length_le h1 h2 (by simp)).eq_of_length (by simp)
  simpa using e
mutual
theorem Dw.monoP (k : Kp F H H') (s : ∀ a, F a → F' a) {P : List Nat → Prop} (hn : ∀ a q, ω a = some q → P q → H0 a = none → ¬ F a → H a ≠ none → H' a = H a ∧ ¬ F' a ∧ ω' a = ω a) : ∀ {p : List Nat} {v : V} {t : Tr}, (∀ q, p <+: q → P q) → Dw K H0 H F ω p v t → Dw K H0 H' F' ω' p v t
  | _, _, _, _, .sh h => .sh (h.mono k s)
  | p, _, _, hp, .nd (a := a) e n nf h r => by
    obtain ⟨z1, z2, z3⟩ := hn a p e (hp p (List.prefix_refl _)) n nf h.there
    exact .nd (z3.trans e) n z2 (KdH.eq k h z1) (DwL.monoP k s hn (fun j q _ hq => hp q ((List.prefix_append p [j]).trans hq)) r)
theorem DwL.monoP (k : Kp F H H') (s : ∀ a, F a → F' a) {P : List Nat → Prop} (hn : ∀ a q, ω a = some q → P q → H0 a = none → ¬ F a → H a ≠ none → H' a = H a ∧ ¬ F' a ∧ ω' a = ω a) : ∀ {p : List Nat} {n : Nat} {vs : List V} {ts : List Tr}, (∀ j q, n ≤ j → p ++ [j] <+: q → P q) → DwL K H0 H F ω p n vs ts → DwL K H0 H' F' ω' p n vs ts
  | _, _, _, _, _, .nil => .nil
  | p, n, _, _, hp, .cons h r => .cons (Dw.monoP k s hn (fun q hq => hp n q (Nat.le_refl _) hq) h) (DwL.monoP k s hn (fun j q hj hq => hp j q (by (first | lia | omega)) hq) r)
end
theorem DwL.length : ∀ {p : List Nat} {n : Nat} {vs : List V} {ts : List Tr}, DwL K H0 H F ω p n vs ts → vs.length = ts.length
  | _, _, _, _, .nil => rfl
  | _, _, _, _, .cons _ r => congrArg (· + 1) r.length
theorem DwL.kid : ∀ {p : List Nat} {m : Nat} {vs : List V} {ts : List Tr}, DwL K H0 H F ω p m vs ts → ∀ {n : Nat} {t : Tr}, ts[n]? = some t → ∃ v, vs[n]? = some v ∧ Dw K H0 H F ω (p ++ [m + n]) v t
  | _, _, _, _, .nil, _, _, e => by simp at e
  | _, _, _, _, .cons h r, 0, t, e => ⟨_, rfl, by simp at e; subst e; exact h⟩
  | p, m, _, _, .cons h r, n + 1, t, e => by
    obtain ⟨v, q, z⟩ := DwL.kid r (n := n) (t := t) (by simpa using e)
    exact ⟨v, by simpa using q, by rw [show m + (n + 1) = m + 1 + n by (first | lia | omega)]; exact z⟩
theorem DwL.put (kp : Kp F H H') : ∀ {p : List Nat} {m : Nat} {vs : List V} {ts : List Tr}, DwL K H0 H F ω p m vs ts → ∀ {n : Nat} {v : V} {u : Tr}, vs[n]? = some v → Dw K H0 H' F ω' (p ++ [m + n]) v u → (∀ b q, ω b = some q → ¬ p ++ [m + n] <+: q → H0 b = none → ¬ F b → H b ≠ none → H' b = H b ∧ ω' b = ω b) → DwL K H0 H' F ω' p m vs (ts.set n u)
  | _, _, _, _, .nil, _, _, _, e, _, _ => by simp at e
  | p, m, _, _, .cons h r, 0, v, u, e, w, hn => by
    simp at e
    subst e
    refine .cons w (r.monoP (P := fun q => ¬ p ++ [m + 0] <+: q) kp (fun _ z => z) (fun a q e1 e2 e3 e4 e5 => ?_) fun j q hj hq z => ?_)
    · obtain ⟨z1, z2⟩ := hn a q e1 e2 e3 e4 e5
      exact ⟨z1, e4, z2⟩
    · have := pre_same hq z
      (first | lia | omega)
  | p, m, _, _, .cons h r, n + 1, v, u, e, w, hn => by
    refine .cons (h.monoP (P := fun q => ¬ p ++ [m + (n + 1)] <+: q) kp (fun _ z => z) (fun a q e1 e2 e3 e4 e5 => ?_) fun q hq z => ?_) (DwL.put kp r (n := n) (v := v) (by simpa using e) (by rw [show m + 1 + n = m + (n + 1) by (first | lia | omega)]; exact w) (by rw [show m + 1 + n = m + (n + 1) by (first | lia | omega)]; exact hn))
    · obtain ⟨z1, z2⟩ := hn a q e1 e2 e3 e4 e5
      exact ⟨z1, e4, z2⟩
    · have := pre_same hq z
      (first | lia | omega)
theorem Dw.put : ∀ (π : List Nat) {p : List Nat} {v : V} {t : Tr} {k : Kd} {ts : List Tr}, Dw K H0 H F ω p v t → t.at π = some (.nd k ts) → ∃ a vs, AtP K H v t π (.ref a) ∧ ω a = some (p ++ π) ∧ H0 a = none ∧ ¬ F a ∧ KdH K H a vs k ∧ DwL K H0 H F ω (p ++ π) 0 vs ts ∧
    ∀ (H' : Hp) (ω' : Om) (u : Tr), Kp F H H' → (∀ b q, ω b = some q → q ≠ p ++ π → H0 b = none → ¬ F b → H b ≠ none → H' b = H b ∧ ω' b = ω b) → Dw K H0 H' F ω' (p ++ π) (.ref a) u → Dw K H0 H' F ω' p v (t.put π u)
  | [], p, v, t, k, ts, h, e => by
    unfold Tr.at at e
    cases e
    cases h with
    | @nd _ a _ vs _ e1 n nf hk r =>
      rw [List.append_nil]
      exact ⟨a, vs, rfl, e1, n, nf, hk, r, fun H' ω' u _ _ w => by unfold Tr.put; exact w⟩
  | n :: π, p, v, .sh d, k, ts, h, e => by cases e
  | n :: π, p, v, .nd k0 ts0, k, ts, h, e => by
    unfold Tr.at at e
    cases h with
    | @nd _ a0 _ vs0 _ e1 n0 nf hk r =>
      cases et : ts0[n]? with
      | none => rw [et] at e; cases e
      | some t1 =>
        rw [et] at e
        obtain ⟨v1, ev, w1⟩ := r.kid et
        rw [Nat.zero_add] at w1
        obtain ⟨a, vs, g1, g2, g3, g4, g5, g6, g7⟩ := Dw.put π w1 e
        have ep : p ++ [n] ++ π = p ++ n :: π := by rw [List.append_assoc]; rfl
        rw [ep] at g2 g6 g7
        refine ⟨a, vs, ⟨a0, vs0, v1, t1, rfl, hk, r.length, ev, et, g1⟩, g2, g3, g4, g5, g6, fun H' ω' u kp hn w => ?_⟩
        have w2 := g7 H' ω' u kp hn w
        unfold Tr.put
        rw [et]
        obtain ⟨z1, z2⟩ := hn a0 p e1 (fun z => by
          have := congrArg List.length z
          simp at this) n0 nf hk.there
        refine .nd (z2.trans e1) n0 nf (KdH.eq kp hk z1) (r.put kp ev (by rw [Nat.zero_add]; exact w2) fun b q e3 e4 => hn b q e3 fun z => e4 ?_)
        rw [z, Nat.zero_add, ← ep]
        exact List.prefix_append _ _
end
section
variable {G : VG} {σ : L2.St} {H H' H1 : Hp} {ρ : Lo} {F F' F1 : Fro} {ω : Om}
noncomputable def toTr : D → Option Tr
  | .lst ds => some (.nd .lst (ds.map .sh))
  | .tdc es => some (.nd (.tdc (es.map (·.1))) ((es.map (·.2)).map .sh))
  | .obj c fs => some (.nd (.obj c (fs.map (·.1))) ((fs.map (·.2)).map .sh))
  | _ => none
theorem fst_zip {α β : Type} : ∀ {l : List α} {m : List β}, l.length = m.length → (l.zip m).map (·.1) = l
  | [], [], _ => rfl
  | a :: l, b :: m, h => by rw [List.zip_cons_cons, List.map_cons, fst_zip (by simpa using h)]
theorem snd_zip {α β : Type} : ∀ {l : List α} {m : List β}, l.length = m.length → (l.zip m).map (·.2) = m
  | [], [], _ => rfl
  | a :: l, b :: m, h => by rw [List.zip_cons_cons, List.map_cons, snd_zip (by simpa using h)]
mutual
noncomputable def Tr.toD : Tr → Option D
  | .sh d => some d
  | .nd k ts => match Tr.toDL ts with
    | some ds => match k with
      | .lst => some (.lst ds)
      | .tup => some (.tup ds)
      | .obj c fs => some (.obj c (fs.zip ds))
      | _ => none
    | none => none
noncomputable def Tr.toDL : List Tr → Option (List D)
  | [] => some []
  | t :: ts => match t.toD, Tr.toDL ts with
    | some d, some ds => some (d :: ds)
    | _, _ => none
end
mutual
theorem Dw.frz {K : PySem.W.Frag} {H0 : Hp} {p0 : List Nat} (s : ∀ a, F a → F' a) (hn : ∀ b q, ω b = some q → p0 <+: q → H0 b = none → H b ≠ none → F' b) : ∀ {p : List Nat} {v : V} {t : Tr} {d : D}, p0 <+: p → Dw K H0 H F ω p v t → t.toD = some d → Sh K H F' v d
  | _, _, _, _, _, .sh h, e => by
    simp only [Tr.toD] at e
    cases e
    exact h.mono (fun _ _ z _ => z) s
  | p, _, _, d, hp, .nd (a := a) (k := k) (vs := vs) (ts := ts) e1 n nf h r, e => by
    have fa := hn a p e1 hp n h.there
    simp only [Tr.toD] at e
    cases ed : Tr.toDL ts with
    | none => rw [ed] at e; cases e
    | some ds =>
      have q := DwL.frz s hn hp r ed
      rw [ed] at e
      cases k with
      | lst => cases e; exact .lst (.inl ⟨fa, h⟩) q
      | tup => cases e; exact .tup h q
      | nkd ks => cases e
      | tdc ks => cases e
      | obj c fs =>
        cases e
        obtain ⟨hl, C, dx, h, nc⟩ := h
        have := Sh.obj (K := K) (F := F') (ds := ds) fa h nc (by rw [snd_zip hl]; exact q)
        rw [fst_zip hl] at this
        exact this
      | dic ks => cases e
theorem DwL.frz {K : PySem.W.Frag} {H0 : Hp} {p0 : List Nat} (s : ∀ a, F a → F' a) (hn : ∀ b q, ω b = some q → p0 <+: q → H0 b = none → H b ≠ none → F' b) : ∀ {p : List Nat} {n : Nat} {vs : List V} {ts : List Tr} {ds : List D}, p0 <+: p → DwL K H0 H F ω p n vs ts → Tr.toDL ts = some ds → ShL K H F' vs ds
  | _, _, _, _, _, _, .nil, e => by
    simp only [Tr.toDL] at e
    cases e
    exact .nil
  | p, n, _, _, ds, hp, .cons (t := t) (ts := ts) h r, e => by
    simp only [Tr.toDL] at e
    cases e1 : t.toD with
    | none => rw [e1] at e; cases e
    | some d =>
      cases e2 : Tr.toDL ts with
      | none => rw [e1, e2] at e; cases e
      | some ds2 =>
        rw [e1, e2] at e
        cases e
        exact .cons (Dw.frz s hn (hp.trans (List.prefix_append p [n])) h e1) (DwL.frz s hn hp r e2)
end
noncomputable def Tr.toR : Tr → Option D
  | .nd (.tdc ks) ts => (Tr.toDL ts).map fun ds => .tdc (ks.zip ds)
  | .nd (.dic ks) ts => (Tr.toDL ts).map fun ds => .dic ((ks.map kD).zip ds)
  | _ => none
theorem map_fst_zip {α β γ : Type} (f : α → γ) : ∀ {l : List α} {m : List β}, l.length = m.length → (l.zip m).map (fun p => f p.1) = l.map f
  | [], [], _ => rfl
  | a :: l, b :: m, h => by rw [List.zip_cons_cons, List.map_cons, List.map_cons, map_fst_zip f (by simpa using h)]
end
end VL

namespace VL
open PyProof.Rows PySem L2 PySem.Spec
section
end
section
variable {X : Cx} {G : VG} {k : Nat} {m m1 m2 : Md} {e ie : Expr} {f fi fe : Lo → R D} {pos pos' p1 p2 : Pos} {st : Stmt} {sts : List Stmt} {g : Lo → Fl}
end
end VL

namespace L2
open PyProof.Rows PySem L2 PySem.Spec
section
variable {X : Cx}
end
end L2
namespace VL
open PyProof.Rows PySem L2 PySem.Spec
section
variable {X : Cx} {G : VG} {k : Nat} {m m1 : Md} {tg a : Expr} {fa : Lo → R D} {pos p : Pos}
variable {ie : Expr} {fi : Lo → R D} {m2 : Md}
end
end VL

namespace L2
open PyProof.Rows PySem L2 PySem.Spec
noncomputable def NmOf (h : Heap) (v : Value) (z : Str) : Prop := ∃ (a : Addr) (o : Obj) (xs : Array Value) (n : Nat) (t : Tok) (rest : List Value), v = .ref a ∧ h.get? a = some o ∧ o.cls = .type "tuple" ∧ o.data = .seq xs n ∧ xs.toList = .str z t :: rest
theorem NmOf.keeps {h h' : Heap} {v : Value} {z : Str} (x : NmOf h v z) (k : ∀ b o, h.get? b = some o → o.cls = .type "tuple" → h'.get? b = some o) : NmOf h' v z := by
  obtain ⟨a, o, xs, n, t, r, e, h1, h2, h3, h4⟩ := x
  exact ⟨a, o, xs, n, t, r, e, k a o h1 h2, h2, h3, h4⟩
section
variable {prog : Program} {w : World} {A : Around} {E : Value → Shared → Prop} {s : Shared}
end
section
end
section
variable {X : Cx} {pins : List (Addr × Obj)} {σ : St} {H : Hp} {s : Shared}
end
end L2
namespace VL
open PyProof.Rows PySem L2 PySem.Spec
section
variable {X : Cx} {G : VG} {k : Nat} {m1 : Md} {a : Expr} {fa : Lo → R D} {pos p : Pos}
end
end VL

namespace VL
open PyProof.Rows PySem L2 PySem.Spec
section
variable {X : Cx} {G : VG} {m m1 m2 : Md} {a b : Expr} {fa fb : Lo → R D} {pos : Pos} {k : Nat}
end
end VL

namespace VL
open PyProof.Rows PySem L2 PySem.Spec
section
variable {prog : Program} {w : World} {A : Around} {R : PySem.Result → Shared → Prop} {I : Addr} {fp wr : List Addr} {n : Nat} {P : Nat → Value → Prop} {St : Nat → Heap → Prop}
end
end VL

namespace VL
open PyProof.Rows PySem L2 PySem.Spec
section
variable {prog : Program} {w : World} {A : Around} {E : Value → Shared → Prop} {s : Shared}
end
end VL

namespace VL
open PyProof.Rows PySem L2 PySem.Spec
section
variable {X : Cx} {G : VG} {k : Nat} {m m1 : Md} {e : Expr} {f : Lo → R D} {pos pos' ap cp : Pos}
end
end VL

namespace L2
open PyProof.Rows PySem L2 PySem.Spec
end L2
namespace VL
open PyProof.Rows PySem L2 PySem.Spec
section
variable {X : Cx} {G : VG} {k : Nat} {m : Md} {tg iter kx vx : Expr} {ifs : List Expr} {scope : Scope} {own : List (Str × Nat)} {pos : Pos} {it : Lo → R (List D)} {asg : D → Lo → R Lo} {ws : List Nat} {tst : Lo → R Bool} {fk fv : Lo → R D}
end
end VL

namespace VL
open PyProof.Rows PySem L2 PySem.Spec
structure FnH (g : List Code) (P : Program) (w : World) (K : PySem.W.Frag) (mg : Str → Option Value) (base : Heap) (k : Nat) (f : Addr) (fd : FuncData) (ps : List Str) (sp : Sp) : Prop where
  len : ∀ vs H Q E, sp vs H Q E → vs.length = ps.length
  run : ∀ (A : Around) (outer : List Env) (s : Shared) (H : Hp) (args : Args) (us : List Value) (vs : List V) (Q : VK) (E : XK), Room k A → A.guards = some g → Env0 P w K mg base A outer s H → BindsTo s fd args (ps.zip us) → Vals vs us → sp vs H Q E →
    codeAny (model P w) A (.call (.ref f) args) (CR (L2.CX P w) outer P w H s Q E) s
noncomputable def GOk (g : List Code) (K : PySem.W.Frag) (H : Hp) (F : Fro) : Prop :=
  g = [] ∨ ∃ (id : String) (a : Addr) (rest : List Value) (c : Str) (fs : List (Str × D)) (ds : List D), g = [.builtin id ⟨.ref a :: rest, []⟩] ∧ NotX K c ∧ RB K H F (.ref a) (.lst (.obj c fs :: ds))
section
variable {X : Cx} {G : VG} {k : Nat} {pins : List (Addr × Obj)} {σ : L2.St} {s : Shared} {H H' : Hp} {F F' : Fro} {g : List Code}
end
end VL

namespace VL
open PyProof.Rows PySem L2 PySem.Spec
section
variable {prog : Program} {w : World} {h₀ : Heap} {a : Addr} {d : PyData} {as : List Addr} {A : Around} {E : Value → Shared → Prop} {s : Shared} {Q : Value → Shared → Prop} {g : List Code}
end
structure RX (X : Cx) (G : VG) (g : List Code) : Prop where
  K : X.K = G.K
  mg : X.mg = G.mg
  un : X.A.units + 200 < cLine
  gds : X.A.guards = some g
  sysm : ∃ o es ep, X.base.get? sysModules = some o ∧ o.data = .dict es ep
  nd : X.N.Nodup
  ok : GOk g G.K G.H0 G.F0
section
variable {X : Cx} {G : VG} {k : Nat} {pins : List (Addr × Obj)} {σ : L2.St} {s : Shared} {H H' : Hp} {F F' : Fro} {g : List Code}
end
end VL

namespace VL
open PyProof.Rows PySem L2 PySem.Spec
theorem GOk.le {g : List Code} {K : PySem.W.Frag} {H H' : Hp} {F F' : Fro} (h : GOk g K H F) (l : Le H F H' F') : GOk g K H' F' := by
  rcases h with e | ⟨id, a, rest, c, fs, ds, e, nx, hb⟩
  · exact .inl e
  · exact .inr ⟨id, a, rest, c, fs, ds, e, nx, hb.le l⟩
section
variable {X : Cx} {G : VG} {k : Nat} {g : List Code} {m m1 : Md} {e : Expr} {fa : Lo → R D} {c f : Str} {C : Addr} {pos : Pos}
end
end VL

namespace VL
open PyProof.Rows PySem L2 PySem.Spec
inductive VJ (X : Cx) (G : VG) : List Expr → List (Lo → R D) → Prop where
  | nil : VJ X G [] []
  | cons {e : Expr} {f : Lo → R D} {es : List Expr} {fs : List (Lo → R D)} (h : VE X G .sh e f) (r : VJ X G es fs) : VJ X G (e :: es) (f :: fs)
section
variable {X : Cx} {G : VG} {m : Md}
end
end VL

namespace VL
open PyProof.Rows PySem L2 PySem.Spec
section
variable {prog : Program} {w : World} {A : Around} {E : Value → Shared → Prop} {s : Shared} {K : PySem.W.Frag} {x C f : Addr} {ox : Obj} {od : Option Obj}
open PyProof.Rows PySem L2 PySem.Spec PySem.W
open PyProof.Rows PySem L2 PySem.Spec PySem.W
open PyProof.Rows PySem L2 PySem.Spec PySem.W
end
section
variable {X : Cx} {G : VG} {k j : Nat} {g : List Code} {pins : List (Addr × Obj)} {σ : L2.St} {s : Shared} {H : Hp} {F : Fro} {f C : Addr} {fd : FuncData} {c pn : Str} {gg : List D → R D}
end
end VL

namespace VL
open PyProof.Rows PySem L2 PySem.Spec
section
variable {X : Cx} {G : VG} {k j : Nat} {pins : List (Addr × Obj)} {σ : L2.St} {H : Hp} {F : Fro} {f C : Addr} {fd : FuncData} {c pn : Str} {gg : List D → R D}
end
end VL

namespace VL
open PyProof.Rows PySem L2 PySem.Spec
section
variable {X : Cx} {G : VG} {k j : Nat} {f C : Addr} {fd : FuncData} {c pn : Str} {gg : List D → R D} {m m1 : Md} {a : Expr} {fa : Lo → R D} {p pos : Pos}
end
end VL

namespace L2
open PyProof.Rows PySem L2 PySem.Spec
section
variable {X : Cx} {pins : List (Addr × Obj)} {σ : St} {H : Hp} {s : Shared} {d : Addr} {o : Obj}
end
section
variable {P : Program} {w : World} {K : PySem.W.Frag} {tg : Expr} {d : Addr} {o : Obj} {es : Array DictEntry} {ep : Nat}
end
end L2
namespace VL
open PyProof.Rows PySem L2 PySem.Spec
section
variable {X : Cx} {G : VG} {k : Nat} {m m1 : Md} {a : Expr} {fa : Lo → R D} {apos cpos p tpos : Pos} {elts : List Expr} {kk : Nat}
end
end VL

namespace VL
open PyProof.Rows PySem L2 PySem.Spec
section
variable {X : Cx}
end
section
variable {X : Cx} {G : VG} {k : Nat} {m : Md} {kx vx tg iter : Expr} {ifs : List Expr} {scope : Scope} {own : List (Str × Nat)} {ws : List Nat} {pos : Pos} {it : Lo → R (List D)} {asg : D → Lo → R Lo} {tst : Lo → R Bool} {fk fv : Lo → R D}
end
end VL

namespace VL
open PyProof.Rows PySem L2 PySem.Spec
section
variable {prog : Program} {w : World} {A : Around} {E : Value → Shared → Prop} {s : Shared} {K : PySem.W.Frag} {x C f : Addr} {ox : Obj} {od : Option Obj} {b tb : Value}
open PyProof.Rows PySem L2 PySem.Spec PySem.W
open PyProof.Rows PySem L2 PySem.Spec PySem.W
open PyProof.Rows PySem L2 PySem.Spec PySem.W
end
end VL

namespace VL
open PyProof.Rows PySem L2 PySem.Spec
section
variable {X : Cx} {G : VG} {k j : Nat} {f C : Addr} {fd : FuncData} {c : Str} {ps : List Str} {gg : List D → R D} {m m1 : Md} {a b : Expr} {fa fb : Lo → R D} {p pos : Pos}
end
end VL

namespace VL
open PyProof.Rows PySem L2 PySem.Spec
structure IsoK (K : PySem.W.Frag) (C : Addr) : Prop where
  ha : PySem.W.findIn K (.ref C) "__class__" = some (some (.builtin "object.__class__"))
  hn : PySem.W.specialIn K (.builtin "object.__class__") "__get__" = some (some (.builtin "getset_descriptor.__get__"))
  ht : PySem.W.takesIn K (.builtin "object.__class__") = some true
  hm : PySem.W.mroIn K C (.type "object") = some true
  own : PySem.W.kitOne K (.ref C) (.ref C) = some true
  non : PySem.W.kitOne K (.type "NoneType") (.ref C) = some false
  bl : PySem.W.kitOne K (.type "bool") (.ref C) = some false
  int : PySem.W.kitOne K (.type "int") (.ref C) = some false
  str : PySem.W.kitOne K (.type "str") (.ref C) = some false
  lst : PySem.W.kitOne K (.type "list") (.ref C) = some false
  tup : PySem.W.kitOne K (.type "tuple") (.ref C) = some false
  dic : PySem.W.kitOne K (.type "dict") (.ref C) = some false
section
variable {X : Cx} {G : VG} {k : Nat} {C : Addr} {c T : Str} {m m1 : Md} {e : Expr} {fa : Lo → R D} {p q pos : Pos}
end
end VL

namespace VL
open PyProof.Rows PySem L2 PySem.Spec
section
variable {X : Cx} {G : VG} {k j : Nat} {f : Addr} {fd : FuncData} {ps : List Str} {m : Md} {g : List D → R D} {e : Expr} {es : List Expr} {fa : Lo → R (List D)} {nm : Str} {p pos : Pos}
end
end VL

namespace VL
open PyProof.Rows PySem L2 PySem.Spec
open Sem (wp)

noncomputable abbrev IsZipG (h : Heap) (z TI TO : Addr) (f0 : Value) (f1 st : Bool) : Prop :=
  h.get? z = some { cls := .type "zip", dict := none, data := .fields #[f0, .bool f1, .bool st, .ref TI, .ref TO], slots := #[] }
noncomputable abbrev zsZ2 (h : Heap) (o1 o2 : Obj) : Heap := (gzO2 h o1 o2).push { cls := .type "zip", data := .fields #[.none, .bool false, .bool true, .ref ((h.push o1).push o2).objs.size, .ref (gzT2 h o1 o2).objs.size] }
section
variable {prog : Program} {w : World} {A : Around} {E : Value → Shared → Prop} {s : Shared}
end
end VL

namespace VL
open PyProof.Rows PySem L2 PySem.Spec
open Sem (wp)

section
variable {prog : Program} {w : World} {A : Around} {E : Value → Shared → Prop} {s : Shared} {z TI TO i1 i2 : Addr} {fp1 fp2 : List Addr} {n1 n2 i : Nat} {P1 P2 : Nat → Value → Prop} {St1 St2 : Nat → Heap → Prop} {a1 a2 : Value}
end
end VL

namespace VL
open PyProof.Rows PySem L2 PySem.Spec
open Sem (wp)

section
variable {prog : Program} {w : World} {A : Around} {E : Value → Shared → Prop} {s : Shared} {z TI TO i1 i2 : Addr} {fp1 fp2 : List Addr} {n1 n2 i : Nat} {P1 P2 : Nat → Value → Prop} {St1 St2 : Nat → Heap → Prop} {a1 a2 : Value}
end
end VL

namespace VL
open PyProof.Rows PySem L2 PySem.Spec
open Sem (wp)

section
variable {prog : Program} {w : World} {A : Around} {E : Value → Shared → Prop} {s : Shared} {z TI TO i1 i2 : Addr} {fp1 fp2 : List Addr} {n i : Nat} {P1 P2 : Nat → Value → Prop} {St1 St2 : Nat → Heap → Prop} {a1 a2 : Value}
end
end VL

namespace VL
open PyProof.Rows PySem L2 PySem.Spec
open Sem (wp)

section
variable {M : Model} {A : Around} {E : Value → Shared → Prop} {s : Shared} {env : Env}
end
section
variable {prog : Program} {w : World} {A : Around} {E : Value → Shared → Prop} {s : Shared} {z TI TO i1 i2 : Addr} {fp1 fp2 : List Addr} {n n1 n2 i : Nat} {P1 P2 : Nat → Value → Prop} {St1 St2 : Nat → Heap → Prop} {a1 a2 : Value}
end
section
variable {X : Cx} {G : VG} {k : Nat} {a b : Expr} {fa fb : Lo → R D} {p pos tpos : Pos} {elts : List Expr} {kk : Nat}
end
end VL

namespace VL
open PyProof.Rows PySem L2 PySem.Spec
open Sem (wp)

section
variable {prog : Program} {w : World} {A : Around} {E : Value → Shared → Prop} {s : Shared} {e z TI TO i1 i2 : Addr} {fp1 fp2 : List Addr} {n n1 n2 i : Nat} {P1 P2 : Nat → Value → Prop} {St1 St2 : Nat → Heap → Prop} {a1 a2 : Value}
end
end VL

namespace VL
open PyProof.Rows PySem L2 PySem.Spec
open Sem (wp)

section
variable {X : Cx} {G : VG} {k : Nat} {a b : Expr} {fa fb : Lo → R D} {p p2 pos pos2 tpos : Pos} {elts : List Expr} {kk : Nat}
end
end VL

namespace VL
open PyProof.Rows PySem L2 PySem.Spec
open Sem (wp)

noncomputable def ZpSt (z TI TO i1 i2 : Addr) (S1 S2 : Src) (i : Nat) (h : Heap) : Prop := (∃ f0 f1, IsZipG h z TI TO f0 f1 true ∧ (f0 = .none ∨ ∃ a : Nat, f0 = rawInt a)) ∧ IsTupOf2 h TI (.ref i1) (.ref i2) ∧ (∃ x y, IsTupOf2 h TO x y) ∧ S1.St i1 i h ∧ S2.St i2 i h
theorem ZpSt.keep {z TI TO i1 i2 : Addr} {S1 S2 : Src} {i : Nat} {h h' : Heap} (t : ZpSt z TI TO i1 i2 S1 S2 i h) (k : ∀ b ∈ [z, TI, TO, i1, i2], ∀ o, h.get? b = some o → h'.get? b = some o) : ZpSt z TI TO i1 i2 S1 S2 i h' := by
  obtain ⟨⟨f0, f1, hz, hf⟩, hI, ⟨x, y, hO⟩, h1, h2⟩ := t
  exact ⟨⟨f0, f1, k z (by simp) _ hz, hf⟩, k TI (by simp) _ hI, ⟨x, y, k TO (by simp) _ hO⟩, S1.st_at h1 (fun o e => k i1 (by simp) o e), S2.st_at h2 (fun o e => k i2 (by simp) o e)⟩
structure ZpG (t1 t2 : List Value) (lo : Addr) (h : Heap) (as : List Addr) : Prop where
  rise : as.Pairwise (· < ·)
  above : ∀ a ∈ as, lo < a
  pairs : ∀ (j : Nat) (a : Addr), as[j]? = some a → ∃ u v, t1[j]? = some u ∧ t2[j]? = some v ∧ h.get? a = some { cls := .type "tuple", data := .seq #[u, v] }
theorem ZpG.there {t1 t2 : List Value} {lo : Addr} {h : Heap} {as : List Addr} (g : ZpG t1 t2 lo h as) {a : Addr} (ha : a ∈ as) : a < h.objs.size := by
  obtain ⟨j, hj⟩ := List.mem_iff_getElem?.mp ha
  obtain ⟨_, _, _, _, e⟩ := g.pairs j a hj
  exact Heap.lt_size e
section
variable {prog : Program} {w : World} {A : Around} {s : Shared} {R : Result → Shared → Prop} {t1 t2 : List Value} {S1 S2 : Src} {z TI TO i1 i2 : Addr}
end
end VL

namespace VL
open PyProof.Rows PySem L2 PySem.Spec
open Sem (wp)

section
variable {X : Cx} {pins : List (Addr × Obj)} {σ : L2.St} {H : Hp} {s : Shared} {h' : Heap} {tk : Nat} {t1 t2 : List Value} {vs1 vs2 : List V} {acc : Array Value} {c : Nat} {as : List Addr} {S : Addr}
end
section
variable {X : Cx} {G : VG} {k : Nat} {a b : Expr} {fa fb : Lo → R D} {p p2 pos pos2 : Pos}
end
end VL

namespace VL
open PyProof.Rows PySem L2 PySem.Spec

section
variable {X : Cx} {G : VG} {k : Nat} {m m1 : Md} {o : Expr} {fa : Lo → R D} {pos p p2 pos2 : Pos}
end
end VL

namespace VL
open PyProof.Rows PySem L2 PySem.Spec

section
variable {X : Cx} {G : VG} {k : Nat} {a b : Expr} {fa fb : Lo → R D} {pos : Pos}
end
end VL

namespace VL
open PyProof.Rows PySem L2 PySem.Spec
section
variable {prog : Program} {w : World} {A : Around} {E : Value → Shared → Prop} {s : Shared} {K : PySem.W.Frag} {x C f : Addr} {ox : Obj} {od : Option Obj}
open PyProof.Rows PySem L2 PySem.Spec PySem.W
end
section
variable {X : Cx} {G : VG} {k j : Nat} {f C : Addr} {fd : FuncData} {c : Str} {ps : List Str} {gg : List D → R D} {m m1 : Md} {a : Expr} {fa : Lo → R D} {p pos : Pos}
end
end VL

namespace VL
open PyProof.Rows PySem L2 PySem.Spec
section
variable {X : Cx} {G : VG} {k : Nat} {pins : List (Addr × Obj)} {σ : L2.St} {H : Hp} {F : Fro} {s : Shared}
end
section
variable {X : Cx} {G : VG} {k : Nat} {m m1 : Md} {a : Expr} {fa : Lo → R D} {p pos : Pos}
end
end VL

namespace VL
open PyProof.Rows PySem L2 PySem.Spec
open Sem (wp)

section
variable {prog : Program} {w : World} {A : Around} {E : Value → Shared → Prop} {s : Shared} {z TI TO i1 i2 : Addr} {fp1 fp2 : List Addr} {n n1 n2 i : Nat} {P1 P2 : Nat → Value → Prop} {St1 St2 : Nat → Heap → Prop} {a1 a2 : Value}
end
noncomputable def ZpStN (z TI TO i1 i2 : Addr) (S1 S2 : Src) (i : Nat) (h : Heap) : Prop := (∃ f0 f1, IsZipG h z TI TO f0 f1 false ∧ (f0 = .none ∨ ∃ a : Nat, f0 = rawInt a)) ∧ IsTupOf2 h TI (.ref i1) (.ref i2) ∧ (∃ x y, IsTupOf2 h TO x y) ∧ S1.St i1 i h ∧ S2.St i2 i h
theorem ZpStN.keep {z TI TO i1 i2 : Addr} {S1 S2 : Src} {i : Nat} {h h' : Heap} (t : ZpStN z TI TO i1 i2 S1 S2 i h) (k : ∀ b ∈ [z, TI, TO, i1, i2], ∀ o, h.get? b = some o → h'.get? b = some o) : ZpStN z TI TO i1 i2 S1 S2 i h' := by
  obtain ⟨⟨f0, f1, hz, hf⟩, hI, ⟨x, y, hO⟩, h1, h2⟩ := t
  exact ⟨⟨f0, f1, k z (by simp) _ hz, hf⟩, k TI (by simp) _ hI, ⟨x, y, k TO (by simp) _ hO⟩, S1.st_at h1 (fun o e => k i1 (by simp) o e), S2.st_at h2 (fun o e => k i2 (by simp) o e)⟩
section
variable {prog : Program} {w : World} {A : Around} {s : Shared} {R : Result → Shared → Prop} {t1 t2 : List Value} {S1 S2 : Src} {z TI TO i1 i2 : Addr}
end
section
variable {X : Cx} {G : VG} {k : Nat} {a b : Expr} {fa fb : Lo → R D} {p p2 pos pos2 : Pos}
end
end VL

namespace VL
open PyProof.Rows PySem L2 PySem.Spec PySem.Froz
section
variable {X : Cx} {G : VG} {k : Nat} {m m1 : Md} {o : Expr} {fa : Lo → R D} {pos p : Pos}
end
end VL

namespace VL
open PyProof.Rows PySem L2 PySem.Spec
section
variable {X : Cx} {G : VG} {m : Md} {k : Nat} {e iter : Expr} {it : Lo → R (List D)} {f : Lo → R D} {scope : Scope} {x y : Str} {xp yp ap cp pos pos' : Pos}
end
end VL

namespace VL
open PyProof.Rows PySem L2 PySem.Spec
section
variable {X : Cx} {G : VG} {m m1 m2 : Md} {a b : Expr} {fa fb : Lo → R D} {pos : Pos} {k : Nat}
end
end VL

namespace VL
open PyProof.Rows PySem L2 PySem.Spec
section
variable {X : Cx} {G : VG} {σ : L2.St} {s : Shared} {pins : List (Addr × Obj)} {H : Hp} {F : Fro}
end
section
variable {X : Cx} {G : VG} {k j : Nat} {f C : Addr} {fd : FuncData} {c : Str} {ps : List Str} {gg : List D → R D} {m m1 : Md} {a b : Expr} {fa fb : Lo → R D} {p pos : Pos}
end
end VL

namespace VL
open PyProof.Rows PySem L2 PySem.Spec
section
variable {X : Cx} {G : VG} {k : Nat} {m : Md} {o e : Expr} {fo fe : Lo → R D} {pos ap cp : Pos}
end
end VL

namespace VL
open PyProof.Rows PySem L2 PySem.Spec
section
variable {X : Cx} {G : VG} {m : Md} {k : Nat} {x y : Str} {e : Expr} {fe : Lo → R D} {p1 p2 ap cp lp bp pos : Pos}
end
end VL

namespace VL
open PyProof.Rows PySem L2 PySem.Spec PySem.W
section
variable {X : Cx} {pos : Pos}
end
section
variable {X : Cx} {G : VG} {k : Nat} {m m1 : Md} {e tg : Expr} {ws : List Nat} {asg : D → Lo → R Lo} {f : Lo → R D} {pos : Pos}
end
end VL

namespace VL
open PyProof.Rows PySem L2 PySem.Spec
section
variable {X : Cx} {G : VG} {k j : Nat} {f C C2 : Addr} {fd : FuncData} {c c2 : Str} {ps : List Str} {gg : List D → R D} {m m1 : Md} {a b : Expr} {fa fb : Lo → R D} {p pos : Pos}
end
end VL

namespace VL
open PyProof.Rows PySem L2 PySem.Spec
section
variable {X : Cx} {G : VG} {k : Nat} {m m1 : Md} {o : Expr} {fa : Lo → R D} {pos p p2 pos2 : Pos}
end
end VL

namespace VL
open PyProof.Rows PySem L2 PySem.Spec
theorem us0 {P : List Value → Prop} {us : List Value} (h : us.length = 0) (k : P []) : P us := by
  cases us with
  | nil => exact k
  | cons a r => cases h
theorem us1 {P : List Value → Prop} {us : List Value} (h : us.length = 1) (k : ∀ a, P [a]) : P us := by
  cases us with
  | nil => cases h
  | cons x r => exact us0 (P := fun r => P (x :: r)) (us := r) (Nat.succ.inj h) (k x)
theorem us2 {P : List Value → Prop} {us : List Value} (h : us.length = 2) (k : ∀ a b, P [a, b]) : P us := by
  cases us with
  | nil => cases h
  | cons x r => exact us1 (P := fun r => P (x :: r)) (us := r) (Nat.succ.inj h) fun a => k x a
theorem us3 {P : List Value → Prop} {us : List Value} (h : us.length = 3) (k : ∀ a b c, P [a, b, c]) : P us := by
  cases us with
  | nil => cases h
  | cons x r => exact us2 (P := fun r => P (x :: r)) (us := r) (Nat.succ.inj h) fun a b => k x a b
end VL

namespace VL
open PyProof.Rows PySem L2 PySem.Spec
section
variable {X : Cx} {G : VG} {k : Nat} {m m1 m2 : Md} {o e : Expr} {fa fb : Lo → R D}
end
end VL

namespace VL
open PyProof.Rows PySem L2 PySem.Spec
structure FnT (K : PySem.W.Frag) (mg : Str → Option Value) (short name : Str) (st : Stmt) (a : Addr) (d : FuncData) (ps : List Str) : Prop where
  g : mg name = some (.ref a)
  F : Fun K short name st a d
  b : Binds K d ps []
structure FnM (K : PySem.W.Frag) (short name : Str) (st : Stmt) (a : Addr) (d : FuncData) (ps : List Str) : Prop where
  F : Fun K short name st a d
  b : Binds K d ps []
end VL

namespace VL
open PyProof.Rows PySem L2 PySem.Spec
section
variable {X : Cx} {G : VG} {k : Nat} {e : Expr} {fa : Lo → R (List D)} {c : Str} {C : Addr} {ns : List Str}
end
end VL

namespace VL
open PyProof.Rows PySem L2 PySem.Spec
section
variable {X : Cx} {e : Expr} {es : List Expr} {ta : TA} {x : Str} {T : String} {p1 p2 pos : Pos} {newId initId : String} {B : String} {bmB : List Value}
theorem pe_ecinitB (FB : ExcBaseFacts B newId initId bmB) (hg : Gl X x) (hm : X.mg x = none) (hb : bootBuiltins x = some (.type T)) (ht : typeOf (.type T) = pure (.type "type")) (hst : Manifest.isStub T = false)
    (fS : PySem.W.findCls X.K (.type T) (.type "type") "__init__" = some (.val (.builtin initId))) (hh : PySem.W.handedIn (.builtin initId) = true) (ha : PA X (e :: es) ta) (hn : x ≠ "__name__" := by decide) (hdb : (x == ("__debug__" : Str)) = false := by decide) {pl : Sem Bool}
    (hc : eval (.Call (.Attribute (.Name x p1) "__init__" p2) (e :: es) [] pos) X.env = (do
      let q ← eval (.Name x p1) X.env
      standAt p2.atName
      let (g, us) ← holding [q] (getMethod q "__init__" pl)
      callWith pos g us (backTo pos (starEach (e :: es) X.env)) (backToKw pos (keywordEach [] X.env))) := by rfl)
    (he : starEach (e :: es) X.env = (false, eval e X.env) :: starEach es X.env := by rfl) (hpl : (backTo pos (starEach es X.env)).any (·.1) = false := by rfl) :
    PE X (.Call (.Attribute (.Name x p1) "__init__" p2) (e :: es) [] pos) (tEcI X.K bmB newId ta) := by
  refine ⟨fun pins s σ H Q I h => ?_⟩
  refine PySem.W.methodCall_KW (ld_blt I hg hm hb ?_ hn hdb) hc
  obtain ⟨mm, fr⟩ := I.fr
  refine PySem.W.method_type fr I.ok.mod.kin ht hst fS hh ?_
  show wpAny _ _ (callWith pos (Value.builtin initId) [] (backTo pos (starEach (e :: es) X.env)) []) _ _ _
  refine PyProof.Rows.callWith_method1 (thn (ha.run pos pins _ σ H _ (I.tok _) h) fun us s1 ⟨vs, H1, I1, r1, a, C, ws, ev, hl, T, ea, q⟩ => ?_) he hpl
  subst ev
  cases r1 with
  | @cons _ u0 _ ur ra rw' =>
    obtain rfl : u0 = Value.ref a := ra
    exact eci_base FB T I1 ea (by rw [← Paired.length rw', sizeLine_eq]; (first | lia | omega)) fun s' J => ⟨.non, H1, J, rfl, q⟩
end
end VL

namespace VL
open PyProof.Rows PySem L2 PySem.Spec
section
variable {X : Cx} {G : VG} {k : Nat} {C C2 : Addr} {c c2 T T2 : Str} {m m1 : Md} {e : Expr} {fa : Lo → R D} {p q pos : Pos}
end
end VL

namespace VL
open PyProof.Rows PySem L2 PySem.Spec
section
variable {X : Cx}
end
section
variable {X : Cx} {G : VG} {k : Nat} {m m1 m2 : Md} {tg iter kx vx : Expr} {ifs : List Expr} {scope : Scope} {own : List (Str × Nat)} {pos : Pos} {it : Lo → R (List D)} {asg : D → Lo → R Lo} {ws : List Nat} {tst : Lo → R Bool} {fk fv : Lo → R D}
end
section
variable {X : Cx} {G : VG} {k : Nat} {m m1 m2 : Md} {a b : Expr} {fa fb : Lo → R D} {pos : Pos}
end
end VL

namespace L2
open PyProof.Rows PySem L2 PySem.Spec
end L2
namespace VL
open PyProof.Rows PySem L2 PySem.Spec
section
variable {X : Cx} {G : VG} {m m1 m2 : Md} {a b : Expr} {fa fb : Lo → R D} {pos : Pos} {k : Nat}
end
end VL

namespace L2
open PyProof.Rows PySem L2 PySem.Spec
noncomputable abbrev Pt := Addr × List Key × Addr × V
section
variable {X : Cx}
end
end L2
namespace VL
open PyProof.Rows PySem L2 PySem.Spec
section
variable {X : Cx} {G : VG} {m m1 : Md} {o : Expr} {fa : Lo → R D} {pos p : Pos} {k : Nat}
end
end VL

namespace VL
open PyProof.Rows PySem L2 PySem.Spec PySem.Froz
open Sem (wp)
section
variable {X : Cx} {G : VG} {k : Nat} {m m1 : Md} {o : Expr} {fa : Lo → R D} {pos p : Pos}
end
end VL

namespace VL
open PyProof.Rows PySem L2 PySem.Spec
open Sem (wp)
section
variable {K : PySem.W.Frag} {H : Hp}
theorem NkAll.at_ : ∀ {ks : List NestedKey} {bs : List Addr}, NkAll K H ks (bs.map V.ref) → ∀ {us : List Value}, ∀ x ∈ ks.zip (bs.zip us), NkAt K H x.1 (.ref x.2.1)
  | [], _, _, _, x, hx => by simp at hx
  | k :: ks, [], h, _, _, _ => nomatch h
  | k :: ks, b :: bs, h, [], x, hx => by simp at hx
  | k :: ks, b :: bs, .cons h r, u :: us, x, hx => by
    rw [List.zip_cons_cons, List.zip_cons_cons] at hx
    rcases List.mem_cons.mp hx with rfl | hx
    · exact h
    · exact NkAll.at_ r x hx
end
section
variable {X : Cx} {pins : List (Addr × Obj)} {σ : L2.St} {H : Hp} {s : Shared}
end
section
variable {X : Cx}
end
end VL

namespace VL
open PyProof.Rows PySem L2 PySem.Spec
section
variable {K : PySem.W.Frag} {H : Hp} {F : Fro}
end
theorem ndP_inj {a : Addr} {ks : List NestedKey} {bs bs' : List Addr} {vs vs' : List V} {h : Heap} (hP : ∃ (P : Program) (w : World), True) (lb : bs.length = ks.length) (lb' : bs'.length = ks.length) (lv : ks.length = vs.length) (lv' : ks.length = vs'.length) (p : ndP a ks bs vs h) (p' : ndP a ks bs' vs' h) : vs = vs' := by
  obtain ⟨us, r, o, es, ep, g1, g2, g3, g4, g5⟩ := p
  obtain ⟨us', r', o', es', ep', g1', g2', g3', g4', g5'⟩ := p'
  obtain ⟨P, w, _⟩ := hP
  rw [g1] at g1'
  cases g1'
  rw [g3] at g3'
  cases g3'
  have e := (g4 P w).symm.trans (g4' P w)
  have lu : us.length = ks.length := by rw [← r.length, lv]
  have lu' : us'.length = ks.length := by rw [← r'.length, lv']
  have e2 := congrArg (List.map (·.val)) e
  rw [List.map_map, List.map_map] at e2
  have z : ∀ (bs : List Addr) (us : List Value), bs.length = ks.length → us.length = ks.length → (ndEs P w ks bs us).map ((·.val) ∘ entryOfKey (nestedKind P w)) = us := fun bs us h1 h2 => by
    have : ((·.val) ∘ entryOfKey (nestedKind P w)) = fun x : NestedKey × Addr × Value => x.2.2 := by funext x; rfl
    rw [this]
    unfold ndEs
    rw [show (fun x : NestedKey × Addr × Value => x.2.2) = (fun y : Addr × Value => y.2) ∘ (fun x : NestedKey × Addr × Value => x.2) from rfl, ← List.map_map, List.map_snd_zip (by rw [List.length_zip]; (first | lia | omega)), List.map_snd_zip (by (first | lia | omega))]
  rw [z bs us lb lu, z bs' us' lb' lu'] at e2
  subst e2
  exact r.inj r'
theorem KdH.inj {K : PySem.W.Frag} {H : Hp} {a : Addr} {vs vs' : List V} {k : Kd} (hP : ∃ (P : Program) (w : World), True) (h : KdH K H a vs k) (h' : KdH K H a vs' k) : vs = vs' := by
  have zz : ∀ {α : Type} {l : List α} {m m' : List V}, l.length = m.length → l.length = m'.length → l.zip m = l.zip m' → m = m' := fun {α l m m'} h1 h2 e => by
    have e2 := congrArg (List.map (·.2)) e
    rwa [List.map_snd_zip (by (first | lia | omega)), List.map_snd_zip (by (first | lia | omega))] at e2
  cases k with
  | lst =>
    have e := (show H a = some (.lst vs) from h).symm.trans (show H a = some (.lst vs') from h')
    exact HO.lst.inj (Option.some.inj e)
  | tup =>
    have e := (show H a = some (.tup vs) from h).symm.trans (show H a = some (.tup vs') from h')
    exact HO.tup.inj (Option.some.inj e)
  | tdc ks => exact zz h.1 h'.1 (HO.dT.inj (Option.some.inj (h.2.symm.trans h'.2)))
  | dic ks => exact zz h.1 h'.1 (HO.dK.inj (Option.some.inj (h.2.symm.trans h'.2)))
  | obj c fs =>
    obtain ⟨l, C, dx, e, _⟩ := h
    obtain ⟨l', C', dx', e', _⟩ := h'
    exact zz l l' (HO.ins.inj (Option.some.inj (e.symm.trans e'))).2.2
  | nkd ks =>
    obtain ⟨l, _, _, bs, lb, _, e, _, h0, p⟩ := h
    obtain ⟨l', _, _, bs', lb', _, e', _, _⟩ := h'
    have e2 : ndP a ks bs vs = ndP a ks bs' vs' := HO.ext.inj (Option.some.inj (e.symm.trans e'))
    exact ndP_inj hP lb lb' l l' p (e2 ▸ p)
theorem AtP.mono {K : PySem.W.Frag} {H H' : Hp} (kp : ∀ a o, H a = some o → H' a = some o) : ∀ {π : List Nat} {v : V} {t : Tr} {w : V}, AtP K H v t π w → AtP K H' v t π w
  | [], v, t, w, h => by cases t <;> exact h
  | n :: π, v, .sh _, w, h => h.elim
  | n :: π, v, .nd k ts, w, h => by
    obtain ⟨a, vs, v1, t1, e1, hk, hl, hv, ht, hw⟩ := h
    refine ⟨a, vs, v1, t1, e1, KdH.eq (F := fun _ => True) (fun a o e _ => kp a o e) hk ?_, hl, hv, ht, AtP.mono kp hw⟩
    cases e : H a with
    | none => exact absurd e hk.there
    | some o => exact kp a o e
noncomputable def tD (G : VG) (i : Nat) (π : List Nat) : TE := fun σ H Q => ∃ ρ F t k ts, Rel G σ H ρ F ∧ ρ[i]? = some (.dp t) ∧ t.at π = some (.nd k ts) ∧
  ∀ ω v a vs, DP G σ H ρ F ω → σ[i]? = some (some v) → AtP G.K H v t π (.ref a) → KdH G.K H a vs k → DwL G.K G.H0 H F ω (i :: π) 0 vs ts → Q (.ref a) H
structure VD (X : Cx) (G : VG) (e : Expr) (i : Nat) (π : List Nat) : Prop where
  pe : PE X e (tD G i π)
section
variable {X : Cx} {G : VG} {k : Nat} {m m1 m2 : Md} {e ie o : Expr} {f fi fe : Lo → R D} {pos pos' p1 p2 : Pos} {i : Nat} {π : List Nat}
end
end VL

namespace VL
open PyProof.Rows PySem L2 PySem.Spec
inductive PtI (G : VG) (σ : L2.St) (ρ : Lo) (H' : Hp) (F' : Fro) : Hp → List Nat → List V → List D → Prop
  | nil {H : Hp} : PtI G σ ρ H' F' H [] [] []
  | own {H H1 : Hp} {j : Nat} {os : List Nat} {v : V} {vs : List V} {d : D} {ds : List D} : (∀ a o, H a = some o → H1 a = some o) → σ[j]? = some (some v) → ρ[j]? = some (.ow d) → d.isLst = true → PtI G σ ρ H' F' H1 os vs ds → PtI G σ ρ H' F' H (j :: os) (v :: vs) (d :: ds)
  | fr {H H1 : Hp} {a : Addr} {os : List Nat} {vs : List V} {d : D} {ds : List D} : (∀ a o, H a = some o → H1 a = some o) → H a = none → H1 a ≠ none → ¬ F' a → Ow G.K H' F' a d → d.isLst = true → PtI G σ ρ H' F' H1 os vs ds → PtI G σ ρ H' F' H os (.ref a :: vs) (d :: ds)
  | sh {H H1 : Hp} {os : List Nat} {v : V} {vs : List V} {d : D} {ds : List D} : (∀ a o, H a = some o → H1 a = some o) → d.isLst = false → Sh G.K H' F' v d → PtI G σ ρ H' F' H1 os vs ds → PtI G σ ρ H' F' H os (v :: vs) (d :: ds)
noncomputable def tPt (G : VG) (os : List Nat) (f : Lo → R (List D)) : TA := fun σ H Q => ∃ ρ F, Rel G σ H ρ F ∧ Out G σ H F (f ρ) (fun ds vs H' F' => PtI G σ ρ H' F' H os vs ds) Q
structure VPt (X : Cx) (G : VG) (es : List Expr) (os : List Nat) (f : Lo → R (List D)) : Prop where
  pa : PA X es (tPt G os f)
noncomputable def tVt (G : VG) (f : Lo → R D) : TE := fun σ H Q => ∃ ρ F, Rel G σ H ρ F ∧ Out G σ H F (f ρ) (fun d v H' F' => FT G.K H H' F' v d) Q
structure VEt (X : Cx) (G : VG) (e : Expr) (f : Lo → R D) : Prop where
  pe : PE X e (tVt G f)
section
variable {K : PySem.W.Frag} {G : VG} {σ : L2.St} {ρ : Lo} {H H' H1 H2 : Hp} {F F' F1 : Fro} {os : List Nat} {vs : List V} {ds : List D}
theorem PtI.back (h : PtI G σ ρ H' F' H1 os vs ds) (k : ∀ a o, H a = some o → H1 a = some o) : PtI G σ ρ H' F' H os vs ds := by
  cases h with
  | nil => exact .nil
  | own kk e1 e2 hl r => exact .own (fun a o e => kk a o (k a o e)) e1 e2 hl r
  | fr kk n t nf o hl r => exact .fr (fun a o e => kk a o (k a o e)) (none_of_keep k n) t nf o hl r
  | sh kk hl s r => exact .sh (fun a o e => kk a o (k a o e)) hl s r
theorem PtI.len : ∀ {H : Hp} {os : List Nat} {vs : List V} {ds : List D}, PtI G σ ρ H' F' H os vs ds → vs.length = ds.length
  | _, _, _, _, .nil => rfl
  | _, _, _, _, .own _ _ _ _ r => congrArg (· + 1) r.len
  | _, _, _, _, .fr _ _ _ _ _ _ r => congrArg (· + 1) r.len
  | _, _, _, _, .sh _ _ _ r => congrArg (· + 1) r.len
theorem PtI.src : ∀ {H : Hp} {os : List Nat} {vs : List V} {ds : List D}, PtI G σ ρ H' F' H os vs ds → ∀ {i : Nat} {v : V} {d : D}, vs[i]? = some v → ds[i]? = some d → d.isLst = true →
    (∃ j ∈ os, σ[j]? = some (some v) ∧ ρ[j]? = some (.ow d)) ∨ ∃ a, v = .ref a ∧ H a = none ∧ ¬ F' a ∧ Ow G.K H' F' a d
  | _, _, _, _, .nil, _, _, _, h, _, _ => by simp at h
  | _, _, _, _, .own (j := j) k e1 e2 hl r, 0, v, d, h1, h2, h3 => by
    simp at h1 h2
    subst h1 h2
    exact .inl ⟨j, List.mem_cons_self, e1, e2⟩
  | _, _, _, _, .fr (a := a) k n t nf o hl r, 0, v, d, h1, h2, h3 => by
    simp at h1 h2
    subst h1 h2
    exact .inr ⟨a, rfl, n, nf, o⟩
  | _, _, _, _, .sh k hl s r, 0, v, d, h1, h2, h3 => by
    simp at h1 h2
    subst h1 h2
    rw [hl] at h3
    cases h3
  | _, _, _, _, .own k e1 e2 hl r, i + 1, v, d, h1, h2, h3 => by
    rcases r.src (by simpa using h1) (by simpa using h2) h3 with ⟨j, hj, q⟩ | ⟨a, e, n, q⟩
    · exact .inl ⟨j, List.mem_cons_of_mem _ hj, q⟩
    · exact .inr ⟨a, e, none_of_keep k n, q⟩
  | _, _, _, _, .fr k _ t nf o hl r, i + 1, v, d, h1, h2, h3 => by
    rcases r.src (by simpa using h1) (by simpa using h2) h3 with ⟨j, hj, q⟩ | ⟨a, e, n, q⟩
    · exact .inl ⟨j, hj, q⟩
    · exact .inr ⟨a, e, none_of_keep k n, q⟩
  | _, _, _, _, .sh k hl s r, i + 1, v, d, h1, h2, h3 => by
    rcases r.src (by simpa using h1) (by simpa using h2) h3 with ⟨j, hj, q⟩ | ⟨a, e, n, q⟩
    · exact .inl ⟨j, hj, q⟩
    · exact .inr ⟨a, e, none_of_keep k n, q⟩
theorem PtI.apart (rl : Rel G σ H2 ρ F) {H : Hp} (h : PtI G σ ρ H' F' H os vs ds) : (∀ a o, H2 a = some o → H a = some o) → os.Nodup → ∀ (i j : Nat) (a : Addr) (d d' : D), vs[i]? = some (.ref a) → ds[i]? = some d → d.isLst = true → vs[j]? = some (.ref a) → ds[j]? = some d' → d'.isLst = true → i = j := by
  induction h with
  | nil => intro _ _ i j a d d' h; simp at h
  | @own H H1 s os v vs d0 ds k e1 e2 hl r ih =>
    intro kh nd i j a d d' h1 h2 h3 h4 h5 h6
    have one : ∀ {j : Nat} {d' : D}, v = .ref a → vs[j]? = some (.ref a) → ds[j]? = some d' → d'.isLst = true → False := fun {j d'} ev g4 g5 g6 => by
      subst ev
      rcases r.src g4 g5 g6 with ⟨s', hs, q1, q2⟩ | ⟨b, e, n, _⟩
      · have := rl.apart s s' a _ _ e1 e2 q1 q2
        subst this
        exact (List.nodup_cons.mp nd).1 hs
      · cases e
        exact rl.there s a _ e1 e2 (none_of_keep kh (none_of_keep k n))
    cases i with
    | zero =>
      cases j with
      | zero => rfl
      | succ j => exact (one (by simpa using h1) (by simpa using h4) (by simpa using h5) h6).elim
    | succ i =>
      cases j with
      | zero => exact (one (by simpa using h4) (by simpa using h1) (by simpa using h2) h3).elim
      | succ j => exact congrArg (· + 1) (ih (fun a o e => k a o (kh a o e)) (List.nodup_cons.mp nd).2 i j a d d' (by simpa using h1) (by simpa using h2) h3 (by simpa using h4) (by simpa using h5) h6)
  | @fr H H1 b os vs d0 ds k n t nf o hl r ih =>
    intro kh nd i j a d d' h1 h2 h3 h4 h5 h6
    have one : ∀ {j : Nat} {d' : D}, V.ref b = .ref a → vs[j]? = some (.ref a) → ds[j]? = some d' → d'.isLst = true → False := fun {j d'} ev g4 g5 g6 => by
      cases ev
      rcases r.src g4 g5 g6 with ⟨s', hs, q1, q2⟩ | ⟨c, e, n', _⟩
      · exact rl.there s' b _ q1 q2 (none_of_keep kh n)
      · cases e
        exact t n'
    cases i with
    | zero =>
      cases j with
      | zero => rfl
      | succ j => exact (one (by simpa using h1) (by simpa using h4) (by simpa using h5) h6).elim
    | succ i =>
      cases j with
      | zero => exact (one (by simpa using h4) (by simpa using h1) (by simpa using h2) h3).elim
      | succ j => exact congrArg (· + 1) (ih (fun a o e => k a o (kh a o e)) nd i j a d d' (by simpa using h1) (by simpa using h2) h3 (by simpa using h4) (by simpa using h5) h6)
  | @sh H H1 os v vs d0 ds k hl s r ih =>
    intro kh nd i j a d d' h1 h2 h3 h4 h5 h6
    cases i with
    | zero =>
      simp at h2
      subst h2
      rw [hl] at h3
      cases h3
    | succ i =>
      cases j with
      | zero =>
        simp at h5
        subst h5
        rw [hl] at h6
        cases h6
      | succ j => exact congrArg (· + 1) (ih (fun a o e => k a o (kh a o e)) nd i j a d d' (by simpa using h1) (by simpa using h2) h3 (by simpa using h4) (by simpa using h5) h6)
theorem FT.back {v : V} {d : D} (h : FT K H1 H' F' v d) (k : ∀ a o, H a = some o → H1 a = some o) : FT K H H' F' v d := by
  cases d with
  | tup ds =>
    obtain ⟨p, vs, e, n, nf, ht, q⟩ := h
    refine ⟨p, vs, e, none_of_keep k n, nf, ht, q.len, fun i v d h1 h2 => ?_, q.apart⟩
    rcases q.at_ i v d h1 h2 with ⟨hl, a, ea, na, r⟩ | r
    · exact .inl ⟨hl, a, ea, none_of_keep k na, r⟩
    · exact .inr r
  | _ => exact Rp.back (m := .fr) h k
end
section
variable {X : Cx} {G : VG} {k j : Nat} {m : Md} {e : Expr} {es : List Expr} {fa : Lo → R D} {ft : Lo → R (List D)} {os : List Nat} {f : Addr} {fd : FuncData} {ps : List Str} {g : List D → R D} {nm : Str} {p pos pos' : Pos}
end
end VL

namespace VL
open PyProof.Rows PySem L2 PySem.Spec
section
variable {G : VG} {σ : L2.St} {H H1 : Hp} {ρ : Lo} {F F1 : Fro}
end
section
variable {X : Cx} {G : VG} {k : Nat} {m m2 : Md} {e : Expr} {f : Lo → R D} {c : Lo → R Bool} {pos pos' : Pos}
end
section
variable {G : VG} {σ : L2.St} {H H1 : Hp} {ρ : Lo} {F F1 : Fro}
end
section
variable {X : Cx} {G : VG} {k : Nat} {m m1 m2 : Md} {e ie : Expr} {f fe : Lo → R D} {pos pos' p1 p2 : Pos}
end
end VL

namespace VL
open PyProof.Rows PySem L2 PySem.Spec
section
variable {X : Cx} {G : VG} {k j n : Nat} {f C : Addr} {fd : FuncData} {ps : List Str} {g : List D → R D} {c mn : Str} {o e : Expr} {es : List Expr} {fo : Lo → R D} {fa : Lo → R (List D)} {pos apos : Pos}
end
section
variable {K : PySem.W.Frag} {H0 H1 : Hp} {F0 F1 : Fro}
end
section
variable {X : Cx} {G : VG} {k : Nat} {pos : Pos} {a1 b1 a2 b2 a3 b3 : Expr} {x1 y1 x2 y2 x3 y3 : Str}
end
end VL

namespace VL
open PyProof.Rows PySem L2 PySem.Spec
section
variable {X : Cx} {G : VG} {k j : Nat} {m : Md} {f : Addr} {fd : FuncData} {ps : List Str} {g : List D → R D} {nm : Str} {p p1 p2 pos pos' : Pos}
end
section
variable {X : Cx} {G : VG} {k : Nat} {m m1 m2 : Md} {a b : Expr} {fa fb : Lo → R D} {pos : Pos}
end
end VL

namespace VL
open PyProof.Rows PySem L2 PySem.Spec
section
variable {prog : Program} {w : World} {l : Addr} {items : Array Value} {n : Nat} {dd : Option Addr} {sl : Array (Option Value)} {x : Value}
end
end VL

namespace VL
open PyProof.Rows PySem L2 PySem.Spec
section
variable {prog : Program} {w : World} {A : Around} {E : Value → Shared → Prop} {s : Shared} {K : PySem.W.Frag} {x C f : Addr} {ox : Obj} {od : Option Obj} {b tb : Value}
open PyProof.Rows PySem L2 PySem.Spec PySem.W
end
end VL

namespace VL
open PyProof.Rows PySem L2 PySem.Spec
section
variable {X : Cx} {G : VG} {k j : Nat} {f C : Addr} {fd : FuncData} {c : Str} {ps : List Str} {gg : List D → R D} {m : Md}
end
end VL

namespace VL
open PyProof.Rows PySem L2 PySem.Spec
section
variable {X : Cx} {G : VG} {k j : Nat} {f C : Addr} {fd : FuncData} {c : Str} {ps : List Str} {gg : List D → R D} {m : Md} {e0 e1 : Expr} {fm : Lo → R D} {pos p1 p2 : Pos}
end
end VL

namespace VL
open PyProof.Rows PySem L2 PySem.Spec
noncomputable def LenOk (h : Heap) (a : Addr) (L : List (Addr × List Int)) : Prop := ∃ es ep t o, h.get? a = some o ∧ o.ExactSet ∧ o.data = .set es ep t ∧ es.size = L.length ∧ t.fits es.size = true ∧ (L.map (·.2)).Nodup
section
variable {P : Program} {w : World} {A : Around} {E : Value → Shared → Prop} {s : Shared}
end
end VL

namespace VL
open PyProof.Rows PySem L2 PySem.Spec PySem.Froz
section
variable {P : Program} {w : World} {A : Around} {E : Value → Shared → Prop} {s : Shared}
theorem LenOk.at {h h' : Heap} {a : Addr} {L : List (Addr × List Int)} (z : LenOk h a L) (k : ∀ o, h.get? a = some o → h'.get? a = some o) : LenOk h' a L := by
  obtain ⟨es, ep, t, o, g, r⟩ := z
  exact ⟨es, ep, t, o, k o g, r⟩
end
section
variable {X : Cx}
end
section
variable {X : Cx} {G : VG} {k : Nat} {m m1 : Md} {o : Expr} {fa : Lo → R D} {pos p p2 pos2 : Pos}
end
end VL

namespace VL
open PyProof.Rows PySem L2 PySem.Spec
noncomputable def tEx (t : L2.St → Hp → XK → Prop) : TE := fun σ H Q => t σ H fun cls d H1 => ∀ a, H1 a = none → Q (.ref a) (upd H1 a (exK a cls d))
section
variable {X : Cx} {e : Expr} {t : L2.St → Hp → XK → Prop}
theorem pe_mk (hp : PMk X e t) (hex : X.ex = []) : PE X e (tEx t) := by
  refine ⟨fun pins s σ H Q I h => ?_⟩
  refine wpAny_mono (hp pins s σ H _ I h) (fun u s1 hu => ?_) fun _ _ x => x
  obtain ⟨a, oe, vs, sI, H', cls, d, rfl, J, k, hne, ha, hz, hd, h1, na, os, ag, r, q⟩ := hu
  have J3 : Inv X pins σ H' s1 := J.landed (B := s1.heap) (fun b o e _ => k b o e) (fun b o e => e) (fun b o e _ => ⟨o.slots, k b o e⟩) os ag
  have not0 : X.s_0.heap.get? a = none := by
    cases z : X.s_0.heap.get? a with
    | none => rfl
    | some o =>
      obtain ⟨o', y⟩ := J.base.there a o z (by rw [hex]; simp)
      rw [hne] at y
      cases y
  have nL : a ≠ X.env.locals := fun z => by
    obtain ⟨m, ⟨o, es, ep, ho, _⟩, _⟩ := id J.loc
    rw [← z, hne] at ho
    cases ho
  have np : ∀ p ∈ X.pn ++ pins, p.1 ≠ a := fun p hp z => by
    have y := (J.pin p hp).1
    rw [z, hne] at y
    cases y
  have J4 := adopt J3 ha hz ⟨_, hd⟩ na not0 nL (fun v q => by rw [hd] at q; cases q) np
  exact ⟨.ref a, _, J4, rfl, q a na⟩
end
noncomputable def eMkx (c : Str) (ns : List Str) (fa : Lo → R (List D)) : Lo → R D := fun ρ => (fa ρ).bind fun ds => if ds.length = ns.length then .ok (.obj c ((ns.zip ds).reverse)) else .bad
section
variable {X : Cx} {G : VG} {m : Md} {k : Nat} {e : Expr} {es : List Expr} {fa : Lo → R (List D)} {c : Str} {C : Addr} {ns : List Str} {pos : Pos}
theorem le_exk {H : Hp} {F : Fro} {a : Addr} {cls : Value} {d : Option Addr} (t : The F H) (n : H a = none) : Le H F (upd H a (exK a cls d)) (F.add a) := le_newF t n
theorem ve_mkx (x : VX X G k) (hns : PySem.W.nsIn X.K mainGlobals c = some (some (.ref C))) (hg : PySem.W.findIn X.K (.ref C) "__getattribute__" = some (some (.builtin "BaseException.__getattribute__"))) (hp : PMk X e (tMkE C ns (tA G fa))) (h5 : ns.length ≤ 1000) (hne : ns ≠ []) (hex : X.ex = [] := by rfl) : VE X G .sh e (eMkx c ns fa) :=
  ⟨pe_imp (pe_mk hp hex) fun σ H Q ⟨ρ, F, rl, o⟩ => ⟨ρ, F, rl, Out.bind (S' := fun d v H' F' => Rp G.K .sh H H' F' v d) o (fun _ _ _ _ _ _ _ h => h) fun ds vs H1 F1 ef l s o1 => by
    by_cases l1 : ds.length = ns.length
    · have l2 : vs.length = ns.length := s.length.trans l1
      have o1 := o1 (S'' := fun d v H' F' => Rp G.K .sh H H' F' v d) fun _ _ _ _ h => h
      have o1 : Out G σ H1 F1 (if ds.length = ns.length then R.ok (D.obj c ((ns.zip ds).reverse)) else .bad) (fun d v H' F' => Rp G.K .sh H H' F' v d) Q := o1
      rw [if_pos l1] at o1
      refine ⟨l2, by (first | lia | omega), fun d hd a ha => ?_⟩
      have l3 : Le H1 F1 (upd H1 d (.xd ((ns.zip vs).reverse))) F1 := le_new l.the hd
      have na : a ≠ d := fun z => by
        rw [z, upd_same] at ha
        cases ha
      have l4 : Le (upd H1 d (.xd ((ns.zip vs).reverse))) F1 (upd (upd H1 d (.xd ((ns.zip vs).reverse))) a (exK a (.ref C) (some d))) (F1.add a) := le_exk l3.the ha
      have l5 := l3.trans l4
      refine o1 _ _ (F1.add a) l5 ?_
      have sr : ShL G.K (upd (upd H1 d (.xd ((ns.zip vs).reverse))) a (exK a (.ref C) (some d))) (F1.add a) vs.reverse ds.reverse := (s.le l5).rev
      refine sh_exc (vs := vs.reverse) (d := some d) (C := C) (.inr rfl) upd_same (x.K ▸ hns) (x.K ▸ hg) ?_ (.inr ⟨d, rfl, ?_⟩)
      · rw [zip_rev l1.symm, List.map_snd_zip (by simp [l1])]
        exact sr
      · rw [zip_rev l1.symm, List.map_fst_zip (by simp [l1]), ← zip_rev l2.symm, upd_ne na.symm]
        exact upd_same
    · have o1 := o1 (S'' := fun d v H' F' => Rp G.K .sh H H' F' v d) fun _ _ _ _ h => h
      have o1 : Out G σ H1 F1 (if ds.length = ns.length then R.ok (D.obj c ((ns.zip ds).reverse)) else .bad) (fun d v H' F' => Rp G.K .sh H H' F' v d) Q := o1
      rw [if_neg l1] at o1
      exact o1.elim⟩⟩
theorem ve_mkx0 (x : VX X G k) (hns : PySem.W.nsIn X.K mainGlobals c = some (some (.ref C))) (hg : PySem.W.findIn X.K (.ref C) "__getattribute__" = some (some (.builtin "BaseException.__getattribute__"))) (hp : PMk X e (fun _ H Q => Q (.ref C) none H)) (hex : X.ex = [] := by rfl) : VE X G .sh e (eC (.obj c [])) :=
  ⟨pe_imp (pe_mk hp hex) fun σ H Q ⟨ρ, F, rl, o⟩ => fun a ha => by
    have l4 : Le H F (upd H a (exK a (.ref C) none)) (F.add a) := le_exk rl.le.the ha
    exact o _ _ _ l4 (sh_exc (fs := []) (vs := []) (d := none) (C := C) (.inr rfl) upd_same (x.K ▸ hns) (x.K ▸ hg) .nil (.inl ⟨rfl, rfl⟩))⟩
end
end VL

namespace VL
open PyProof.Rows PySem L2 PySem.Spec
section
variable {M : Model} {A : Around} {E : Value → Shared → Prop} {hp : Heap} {g : Array GenState} {d : Drawn} {t : Nat} {os : OsState}
variable {nm q : Str} {C N : Addr} {bs bm bmB : List Value} {hdct : Bool} {sn : List Str} {sub : List Value} {ab : Bool} {col : Option Bool} {dd : Option Addr} {k0 k1 k2 k3 k5 : Option Value} {B newId initId : String} {kw : List (Str × Value)} {rest : List Value}
theorem kwx_check (FB : ExcBaseFacts B newId initId bmB) (under : (Value.ref C :: bm).contains (.type B) = true) {Q : Unit → Shared → Prop}
    (hC : hp.get? C = some (excClassObj nm q C N bs bm hdct sn sub ab col dd k0 k1 k2 k3 k5 newId)) (go : Q () ⟨hp, g, d, t, os⟩) : wpAny M A (checkBuiltinCall newId ⟨.ref C :: rest, kw⟩) Q E ⟨hp, g, d, t, os⟩ := by
  have short := FB.noStar
  simp only [checkBuiltinCall, FB.newSplit, FB.newKind, FB.newRow]
  repeat (first | with_reducible refine wpAny_loadPart_at hC ?_ | (refine wpAny_isSubtype_exc hC ?_; rw [under]) | refine wpAny_staticBase_exc hC ?_ | refine wpAny_madeBy_exc hC ?_ | simp only [bne_self_eq_false, Bool.false_eq_true, if_false] | wp_step)
  exact go
theorem kwx_type (hC : hp.get? C = some (excClassObj nm q C N bs bm hdct sn sub ab col dd k0 k1 k2 k3 k5 newId)) {Q : Unit → Shared → Prop} (go : Q () ⟨hp, g, d, t, os⟩) : wpAny M A (checkBuiltinCall "type.__call__" ⟨.ref C :: rest, kw⟩) Q E ⟨hp, g, d, t, os⟩ := by
  have sb := tc_sub
  have ty : (⟨hp, g, d, t, os⟩ : Shared).TypeIs (.ref C) "type" := ⟨_, hC, rfl⟩
  simp only [checkBuiltinCall, tc_split, tc_kind]
  repeat (any_goals (first | assumption | with_reducible refine wpAny_loadPart_at hC ?_ | with_reducible refine wpAny_onRaise ?_ | with_reducible refine wpAny_map ?_ | wp_step))
end
section
variable {prog : Program} {w : World} {A : Around} {E : Value → Shared → Prop} {R : Result → Shared → Prop} {hp : Heap} {g : Array GenState} {d : Drawn} {t : Nat} {os : OsState}
variable {nm q : Str} {C N : Addr} {bs bm bmB : List Value} {hdct : Bool} {sn : List Str} {sub : List Value} {ab : Bool} {col : Option Bool} {dd : Option Addr} {k0 k1 k2 k3 k5 : Option Value} {B newId initId : String} {kw : List (Str × Value)} {rest : List Value}
theorem kwx_new (FB : ExcBaseFacts B newId initId bmB) (cB : (Value.ref C :: bm).contains (.type B) = true) (cA : (Value.ref C :: bm).contains (.type "AttributeError") = false) (cN : (Value.ref C :: bm).contains (.type "NameError") = false) (hrest : rest.length ≤ sizeLine) (hC : hp.get? C = some (excClassObj nm q C N bs bm hdct sn sub ab col dd k0 k1 k2 k3 k5 newId))
    (go : R (.ok (.ret (.ref (hp.objs.size + 1)))) ⟨(hp.push (PySem.W.kdv_tup rest)).push (PySem.HandSPX.excO C hp.objs.size), g, d, t, os⟩) : codeAny (model prog w) A (.builtin newId ⟨.ref C :: rest, kw⟩) R ⟨hp, g, d, t, os⟩ := by
  have ends' := FB.ends
  refine codeAny_builtinAt FB.entry ?_
  unfold Builtin.«BaseException.__new__»
  refine PySem.wpAt_bind ?_
  show PySem.wpAt _ _ _ (stack >>= _) _ _ _
  refine PySem.wpAt_bind (PySem.wpAt_stack fun top rest => PySem.wpAt_of_wpAny ?_)
  wp_walk
  refine PySem.wpAt_of_wpAny ?_
  rw [FB.owner]
  repeat (first | with_reducible refine wpAny_madeHere_exc FB.canon hC ?_ | with_reducible refine wpAny_loadPart_at hC ?_ | (with_reducible refine wpAny_isSubtype_exc hC ?_; first | rw [cB] | rw [cA] | rw [cN]) | wp_step)
  show R _ _
  rw [Heap.size_push]
  exact go
theorem kwx_tc (FB : ExcBaseFacts B newId initId bmB) (cB : (Value.ref C :: bm).contains (.type B) = true) (cA : (Value.ref C :: bm).contains (.type "AttributeError") = false) (cN : (Value.ref C :: bm).contains (.type "NameError") = false) (hrest : rest.length ≤ sizeLine) {fI : Addr} {Q : Fin → Shared → Prop} (hC : hp.get? C = some (excClassObj nm q C N bs bm hdct sn sub ab col dd k0 k1 k2 k3 k5 newId))
    (hi : PySem.W.Looks (model prog w) hp (typeLookup (.ref C) "__init__") (some (.ref fI))) (hb : ∀ self, PySem.W.Looks (model prog w) hp (bindSpecial (.ref fI) self) (.ref fI, [self]))
    (go : codeAny (model prog w) A (.call (.ref fI) ⟨.ref (hp.objs.size + 1) :: rest, kw⟩) (fun r s' => match r with | .ok (.ret v) => v = .none ∧ Q (.done (.ret (.ref (hp.objs.size + 1)))) s' | .ok _ => False | .error e => E e s')
      ⟨(hp.push (PySem.W.kdv_tup rest)).push (PySem.HandSPX.excO C hp.objs.size), g, d, t, os⟩) :
    wpAny (model prog w) A (Builtin.«type.__call__» ⟨.ref C :: rest, kw⟩) Q E ⟨hp, g, d, t, os⟩ := by
  repeat (first | with_reducible refine wpAny_loadPart_at hC ?_ | with_reducible refine wpAny_madeBy_exc hC ?_ | wp_step)
  refine codeAny_call_builtin_code (Code.quiet_builtin _ FB.quiet) (kwx_check FB cB hC ?_)
  refine kwx_new FB cB cA cN hrest hC ?_
  show wpAny _ _ _ _ _ _
  have kp : ∀ b o, hp.get? b = some o → ((hp.push (PySem.W.kdv_tup rest)).push (PySem.HandSPX.excO C hp.objs.size)).get? b = some o := fun b o e => Heap.get?_push_of_some _ (Heap.get?_push_of_some _ e)
  have hC2 := kp _ _ hC
  have at2 : ((hp.push (PySem.W.kdv_tup rest)).push (PySem.HandSPX.excO C hp.objs.size)).get? (hp.objs.size + 1) = some (PySem.HandSPX.excO C hp.objs.size) := by heap_get
  have cC : (Value.ref C :: bm).contains (.ref C) = true := by simp
  have i2 := hi.keeps kp
  have b2 := (hb (.ref (hp.objs.size + 1))).keeps kp
  unfold isInstance
  repeat (first | with_reducible refine wpAny_loadPart_at at2 ?_ | (with_reducible refine wpAny_isSubtype_exc hC2 ?_; rw [cC]) | wp_step)
  show wpAny _ _ (typeLookup (.ref C) _) _ _ _
  refine i2.at (wpAny_holding (wpAny_bind (b2.at ?_)))
  refine wpAny_bind (wpAny_call (codeAny_mono go fun r s' z => ?_))
  rcases r with e | (v | _ | _ | _) <;> first | exact z | exact z.elim | skip
  obtain ⟨rfl, z⟩ := z
  first
    | exact wpAny_pure (wpAny_pure z)
    | (wp_walk; exact z)
theorem kwx_call (FB : ExcBaseFacts B newId initId bmB) (cB : (Value.ref C :: bm).contains (.type B) = true) (cA : (Value.ref C :: bm).contains (.type "AttributeError") = false) (cN : (Value.ref C :: bm).contains (.type "NameError") = false) (hrest : rest.length ≤ sizeLine) {fI : Addr} (hC : hp.get? C = some (excClassObj nm q C N bs bm hdct sn sub ab col dd k0 k1 k2 k3 k5 newId))
    (hi : PySem.W.Looks (model prog w) hp (typeLookup (.ref C) "__init__") (some (.ref fI))) (hb : ∀ self, PySem.W.Looks (model prog w) hp (bindSpecial (.ref fI) self) (.ref fI, [self]))
    (go : codeAny (model prog w) (A.under (.builtin "type.__call__" ⟨.ref C :: rest, kw⟩)) (.call (.ref fI) ⟨.ref (hp.objs.size + 1) :: rest, kw⟩) (PySem.W.InitBack (hp.objs.size + 1) R)
      ⟨(hp.push (PySem.W.kdv_tup rest)).push (PySem.HandSPX.excO C hp.objs.size), g, d, t, os⟩) : codeAny (model prog w) A (.call (.ref C) ⟨rest, kw⟩) R ⟨hp, g, d, t, os⟩ := by
  have l1 := tc_lookup
  have l2 := tc_bind (.ref C)
  have ty : (⟨hp, g, d, t, os⟩ : Shared).TypeIs (.ref C) "type" := ⟨_, hC, rfl⟩
  refine codeAny_of_tree ?_
  show wpAny _ _ (callAny (.ref C) _) _ _ _
  repeat (any_goals (first | assumption | with_reducible refine wpAny_loadPart_at hC ?_ | wp_step))
  refine ⟨rfl, ?_⟩
  refine codeAny_call_builtin_at (Code.quiet_builtin _ (by decide +kernel)) entry_typeCall (kwx_type hC (kwx_tc FB cB cA cN hrest hC hi hb ?_))
  refine codeAny_mono go fun r s' z => ?_
  rcases r with e | (v | _ | _ | _) <;> exact z
end
section
variable {X : Cx} {G : VG} {k j : Nat} {C fI : Addr} {fd : FuncData} {ps ns ks : List Str} {nm : Str} {kws : List Keyword} {tk : TA} {p pos : Pos} {newId initId B : String} {bmB bmN : List Value}
theorem pmk_ecK (x : VX X G k) (T : EcK X.K C bmB newId) (FB : ExcBaseFacts B newId initId bmN) (hno : ∀ f ∈ ns, PySem.W.findIn X.K (.ref C) f = some none) (iC : PySem.W.findIn X.K (.ref C) "__init__" = some (some (.ref fI))) (tI : PySem.W.typeIn X.K (.ref fI) = some (.type "function"))
    (F1 : FnG X.prog X.w X.K X.mg X.base j fI fd ps (spE X.K bmB newId ns)) (hj : j + 1 ≤ k) (hb : KBn X.K fd ps 1 ks (fun us ws => us ++ ws.reverse) (fun vs zs => vs ++ zs.reverse)) (hg : Gl X nm) (hm : X.mg nm = some (.ref C)) (hkw : PK X kws tk) (hkn : ks.length = ns.length)
    (hall : (backToKw pos (keywordEach kws X.env)).all (·.1.isSome) = true := by rfl) (hks : (backToKw pos (keywordEach kws X.env)).filterMap (·.1) = ks := by rfl)
    (hB : bmB.contains (.type B) = true := by decide +kernel) (hA : bmB.contains (.type "AttributeError") = false := by decide +kernel) (hN : bmB.contains (.type "NameError") = false := by decide +kernel) (hdb : (nm == ("__debug__" : Str)) = false := by decide) (hpl : ((backTo pos (starEach [] X.env)).any (·.1) || (backToKw pos (keywordEach kws X.env)).any (·.1.isNone)) = false := by rfl) :
    PMk X (.Call (.Name nm p) [] kws pos) (tMkE C ns (fun σ H Q => tk σ H fun zs H1 => Q zs.reverse H1)) := by
  intro pins s σ H Q I h
  refine wpAny_Call_Name_kw (ld_glob I hg hm ?_ hdb)
  refine PySem.W.callWith_KW0 (h₀ := X.base) I.ok.mod.kin T.kep hall (thn (hkw.run pos pins s σ H _ I h) fun ws s1 ⟨zs, H1, I1, r1, hn, hz, q1⟩ => ⟨I1.kIn, ?_⟩) hpl
  rw [hks]
  show wpAny _ _ (call (.ref C) [] (ks.zip ws)) _ _ _
  obtain ⟨n1, n2, n3, n4, bm, n6, n7, n8, n9, n10, n11, k0, k1, k2, k3, k5, hC, hbm⟩ := PySem.W.excInit_of I1.kIn T.ini
  obtain ⟨hh, gg, d0, t0, os0⟩ := s1
  have up : hh.objs.size ≤ hh.objs.size + 1 := Nat.le_succ _
  have un : H1 (hh.objs.size + 1) = none := I1.hok.fresh up
  have keep : ∀ b o, hh.get? b = some o → ((hh.push (PySem.W.kdv_tup [])).push (PySem.HandSPX.excO C hh.objs.size)).get? b = some o := fun b o e => Heap.get?_push_of_some _ (Heap.get?_push_of_some _ e)
  have made : ((hh.push (PySem.W.kdv_tup [])).push (PySem.HandSPX.excO C hh.objs.size)).get? (hh.objs.size + 1) = some (PySem.HandSPX.excO C hh.objs.size) := by heap_get
  have I2 : Inv X pins σ (upd H1 (hh.objs.size + 1) (exo (hh.objs.size + 1) C none)) ⟨(hh.push (PySem.W.kdv_tup [])).push (PySem.HandSPX.excO C hh.objs.size), gg, d0, t0, os0⟩ :=
    I1.laid (t' := t0) (a := hh.objs.size + 1) (o := exo (hh.objs.size + 1) C none) keep up (exo_ok made)
  have r0 : Vals [V.ref (hh.objs.size + 1)] [Value.ref (hh.objs.size + 1)] := .cons rfl .nil
  have r2 := hb.rel r0 r1
  have ln : zs.reverse.length = ns.length := hn
  have sp : spE X.K bmB newId ns ([V.ref (hh.objs.size + 1)] ++ zs.reverse) (upd H1 (hh.objs.size + 1) (exo (hh.objs.size + 1) C none)) (fun v H2 => v = .non ∧ ∃ d, EcDone (upd H1 (hh.objs.size + 1) (exo (hh.objs.size + 1) C none)) (hh.objs.size + 1) C d ((ns.zip zs.reverse).reverse) H2) (fun _ _ _ => False) :=
    ⟨_, C, zs.reverse, rfl, ln, T, hno, upd_same, fun d H' h => ⟨rfl, d, h⟩⟩
  have lw : ws.length = ks.length := by
    rw [← Paired.length r1, hkn, ← ln, List.length_reverse]
  have to := hb.to _ [Value.ref (hh.objs.size + 1)] ws I2.kIn rfl lw
  have cB : (Value.ref C :: bm).contains (.type B) = true := by rw [List.contains_cons, hbm, hB, Bool.or_true]
  have cA : (Value.ref C :: bm).contains (.type "AttributeError") = false := by rw [List.contains_cons, hbm, hA]; rfl
  have cN : (Value.ref C :: bm).contains (.type "NameError") = false := by rw [List.contains_cons, hbm, hN]; rfl
  refine wpAny_call (kwx_call FB cB cA cN (rest := []) (by simp) hC (PySem.W.looks_findIn I1.kIn iC) (fun self => PySem.W.bind_fn I1.kIn self tI)
    (codeAny_mono (F1.run _ X.stack _ _ ⟨[Value.ref (hh.objs.size + 1)], ks.zip ws⟩ _ _ _ (fun _ _ _ => False) ((x.room.mono hj).make C [] (ks.zip ws)) x.gds (I2.env0.make C [] (ks.zip ws)) to r2 sp) fun r s' back => ?_))
  cases r with
  | error er => exact absurd back (by
      intro z
      obtain ⟨_, _, _, _, _, _, _, _, _, _, _, _, f⟩ := z
      exact f)
  | ok fl =>
    cases fl with
    | ret u =>
      obtain ⟨v, H2, os2, bare2, un2, hok2, rv, ev, d, done⟩ := back
      subst ev
      obtain ⟨h2, g2, d2, t2, os'⟩ := s'
      obtain ⟨l1, l2⟩ := done_let un done
      exact ⟨rv, mk_end (raises_own T.sub T.typ) I1 up keep un2 hok2 os2 bare2 done.2.2.1 done.2.2.2.1 l1 (l2 ▸ q1 d l1)⟩
    | next => exact back.elim
    | brk => exact back.elim
    | cont => exact back.elim
end
noncomputable def aRev (fa : Lo → R (List D)) : Lo → R (List D) := fun ρ => (fa ρ).bind fun ds => .ok ds.reverse
theorem pmk_imp {X : Cx} {e : Expr} {t t' : L2.St → Hp → XK → Prop} (h : PMk X e t) (i : ∀ σ H Q, t' σ H Q → t σ H Q) : PMk X e t' := fun pins s σ H Q I q => h pins s σ H Q I (i σ H Q q)
theorem pmk_rev {X : Cx} {G : VG} {e : Expr} {C : Addr} {ns : List Str} {fa : Lo → R (List D)} (h : PMk X e (tMkE C ns (fun σ H Q => tA G fa σ H fun zs H1 => Q zs.reverse H1))) : PMk X e (tMkE C ns (tA G (aRev fa))) :=
  pmk_imp h fun σ H Q ⟨ρ, F, rl, o⟩ => ⟨ρ, F, rl, Out.bind (S' := fun ds vs H' F' => ShL G.K H' F' vs ds) o (fun _ _ _ _ _ _ _ h => h) fun ds vs H1 F1 ef l s o1 => by
    have o1 := o1 (S'' := fun ds vs H' F' => ShL G.K H' F' vs ds) fun _ _ _ _ h => h
    exact o1 _ H1 F1 (Le.refl l.the) s.rev⟩
end VL

namespace VL
open PyProof.Rows PySem L2 PySem.Spec
theorem store_KeyError : StoreFacts "KeyError" [.type "KeyError", .type "LookupError", .type "Exception", .type "BaseException", .type "object"] "object.__setattr__" "object" :=
  { PySem.F.store_LookupError with
    mro := by kernel_rfl
    slot := .of (n := "__setattr__") (owner := "object") (by rw [typeLookup_type, builtinLookup_eq_fast]; kernel_rfl) (by decide +kernel) (by decide +kernel) (by decide +kernel) (by first | exact .inl (by decide +kernel) | exact .inr (by decide +kernel)) (by rw [isSubtype_type]; kernel_rfl)
    hasOwner := by decide +kernel, passes := fun _ => by kernel_rfl }
section
variable {prog : Program} {w : World} {M : Model} {A : Around} {E : Value → Shared → Prop} {R : Result → Shared → Prop} {hp : Heap} {g : Array GenState} {d : Drawn} {t : Nat} {os : OsState}
variable {nm q : Str} {C N : Addr} {bs bm bmB : List Value} {hdct : Bool} {sn : List Str} {sub : List Value} {ab : Bool} {col : Option Bool} {dd : Option Addr} {k0 k1 k2 k3 k5 : Option Value} {newId : String}
theorem key_check {e : Addr} {oe : Obj} {rest : List Value} {Q : Unit → Shared → Prop} (cB : (Value.ref C :: bm).contains (.type "KeyError") = true) (hC : hp.get? C = some (excClassObj nm q C N bs bm hdct sn sub ab col dd k0 k1 k2 k3 k5 newId)) (he : hp.get? e = some oe) (ec : oe.cls = .ref C) (go : Q () ⟨hp, g, d, t, os⟩) :
    wpAny M A (checkBuiltinCall "KeyError.__init__" ⟨.ref e :: rest, []⟩) Q E ⟨hp, g, d, t, os⟩ := by
  have short := excClass_KeyError.notStar
  simp only [checkBuiltinCall, excClass_KeyError.initKind, excClass_KeyError.initSplit, excClass_KeyError.initSig]
  repeat (first | (with_reducible refine wpAny_loadPart_at he ?_; rw [ec]) | with_reducible refine wpAny_loadPart_at hC ?_ | (with_reducible refine wpAny_isSubtype_exc hC ?_; rw [cB]) | wp_step)
  refine wpAny_onRaise ?_
  rw [show ∀ (a b : String) (n : Nat), Bind.check ⟨.positional, "*", "KeyError", .self, [⟨"args", .varPos, false⟩]⟩ a b n (List.map (fun x => x.fst) ({ pos := Value.ref e :: rest } : Args).kw) = pure () from
    fun a b n => check_star_args _ _ _ _ _ _]
  exact wpAny_pure go
theorem key_init {e t0 : Addr} {rest : List Value} (cB : (Value.ref C :: bm).contains (.type "KeyError") = true) (hC : hp.get? C = some (excClassObj nm q C N bs bm hdct sn sub ab col dd k0 k1 k2 k3 k5 newId)) {o : Obj} (he : hp.get? e = some o) (ec : o.cls = .ref C) (ed : o.data = .fields #[.ref t0, .none, .none, .none, .bool false, .none]) (hrest : rest.length ≤ sizeLine)
    (go : ∀ h' t1, (∀ b o, b ≠ e → hp.get? b = some o → h'.get? b = some o) → h'.get? e = some { o with data := .fields #[.ref t1, .none, .none, .none, .bool false, .none] } → R (.ok (.ret .none)) ⟨h', g, d, t, os⟩) :
    codeAny (model prog w) A (.call (.builtin "KeyError.__init__") ⟨.ref e :: rest, []⟩) R ⟨hp, g, d, t, os⟩ := by
  obtain ⟨oc, od, oD, osl⟩ := o
  dsimp only at ec ed
  subst ec ed
  refine codeAny_call_builtin excClass_KeyError.init.plain excClass_KeyError.initEntry (key_check cB hC he rfl ?_)
  wp_walk
  refine go _ hp.objs.size (fun b u nb hu => ?_) ?_
  · rw [Heap.get?_update_other _ _ (Ne.symm nb)]
    exact Heap.get?_push_of_some _ hu
  · rw [Heap.get?_update_self _ (Heap.get?_push_of_some _ he) rfl]
    rfl
end
section
variable {X : Cx} {pins : List (Addr × Obj)} {σ : L2.St} {H : Hp} {s : Shared} {a C : Addr} {newId : String} {bmB : List Value} {A : Around} {E : Value → Shared → Prop}
theorem eci_key {us : List Value} {Q : Value → Shared → Prop} (hB : bmB.contains (.type "KeyError") = true) (T : EcK X.K C bmB newId) (I : Inv X pins σ H s) (ha : H a = some (exo a C none)) (hl : us.length ≤ sizeLine) (go : ∀ s', Inv X pins σ H s' → Q .none s') :
    wpAny (model X.prog X.w) A (call (.builtin "KeyError.__init__") (.ref a :: us)) Q E s := by
  obtain ⟨nm, N, qn, bs, bm, hdct, sn, sub, ab, col, dd, k0, k1, k2, k3, k5, hC, hbm⟩ := PySem.W.excInit_of I.kIn T.ini
  obtain ⟨t1, ho⟩ := exo_at I.hok ha
  obtain ⟨hh, gg, d0, t0, os0⟩ := s
  have cB : (Value.ref C :: bm).contains (.type "KeyError") = true := by rw [List.contains_cons, hbm, hB, Bool.or_true]
  refine wpAny_call (key_init cB hC ho rfl rfl hl fun h2 t2 keep hx => ?_)
  have J := I.write (t' := t0) (x := a) (e := a) (o := exo a C none) (by rw [ha]; exact True.intro) (.inl rfl) keep ⟨_, hx⟩ (exo_ok hx)
  have same : upd H a (exo a C none) = H := by
    funext b
    by_cases c : b = a
    · rw [c, upd_same, ha]
    · rw [upd_ne c]
  rw [same] at J
  exact go _ J
end
section
variable {X : Cx} {e : Expr} {es : List Expr} {ta : TA} {x : Str} {p1 p2 pos : Pos} {newId : String} {bmB : List Value}
theorem pe_ecinitKey (hB : bmB.contains (.type "KeyError") = true) (hg : Gl X x) (hm : X.mg x = none) (hb : bootBuiltins x = some (.type "KeyError")) (ht : typeOf (.type "KeyError") = pure (.type "type")) (hst : Manifest.isStub "KeyError" = false)
    (fS : PySem.W.findCls X.K (.type "KeyError") (.type "type") "__init__" = some (.val (.builtin "KeyError.__init__"))) (hh : PySem.W.handedIn (.builtin "KeyError.__init__") = true) (ha : PA X (e :: es) ta) (hn : x ≠ "__name__" := by decide) (hdb : (x == ("__debug__" : Str)) = false := by decide) {pl : Sem Bool}
    (hc : eval (.Call (.Attribute (.Name x p1) "__init__" p2) (e :: es) [] pos) X.env = (do
      let q ← eval (.Name x p1) X.env
      standAt p2.atName
      let (g, us) ← holding [q] (getMethod q "__init__" pl)
      callWith pos g us (backTo pos (starEach (e :: es) X.env)) (backToKw pos (keywordEach [] X.env))) := by rfl)
    (he : starEach (e :: es) X.env = (false, eval e X.env) :: starEach es X.env := by rfl) (hpl : (backTo pos (starEach es X.env)).any (·.1) = false := by rfl) :
    PE X (.Call (.Attribute (.Name x p1) "__init__" p2) (e :: es) [] pos) (tEcI X.K bmB newId ta) := by
  refine ⟨fun pins s σ H Q I h => ?_⟩
  refine PySem.W.methodCall_KW (ld_blt I hg hm hb ?_ hn hdb) hc
  obtain ⟨mm, fr⟩ := I.fr
  refine PySem.W.method_type fr I.ok.mod.kin ht hst fS hh ?_
  show wpAny _ _ (callWith pos (Value.builtin "KeyError.__init__") [] (backTo pos (starEach (e :: es) X.env)) []) _ _ _
  refine PyProof.Rows.callWith_method1 (thn (ha.run pos pins _ σ H _ (I.tok _) h) fun us s1 ⟨vs, H1, I1, r1, a, C, ws, ev, hl, T, ea, q⟩ => ?_) he hpl
  subst ev
  cases r1 with
  | @cons _ u0 _ ur ra rw' =>
    obtain rfl : u0 = Value.ref a := ra
    exact eci_key hB T I1 ea (by rw [← Paired.length rw', sizeLine_eq]; (first | lia | omega)) fun s' J => ⟨.non, H1, J, rfl, q⟩
end
section
variable {X : Cx} {G : VG} {k j : Nat} {C fI : Addr} {fd : FuncData} {ps ns : List Str} {nm : Str} {e : Expr} {es : List Expr} {ta : TA} {p pos : Pos} {newId initId B : String} {bmB bmN : List Value}
theorem pmk_ecX (x : VX X G k) (T : EcK X.K C bmB newId) (FB : ExcBaseFacts B newId initId bmN) (hno : ∀ f ∈ ns, PySem.W.findIn X.K (.ref C) f = some none) (iC : PySem.W.findIn X.K (.ref C) "__init__" = some (some (.ref fI))) (tI : PySem.W.typeIn X.K (.ref fI) = some (.type "function"))
    (F1 : FnG X.prog X.w X.K X.mg X.base j fI fd ps (spE X.K bmB newId ns)) (hj : j + 1 ≤ k) (hb : Binds X.K fd ps []) (hg : Gl X nm) (hm : X.mg nm = some (.ref C)) (ha : PA X (e :: es) ta)
    (hB : bmB.contains (.type B) = true := by decide +kernel) (hA : bmB.contains (.type "AttributeError") = false := by decide +kernel) (hN : bmB.contains (.type "NameError") = false := by decide +kernel)
    (hdb : (nm == ("__debug__" : Str)) = false := by decide) (he : starEach (e :: es) X.env = (false, eval e X.env) :: starEach es X.env := by rfl) (hpl : (backTo pos (starEach es X.env)).any (·.1) = false := by rfl) :
    PMk X (.Call (.Name nm p) (e :: es) [] pos) (tMkE C ns ta) := by
  intro pins s σ H Q I h
  refine wpAny_Call_Name_kw (ld_glob I hg hm ?_ hdb)
  refine PySem.W.callWith_K (h₀ := X.base) I.ok.mod.kin T.kep (thn (ha.run pos pins s σ H _ I h) fun us s1 ⟨vs, H1, I1, r1, hn, hz, q1⟩ => ⟨I1.kIn, ?_⟩) he hpl
  show wpAny _ _ (call (.ref C) us) _ _ _
  obtain ⟨n1, n2, n3, n4, bm, n6, n7, n8, n9, n10, n11, k0, k1, k2, k3, k5, hC, hbm⟩ := PySem.W.excInit_of I1.kIn T.ini
  obtain ⟨hh, gg, d0, t0, os0⟩ := s1
  have up : hh.objs.size ≤ hh.objs.size + 1 := Nat.le_succ _
  have un : H1 (hh.objs.size + 1) = none := I1.hok.fresh up
  have keep : ∀ b o, hh.get? b = some o → ((hh.push (PySem.W.kdv_tup us)).push (PySem.HandSPX.excO C hh.objs.size)).get? b = some o := fun b o e => Heap.get?_push_of_some _ (Heap.get?_push_of_some _ e)
  have made : ((hh.push (PySem.W.kdv_tup us)).push (PySem.HandSPX.excO C hh.objs.size)).get? (hh.objs.size + 1) = some (PySem.HandSPX.excO C hh.objs.size) := by heap_get
  have I2 : Inv X pins σ (upd H1 (hh.objs.size + 1) (exo (hh.objs.size + 1) C none)) ⟨(hh.push (PySem.W.kdv_tup us)).push (PySem.HandSPX.excO C hh.objs.size), gg, d0, t0, os0⟩ :=
    I1.laid (t' := t0) (a := hh.objs.size + 1) (o := exo (hh.objs.size + 1) C none) keep up (exo_ok made)
  have r2 : Vals (V.ref (hh.objs.size + 1) :: vs) (Value.ref (hh.objs.size + 1) :: us) := .cons rfl r1
  have sp : spE X.K bmB newId ns (V.ref (hh.objs.size + 1) :: vs) (upd H1 (hh.objs.size + 1) (exo (hh.objs.size + 1) C none)) (fun v H2 => v = .non ∧ ∃ d, EcDone (upd H1 (hh.objs.size + 1) (exo (hh.objs.size + 1) C none)) (hh.objs.size + 1) C d ((ns.zip vs).reverse) H2) (fun _ _ _ => False) :=
    ⟨_, C, vs, rfl, hn, T, hno, upd_same, fun d H' h => ⟨rfl, d, h⟩⟩
  have hlen : (Value.ref (hh.objs.size + 1) :: us ++ []).length = ps.length := by
    rw [List.append_nil, ← r2.length]
    exact F1.len _ _ _ _ sp
  have hus : us.length ≤ sizeLine := by
    rw [← Paired.length r1, sizeLine_eq]
    (first | lia | omega)
  have cB : (Value.ref C :: bm).contains (.type B) = true := by rw [List.contains_cons, hbm, hB, Bool.or_true]
  have cA : (Value.ref C :: bm).contains (.type "AttributeError") = false := by rw [List.contains_cons, hbm, hA]; rfl
  have cN : (Value.ref C :: bm).contains (.type "NameError") = false := by rw [List.contains_cons, hbm, hN]; rfl
  have to := hb _ (Value.ref (hh.objs.size + 1) :: us) I2.kIn hlen
  rw [List.append_nil] at to
  refine wpAny_call (kwx_call FB cB cA cN hus (kw := []) hC (PySem.W.looks_findIn I1.kIn iC) (fun self => PySem.W.bind_fn I1.kIn self tI)
    (codeAny_mono (F1.run _ X.stack _ _ ⟨Value.ref (hh.objs.size + 1) :: us, []⟩ (Value.ref (hh.objs.size + 1) :: us) _ _ (fun _ _ _ => False) ((x.room.mono hj).make C us []) x.gds (I2.env0.make C us []) to r2 sp) fun r s' back => ?_))
  cases r with
  | error er => exact absurd back (by
      intro z
      obtain ⟨_, _, _, _, _, _, _, _, _, _, _, _, f⟩ := z
      exact f)
  | ok fl =>
    cases fl with
    | ret u =>
      obtain ⟨v, H2, os2, bare2, un2, hok2, rv, ev, d, done⟩ := back
      subst ev
      obtain ⟨h2, g2, d2, t2, os'⟩ := s'
      obtain ⟨l1, l2⟩ := done_let un done
      exact ⟨rv, mk_end (raises_own T.sub T.typ) I1 up keep un2 hok2 os2 bare2 done.2.2.1 done.2.2.2.1 l1 (l2 ▸ q1 d l1)⟩
    | next => exact back.elim
    | brk => exact back.elim
    | cont => exact back.elim
end
theorem vals_rev : ∀ {vs : List V} {us : List Value}, Vals vs us → Vals vs.reverse us.reverse
  | _, _, .nil => .nil
  | _, _, .cons h r => by
    rw [List.reverse_cons, List.reverse_cons]
    exact (vals_rev r).append (.cons h .nil)
end VL

namespace VL
open PyProof.Rows PySem L2 PySem.Spec
section
variable {X : Cx} {G : VG} {k : Nat} {m m1 m2 : Md} {e ie : Expr} {es : List Expr} {f fe : Lo → R D} {ft : Lo → R (List D)} {pos pos' p1 p2 : Pos}
end
end VL

namespace VL
open PyProof.Rows PySem L2 PySem.Spec

section
variable {α β : Type} {a : α} {f : α → R β} {c : Str} {fs : List (Str × D)} {ρ ρ' : Lo} {d : D} {k : α → Fl} {g : Lo → Fl}
@[simp] theorem bind_ok : (R.ok a).bind f = f a := (rfl)
@[simp] theorem bind_ex : (R.ex c fs : R α).bind f = .ex c fs := (rfl)
@[simp] theorem bind_bad : (R.bad : R α).bind f = .bad := (rfl)
@[simp] theorem fb_ok : fb (.ok a) ρ k = k a := (rfl)
@[simp] theorem fb_ex : fb (.ex c fs : R α) ρ k = .ex c fs ρ := (rfl)
@[simp] theorem fb_bad : fb (.bad : R α) ρ k = .bad := (rfl)
@[simp] theorem opt_some : R.opt (some a) = .ok a := (rfl)
@[simp] theorem opt_none : R.opt (none : Option α) = .bad := (rfl)
noncomputable def Fl.go : Fl → (Lo → Fl) → Fl
  | .nx ρ, g => g ρ
  | .bk ρ, _ => .bk ρ
  | .ct ρ, _ => .ct ρ
  | .rt d, _ => .rt d
  | .ex c fs ρ, _ => .ex c fs ρ
  | .bad, _ => .bad
@[simp] theorem go_nx : (Fl.nx ρ).go g = g ρ := (rfl)
@[simp] theorem go_bk : (Fl.bk ρ).go g = .bk ρ := (rfl)
@[simp] theorem go_ct : (Fl.ct ρ).go g = .ct ρ := (rfl)
@[simp] theorem go_rt : (Fl.rt d).go g = .rt d := (rfl)
@[simp] theorem go_ex : (Fl.ex c fs ρ).go g = .ex c fs ρ := (rfl)
@[simp] theorem go_bad : Fl.bad.go g = .bad := (rfl)
@[simp] theorem sq_go (f g : Lo → Fl) : sq f g ρ = (f ρ).go g := by
  unfold sq Fl.go
  cases f ρ <;> rfl
noncomputable def Fl.fin : Fl → R D
  | .rt d => .ok d
  | .nx _ => .ok .non
  | .ex c fs _ => .ex c fs
  | _ => .bad
@[simp] theorem fin_rt : (Fl.rt d).fin = .ok d := (rfl)
@[simp] theorem fin_nx : (Fl.nx ρ).fin = .ok .non := (rfl)
@[simp] theorem fin_ex : (Fl.ex c fs ρ).fin = .ex c fs := (rfl)
theorem runF_fin (b : Lo → Fl) (n : Nat) (ds : List D) : runF b n ds = (b (ds.map Sl.sh ++ List.replicate (n - ds.length) .no)).fin := by
  unfold runF Fl.fin
  cases b (ds.map Sl.sh ++ List.replicate (n - ds.length) .no) <;> rfl
noncomputable def Sl.val : Option Sl → R D
  | some (.sh d) => .ok d
  | _ => .bad
noncomputable def Sl.bor : Option Sl → R D
  | some (.sh d) => .ok d
  | some (.ow d) => .ok d
  | _ => .bad
@[simp] theorem val_sh : Sl.val (some (.sh d)) = .ok d := (rfl)
@[simp] theorem bor_sh : Sl.bor (some (.sh d)) = .ok d := (rfl)
@[simp] theorem bor_ow : Sl.bor (some (.ow d)) = .ok d := (rfl)
@[simp] theorem eV_ap (i : Nat) : eV i ρ = Sl.val ρ[i]? := by
  unfold eV Sl.val
  split <;> simp_all
@[simp] theorem eC_ap : eC d ρ = .ok d := (rfl)
@[simp] theorem b1_ap (fa : Lo → R D) (op : D → Option D) : b1 fa op ρ = (fa ρ).bind fun x => R.opt (op x) := (rfl)
@[simp] theorem b2_ap (fa fb : Lo → R D) (op : D → D → Option D) : b2 fa fb op ρ = (fa ρ).bind fun x => (fb ρ).bind fun y => R.opt (op x y) := (rfl)
noncomputable def thn3 (fc : R D) (op' : D → Option D) : Option D → R D
  | some (.bl true) => fc.bind fun z => R.opt (op' z)
  | some (.bl false) => .ok (.bl false)
  | _ => .bad
@[simp] theorem thn3_t (fc : R D) (op' : D → Option D) : thn3 fc op' (some (.bl true)) = fc.bind fun z => R.opt (op' z) := (rfl)
@[simp] theorem thn3_f (fc : R D) (op' : D → Option D) : thn3 fc op' (some (.bl false)) = .ok (.bl false) := (rfl)
@[simp] theorem b3_ap (fa fb fc : Lo → R D) (op op' : D → D → Option D) : b3 fa fb fc op op' ρ = (fa ρ).bind fun x => (fb ρ).bind fun y => thn3 (fc ρ) (op' y) (op x y) := by
  unfold b3 thn3
  cases fa ρ with
  | ok x =>
    cases fb ρ with
    | ok y => simp only [bind_ok] <;> (split <;> simp_all)
    | _ => rfl
  | _ => rfl
noncomputable def R.tru : R D → R Bool
  | .ok (.bl b) => .ok b
  | .ex c fs => .ex c fs
  | _ => .bad
@[simp] theorem tru_bl (b : Bool) : (R.ok (.bl b)).tru = .ok b := (rfl)
@[simp] theorem tb_ap (f : Lo → R D) : tb f ρ = (f ρ).tru := by
  unfold tb R.tru
  cases f ρ with
  | ok d => cases d <;> rfl
  | _ => rfl
@[simp] theorem tAndB_ap (f g : Lo → R Bool) : tAndB f g ρ = (f ρ).bind fun b => if b = true then g ρ else .ok false := (rfl)
@[simp] theorem tOrB_ap (f g : Lo → R Bool) : tOrB f g ρ = (f ρ).bind fun b => if b = true then .ok true else g ρ := (rfl)
@[simp] theorem tNotB_ap (f : Lo → R Bool) : tNotB f ρ = (f ρ).bind fun b => .ok (!b) := (rfl)
@[simp] theorem aNil_ap : aNil ρ = .ok [] := (rfl)
@[simp] theorem aCons_ap (f : Lo → R D) (g : Lo → R (List D)) : aCons f g ρ = (f ρ).bind fun d => (g ρ).bind fun ds => .ok (d :: ds) := (rfl)
@[simp] theorem eTup_ap (f : Lo → R (List D)) : eTup f ρ = (f ρ).bind fun ds => if fits ds.length = true then .ok (.tup ds) else .bad := (rfl)
@[simp] theorem eLst_ap (f : Lo → R (List D)) : eLst f ρ = (f ρ).bind fun ds => if fits ds.length = true then .ok (.lst ds) else .bad := (rfl)
@[simp] theorem eCall_ap (g : List D → R D) (fa : Lo → R (List D)) : eCall g fa ρ = (fa ρ).bind g := (rfl)
@[simp] theorem oN_ap : oN ρ = .ok none := (rfl)
noncomputable def R.oint : R D → R (Option Int)
  | .ok (.int i) => .ok (some i)
  | .ex c fs => .ex c fs
  | _ => .bad
@[simp] theorem oint_ok (i : Int) : (R.ok (.int i)).oint = .ok (some i) := (rfl)
@[simp] theorem oS_ap (f : Lo → R D) : oS f ρ = (f ρ).oint := by
  unfold oS R.oint
  cases f ρ with
  | ok d => cases d <;> rfl
  | _ => rfl
@[simp] theorem eSl_ap (fa : Lo → R D) (fl fh : Lo → R (Option Int)) : eSl fa fl fh ρ = (fa ρ).bind fun x => (fl ρ).bind fun lo => (fh ρ).bind fun hi => R.opt (opCut lo hi x) := (rfl)
@[simp] theorem items_lst (xs : List D) : items (.lst xs) = .ok xs := (rfl)
@[simp] theorem items_tup (xs : List D) : items (.tup xs) = .ok xs := (rfl)
@[simp] theorem items_ctp (xs : List D) : items (.ctp xs) = .ok xs := (rfl)
noncomputable def rangeD : D → R (List D)
  | .int j => if (fits62 j && fits j.toNat) = true then .ok (rng 0 j) else .bad
  | _ => .bad
@[simp] theorem iR1_ap (f : Lo → R D) : iR1 f ρ = (f ρ).bind rangeD := by
  unfold iR1 rangeD
  cases f ρ with
  | ok d => cases d <;> rfl
  | _ => rfl
noncomputable def enD : D → R (List D)
  | .lst xs => .ok (enumD xs)
  | _ => .bad
@[simp] theorem enD_lst (xs : List D) : enD (.lst xs) = .ok (enumD xs) := (rfl)
@[simp] theorem iE_ap (f : Lo → R D) : iE f ρ = (f ρ).bind enD := by
  unfold iE enD
  cases f ρ with
  | ok d => cases d <;> rfl
  | _ => rfl
@[simp] theorem gS_ap (i : Nat) (d : D) : gS i d ρ = .ok (ρ.set i (.sh d)) := (rfl)
@[simp] theorem gNil_ap : gNil2 [] ρ = .ok ρ := (rfl)
@[simp] theorem gCons_ap (g : D → Lo → R Lo) (gr : List D → Lo → R Lo) (r : List D) : gCons2 g gr (d :: r) ρ = (g d ρ).bind fun ρ' => gr r ρ' := (rfl)
@[simp] theorem gT_ap (n : Nat) (g : List D → Lo → R Lo) (ds : List D) : gT2 n g (.tup ds) ρ = if ds.length = n then g ds ρ else .bad := (rfl)
@[simp] theorem sNx_ap : sNx ρ = .nx ρ := (rfl)
@[simp] theorem sFz_ap (i : Nat) : sFz i g ρ = g (fz i ρ) := (rfl)
@[simp] theorem sSet_ap (i : Nat) (f : Lo → R D) : sSet i f ρ = fb (f ρ) ρ fun d => .nx (ρ.set i (.sh d)) := (rfl)
@[simp] theorem sNew_ap (i : Nat) (f : Lo → R D) : sNew i f ρ = fb (f ρ) ρ fun d => .nx (ρ.set i (nSl d)) := (rfl)
@[simp] theorem nSl_lst (xs : List D) : nSl (.lst xs) = .ow (.lst xs) := (rfl)
@[simp] theorem nSl_tup (xs : List D) : nSl (.tup xs) = .sh (.tup xs) := (rfl)
@[simp] theorem nSl_int (i : Int) : nSl (.int i) = .sh (.int i) := (rfl)
@[simp] theorem nSl_dic (xs : List (D × D)) : nSl (.dic xs) = .ow (.dic xs) := (rfl)
@[simp] theorem sRet_ap (f : Lo → R D) : sRet f ρ = fb (f ρ) ρ fun d => .rt d := (rfl)
@[simp] theorem sIf_ap (c : Lo → R Bool) (f g : Lo → Fl) : sIf c f g ρ = fb (c ρ) ρ fun b => if b = true then f ρ else g ρ := (rfl)
@[simp] theorem sFor_ap (it : Lo → R (List D)) (asg : D → Lo → R Lo) (body : Lo → Fl) : sFor it asg body ρ = fb (it ρ) ρ fun ds => forL asg body ds ρ := (rfl)
@[simp] theorem eLc_ap (it : Lo → R (List D)) (asg : D → Lo → R Lo) (tst : Lo → R Bool) (elt : Lo → R D) (vs : List Nat) : eLc it asg tst elt vs ρ = (it ρ).bind fun ds => (lcL asg tst elt (wipeL ρ vs) ds).bind fun es => .ok (.lst es) := (rfl)
@[simp] theorem wipe_nil : wipeL ρ [] = ρ := (rfl)
@[simp] theorem wipe_cons (v : Nat) (vs : List Nat) : wipeL ρ (v :: vs) = (wipeL ρ vs).set v .no := (rfl)
@[simp] theorem tsY_ap : tsY ρ = .ok true := (rfl)
end
noncomputable def fzS (i : Nat) (ρ : Lo) : Option Sl → Lo
  | some (.ow d) => ρ.set i (.sh d)
  | _ => ρ
@[simp] theorem fzS_ow (i : Nat) (ρ : Lo) (d : D) : fzS i ρ (some (.ow d)) = ρ.set i (.sh d) := (rfl)
@[simp] theorem fzS_sh (i : Nat) (ρ : Lo) (d : D) : fzS i ρ (some (.sh d)) = ρ := (rfl)
@[simp] theorem fzS_no (i : Nat) (ρ : Lo) : fzS i ρ (some .no) = ρ := (rfl)
@[simp] theorem fz_ap (i : Nat) (ρ : Lo) : fz i ρ = fzS i ρ ρ[i]? := by
  unfold fz fzS
  split <;> simp_all
noncomputable def augS (i : Nat) (op : D → D → Option D) (f : R D) (ρ : Lo) : Option Sl → Fl
  | some (.sh x) => fb f ρ fun y => fb (R.opt (op x y)) ρ fun z => .nx (ρ.set i (.sh z))
  | _ => .bad
@[simp] theorem augS_sh (i : Nat) (op : D → D → Option D) (f : R D) (ρ : Lo) (x : D) : augS i op f ρ (some (.sh x)) = fb f ρ fun y => fb (R.opt (op x y)) ρ fun z => .nx (ρ.set i (.sh z)) := (rfl)
noncomputable def appS (i : Nat) (f : R D) (ρ : Lo) : Option Sl → Fl
  | some (.ow (.lst ds)) => fb f ρ fun d => if fits (ds.length + 1) = true then .nx (ρ.set i (.ow (.lst (ds ++ [d])))) else .bad
  | _ => .bad
@[simp] theorem appS_ow (i : Nat) (f : R D) (ρ : Lo) (ds : List D) : appS i f ρ (some (.ow (.lst ds))) = fb f ρ fun d => if fits (ds.length + 1) = true then .nx (ρ.set i (.ow (.lst (ds ++ [d])))) else .bad := (rfl)
@[simp] theorem sApp_ap (i : Nat) (f : Lo → R D) (ρ : Lo) : sApp i f ρ = appS i (f ρ) ρ ρ[i]? := by
  unfold sApp appS
  split <;> simp_all

noncomputable def Fl.ends (P : Lo → Prop) (Post : Fl → Prop) : Fl → Prop
  | .nx ρ => P ρ
  | .ct ρ => P ρ
  | .bk ρ => Post (.nx ρ)
  | .rt d => Post (.rt d)
  | .ex c fs ρ => Post (.ex c fs ρ)
  | .bad => False
@[simp] theorem ends_nx (P : Lo → Prop) (Post : Fl → Prop) (ρ : Lo) : (Fl.nx ρ).ends P Post = P ρ := (rfl)
@[simp] theorem ends_ct (P : Lo → Prop) (Post : Fl → Prop) (ρ : Lo) : (Fl.ct ρ).ends P Post = P ρ := (rfl)
@[simp] theorem ends_bk (P : Lo → Prop) (Post : Fl → Prop) (ρ : Lo) : (Fl.bk ρ).ends P Post = Post (.nx ρ) := (rfl)
@[simp] theorem ends_rt (P : Lo → Prop) (Post : Fl → Prop) (d : D) : (Fl.rt d).ends P Post = Post (.rt d) := (rfl)
@[simp] theorem ends_ex (P : Lo → Prop) (Post : Fl → Prop) (c : Str) (fs : List (Str × D)) (ρ : Lo) : (Fl.ex c fs ρ).ends P Post = Post (.ex c fs ρ) := (rfl)
theorem forL_post {asg : D → Lo → R Lo} {body : Lo → Fl} {Post : Fl → Prop} (P : List D → Lo → Prop) (hs : ∀ d r ρ, P (d :: r) ρ → ∃ ρ1, asg d ρ = .ok ρ1 ∧ (body ρ1).ends (P r) Post) (hd : ∀ ρ, P [] ρ → Post (.nx ρ)) : ∀ {ds : List D} {ρ : Lo}, P ds ρ → Post (forL asg body ds ρ)
  | [], ρ, h => hd ρ h
  | d :: r, ρ, h => by
    obtain ⟨ρ1, e, z⟩ := hs d r ρ h
    unfold forL
    rw [e]
    dsimp only
    cases q : body ρ1 with
    | nx ρ2 => rw [q] at z; exact forL_post P hs hd (ds := r) z
    | ct ρ2 => rw [q] at z; exact forL_post P hs hd (ds := r) z
    | bk ρ2 => rw [q] at z; exact z
    | rt d => rw [q] at z; exact z
    | ex c fs ρ => rw [q] at z; exact z
    | bad => rw [q] at z; exact z.elim
theorem lcL_enc {α : Type} {asg : D → Lo → R Lo} {tst : Lo → R Bool} {elt : Lo → R D} {ρ : Lo} (enc : α → D) (p : α → Bool) (f : α → D) : ∀ {l : List α}, (∀ a ∈ l, ∃ ρ1, asg (enc a) ρ = .ok ρ1 ∧ tst ρ1 = .ok (p a) ∧ (p a = true → elt ρ1 = .ok (f a))) → lcL asg tst elt ρ (l.map enc) = .ok ((l.filter p).map f)
  | [], _ => rfl
  | a :: r, h => by
    obtain ⟨ρ1, e1, e2, e3⟩ := h a (by simp)
    have ih := lcL_enc enc p f (l := r) fun z hz => h z (by simp [hz])
    rw [List.map_cons]
    unfold lcL
    rw [e1]
    dsimp only
    rw [e2]
    cases q : p a with
    | true => dsimp only; rw [e3 q, ih]; simp [q]
    | false => dsimp only; rw [ih]; simp [q]
theorem lcL_encM {α : Type} {asg : D → Lo → R Lo} {elt : Lo → R D} {ρ : Lo} (enc f : α → D) {l : List α} (h : ∀ a ∈ l, ∃ ρ1, asg (enc a) ρ = .ok ρ1 ∧ elt ρ1 = .ok (f a)) : lcL asg tsY elt ρ (l.map enc) = .ok (l.map f) := by
  rw [lcL_enc enc (fun _ => true) f fun d hd => by
    obtain ⟨ρ1, a, b⟩ := h d hd
    exact ⟨ρ1, a, rfl, fun _ => b⟩, List.filter_eq_self.mpr fun _ _ => rfl]

noncomputable def Lay (k : Nat) (d : D) : Prop := (py d).canLay0 = true ∧ (py d).depth ≤ k
theorem sha_of {k : Nat} {d : D} (h : Lay k d) (hk : k ≤ 64) : d.sha = true := by
  unfold D.sha SeqAt.shaped
  rw [h.1, decide_eq_true (Nat.le_trans h.2 hk)]
  rfl
theorem lay_i (i : Int) : Lay 0 (.int i) := ⟨by simp [py, PyData.canLay0], by simp [py, PyData.depth]⟩
theorem lay_b (i : Bool) : Lay 0 (.bl i) := ⟨by simp [py, PyData.canLay0], by simp [py, PyData.depth]⟩
theorem Lay.up {k j : Nat} {d : D} (h : Lay k d) (hk : k ≤ j) : Lay j d := ⟨h.1, Nat.le_trans h.2 hk⟩
theorem layL {k : Nat} : ∀ {ds : List D}, (∀ d ∈ ds, Lay k d) → PyData.canLayAll0 (pyL ds) = true ∧ PyData.depthAll (pyL ds) ≤ k
  | [], _ => ⟨by simp [pyL, PyData.canLayAll0], by simp [pyL, PyData.depthAll]⟩
  | d :: ds, h => by
    obtain ⟨a, b⟩ := layL (ds := ds) fun z hz => h z (by simp [hz])
    obtain ⟨c, e⟩ := h d (by simp)
    refine ⟨by simp [pyL, PyData.canLayAll0, a, c], ?_⟩
    simp only [pyL, PyData.depthAll]
    (first | lia | omega)
theorem lay_lst {k : Nat} {ds : List D} (h : ∀ d ∈ ds, Lay k d) : Lay (k + 1) (.lst ds) := by
  obtain ⟨a, b⟩ := layL h
  exact ⟨by simp [py, PyData.canLay0, a], by simp only [py, PyData.depth]; (first | lia | omega)⟩
theorem opEq_sh {a b : D} {j k : Nat} (h1 : Lay j a) (h2 : Lay k b) (hj : j ≤ 64) (hk : k ≤ 64) : opEq a b = some (.bl (a.eqv b)) := by
  unfold opEq
  rw [sha_of h1 hj, sha_of h2 hk]
  rfl
theorem opNe_sh {a b : D} {j k : Nat} (h1 : Lay j a) (h2 : Lay k b) (hj : j ≤ 64) (hk : k ≤ 64) : opNe a b = some (.bl (!a.eqv b)) := by
  unfold opNe
  rw [sha_of h1 hj, sha_of h2 hk]
  rfl
theorem eqv_nil (xs : List D) : D.eqv (.lst xs) (.lst []) = xs.isEmpty := by
  cases xs <;> simp [D.eqv, py, pyL, PyData.eqv, PyData.eqvAll]
theorem opEq_nil {xs : List D} {k : Nat} (h : ∀ d ∈ xs, Lay k d) (hk : k < 64) : opEq (.lst xs) (.lst []) = some (.bl xs.isEmpty) := by
  rw [opEq_sh (lay_lst h) (lay_lst (k := 0) (ds := []) fun d hd => by simp at hd) (by (first | lia | omega)) (by (first | lia | omega)), eqv_nil]
@[simp] theorem opAdd_ii (i j : Int) : opAdd (.int i) (.int j) = some (.int (i + j)) := (rfl)
@[simp] theorem opSub_ii (i j : Int) : opSub (.int i) (.int j) = some (.int (i - j)) := (rfl)
theorem opMul_ii {i j : Int} (h : (small64 i || small64 j) = true) : opMul (.int i) (.int j) = some (.int (i * j)) := if_pos h
theorem opMod_ii {i j : Int} (h : 0 < j) : opMod (.int i) (.int j) = some (.int (i % j)) := if_pos (decide_eq_true h)
theorem opDiv_ii {i j : Int} (h : 0 < j ∧ j < 1073741824) : opDiv (.int i) (.int j) = some (.int (i / j)) := if_pos (decide_eq_true h)
@[simp] theorem opNeg_i (i : Int) : opNeg (.int i) = some (.int (-i)) := (rfl)
@[simp] theorem opLt_ii (i j : Int) : opLt (.int i) (.int j) = some (.bl (decide (i < j))) := (rfl)
@[simp] theorem opGt_ii (i j : Int) : opGt (.int i) (.int j) = some (.bl (decide (j < i))) := (rfl)
@[simp] theorem opGe_ii (i j : Int) : opGe (.int i) (.int j) = some (.bl (decide (j ≤ i))) := (rfl)
@[simp] theorem opLen_l (ds : List D) : opLen (.lst ds) = some (.int ds.length) := (rfl)
@[simp] theorem opLen_t (ds : List D) : opLen (.tup ds) = some (.int ds.length) := (rfl)
@[simp] theorem opLen_c (ds : List D) : opLen (.ctp ds) = some (.int ds.length) := (rfl)
@[simp] theorem opIx_l (ds : List D) (i : Int) : opIx (.lst ds) (.int i) = atI ds i := (rfl)
@[simp] theorem opIx_t (ds : List D) (i : Int) : opIx (.tup ds) (.int i) = atI ds i := (rfl)
@[simp] theorem opIx_c (ds : List D) (i : Int) : opIx (.ctp ds) (.int i) = atI ds i := (rfl)
@[simp] theorem opCut_l (ds : List D) (lo hi : Option Int) : opCut lo hi (.lst ds) = some (.lst (cutD ds lo hi)) := (rfl)
@[simp] theorem opCut_t (ds : List D) (lo hi : Option Int) : opCut lo hi (.tup ds) = some (.tup (cutD ds lo hi)) := (rfl)
@[simp] theorem opMax_ii (i j : Int) : opMax (.int i) (.int j) = some (.int (if j > i then j else i)) := (rfl)
@[simp] theorem opInt_b (b : Bool) : opInt (.bl b) = some (.int (if b then 1 else 0)) := (rfl)
@[simp] theorem opInt_i (i : Int) : opInt (.int i) = some (.int i) := (rfl)
theorem sha_i (i : Int) : (D.int i).sha = true := by
  simp [D.sha, py, SeqAt.shaped, PyData.canLay0, PyData.depth]
theorem sha_b (i : Bool) : (D.bl i).sha = true := by
  simp [D.sha, py, SeqAt.shaped, PyData.canLay0, PyData.depth]
@[simp] theorem opEq_bb (a b : Bool) : opEq (.bl a) (.bl b) = some (.bl (a == b)) := by
  simp [opEq, sha_b, D.eqv, py, PyData.eqv]
@[simp] theorem opNe_bb (a b : Bool) : opNe (.bl a) (.bl b) = some (.bl (a != b)) := by
  simp [opNe, sha_b, D.eqv, py, PyData.eqv, bne]
@[simp] theorem opEq_ii (a b : Int) : opEq (.int a) (.int b) = some (.bl (a == b)) := by
  simp [opEq, sha_i, D.eqv, py, PyData.eqv]
@[simp] theorem opNe_ii (a b : Int) : opNe (.int a) (.int b) = some (.bl (a != b)) := by
  simp [opNe, sha_i, D.eqv, py, PyData.eqv, bne]
@[simp] theorem opNe_ss (a b : Str) : opNe (.str a) (.str b) = some (.bl (a != b)) := by
  simp [opNe, twoS, D.eqv, py, PyData.eqv, bne]
@[simp] theorem opEq_ss (a b : Str) : opEq (.str a) (.str b) = some (.bl (a == b)) := by
  simp [opEq, twoS, D.eqv, py, PyData.eqv]
@[simp] theorem opAdd_ll {xs ys : List D} (h : fits (xs.length + ys.length) = true) : opAdd (.lst xs) (.lst ys) = some (.lst (xs ++ ys)) := if_pos h
@[simp] theorem opAdd_tt {xs ys : List D} (h : fits (xs.length + ys.length) = true) : opAdd (.tup xs) (.tup ys) = some (.tup (xs ++ ys)) := if_pos h
theorem fits_of {n : Nat} (h : n ≤ 16777216) : fits n = true := decide_eq_true h
theorem atI_ok {α : Type} {xs : List α} {i : Int} {j : Nat} {v : α} (h : i = (j : Nat)) (g : xs[j]? = some v) : atI xs i = some v := by
  subst h
  exact atI_nat g
theorem atI_lt {α : Type} {xs : List α} {i : Int} (h0 : 0 ≤ i) (h1 : i < xs.length) : ∃ v, v ∈ xs ∧ atI xs i = some v ∧ xs[i.toNat]? = some v := by
  have hl : i.toNat < xs.length := by (first | lia | omega)
  exact ⟨xs[i.toNat], List.getElem_mem hl, atI_ok (j := i.toNat) (by (first | lia | omega)) (by simp [hl]), by simp [hl]⟩
theorem atI_mod {α : Type} {xs : List α} (i : Int) {n : Int} (hn : n = xs.length) (h : 0 < xs.length) : ∃ v, v ∈ xs ∧ atI xs (i % n) = some v := by
  subst hn
  have h1 := Int.emod_nonneg i (b := (xs.length : Int)) (by (first | lia | omega))
  have h2 := Int.emod_lt_of_pos i (b := (xs.length : Int)) (by (first | lia | omega))
  obtain ⟨v, a, b, _⟩ := atI_lt h1 h2
  exact ⟨v, a, b⟩
@[simp] theorem atI_0 {α : Type} (x : α) (xs : List α) : atI (x :: xs) 0 = some x := atI_ok (j := 0) rfl rfl
@[simp] theorem atI_1 {α : Type} (x y : α) (xs : List α) : atI (x :: y :: xs) 1 = some y := atI_ok (j := 1) rfl rfl
@[simp] theorem atI_2 {α : Type} (x y z : α) (xs : List α) : atI (x :: y :: z :: xs) 2 = some z := atI_ok (j := 2) rfl rfl
@[simp] theorem atI_3 {α : Type} (x y z u : α) (xs : List α) : atI (x :: y :: z :: u :: xs) 3 = some u := atI_ok (j := 3) rfl rfl
theorem rng_cons {a b : Int} (h : a < b) : rng a b = .int a :: rng (a + 1) b := by
  unfold rng
  have e : (b - a).toNat = (b - (a + 1)).toNat + 1 := by (first | lia | omega)
  rw [e, List.range_succ_eq_map]
  simp only [List.map_cons, List.map_map]
  refine congr (congrArg _ (by simp)) (List.map_congr_left fun i _ => ?_)
  simp only [Function.comp]
  congr 1
  (first | lia | omega)
theorem rng_nil {a b : Int} (h : b ≤ a) : rng a b = [] := by
  unfold rng
  rw [show (b - a).toNat = 0 by (first | lia | omega)]
  rfl
theorem cut_0n (ds : List D) (j : Nat) : cutD ds none (some (j : Int)) = ds.take j := by
  unfold cutD
  rw [HT.sIx_nat, HT.sIx_none]
  rw [List.drop_zero, Nat.sub_zero]
  by_cases h : j ≤ ds.length
  · rw [Nat.min_eq_left h]
  · rw [Nat.min_eq_right (by (first | lia | omega)), List.take_length, List.take_of_length_le (by (first | lia | omega))]
end VL

namespace VL
open PyProof.Rows PySem L2 PySem.Spec

noncomputable def At (s : Nat) : D → Prop
  | .non => True
  | .bl _ => True
  | .int i => i.natAbs < 10 ^ 40
  | .str x => PyData.strOk x = true ∧ x.length ≤ s
  | .dic kvs => kvs = []
  | _ => False
noncomputable def Bd (s n : Nat) : Nat → D → Prop
  | 0, d => At s d
  | k + 1, d => At s d ∨ ∃ xs, (d = .lst xs ∨ d = .tup xs) ∧ xs.length ≤ n ∧ ∀ x ∈ xs, Bd s n k x
theorem Bd.at {s n k : Nat} {d : D} (h : At s d) : Bd s n k d := by
  cases k with
  | zero => exact h
  | succ => exact .inl h
theorem Bd.up1 {s n : Nat} : ∀ {k : Nat} {d : D}, Bd s n k d → Bd s n (k + 1) d
  | 0, _, h => .inl h
  | _ + 1, _, .inl h => .inl h
  | _ + 1, _, .inr ⟨xs, e, l, h⟩ => .inr ⟨xs, e, l, fun x hx => (h x hx).up1⟩
theorem Bd.up {s n k j : Nat} {d : D} (h : Bd s n k d) (hj : k ≤ j) : Bd s n j d := by
  induction hj with
  | refl => exact h
  | step _ ih => exact ih.up1
theorem Bd.lst {s n k : Nat} {xs : List D} (hl : xs.length ≤ n) (h : ∀ x ∈ xs, Bd s n k x) : Bd s n (k + 1) (.lst xs) := .inr ⟨xs, .inl rfl, hl, h⟩
theorem Bd.tup {s n k : Nat} {xs : List D} (hl : xs.length ≤ n) (h : ∀ x ∈ xs, Bd s n k x) : Bd s n (k + 1) (.tup xs) := .inr ⟨xs, .inr rfl, hl, h⟩
theorem Bd.plain {s n k : Nat} {d : D} (h : Bd s n k d) : plainD d = true := by
  cases d <;> try rfl
  all_goals
    cases k with
    | zero => exact h.elim
    | succ k =>
      rcases h with h | ⟨xs, e | e, _⟩
      · exact h.elim
      · cases e
      · cases e
theorem Bd.str {s n k : Nat} {x : Str} (h : Bd s n k (.str x)) : PyData.strOk x = true ∧ x.length ≤ s := by
  cases k with
  | zero => exact h
  | succ k =>
    rcases h with h | ⟨xs, e | e, _⟩
    · exact h
    · cases e
    · cases e
noncomputable def Wd (s n : Nat) : Nat → Nat
  | 0 => 10 * s + 47
  | k + 1 => n * (Wd s n k + 2) + (10 * s + 50)
theorem piled_le {ts : List Str} {m : Nat} (h : ∀ t ∈ ts, t.length ≤ m) : piled ts ≤ ts.length * (m + 2) := by
  induction ts with
  | nil => simp [piled]
  | cons t r ih =>
    have a := ih fun u hu => h u (by simp [hu])
    have b := h t (by simp)
    rw [piled_cons, List.length_cons, Nat.succ_mul]
    (first | lia | omega)
theorem listText_le (ts : List Str) : (listText ts).length ≤ piled ts + 2 := by
  cases ts with
  | nil => exact Nat.le_of_eq rfl
  | cons t r =>
    have h := textFrom_length_pos r 1 (("[" : Str) ++ (if (0 : Nat) > 0 then ", " else "" : String) ++ t) (Nat.succ_pos 0)
    have e : ((("[" : Str) ++ (if (0 : Nat) > 0 then ", " else "" : String) ++ t)).length = t.length + 1 := by
      rw [strLen_append, strLen_append, Nat.add_comm]
      rfl
    have a : (listText (t :: r)).length = (textFrom 1 (("[" : Str) ++ (if (0 : Nat) > 0 then ", " else "" : String) ++ t) r).length + 1 := by
      unfold listText
      rw [strLen_append]
      rfl
    rw [a, h, e, piled_cons]
    (first | lia | omega)
theorem tupleText_le (ts : List Str) : (tupleText ts).length ≤ piled ts + 3 := by
  unfold tupleText
  rw [strLen_append, strLen_append]
  have a : ((("(" : String) : Str)).length = 1 := rfl
  have b : (((if ts.length == 1 then ",)" else ")" : String) : Str)).length ≤ 2 := by split <;> decide
  by_cases h : ts = []
  · subst h
    simp only [piled_nil]
    have c : (Str.join ", " ([] : List Str)).length = 0 := rfl
    (first | lia | omega)
  · have := join_length_add ts h
    (first | lia | omega)
theorem shownAll_map (ds : List D) : PyData.shownAll (pyL ds) = ds.map fun d => (py d).shown := by
  induction ds with
  | nil => simp [pyL, PyData.shownAll]
  | cons d r ih => simp [pyL, PyData.shownAll, ih]
theorem rokL_of {ds : List D} (h : ∀ d ∈ ds, rok d = true) : rokL ds = true := by
  induction ds with
  | nil => rfl
  | cons d r ih =>
    rw [rokL, h d (by simp), ih fun x hx => h x (by simp [hx])]
    rfl
theorem showL {ds : List D} (h : ∀ d ∈ ds, (py d).showable = true) : PyData.showableAll (pyL ds) = true := by
  induction ds with
  | nil => simp [pyL, PyData.showableAll]
  | cons d r ih => simp [pyL, PyData.showableAll, h d (by simp), ih fun x hx => h x (by simp [hx])]
theorem depL {ds : List D} {k : Nat} (h : ∀ d ∈ ds, (py d).depth ≤ k) : PyData.depthAll (pyL ds) ≤ k := by
  induction ds with
  | nil => simp [pyL, PyData.depthAll]
  | cons d r ih =>
    have a := h d (by simp)
    have b := ih fun x hx => h x (by simp [hx])
    simp only [pyL, PyData.depthAll]
    (first | lia | omega)
theorem small_log {i : Int} (h : i.natAbs < 10 ^ 40) : i.natAbs.log2 < 1920 := by
  by_cases z : i.natAbs = 0
  · rw [z]; decide
  · rw [Nat.log2_lt z]
    exact Nat.lt_of_lt_of_le h (Nat.le_trans (m := 2 ^ 140) (by decide) (Nat.pow_le_pow_right (by (first | lia | omega)) (by (first | lia | omega))))
theorem At.rep {s : Nat} {d : D} (h : At s d) : rok d = true ∧ (py d).showable = true ∧ (py d).shown.length ≤ 10 * s + 47 ∧ (py d).depth ≤ 1 := by
  cases d with
  | non => exact ⟨rfl, by simp [py, PyData.showable], Nat.le_trans (m := 4) (by simp only [py, PyData.shown]; decide) (by (first | lia | omega)), by simp [py, PyData.depth]⟩
  | bl b => exact ⟨rfl, by simp [py, PyData.showable], Nat.le_trans (m := 5) (by simp only [py, PyData.shown]; cases b <;> decide) (by (first | lia | omega)), by simp [py, PyData.depth]⟩
  | int i =>
    have h : i.natAbs < 10 ^ 40 := h
    refine ⟨rfl, by simp only [py, PyData.showable]; exact decide_eq_true (small_log h), ?_, by simp [py, PyData.depth]⟩
    simp only [py, PyData.shown]
    have e := int_text_length_le10 (k := 40) (by decide) h
    rw [PySem.ofString_length]
    (first | lia | omega)
  | str x =>
    refine ⟨rfl, by simp [py, PyData.showable], ?_, by simp [py, PyData.depth]⟩
    simp only [py, PyData.shown]
    have q := StrLaws.reprText_len x fun c hc => by
      have h1 := h.1
      unfold PyData.strOk at h1
      rw [Array.all_eq_true'] at h1
      have h2 := h1 c (by simpa using hc)
      rw [decide_eq_true_eq] at h2
      exact Nat.lt_of_lt_of_le h2 (by decide)
    have := h.2
    (first | lia | omega)
  | dic kvs =>
    have h : kvs = [] := h
    subst h
    refine ⟨rfl, by simp [py, PyData.showable, PyData.showableKv], Nat.le_trans (m := 2) (by simp only [py, PyData.shown, PyData.shownKv]; decide) (by (first | lia | omega)), by simp [py, PyData.depth, PyData.depthKv]⟩
  | lst xs => exact h.elim
  | tup xs => exact h.elim
  | obj c fs => exact h.elim
  | tdc fs => exact h.elim
  | ctp fs => exact h.elim
theorem Bd.rep {s n : Nat} : ∀ {k : Nat} {d : D}, Bd s n k d → rok d = true ∧ (py d).showable = true ∧ (py d).shown.length ≤ Wd s n k ∧ (py d).depth ≤ k + 1
  | 0, d, h => by
    obtain ⟨a, b, c, e⟩ := At.rep h
    exact ⟨a, b, c, e⟩
  | k + 1, d, .inl h => by
    obtain ⟨a, b, c, e⟩ := At.rep h
    exact ⟨a, b, by unfold Wd; (first | lia | omega), by (first | lia | omega)⟩
  | k + 1, d, .inr ⟨xs, e, hl, h⟩ => by
    have ih := fun x hx => Bd.rep (h x hx)
    have p : piled (PyData.shownAll (pyL xs)) ≤ n * (Wd s n k + 2) := by
      refine Nat.le_trans (piled_le (m := Wd s n k) fun t ht => ?_) (Nat.mul_le_mul_right _ ?_)
      · rw [shownAll_map] at ht
        obtain ⟨d, hd, rfl⟩ := List.mem_map.mp ht
        exact (ih d hd).2.2.1
      · rw [shownAll_map, List.length_map]
        exact hl
    have q1 := listText_le (PyData.shownAll (pyL xs))
    have q2 := tupleText_le (PyData.shownAll (pyL xs))
    have dd := depL (k := k + 1) fun d hd => (ih d hd).2.2.2
    rcases e with rfl | rfl
    · refine ⟨rokL_of fun d hd => (ih d hd).1, by simp only [py, PyData.showable]; exact showL fun d hd => (ih d hd).2.1, by simp only [py, PyData.shown, Wd]; (first | lia | omega), by simp only [py, PyData.depth]; (first | lia | omega)⟩
    · refine ⟨rokL_of fun d hd => (ih d hd).1, by simp only [py, PyData.showable]; exact showL fun d hd => (ih d hd).2.1, by simp only [py, PyData.shown, Wd]; (first | lia | omega), by simp only [py, PyData.depth]; (first | lia | omega)⟩
theorem opAdd_lw {xs ys : List D} (h : xs.length + ys.length ≤ 16777216) : opAdd (.lst xs) (.lst ys) = some (.lst (xs ++ ys)) := if_pos (fits_of h)
@[simp] theorem fit0 : fits 0 = true := (rfl)
@[simp] theorem fit1 : fits 1 = true := (rfl)
@[simp] theorem fit2 : fits 2 = true := (rfl)
@[simp] theorem fit3 : fits 3 = true := (rfl)
@[simp] theorem fit4 : fits 4 = true := (rfl)
@[simp] theorem fit5 : fits 5 = true := (rfl)
@[simp] theorem fit6 : fits 6 = true := (rfl)
@[simp] theorem fit7 : fits 7 = true := (rfl)
@[simp] theorem fit8 : fits 8 = true := (rfl)
@[simp] theorem fit9 : fits 9 = true := (rfl)
@[simp] theorem fit10 : fits 10 = true := (rfl)
@[simp] theorem fit11 : fits 11 = true := (rfl)
@[simp] theorem fit12 : fits 12 = true := (rfl)
@[simp] theorem fit13 : fits 13 = true := (rfl)
@[simp] theorem fit14 : fits 14 = true := (rfl)
@[simp] theorem fit15 : fits 15 = true := (rfl)
@[simp] theorem fit16 : fits 16 = true := (rfl)
@[simp] theorem fit17 : fits 17 = true := (rfl)
@[simp] theorem fit18 : fits 18 = true := (rfl)
@[simp] theorem fit19 : fits 19 = true := (rfl)
@[simp] theorem fit20 : fits 20 = true := (rfl)
@[simp] theorem fit21 : fits 21 = true := (rfl)
@[simp] theorem fit22 : fits 22 = true := (rfl)
@[simp] theorem fit23 : fits 23 = true := (rfl)
@[simp] theorem fit24 : fits 24 = true := (rfl)
@[simp] theorem fit25 : fits 25 = true := (rfl)
@[simp] theorem fit26 : fits 26 = true := (rfl)
@[simp] theorem fit27 : fits 27 = true := (rfl)
@[simp] theorem fit28 : fits 28 = true := (rfl)
@[simp] theorem fit29 : fits 29 = true := (rfl)
@[simp] theorem fit30 : fits 30 = true := (rfl)
@[simp] theorem fit31 : fits 31 = true := (rfl)
@[simp] theorem fit32 : fits 32 = true := (rfl)
@[simp] theorem fit33 : fits 33 = true := (rfl)
@[simp] theorem fit34 : fits 34 = true := (rfl)
@[simp] theorem fit35 : fits 35 = true := (rfl)
@[simp] theorem fit36 : fits 36 = true := (rfl)
@[simp] theorem fit37 : fits 37 = true := (rfl)
@[simp] theorem fit38 : fits 38 = true := (rfl)
@[simp] theorem fit39 : fits 39 = true := (rfl)
@[simp] theorem fit40 : fits 40 = true := (rfl)
end VL

namespace VL
open PyProof.Rows PySem L2 PySem.Spec

noncomputable def Dig (sz l : List Int) : Prop := l.length = sz.length ∧ ∀ (i : Nat) (x z : Int), l[i]? = some x → sz[i]? = some z → 0 ≤ x ∧ x < z
theorem dig_add {sz l : List Int} {x z : Int} (h : Dig (sz.take l.length) l) (hz : sz[l.length]? = some z) (hx : 0 ≤ x ∧ x < z) : Dig (sz.take (l ++ [x]).length) (l ++ [x]) := by
  have hl : l.length < sz.length := (List.getElem?_eq_some_iff.mp hz).1
  refine ⟨by simp; (first | lia | omega), fun i y w h1 h2 => ?_⟩
  rw [List.getElem?_take] at h2
  split at h2
  · rename_i hi
    simp at hi
    by_cases e : i < l.length
    · rw [List.getElem?_append_left e] at h1
      exact h.2 i y w h1 (by rw [List.getElem?_take, if_pos e]; exact h2)
    · have e2 : i = l.length := by (first | lia | omega)
      subst e2
      rw [hz] at h2
      cases h2
      simp at h1
      subst h1
      exact hx
  · cases h2
theorem pow_ok {b e : Int} (h0 : 0 ≤ b) (h1 : b < 18446744073709551616) (h2 : 0 ≤ e) (h3 : e ≤ 5) : opPow (.int b) (.int e) = some (.int (b ^ e.toNat)) := if_pos (decide_eq_true ⟨h2, by (first | lia | omega), by
  have : (2 : Nat) ^ 64 = 18446744073709551616 := by decide
  (first | lia | omega)⟩)
theorem mul_l {i : Int} (j : Int) (h0 : 0 ≤ i) (h1 : i < 1000000000000) : opMul (.int i) (.int j) = some (.int (i * j)) := opMul_ii (by
  rw [Bool.or_eq_true]
  refine .inl (decide_eq_true ?_)
  have : (2 : Int) ^ 64 = 18446744073709551616 := by decide
  (first | lia | omega))
theorem mul_r (i : Int) {j : Int} (h0 : 0 ≤ j) (h1 : j < 1000000000000) : opMul (.int i) (.int j) = some (.int (i * j)) := opMul_ii (by
  rw [Bool.or_eq_true]
  refine .inr (decide_eq_true ?_)
  have : (2 : Int) ^ 64 = 18446744073709551616 := by decide
  (first | lia | omega))
theorem pow18 : opPow (.int 10) (.int 18) = some (.int 1000000000000000000) := by
  unfold opPow
  dsimp only
  rw [if_pos (by decide +kernel)]
  simp
theorem fits62_n {n : Nat} (h : n ≤ 16777216) : fits62 (n : Int) = true := decide_eq_true (by
  have : (2 : Int) ^ 62 = 4611686018427387904 := by decide
  (first | lia | omega))
theorem range_n {n : Nat} (h : n ≤ 16777216) : rangeD (.int (n : Int)) = .ok (rng 0 n) := by
  unfold rangeD
  dsimp only
  rw [fits62_n h, Int.toNat_natCast, fits_of h]
  simp only [Bool.and_self, if_true]
noncomputable def NumP (c s n : Int) (sz : List Int) (r : List D) (ρ : Lo) : Prop := ∃ (l : List Int) (lf : Int) (x6 x7 : Sl), l.length ≤ sz.length ∧ r = rng l.length sz.length ∧
  ρ = [.sh (.int c), .sh (.int s), .sh (.lst (sz.map .int)), .sh (.int n), .sh (.int lf), .ow (.lst (l.map .int)), x6, x7] ∧ Dig (sz.take l.length) l
theorem num_key {c s n : Int} {sz l : List Int} {x z lf : Int} {x6 x7 : Sl} (hd : Dig (sz.take l.length) l) (hz : sz[l.length]? = some z) (hx : 0 ≤ x ∧ x < z) :
    NumP c s n sz (rng ((l.length : Int) + 1) sz.length) [.sh (.int c), .sh (.int s), .sh (.lst (sz.map .int)), .sh (.int n), .sh (.int lf), .ow (.lst (l.map .int ++ [.int x])), x6, x7] := by
  have hl : l.length < sz.length := (List.getElem?_eq_some_iff.mp hz).1
  exact ⟨l ++ [x], lf, x6, x7, by simp; (first | lia | omega), by simp, by simp, dig_add hd hz hx⟩
noncomputable def letters : List Nat := ("abcdefghijklmnopqrstuvwxyz" : Str).cps.toList
noncomputable def numB (lo hi : Int) : D → Bool
  | .int i => decide (lo ≤ i) && decide (i ≤ hi)
  | _ => false
noncomputable def nameB : D → Bool
  | .str x => decide (1 ≤ (x.length : Int)) && decide ((x.length : Int) ≤ 6) && x.cps.toList.all fun c => decide (c ∈ letters)
  | _ => false
noncomputable def kindB : D → Bool
  | .str x => (("hidden" : Str) == x) || ((("seen" : Str) == x) || ("given" : Str) == x)
  | _ => false
noncomputable def boxB : D → Bool
  | .tup [a, b, c] => nameB a && (numB 1 4 b && kindB c)
  | _ => false
noncomputable def enF (i : Int) : List D → List D
  | [] => []
  | d :: r => .tup [.int i, d] :: enF (i + 1) r
theorem enF_eq (ds : List D) : ∀ i : Nat, List.zipWith (fun x y => D.tup [x, y]) ((List.range' i ds.length).map fun j => .int (j : Nat)) ds = enF (i : Int) ds := by
  induction ds with
  | nil => intro i; rfl
  | cons d r ih =>
    intro i
    rw [List.length_cons, List.range'_succ, List.map_cons, List.zipWith_cons_cons, ih (i + 1)]
    rfl
theorem enumD_eq (ds : List D) : enumD ds = enF 0 ds := by
  unfold enumD zipD
  rw [List.range_eq_range']
  exact enF_eq ds 0
noncomputable def nmOf : D → Str
  | .tup (.str n :: _) => n
  | _ => ""
noncomputable def szOf : D → Int
  | .tup (_ :: .int z :: _) => z
  | _ => 1
noncomputable def goodL (pre : List Str) : List D → Bool
  | [] => true
  | d :: r => boxB d && (!(pre.contains (nmOf d)) && goodL (pre ++ [nmOf d]) r)
noncomputable def prodI (ds : List D) : Int := ds.foldl (fun a d => a * szOf d) 1
theorem good_box {ds : List D} : ∀ {pre : List Str}, goodL pre ds = true → ∀ d ∈ ds, boxB d = true := by
  induction ds with
  | nil => intro pre _ d hd; simp at hd
  | cons b r ih =>
    intro pre h d hd
    rw [goodL, Bool.and_eq_true, Bool.and_eq_true] at h
    rcases List.mem_cons.mp hd with rfl | hd
    · exact h.1
    · exact ih h.2.2 d hd
noncomputable def arB : D → Bool
  | .lst ds => decide (1 ≤ (ds.length : Int)) && decide ((ds.length : Int) ≤ 6) && (goodL [] ds && decide (prodI ds ≤ 64))
  | _ => false
noncomputable abbrev Bz := Bd 10 13
theorem pow30 : opPow (.int 10) (.int 30) = some (.int 1000000000000000000000000000000) := by
  unfold opPow
  dsimp only
  rw [if_pos (by decide +kernel)]
  simp
noncomputable def oddL : List D := [.non, .bl true, .bl false, .str "", .str "s", .int 5, .int (-1), .tup [], .lst [], .dic [], .tup [.str "s"], .lst [.tup [.str "s", .int 2, .str "seen"]], .tup [.str "yes"], .int 1000000000000000000000000000000, .str "round", .tup [.int 0]]
noncomputable def kinds3 : List Str := ["hidden", "seen", "given"]
theorem cut_mapL {l : List Int} {i : Int} (h0 : 0 ≤ i) : cutD (l.map D.int) none (some i) = (l.take i.toNat).map D.int := by
  obtain ⟨n, rfl⟩ := Int.eq_ofNat_of_zero_le h0
  rw [cut_0n, List.map_take]
  rfl
theorem rep7 (b : Bool) : opRep (.lst [.int 7]) (.int (if b = true then 1 else 0)) = some (.lst ((if b = true then [7] else []).map D.int)) := by
  unfold opRep
  cases b
  · dsimp only
    rw [if_pos (by decide +kernel)]
    rfl
  · dsimp only
    rw [if_pos (by decide +kernel)]
    rfl
theorem eq_nil_ints (ns : List Int) : opEq (.lst (ns.map .int)) (.lst []) = some (.bl (ns.map D.int).isEmpty) := opEq_nil (k := 0) (fun d hd => by
  obtain ⟨c, _, rfl⟩ := List.mem_map.mp hd
  exact lay_i _) (by (first | lia | omega))
theorem enF_nil {i : Int} {l : List Int} {r : List D} (h : r = enF i (l.map .int)) : (l = [] ∧ r = []) ∨ ∃ c t, l = c :: t ∧ r = .tup [.int i, .int c] :: enF (i + 1) (t.map .int) := by
  cases l with
  | nil => exact .inl ⟨rfl, h⟩
  | cons c t => exact .inr ⟨c, t, rfl, h⟩
theorem add_ints {xs ys : List Int} (h : xs.length + ys.length ≤ 16777216) : opAdd (.lst (xs.map .int)) (.lst (ys.map .int)) = some (.lst ((xs ++ ys).map .int)) := by
  rw [opAdd_lw (by simpa using h), List.map_append]
end VL

namespace VL
open PyProof.Rows PySem L2 PySem.Spec

mutual
noncomputable def wt : D → Nat
  | .non => 4
  | .bl _ => 5
  | .int _ => 47
  | .str x => 10 * x.length + 2
  | .lst xs => wtL xs + 3
  | .tup xs => wtL xs + 3
  | .dic _ => 2
  | .obj _ _ => 0
  | .tdc _ => 0
  | .ctp _ => 0
noncomputable def wtL : List D → Nat
  | [] => 0
  | d :: r => wt d + 2 + wtL r
end
mutual
noncomputable def dt : D → Bool
  | .non => true
  | .bl _ => true
  | .int i => decide (i.natAbs < 10 ^ 40)
  | .str x => PyData.strOk x && decide (x.length ≤ 60)
  | .lst xs => dtL xs
  | .tup xs => dtL xs
  | .dic kvs => kvs.isEmpty
  | .obj _ _ => false
  | .tdc _ => false
  | .ctp _ => false
noncomputable def dtL : List D → Bool
  | [] => true
  | d :: r => dt d && dtL r
end
mutual
noncomputable def dp : D → Nat
  | .lst xs => dpL xs + 1
  | .tup xs => dpL xs + 1
  | .dic _ => 1
  | .non => 0
  | .bl _ => 0
  | .int _ => 0
  | .str _ => 0
  | .obj _ _ => 0
  | .tdc _ => 0
  | .ctp _ => 0
noncomputable def dpL : List D → Nat
  | [] => 0
  | d :: r => max (dp d) (dpL r)
end
theorem str_shown_le {x : Str} (h : PyData.strOk x = true) : (py (.str x)).shown.length ≤ 10 * x.length + 2 := by
  simp only [py, PyData.shown]
  exact StrLaws.reprText_len x fun c hc => by
    unfold PyData.strOk at h
    rw [Array.all_eq_true'] at h
    have h2 := h c (by simpa using hc)
    rw [decide_eq_true_eq] at h2
    exact Nat.lt_of_lt_of_le h2 (by decide)
mutual
theorem dt_rep : ∀ {d : D}, dt d = true → rok d = true ∧ (py d).showable = true ∧ (py d).shown.length ≤ wt d ∧ (py d).depth ≤ dp d
  | .non, _ => ⟨rfl, by simp [py, PyData.showable], by simp only [py, PyData.shown, wt]; decide, by simp [py, PyData.depth]⟩
  | .bl b, _ => ⟨rfl, by simp [py, PyData.showable], by simp only [py, PyData.shown, wt]; cases b <;> decide, by simp [py, PyData.depth]⟩
  | .int i, h => by
    have h : i.natAbs < 10 ^ 40 := by simpa [dt] using h
    refine ⟨rfl, by simp only [py, PyData.showable]; exact decide_eq_true (small_log h), ?_, by simp [py, PyData.depth]⟩
    simp only [py, PyData.shown, wt]
    have e := int_text_length_le10 (k := 40) (by decide) h
    rw [PySem.ofString_length]
    (first | lia | omega)
  | .str x, h => by
    have h : PyData.strOk x = true ∧ x.length ≤ 60 := by simpa [dt] using h
    refine ⟨rfl, by simp [py, PyData.showable], ?_, by simp [py, PyData.depth]⟩
    simp only [wt]
    exact str_shown_le h.1
  | .dic kvs, h => by
    have h : kvs = [] := by simpa [dt] using h
    subst h
    exact ⟨rfl, by simp [py, PyData.showable, PyData.showableKv], by simp only [py, PyData.shown, PyData.shownKv, wt]; decide, by simp [py, PyData.depth, PyData.depthKv, dp]⟩
  | .lst xs, h => by
    obtain ⟨a, b, c, e⟩ := dtL_rep (ds := xs) (by simpa [dt] using h)
    have q1 := listText_le (PyData.shownAll (pyL xs))
    exact ⟨by simpa [rok] using a, by simp only [py, PyData.showable]; exact b, by simp only [py, PyData.shown, wt]; (first | lia | omega), by simp only [py, PyData.depth, dp]; (first | lia | omega)⟩
  | .tup xs, h => by
    obtain ⟨a, b, c, e⟩ := dtL_rep (ds := xs) (by simpa [dt] using h)
    have q1 := tupleText_le (PyData.shownAll (pyL xs))
    exact ⟨by simpa [rok] using a, by simp only [py, PyData.showable]; exact b, by simp only [py, PyData.shown, wt]; (first | lia | omega), by simp only [py, PyData.depth, dp]; (first | lia | omega)⟩
  | .obj _ _, h => by simp [dt] at h
  | .tdc _, h => by simp [dt] at h
  | .ctp _, h => by simp [dt] at h
theorem dtL_rep : ∀ {ds : List D}, dtL ds = true → rokL ds = true ∧ PyData.showableAll (pyL ds) = true ∧ piled (PyData.shownAll (pyL ds)) ≤ wtL ds ∧ PyData.depthAll (pyL ds) ≤ dpL ds
  | [], _ => ⟨rfl, by simp [pyL, PyData.showableAll], by simp [pyL, PyData.shownAll, piled], by simp [pyL, PyData.depthAll]⟩
  | d :: ds, h => by
    have h : dt d = true ∧ dtL ds = true := by simpa [dtL] using h
    obtain ⟨a, b, c, e⟩ := dt_rep h.1
    obtain ⟨a2, b2, c2, e2⟩ := dtL_rep h.2
    refine ⟨by simp [rokL, a, a2], by simp [pyL, PyData.showableAll, b, b2], ?_, ?_⟩
    · simp only [pyL, PyData.shownAll, piled_cons, wtL]
      (first | lia | omega)
    · simp only [pyL, PyData.depthAll, dpL]
      (first | lia | omega)
end
noncomputable def Ok (w k : Nat) (d : D) : Prop := dt d = true ∧ wt d ≤ w ∧ dp d ≤ k
theorem Ok.up {w k w' k' : Nat} {d : D} (h : Ok w k d) (h1 : w ≤ w') (h2 : k ≤ k') : Ok w' k' d := ⟨h.1, Nat.le_trans h.2.1 h1, Nat.le_trans h.2.2 h2⟩
theorem Ok.rep {w k : Nat} {d : D} (h : Ok w k d) (hw : w ≤ 16777216) (hk : k ≤ 64) : opRepr d = some (.str (py d).shown) := by
  obtain ⟨a, b, c, e⟩ := dt_rep h.1
  obtain ⟨_, h2, h3⟩ := h
  unfold opRepr
  rw [a, b, fits_of (show (py d).shown.length ≤ 16777216 by (first | lia | omega)), decide_eq_true (show (py d).depth ≤ 64 by (first | lia | omega))]
  rfl
theorem dtL_of : ∀ {ds : List D}, (∀ d ∈ ds, dt d = true) → dtL ds = true
  | [], _ => rfl
  | d :: ds, h => by
    rw [dtL, h d (by simp), dtL_of fun x hx => h x (by simp [hx])]
    rfl
theorem wtL_le : ∀ {ds : List D} {w : Nat}, (∀ d ∈ ds, wt d ≤ w) → wtL ds ≤ ds.length * (w + 2)
  | [], _, _ => by simp [wtL]
  | d :: ds, w, h => by
    have a := wtL_le (ds := ds) fun x hx => h x (by simp [hx])
    have b := h d (by simp)
    simp only [wtL, List.length_cons, Nat.succ_mul]
    (first | lia | omega)
theorem dpL_le : ∀ {ds : List D} {k : Nat}, (∀ d ∈ ds, dp d ≤ k) → dpL ds ≤ k
  | [], _, _ => by simp [dpL]
  | d :: ds, w, h => by
    have a := dpL_le (ds := ds) fun x hx => h x (by simp [hx])
    have b := h d (by simp)
    simp only [dpL]
    (first | lia | omega)
theorem Ok.tup {w k : Nat} {xs : List D} (n : Nat) (hl : xs.length ≤ n) (h : ∀ x ∈ xs, Ok w k x) : Ok (n * (w + 2) + 3) (k + 1) (.tup xs) := by
  refine ⟨by simp only [dt]; exact dtL_of fun d hd => (h d hd).1, ?_, ?_⟩
  · have a := wtL_le fun d hd => (h d hd).2.1
    have b := Nat.mul_le_mul_right (w + 2) hl
    simp only [wt]
    (first | lia | omega)
  · have a := dpL_le fun d hd => (h d hd).2.2
    simp only [dp]
    (first | lia | omega)
theorem Ok.lst {w k : Nat} {xs : List D} (n : Nat) (hl : xs.length ≤ n) (h : ∀ x ∈ xs, Ok w k x) : Ok (n * (w + 2) + 3) (k + 1) (.lst xs) := by
  refine ⟨by simp only [dt]; exact dtL_of fun d hd => (h d hd).1, ?_, ?_⟩
  · have a := wtL_le fun d hd => (h d hd).2.1
    have b := Nat.mul_le_mul_right (w + 2) hl
    simp only [wt]
    (first | lia | omega)
  · have a := dpL_le fun d hd => (h d hd).2.2
    simp only [dp]
    (first | lia | omega)
noncomputable def nmsOf (bs : List D) : List Str := bs.map nmOf
noncomputable def szAt (bs : List D) (n : Str) : Int := szOf (bs.getD ((nmsOf bs).idxOf n) .non)
noncomputable def one (f : D → Bool) : List D → Bool
  | [a] => f a
  | _ => false
noncomputable def two (f : D → D → Bool) : List D → Bool
  | [a, b] => f a b
  | _ => false
@[simp] theorem one_1 (f : D → Bool) (a : D) : one f [a] = f a := (rfl)
@[simp] theorem one_0 (f : D → Bool) : one f [] = false := (rfl)
@[simp] theorem one_2 (f : D → Bool) (a b : D) (r : List D) : one f (a :: b :: r) = false := (rfl)
@[simp] theorem two_2 (f : D → D → Bool) (a b : D) : two f [a, b] = f a b := (rfl)
@[simp] theorem two_0 (f : D → D → Bool) : two f [] = false := (rfl)
@[simp] theorem two_1 (f : D → D → Bool) (a : D) : two f [a] = false := (rfl)
@[simp] theorem two_3 (f : D → D → Bool) (a b c : D) (r : List D) : two f (a :: b :: c :: r) = false := (rfl)
noncomputable def mtD (f : R D) (op : D → D → Option D) : D → R D
  | .lst ds => f.bind fun y => R.opt (op (.lst ds) y)
  | _ => .bad
@[simp] theorem mtD_l (f : R D) (op : D → D → Option D) (ds : List D) : mtD f op (.lst ds) = f.bind fun y => R.opt (op (.lst ds) y) := (rfl)
theorem ok_s {x : Str} (h : (PyData.strOk x && decide (x.length ≤ 10)) = true) : Ok 102 0 (.str x) := by
  rw [Bool.and_eq_true, decide_eq_true_eq] at h
  refine ⟨?_, ?_, ?_⟩
  · simp only [dt, Bool.and_eq_true, decide_eq_true_eq]
    exact ⟨h.1, by (first | lia | omega)⟩
  · simp only [wt]
    (first | lia | omega)
  · simp [dp]
theorem ok_i {i : Int} (h : i.natAbs < 10 ^ 40) : Ok 102 0 (.int i) := ⟨by simp only [dt]; exact decide_eq_true h, by simp [wt], by simp [dp]⟩
theorem ok_i4 {i : Int} (h : -1000000 ≤ i) (h2 : i ≤ 1000000) : Ok 102 0 (.int i) := ok_i (by
  have : (10 : Nat) ^ 40 = 10000000000000000000000000000000000000000 := by decide
  (first | lia | omega))
theorem Ok.nil {w k : Nat} (hw : 3 ≤ w) (hk : 1 ≤ k) : Ok w k (.tup []) := ⟨by simp [dt, dtL], by simpa [wt, wtL] using hw, by simpa [dp, dpL] using hk⟩
theorem Ok.t1 {w k w' k' : Nat} {a : D} (h1 : Ok w k a) (hw : w + 5 ≤ w') (hk : k + 1 ≤ k') : Ok w' k' (.tup [a]) := by
  obtain ⟨a1, a2, a3⟩ := h1
  exact ⟨by simp [dt, dtL, a1], by simp only [wt, wtL]; (first | lia | omega), by simp only [dp, dpL]; (first | lia | omega)⟩
theorem Ok.t2 {w1 k1 w2 k2 w' k' : Nat} {a b : D} (h1 : Ok w1 k1 a) (h2 : Ok w2 k2 b) (hw : w1 + w2 + 7 ≤ w') (hk : k1 + 1 ≤ k') (hk2 : k2 + 1 ≤ k') : Ok w' k' (.tup [a, b]) := by
  obtain ⟨a1, a2, a3⟩ := h1
  obtain ⟨b1, b2, b3⟩ := h2
  exact ⟨by simp [dt, dtL, a1, b1], by simp only [wt, wtL]; (first | lia | omega), by simp only [dp, dpL]; (first | lia | omega)⟩
theorem Ok.t3 {w1 k1 w2 k2 w3 k3 w' k' : Nat} {a b c : D} (h1 : Ok w1 k1 a) (h2 : Ok w2 k2 b) (h3 : Ok w3 k3 c) (hw : w1 + w2 + w3 + 9 ≤ w') (hk : k1 + 1 ≤ k') (hk2 : k2 + 1 ≤ k') (hk3 : k3 + 1 ≤ k') : Ok w' k' (.tup [a, b, c]) := by
  obtain ⟨a1, a2, a3⟩ := h1
  obtain ⟨b1, b2, b3⟩ := h2
  obtain ⟨c1, c2, c3⟩ := h3
  exact ⟨by simp [dt, dtL, a1, b1, c1], by simp only [wt, wtL]; (first | lia | omega), by simp only [dp, dpL]; (first | lia | omega)⟩
theorem Ok.l1 {w k w' k' : Nat} {a : D} (h1 : Ok w k a) (hw : w + 5 ≤ w') (hk : k + 1 ≤ k') : Ok w' k' (.lst [a]) := by
  obtain ⟨a1, a2, a3⟩ := h1
  exact ⟨by simp [dt, dtL, a1], by simp only [wt, wtL]; (first | lia | omega), by simp only [dp, dpL]; (first | lia | omega)⟩
theorem Ok.l2 {w1 k1 w2 k2 w' k' : Nat} {a b : D} (h1 : Ok w1 k1 a) (h2 : Ok w2 k2 b) (hw : w1 + w2 + 7 ≤ w') (hk : k1 + 1 ≤ k') (hk2 : k2 + 1 ≤ k') : Ok w' k' (.lst [a, b]) := by
  obtain ⟨a1, a2, a3⟩ := h1
  obtain ⟨b1, b2, b3⟩ := h2
  exact ⟨by simp [dt, dtL, a1, b1], by simp only [wt, wtL]; (first | lia | omega), by simp only [dp, dpL]; (first | lia | omega)⟩
theorem oddL_ok : ∀ d ∈ oddL, Ok 400 2 d := by
  have h : (oddL.all fun d => dt d && (decide (wt d ≤ 400) && decide (dp d ≤ 2))) = true := by decide +kernel
  intro d hd
  have := List.all_eq_true.mp h d hd
  simp only [Bool.and_eq_true, decide_eq_true_eq] at this
  exact this
noncomputable def SBx (d : D) : Prop := ∃ (n k : Str) (z : Int), d = .tup [.str n, .int z, .str k] ∧ n ∈ (["a", "b", "c"] : List Str) ∧ 1 ≤ z ∧ z ≤ 4 ∧ k ∈ kinds3
theorem abc_ok : ∀ n ∈ (["a", "b", "c"] : List Str), nameB (.str n) = true ∧ (PyData.strOk n && decide (n.length ≤ 10)) = true := by decide +kernel
theorem k3_ok2 : ∀ n ∈ kinds3, kindB (.str n) = true ∧ (PyData.strOk n && decide (n.length ≤ 10)) = true := by decide +kernel
theorem SBx.ok {d : D} (h : SBx d) : Ok 400 1 d := by
  obtain ⟨n, k, z, rfl, a, b, c, e⟩ := h
  exact .t3 (ok_s (abc_ok n a).2) (ok_i4 (by (first | lia | omega)) (by (first | lia | omega))) (ok_s (k3_ok2 k e).2) (by (first | lia | omega)) (by (first | lia | omega)) (by (first | lia | omega)) (by (first | lia | omega))
@[simp] theorem gTl_ap {ρ : Lo} (n : Nat) (g : List D → Lo → R Lo) (ds : List D) : gT2 n g (.lst ds) ρ = if ds.length = n then g ds ρ else .bad := (rfl)
noncomputable def Sl.lnt : Option Sl → R D
  | some (.sh d) => .ok d
  | some (.ow (.lst ds)) => .ok (.lst ds)
  | _ => .bad
@[simp] theorem lnt_sh (d : D) : Sl.lnt (some (.sh d)) = .ok d := (rfl)
@[simp] theorem lnt_ow (ds : List D) : Sl.lnt (some (.ow (.lst ds))) = .ok (.lst ds) := (rfl)
noncomputable def putR (k v : D) (i : Nat) (ρ : Lo) : Fl := fb (R.opt (putS k v ρ[i]?)) ρ fun d => .nx (ρ.set i (.ow d))
noncomputable def putF (fi fe : R D) (i : Nat) (ρ : Lo) : Bool → Fl
  | true => fb fe ρ fun v => fb fi ρ fun k => putR k v i ρ
  | false => .bad
@[simp] theorem putF_t {ρ : Lo} (i : Nat) (fi fe : R D) : putF fi fe i ρ true = fb fe ρ fun v => fb fi ρ fun k => putR k v i ρ := (rfl)
@[simp] theorem putR_ap {ρ : Lo} (i : Nat) (k v : D) : putR k v i ρ = fb (R.opt (putS k v ρ[i]?)) ρ fun d => .nx (ρ.set i (.ow d)) := (rfl)
@[simp] theorem putS_l (j : Int) (v : D) (ds : List D) : putS (.int j) v (some (.ow (.lst ds))) = (ixN ds.length j).map fun n => .lst (ds.set n v) := (rfl)
@[simp] theorem putS_ds (x : Str) (v : D) (kvs : List (D × D)) : putS (.str x) v (some (.ow (.dic kvs))) = if fits (kvs.length + 1) = true then some (.dic (dput kvs (.str x) v)) else none := (rfl)
@[simp] theorem putS_di (x : Int) (v : D) (kvs : List (D × D)) : putS (.int x) v (some (.ow (.dic kvs))) = if fits (kvs.length + 1) = true then some (.dic (dput kvs (.int x) v)) else none := (rfl)
noncomputable def parF (ρ : Lo) (i j : Nat) : List D → Fl
  | [d, e] => .nx ((ρ.set i (.sh d)).set j (.sh e))
  | _ => .bad
@[simp] theorem sPar_ap {ρ : Lo} (i j : Nat) (f : Lo → R (List D)) : sPar i j f ρ = fb (f ρ) ρ (parF ρ i j) := (rfl)
@[simp] theorem parF_2 (ρ : Lo) (i j : Nat) (d e : D) : parF ρ i j [d, e] = .nx ((ρ.set i (.sh d)).set j (.sh e)) := (rfl)
@[simp] theorem isDic_d (kvs : List (D × D)) : isDic (.dic kvs) = true := (rfl)
end VL

namespace VL
open PyProof.Rows PySem L2 PySem.Spec

inductive Sr where
  | to (v : Int) | of (m : Str) | on (k : Int)
noncomputable def srD : Sr → D
  | .to v => .tup [.str "to", .int v]
  | .of m => .tup [.str "of", .str m]
  | .on k => .tup [.str "on", .int k]
noncomputable def chD (c : Str × Sr) : D := .tup [.str c.1, srD c.2]
noncomputable def plc (bs : List D) (n : Str) : Nat := (nmsOf bs).idxOf n
noncomputable def told (bs : List D) (st : List Int) (n : Str) : Sr → Int
  | .to v => v
  | .of m => st.getD (plc bs m) 0
  | .on k => (st.getD (plc bs n) 0 + k) % szAt bs n
noncomputable def chg1 (bs : List D) (st acc : List Int) (c : Str × Sr) : List Int := acc.set (plc bs c.1) (told bs st c.1 c.2)
noncomputable def chg (bs : List D) (cs : List (Str × Sr)) (st : List Int) : List Int := cs.foldl (chg1 bs st) st
end VL

namespace VL
open PyProof.Rows PySem L2 PySem.Spec

noncomputable def kdAt (bs : List D) (n : Str) : D := match bs.getD (plc bs n) .non with
  | .tup [_, _, k] => k
  | _ => .non
noncomputable def isGiven : D → Bool
  | .str k => k == "given"
  | _ => false
end VL

namespace VL
open PyProof.Rows PySem L2 PySem.Spec

section
variable {ρ : Lo} {i j : Nat} {x a b : D} {es es2 : List (D × D)}
noncomputable def starK (i j : Nat) (ρ : Lo) (d : D) : Fl := match seqD d with
  | some (x :: xs) => if decide (xs.length ≤ 16000) = true then .nx ((ρ.set i (.sh x)).set j (.ow (.lst xs))) else .bad
  | _ => .bad
@[simp] theorem starK1 : starK i j ρ (.tup [x]) = .nx ((ρ.set i (.sh x)).set j (.ow (.lst []))) := (rfl)
@[simp] theorem starK2 : starK i j ρ (.tup [x, a]) = .nx ((ρ.set i (.sh x)).set j (.ow (.lst [a]))) := (rfl)
@[simp] theorem starK3 : starK i j ρ (.tup [x, a, b]) = .nx ((ρ.set i (.sh x)).set j (.ow (.lst [a, b]))) := (rfl)
end
end VL

namespace VL
open PyProof.Rows PySem L2 PySem.Spec

inductive Cn where
  | yes
  | is (n : Str) (v : Int)
  | like (a b : Str)
  | not (c : Cn)
  | all (cs : List Cn)
  | any (cs : List Cn)
mutual
noncomputable def enC : Cn → D
  | .yes => .tup [.str "yes"]
  | .is n v => .tup [.str "is", .str n, .int v]
  | .like a b => .tup [.str "like", .str a, .str b]
  | .not c => .tup [.str "not", enC c]
  | .all cs => .tup [.str "and", .tup (enL cs)]
  | .any cs => .tup [.str "or", .tup (enL cs)]
noncomputable def enL : List Cn → List D
  | [] => []
  | c :: cs => enC c :: enL cs
end
mutual
noncomputable def den (pl : Str → Nat) (st : List Int) : Cn → Bool
  | .yes => true
  | .is n v => st.getD (pl n) 0 == v
  | .like a b => st.getD (pl a) 0 == st.getD (pl b) 0
  | .not c => !den pl st c
  | .all cs => (denL pl st cs).all id
  | .any cs => (denL pl st cs).any id
noncomputable def denL (pl : Str → Nat) (st : List Int) : List Cn → List Bool
  | [] => []
  | c :: cs => den pl st c :: denL pl st cs
end
end VL

namespace VL
open PyProof.Rows PySem L2 PySem.Spec
noncomputable def Fl.finI : Fl → R D
  | .nx ρ => match (ρ[0]? : Option Sl) with
    | some (Sl.ow d) => .ok d
    | _ => .bad
  | .ex c fs _ => .ex c fs
  | _ => .bad
end VL

namespace VL
open PyProof.Rows PySem L2 PySem.Spec
section
variable {ρ : Lo} {i : Nat} {c m f : Str} {g : List D → R D} {d : D} {es : List (Str × D)} {ks : List (List Key × D)} {xs : List D}
noncomputable def methF (fa : R (List D)) (g : List D → R D) (d : D) : Bool → R D
  | true => fa.bind fun ds => g (d :: ds)
  | false => .bad
@[simp] theorem methF_t (fa : R (List D)) : methF fa g d true = fa.bind fun ds => g (d :: ds) := (rfl)
noncomputable def enDt : D → R (List D)
  | .tup xs => .ok (enumD xs)
  | .ctp xs => .ok (enumD xs)
  | _ => .bad
@[simp] theorem enDt_t : enDt (.tup xs) = .ok (enumD xs) := (rfl)
noncomputable def putTR (k v : D) (i : Nat) (ρ : Lo) : Fl := fb (R.opt (putT k v ρ[i]?)) ρ fun d => .nx (ρ.set i (.ow d))
noncomputable def putTF (fi fe : R D) (i : Nat) (ρ : Lo) : Bool → Fl
  | true => fb fe ρ fun v => fb fi ρ fun k => putTR k v i ρ
  | false => .bad
@[simp] theorem putTF_t (fi fe : R D) : putTF fi fe i ρ true = fb fe ρ fun v => fb fi ρ fun k => putTR k v i ρ := (rfl)
@[simp] theorem putTR_ap (k v : D) : putTR k v i ρ = fb (R.opt (putT k v ρ[i]?)) ρ fun d => .nx (ρ.set i (.ow d)) := (rfl)
@[simp] theorem nSl_tdc : nSl (.tdc ks) = .ow (.tdc ks) := (rfl)
@[simp] theorem nSl_obj : nSl (.obj c es) = .ow (.obj c es) := (rfl)
noncomputable def insF (i : Nat) (ρ : Lo) (ds : List D) : List D → Fl
  | [.int j, d] => if (fits (ds.length + 1) && decide (0 ≤ j ∧ j < 2 ^ 62)) = true then .nx (ρ.set i (.ow (.lst (ds.take j.toNat ++ [d] ++ ds.drop j.toNat)))) else .bad
  | _ => .bad
noncomputable def insS (i : Nat) (ρ : Lo) (r : R (List D)) : Option Sl → Fl
  | some (.ow (.lst ds)) => fb r ρ (insF i ρ ds)
  | _ => .bad
@[simp] theorem insS_ow (r : R (List D)) (ds : List D) : insS i ρ r (some (.ow (.lst ds))) = fb r ρ (insF i ρ ds) := (rfl)
@[simp] theorem finI_nx (h : ρ[0]? = some (.ow d)) : (Fl.nx ρ).finI = .ok d := by
  show (match (ρ[0]? : Option Sl) with
    | some (Sl.ow d) => R.ok d
    | _ => .bad) = .ok d
  rw [h]
end
end VL

namespace VL
open PyProof.Rows PySem L2 PySem.Spec
noncomputable def stT (st : List Int) : D := .tup (st.map .int)
noncomputable def okV (bs : List D) (c : Str × Sr) : Prop := (nmsOf bs).contains c.1 = true ∧ isGiven (kdAt bs c.1) = false ∧ match c.2 with
  | .to v => 0 ≤ v ∧ v < szAt bs c.1
  | .of m => (nmsOf bs).contains m = true ∧ szAt bs m ≤ szAt bs c.1
  | .on k => 1 ≤ k ∧ k ≤ 3
noncomputable def vC (bs : List D) : Nat → Cn → Prop
  | 0, _ => False
  | k + 1, c => match c with
    | .yes => True
    | .is n v => (nmsOf bs).contains n = true ∧ 0 ≤ v ∧ v < szAt bs n
    | .like a b => (nmsOf bs).contains a = true ∧ (nmsOf bs).contains b = true
    | .not c => vC bs k c
    | .all cs => (1 ≤ cs.length ∧ cs.length ≤ 4) ∧ ∀ c ∈ cs, vC bs k c
    | .any cs => (1 ≤ cs.length ∧ cs.length ≤ 4) ∧ ∀ c ∈ cs, vC bs k c
noncomputable def ledO (bs : List D) (c : Cn) (cs : List (Str × Sr)) (st : List Int) : Option (List Int) := if (den (plc bs) st c && (chg bs cs st != st)) = true then some (chg bs cs st) else none
structure Mch where
  bs : List D
  bg : Cn
  ds : List (Str × Cn × List (Str × Sr))
  ms : List Str
  cm : Bool
noncomputable def Mch.md (s : Mch) : D := match s.cm with
  | true => .ctp []
  | false => .tup (s.ms.map .str)
noncomputable def deD (d : Str × Cn × List (Str × Sr)) : D := .tup [.str d.1, enC d.2.1, .tup (d.2.2.map chD)]
noncomputable def Mch.d (s : Mch) : D := .tup [.lst s.bs, enC s.bg, .lst (s.ds.map deD), .tup (s.ms.map .str)]
structure OkD (bs : List D) (d : Str × Cn × List (Str × Sr)) : Prop where
  nm : nameB (.str d.1) = true
  cn : vC bs 5 d.2.1
  c4 : d.2.2.length ≤ 4
  cu : (d.2.2.map (·.1)).Nodup
  cv : ∀ c ∈ d.2.2, okV bs c
structure Mch.Ok (s : Mch) : Prop where
  ar : arB (.lst s.bs) = true
  bg : vC s.bs 5 s.bg
  d8 : s.ds.length ≤ 8
  dn : (s.ds.map (·.1)).Nodup
  dv : ∀ d ∈ s.ds, OkD s.bs d
  mn : s.ms.Nodup
  mv : ∀ m ∈ s.ms, m ∈ s.ds.map (·.1)
theorem ar_inv {bs : List D} (h : arB (.lst bs) = true) : (1 ≤ bs.length ∧ bs.length ≤ 6) ∧ goodL [] bs = true ∧ prodI bs ≤ 64 := by
  unfold arB at h
  simp only [Bool.and_eq_true, decide_eq_true_eq] at h
  exact ⟨by (first | lia | omega), h.2.1, h.2.2⟩
theorem Mch.Ok.hb {s : Mch} (o : s.Ok) : ∀ b ∈ s.bs, boxB b = true := good_box (ar_inv o.ar).2.1
noncomputable def Mch.led (s : Mch) (n : Str) (st : List Int) : Option (List Int) := match s.ds.find? fun d => d.1 == n with
  | some d => ledO s.bs d.2.1 d.2.2 st
  | none => none
noncomputable def retOS : Option Sl → Fl
  | some (.ow d) => .rt d
  | some (.sh d) => if d.mut = true then .bad else .rt d
  | _ => .bad
@[simp] theorem retOS_ow (d : D) : retOS (some (.ow d)) = .rt d := (rfl)
end VL

namespace VL
open PyProof.Rows PySem L2 PySem.Spec
structure Mch.Dr (s : Mch) : Prop extends s.Ok where
  b3 : vC s.bs 3 s.bg
  d3 : ∀ d ∈ s.ds, vC s.bs 3 d.2.1
  l1 : 1 ≤ s.ds.length
  l4 : s.ds.length ≤ 4
  cf : s.cm = false
end VL

namespace VL
open PyProof.Rows PySem L2 PySem.Spec
noncomputable def Mch.rev (s : Mch) : Mch := ⟨s.bs, s.bg, s.ds.reverse, s.ms, s.cm⟩
theorem Mch.Ok.rev {s : Mch} (o : s.Ok) : s.rev.Ok := by
  refine ⟨o.ar, o.bg, by unfold Mch.rev; rw [List.length_reverse]; exact o.d8, ?_, fun d hd => o.dv d (List.mem_reverse.mp hd), o.mn, fun m hm => ?_⟩
  · unfold Mch.rev
    rw [List.map_reverse]
    exact (List.reverse_perm _).nodup_iff.mpr o.dn
  · unfold Mch.rev
    rw [List.map_reverse, List.mem_reverse]
    exact o.mv m hm
end VL

namespace VL
open PyProof.Rows PySem L2 PySem.Spec
section
variable {c : Lo → R Bool} {body : Lo → Fl}
end
section
variable {c : Lo → R Bool} {body : Lo → Fl}
end
noncomputable def Evn (d : Nat) (l : List (List Int)) : Prop := ∀ q ∈ l, q.length = d ∧ TS.Bd 64 q
structure Srtd (l : List (List Int)) (P : List Int → Prop) : Prop where
  asc : AscT l
  nd : l.Nodup
  mem : ∀ x, x ∈ l ↔ P x
theorem Srtd.of {l : List (List Int)} : Srtd (srtT (addsT [] l)) (· ∈ l) :=
  ⟨srtT_asc _, (srtT_perm _).nodup_iff.mpr (addsT_nodup List.nodup_nil), fun x => by rw [(srtT_perm _).mem_iff, addsT_mem]; simp⟩
theorem Srtd.eq {l m : List (List Int)} {P : List Int → Prop} {d : Nat} (s : Srtd l P) (t : Srtd m P) (h : Evn d l) : l = m :=
  asc_uniq s.asc t.asc ((List.perm_ext_iff_of_nodup s.nd t.nd).mpr fun x => (s.mem x).trans (t.mem x).symm) (cod_injs h)
inductive Rch (E : List Int → List (List Int)) (S : List Int → Prop) : List Int → Prop
  | base {x : List Int} (h : S x) : Rch E S x
  | step {x y : List Int} (h : Rch E S x) (hy : y ∈ E x) : Rch E S y
theorem Rch.mono {E E' : List Int → List (List Int)} {S S' : List Int → Prop} (hS : ∀ x, S x → Rch E' S' x) (hE : ∀ x y, Rch E' S' x → y ∈ E x → Rch E' S' y) {x : List Int} (h : Rch E S x) : Rch E' S' x := by
  induction h with
  | base h => exact hS _ h
  | step _ hy ih => exact hE _ _ ih hy
end VL

namespace VL
open PyProof.Rows PySem L2 PySem.Spec
noncomputable def Mch.nmr (s : Mch) : List Str := srtS (s.ds.map (·.1))
noncomputable def Mch.stp (s : Mch) (st : List Int) : List (Str × List Int) := s.nmr.filterMap fun n => (s.led n st).map fun l => (n, l)
end VL

namespace VL
open PyProof.Rows PySem L2 PySem.Spec
section
variable {ρ : Lo} {c f : Str} {es : List (Str × D)}
@[simp] theorem finI_ex (fs : List (Str × D)) (ρ : Lo) : (Fl.ex c fs ρ).finI = .ex c fs := (rfl)
noncomputable def tryG (hs : List Hd) : Fl → Fl
  | .ex c fs ρ' => hF c fs ρ' hs
  | r => r
@[simp] theorem tryG_nx (hs : List Hd) (ρ : Lo) : tryG hs (.nx ρ) = .nx ρ := (rfl)
@[simp] theorem tryG_bk (hs : List Hd) (ρ : Lo) : tryG hs (.bk ρ) = .bk ρ := (rfl)
@[simp] theorem tryG_ct (hs : List Hd) (ρ : Lo) : tryG hs (.ct ρ) = .ct ρ := (rfl)
@[simp] theorem tryG_rt (hs : List Hd) (d : D) : tryG hs (.rt d) = .rt d := (rfl)
@[simp] theorem tryG_ex (hs : List Hd) (fs : List (Str × D)) (ρ : Lo) : tryG hs (.ex c fs ρ) = hF c fs ρ hs := (rfl)
@[simp] theorem clr_nx (ie : Nat) (ρ : Lo) : clr ie (.nx ρ) = .nx (ρ.set ie .no) := (rfl)
@[simp] theorem clr_rt (ie : Nat) (d : D) : clr ie (.rt d) = .rt d := (rfl)
@[simp] theorem noEx_nx (ρ : Lo) : noEx (.nx ρ) = .nx ρ := (rfl)
@[simp] theorem noEx_rt (d : D) : noEx (.rt d) = .rt d := (rfl)
theorem xatt_ok {cs : List Str} {d : D} (h : cs.contains c = true) (e : es.lookup f = some d) : opXAtt cs f (.obj c es) = some d := (if_pos h).trans e
end
end VL

namespace VL
open PyProof.Rows PySem L2 PySem.Spec
end VL

namespace VL
open PyProof.Rows PySem L2 PySem.Spec
mutual
noncomputable def nd : D → Bool
  | .lst xs => ndL xs
  | .tup xs => ndL xs
  | .dic _ => false
  | _ => true
noncomputable def ndL : List D → Bool
  | [] => true
  | d :: r => nd d && ndL r
end
end VL

namespace VL
open PyProof.Rows PySem L2 PySem.Spec
section
variable {ρ : Lo} {i n : Nat} {d kd : D} {ks : List (List Key)} {ts us : List Tr} {k : List Key} {t u : Tr}
noncomputable def newDF (i : Nat) (ρ : Lo) (d : D) : Fl := match d.mut, toTr d with
  | true, some t => .nx (ρ.set i (.dp t))
  | _, _ => .bad
@[simp] theorem newDF_tdc0 : newDF i ρ (.tdc []) = .nx (ρ.set i (.dp (.nd (.tdc []) []))) := (rfl)
noncomputable def putNR (ks : List (List Key)) (ts : List Tr) (i : Nat) (ρ : Lo) : Option (List Key × Tr) → Fl
  | some (k, u) => .nx (ρ.set i (.dp (.nd (.tdc (ks ++ [k])) (ts ++ [u]))))
  | none => .bad
@[simp] theorem putNR_some : putNR ks ts i ρ (some (k, u)) = .nx (ρ.set i (.dp (.nd (.tdc (ks ++ [k])) (ts ++ [u])))) := (rfl)
noncomputable def appDR (fe : R D) (ks : List (List Key)) (ts : List Tr) (i : Nat) (ρ : Lo) : Option (Nat × List Tr) → Fl
  | some (n, us) => fb fe ρ fun d => .nx (ρ.set i (.dp (.nd (.tdc ks) (ts.set n (.nd .lst (us ++ [.sh d]))))))
  | none => .bad
@[simp] theorem appDR_some (fe : R D) : appDR fe ks ts i ρ (some (n, us)) = fb fe ρ fun d => .nx (ρ.set i (.dp (.nd (.tdc ks) (ts.set n (.nd .lst (us ++ [.sh d])))))) := (rfl)
noncomputable def fzdG (i : Nat) (ρ : Lo) : Option D → Lo
  | some d => ρ.set i (.sh d)
  | none => ρ
noncomputable def fzdH (i : Nat) (ρ : Lo) (a b : Option D) : Lo := match a with
  | some d => ρ.set i (.sh d)
  | none => fzdG i ρ b
@[simp] theorem fzdG_some : fzdG i ρ (some d) = ρ.set i (.sh d) := (rfl)
@[simp] theorem fzdH_some (b : Option D) : fzdH i ρ (some d) b = ρ.set i (.sh d) := (rfl)
noncomputable def fzdF (i : Nat) (ρ : Lo) : Option Sl → Lo
  | some (.dp t) => fzdH i ρ t.toR t.toD
  | _ => ρ
@[simp] theorem fzdF_dp : fzdF i ρ (some (.dp t)) = fzdH i ρ t.toR t.toD := (rfl)
@[simp] theorem fzdF_sh : fzdF i ρ (some (.sh d)) = ρ := (rfl)
end
end VL

namespace VL
open PyProof.Rows PySem L2 PySem.Spec
section
variable {ρ : Lo} {es : List (List Key × D)}
variable {i j : Nat} {p : List D} {x : D}
end
end VL

namespace VL
open PyProof.Rows PySem L2 PySem.Spec
section
variable {ρ : Lo} {i : Nat} {ds es : List D} {r : R D} {d : D} {z : Int}
end
end VL

namespace VL
open PyProof.Rows PySem L2 PySem.Spec
section
variable {ρ : Lo} {acc y : Str} {fs : List (Lo → R D)} {es : List (List Key × D)}
end
end VL

namespace VL
open PyProof.Rows PySem L2 PySem.Spec
section
variable {c : Str} {gg : List D → R D} {f1 f2 fs : List (Str × D)} {z : Bool} {xs : List D}
end
end VL

namespace VL
open PyProof.Rows PySem L2 PySem.Spec
section
variable {ρ : Lo} {d : D}
end
end VL

namespace VL
open PyProof.Rows PySem L2 PySem.Spec
section
variable {ρ : Lo} {xs ys : List D}
end
end VL

namespace VL
open PyProof.Rows PySem L2 PySem.Spec
noncomputable def appXF (ρ : Lo) (fe : R D) : D → Fl
  | .lst ds => if fits (ds.length + 1) = true then fb fe ρ fun _ => .nx ρ else .bad
  | _ => .bad
section
variable {ρ : Lo} {ds : List D} {fe : R D}
@[simp] theorem appXF_lst : appXF ρ fe (.lst ds) = if fits (ds.length + 1) = true then fb fe ρ fun _ => .nx ρ else .bad := (rfl)
end
end VL

namespace VL
open PyProof.Rows PySem L2 PySem.Spec
end VL

namespace VL
open PyProof.Rows PySem L2 PySem.Spec
end VL




namespace VL
open PyProof.Rows PySem L2 PySem.Spec
section
variable {ρ : Lo} {i : Nat} {π : List Nat} {ks : List NestedKey} {ts : List Tr} {k : NestedKey} {d : D} {neg : Bool} {f fi fe : Lo → R D} {r : R D} {s : Sl}
end
end VL

namespace VL
open PyProof.Rows PySem L2 PySem.Spec
section
variable {ρ : Lo} {i j : Nat} {a b d : D} {xs : List D} {fa f : Lo → R D} {ft : Lo → R (List D)} {r : R (List D)}
noncomputable def ptOF (r : R (List D)) : Option Sl → R (List D)
  | some (.ow (.lst xs)) => r.bind fun ds => .ok (.lst xs :: ds)
  | _ => .bad
@[simp] theorem isLst_lst : (D.lst xs).isLst = true := (rfl)
@[simp] theorem isLst_tup : (D.tup xs).isLst = false := (rfl)
@[simp] theorem isLst_str (x : Str) : (D.str x).isLst = false := (rfl)
@[simp] theorem isLst_int (x : Int) : (D.int x).isLst = false := (rfl)
@[simp] theorem isLst_non : D.non.isLst = false := (rfl)
@[simp] theorem isLst_bl (x : Bool) : (D.bl x).isLst = false := (rfl)
@[simp] theorem isLst_stT (st : List Int) : (stT st).isLst = false := (rfl)
@[simp] theorem ptOF_ow : ptOF r (some (.ow (.lst xs))) = r.bind fun ds => .ok (.lst xs :: ds) := (rfl)
end
end VL

namespace VL
open PyProof.Rows PySem L2 PySem.Spec
noncomputable def fzNF (i : Nat) (ρ : Lo) : Option Sl → Lo
  | some (.ow d) => if d.isDic = true then ρ else ρ.set i (.sh d)
  | some (.dp t) => match t.toD with
    | some d => ρ.set i (.sh d)
    | none => ρ
  | _ => ρ
section
variable {ρ : Lo} {i n : Nat} {ds xs : List D} {d : D} {f fe : Lo → R D} {c : Lo → R Bool} {b : Bool}
@[simp] theorem fzNF_lst : fzNF i ρ (some (.ow (.lst xs))) = ρ.set i (.sh (.lst xs)) := (rfl)
end
end VL

namespace VL
open PyProof.Rows PySem L2 PySem.Spec
noncomputable def Fl.finM : Fl → R D
  | .rt d => .ok d
  | _ => .bad
section
variable {ρ : Lo} {i : Nat} {ds xs : List D} {d : D} {f : Lo → R D} {g : List D → R D}
@[simp] theorem finM_rt : (Fl.rt d).finM = .ok d := (rfl)
end
end VL

namespace VL
open PyProof.Rows PySem L2 PySem.Spec
section
variable {ρ : Lo} {i : Nat} {c : Str} {gg : List D → R D} {fm fa fb : Lo → R D} {d : D} {s : Option Sl} {x : Sl}
end
end VL

namespace VL
open PyProof.Rows PySem L2 PySem.Spec
section
variable {ρ : Lo} {fa : Lo → R (List D)} {c : Str} {ns : List Str}
@[simp] theorem eMkx_ap : eMkx c ns fa ρ = (fa ρ).bind fun ds => if ds.length = ns.length then .ok (.obj c ((ns.zip ds).reverse)) else .bad := (rfl)
@[simp] theorem aRev_ap : aRev fa ρ = (fa ρ).bind fun ds => .ok ds.reverse := (rfl)
end
end VL

namespace K09
open PyProof.Rows PySem L2 PySem.Spec VL
noncomputable def b_law_numbers : Lo → Fl := (sq (sSet 3 (b2 (eV 0) (b2 (b1 (eC (.int 1)) opNeg) (eV 0) opSub) opMax))
  (sq (sSet 4 (eV 3))
  (sq (sNew 5 (eLst aNil))
  (sq (sFor (iR1 (b1 (eV 2) opLen)) (gS 6) (sIf (tAndB (tb (b2 (eV 3) (b2 (eC (.int 10)) (eC (.int 18)) opPow) opGe)) (tb (b2 (eV 4) (eC (.int 0)) opGt))) (sq (sApp 5 (b2 (eV 4) (b2 (eV 2) (eV 6) opIx) opMod))
  (sSet 4 (b2 (eV 4) (b2 (eV 2) (eV 6) opIx) opDiv))) (sq (sSet 7 (b2 (b2 (b2 (b2 (b2 (eV 3) (eC (.int 2147483629)) opMod) (b2 (eC (.int 7919)) (eV 1) opMul) opAdd) (eC (.int 1)) opAdd) (eC (.int 3)) opPow) (eC (.int 2147483647)) opMod))
  (sq (sSet 7 (b2 (b2 (b2 (eV 7) (b2 (eC (.int 104729)) (b2 (eV 6) (eC (.int 1)) opAdd) opMul) opAdd) (b2 (eV 6) (eC (.int 3)) opAdd) opMul) (eC (.int 2147483629)) opMod))
  (sq (sSet 7 (b2 (b2 (b2 (b2 (eV 7) (eC (.int 5)) opPow) (eC (.int 2147483647)) opMod) (eC (.int 48271)) opMul) (eC (.int 2147483629)) opMod))
  (sApp 5 (b2 (b2 (eV 7) (eC (.int 16)) opDiv) (b2 (eV 2) (eV 6) opIx) opMod)))))))
  (sFz 5 (sRet (eV 5)))))))
noncomputable def f_law_numbers : List D → R D := runF b_law_numbers 8
theorem e_law_numbers (a0 a1 a2 : D) : f_law_numbers [a0, a1, a2] = (b_law_numbers [.sh a0, .sh a1, .sh a2, .no, .no, .no, .no, .no]).fin := runF_fin _ _ _

noncomputable def b_law_odd : Lo → Fl := (sq (sSet 1 (eLst (aCons (eC .non) (aCons (eC (.bl true)) (aCons (eC (.bl false)) (aCons (eC (.str "")) (aCons (eC (.str "s")) (aCons (eC (.int 5)) (aCons (b1 (eC (.int 1)) opNeg) (aCons (eTup aNil) (aCons (eLst aNil) (aCons (eC (.dic [])) (aCons (eTup (aCons (eC (.str "s")) aNil)) (aCons (eLst (aCons (eTup (aCons (eC (.str "s")) (aCons (eC (.int 2)) (aCons (eC (.str "seen")) aNil)))) aNil)) (aCons (eTup (aCons (eC (.str "yes")) aNil)) (aCons (b2 (eC (.int 10)) (eC (.int 30)) opPow) (aCons (eC (.str "round")) aNil)))))))))))))))))
  (sRet (b2 (b2 (eV 1) (eLst (aCons (eTup (aCons (eC (.int 0)) aNil)) aNil)) opAdd) (b2 (eV 0) (eC (.int 16)) opMod) opIx)))
noncomputable def f_law_odd : List D → R D := runF b_law_odd 2
theorem e_law_odd (a0 : D) : f_law_odd [a0] = (b_law_odd [.sh a0, .no]).fin := runF_fin _ _ _

noncomputable def b_law_kinds : Lo → Fl := (sq (sSet 1 (eLst (aCons (b1 (eV 0) (opIsx [("NoMachine", true), ("NoRun", false), ("NoStand", false), ("NoMust", false), ("TooMany", false), ("NoText", false), ("NoDeed", false), ("NoNumber", false), ("NoName", false), ("Unlike", false), ("NoStays", false), ("NoWord", false), ("NoTable", false), ("NoNames", false), ("NoRow", false), ("Bare", false)])) (aCons (b1 (eV 0) (opIsx [("NoMachine", false), ("NoRun", true), ("NoStand", false), ("NoMust", false), ("TooMany", false), ("NoText", false), ("NoDeed", false), ("NoNumber", false), ("NoName", false), ("Unlike", false), ("NoStays", false), ("NoWord", false), ("NoTable", false), ("NoNames", false), ("NoRow", false), ("Bare", false)])) (aCons (b1 (eV 0) (opIsx [("NoMachine", false), ("NoRun", false), ("NoStand", true), ("NoMust", false), ("TooMany", false), ("NoText", false), ("NoDeed", false), ("NoNumber", false), ("NoName", false), ("Unlike", false), ("NoStays", false), ("NoWord", false), ("NoTable", false), ("NoNames", false), ("NoRow", false), ("Bare", false)])) aNil)))))
  (sq (sSet 1 (b2 (eV 1) (eLst (aCons (b1 (eV 0) (opIsx [("NoMachine", false), ("NoRun", false), ("NoStand", false), ("NoMust", true), ("TooMany", false), ("NoText", false), ("NoDeed", false), ("NoNumber", false), ("NoName", false), ("Unlike", false), ("NoStays", false), ("NoWord", false), ("NoTable", false), ("NoNames", false), ("NoRow", false), ("Bare", false)])) (aCons (b1 (eV 0) (opIsx [("NoMachine", false), ("NoRun", false), ("NoStand", false), ("NoMust", false), ("TooMany", true), ("NoText", false), ("NoDeed", false), ("NoNumber", false), ("NoName", false), ("Unlike", false), ("NoStays", false), ("NoWord", false), ("NoTable", false), ("NoNames", false), ("NoRow", false), ("Bare", false)])) (aCons (b1 (eV 0) (opIsx [("NoMachine", false), ("NoRun", false), ("NoStand", false), ("NoMust", false), ("TooMany", false), ("NoText", true), ("NoDeed", false), ("NoNumber", false), ("NoName", false), ("Unlike", false), ("NoStays", false), ("NoWord", false), ("NoTable", false), ("NoNames", false), ("NoRow", false), ("Bare", false)])) aNil)))) opAdd))
  (sq (sSet 1 (b2 (eV 1) (eLst (aCons (b1 (eV 0) (opIsx [("NoMachine", false), ("NoRun", false), ("NoStand", false), ("NoMust", false), ("TooMany", false), ("NoText", false), ("NoDeed", false), ("NoNumber", false), ("NoName", false), ("Unlike", true), ("NoStays", false), ("NoWord", false), ("NoTable", false), ("NoNames", false), ("NoRow", false), ("Bare", false)])) (aCons (b1 (eV 0) (opIsx [("NoMachine", false), ("NoRun", false), ("NoStand", false), ("NoMust", false), ("TooMany", false), ("NoText", false), ("NoDeed", false), ("NoNumber", false), ("NoName", false), ("Unlike", false), ("NoStays", true), ("NoWord", false), ("NoTable", false), ("NoNames", false), ("NoRow", false), ("Bare", false)])) (aCons (b1 (eV 0) (opIsx [("NoMachine", false), ("NoRun", false), ("NoStand", false), ("NoMust", false), ("TooMany", false), ("NoText", false), ("NoDeed", false), ("NoNumber", false), ("NoName", false), ("Unlike", false), ("NoStays", false), ("NoWord", true), ("NoTable", false), ("NoNames", false), ("NoRow", false), ("Bare", false)])) aNil)))) opAdd))
  (sq (sSet 1 (b2 (eV 1) (eLst (aCons (b1 (eV 0) (opIsx [("NoMachine", false), ("NoRun", false), ("NoStand", false), ("NoMust", false), ("TooMany", false), ("NoText", false), ("NoDeed", false), ("NoNumber", false), ("NoName", false), ("Unlike", false), ("NoStays", false), ("NoWord", false), ("NoTable", true), ("NoNames", false), ("NoRow", false), ("Bare", false)])) (aCons (b1 (eV 0) (opIsx [("NoMachine", false), ("NoRun", false), ("NoStand", false), ("NoMust", false), ("TooMany", false), ("NoText", false), ("NoDeed", false), ("NoNumber", false), ("NoName", false), ("Unlike", false), ("NoStays", false), ("NoWord", false), ("NoTable", false), ("NoNames", true), ("NoRow", false), ("Bare", false)])) (aCons (b1 (eV 0) (opIsx [("NoMachine", false), ("NoRun", false), ("NoStand", false), ("NoMust", false), ("TooMany", false), ("NoText", false), ("NoDeed", false), ("NoNumber", false), ("NoName", false), ("Unlike", false), ("NoStays", false), ("NoWord", false), ("NoTable", false), ("NoNames", false), ("NoRow", true), ("Bare", false)])) aNil)))) opAdd))
  (sq (sSet 1 (b2 (eV 1) (eLst (aCons (b1 (eV 0) (opIsx [("NoMachine", false), ("NoRun", false), ("NoStand", false), ("NoMust", false), ("TooMany", false), ("NoText", false), ("NoDeed", true), ("NoNumber", false), ("NoName", false), ("Unlike", false), ("NoStays", false), ("NoWord", false), ("NoTable", false), ("NoNames", false), ("NoRow", false), ("Bare", false)])) (aCons (b1 (eV 0) (opIsx [("NoMachine", false), ("NoRun", false), ("NoStand", false), ("NoMust", false), ("TooMany", false), ("NoText", false), ("NoDeed", false), ("NoNumber", true), ("NoName", false), ("Unlike", false), ("NoStays", false), ("NoWord", false), ("NoTable", false), ("NoNames", false), ("NoRow", false), ("Bare", false)])) (aCons (b1 (eV 0) (opIsx [("NoMachine", false), ("NoRun", false), ("NoStand", false), ("NoMust", false), ("TooMany", false), ("NoText", false), ("NoDeed", false), ("NoNumber", false), ("NoName", true), ("Unlike", false), ("NoStays", false), ("NoWord", false), ("NoTable", false), ("NoNames", false), ("NoRow", false), ("Bare", false)])) aNil)))) opAdd))
  (sRet (b2 (eV 1) (eLst (aCons (b1 (eV 0) (opIsx [("NoMachine", false), ("NoRun", false), ("NoStand", false), ("NoMust", false), ("TooMany", false), ("NoText", false), ("NoDeed", false), ("NoNumber", false), ("NoName", false), ("Unlike", false), ("NoStays", false), ("NoWord", false), ("NoTable", false), ("NoNames", false), ("NoRow", false), ("Bare", true)])) aNil)) opAdd)))))))
noncomputable def f_law_kinds : List D → R D := runF b_law_kinds 2
theorem e_law_kinds (a0 : D) : f_law_kinds [a0] = (b_law_kinds [.sh a0, .no]).fin := runF_fin _ _ _

noncomputable def b_law_over : Lo → Fl := (sq (sSet 1 (eLst (aCons (b1 (eV 0) (opIsx [("NoMachine", true), ("NoRun", true), ("NoStand", true), ("NoMust", true), ("TooMany", true), ("NoText", true), ("NoDeed", false), ("NoNumber", false), ("NoName", false), ("Unlike", true), ("NoStays", true), ("NoWord", true), ("NoTable", true), ("NoNames", true), ("NoRow", true), ("Bare", false)])) (aCons (b1 (eV 0) (opIsx [("NoMachine", false), ("NoRun", false), ("NoStand", false), ("NoMust", false), ("TooMany", false), ("NoText", false), ("NoDeed", true), ("NoNumber", true), ("NoName", true), ("Unlike", false), ("NoStays", false), ("NoWord", false), ("NoTable", false), ("NoNames", false), ("NoRow", false), ("Bare", false)])) (aCons (b1 (eV 0) (opIsx [("NoMachine", false), ("NoRun", false), ("NoStand", false), ("NoMust", false), ("TooMany", false), ("NoText", false), ("NoDeed", false), ("NoNumber", true), ("NoName", false), ("Unlike", false), ("NoStays", false), ("NoWord", false), ("NoTable", false), ("NoNames", false), ("NoRow", false), ("Bare", false)])) aNil)))))
  (sRet (b2 (eV 1) (eLst (aCons (b1 (eV 0) (opIsx [("NoMachine", false), ("NoRun", false), ("NoStand", false), ("NoMust", false), ("TooMany", false), ("NoText", false), ("NoDeed", false), ("NoNumber", false), ("NoName", true), ("Unlike", false), ("NoStays", false), ("NoWord", false), ("NoTable", false), ("NoNames", false), ("NoRow", false), ("Bare", false)])) (aCons (b1 (eV 0) (opIsx [("NoMachine", false), ("NoRun", false), ("NoStand", false), ("NoMust", false), ("TooMany", false), ("NoText", false), ("NoDeed", false), ("NoNumber", false), ("NoName", false), ("Unlike", false), ("NoStays", false), ("NoWord", false), ("NoTable", false), ("NoNames", false), ("NoRow", false), ("Bare", true)])) (aCons (b1 (eV 0) (opIsx [("NoMachine", false), ("NoRun", false), ("NoStand", false), ("NoMust", false), ("TooMany", false), ("NoText", false), ("NoDeed", false), ("NoNumber", false), ("NoName", false), ("Unlike", false), ("NoStays", false), ("NoWord", false), ("NoTable", false), ("NoNames", false), ("NoRow", false), ("Bare", false)])) aNil)))) opAdd)))
noncomputable def f_law_over : List D → R D := runF b_law_over 2
theorem e_law_over (a0 : D) : f_law_over [a0] = (b_law_over [.sh a0, .no]).fin := runF_fin _ _ _

noncomputable def b_law_all : Lo → Fl := (sq (sSet 2 (eLst (aCons (eMkx "NoMachine" ["part", "number"] (aCons (eV 0) (aCons (eV 1) aNil))) (aCons (eMkx "NoRun" ["part", "number"] (aCons (eV 0) (aCons (eV 1) aNil))) (aCons (eMkx "NoStand" ["stand"] (aCons (eV 0) aNil)) (aCons (eMkx "NoMust" ["name"] (aCons (eV 0) aNil)) (aCons (eMkx "TooMany" ["many"] (aCons (eV 0) aNil)) (aCons (eMkx "NoText" ["row"] (aCons (eV 0) aNil)) (aCons (eC (.obj "Unlike" [])) aNil)))))))))
  (sq (sSet 2 (b2 (eV 2) (eLst (aCons (eC (.obj "NoStays" [])) (aCons (eC (.obj "NoWord" [])) (aCons (eC (.obj "NoTable" [])) (aCons (eC (.obj "NoNames" [])) (aCons (eC (.obj "NoRow" [])) aNil)))))) opAdd))
  (sRet (b2 (eV 2) (eLst (aCons (eMkx "NoDeed" ["name"] (aCons (eV 0) aNil)) (aCons (eMkx "NoNumber" ["number"] (aCons (eV 0) aNil)) (aCons (eMkx "NoName" ["name"] (aCons (eV 0) aNil)) (aCons (eC (.obj "Bare" [])) aNil))))) opAdd))))
noncomputable def f_law_all : List D → R D := runF b_law_all 3
theorem e_law_all (a0 a1 : D) : f_law_all [a0, a1] = (b_law_all [.sh a0, .sh a1, .no]).fin := runF_fin _ _ _

noncomputable def b_law_by_names : Lo → Fl := (sq (sSet 2 (eLst (aCons (eMkx "NoMachine" ["part", "number"] (aRev (aCons (eV 1) (aCons (eV 0) aNil)))) (aCons (eMkx "NoRun" ["part", "number"] (aRev (aCons (eV 1) (aCons (eV 0) aNil)))) (aCons (eMkx "NoStand" ["stand"] (aRev (aCons (eV 0) aNil))) (aCons (eMkx "NoMust" ["name"] (aRev (aCons (eV 0) aNil))) aNil))))))
  (sq (sSet 2 (b2 (eV 2) (eLst (aCons (eMkx "TooMany" ["many"] (aRev (aCons (eV 0) aNil))) (aCons (eMkx "NoText" ["row"] (aRev (aCons (eV 0) aNil))) (aCons (eMkx "NoDeed" ["name"] (aRev (aCons (eV 0) aNil))) (aCons (eMkx "NoNumber" ["number"] (aRev (aCons (eV 0) aNil))) (aCons (eMkx "NoName" ["name"] (aRev (aCons (eV 0) aNil))) aNil)))))) opAdd))
  (sq (sSet 3 (eLst (aCons (b1 (b2 (eV 2) (eC (.int 0)) opIx) (opXAtt ["NoMachine", "NoRun"] "part")) (aCons (b1 (b2 (eV 2) (eC (.int 0)) opIx) (opXAtt ["NoMachine", "NoRun", "NoNumber"] "number")) (aCons (b1 (b2 (eV 2) (eC (.int 1)) opIx) (opXAtt ["NoMachine", "NoRun"] "part")) (aCons (b1 (b2 (eV 2) (eC (.int 1)) opIx) (opXAtt ["NoMachine", "NoRun", "NoNumber"] "number")) (aCons (b1 (b2 (eV 2) (eC (.int 2)) opIx) (opXAtt ["NoStand"] "stand")) (aCons (b1 (b2 (eV 2) (eC (.int 3)) opIx) (opXAtt ["NoMust", "NoDeed", "NoName"] "name")) aNil))))))))
  (sq (sSet 3 (b2 (eV 3) (eLst (aCons (b1 (b2 (eV 2) (eC (.int 4)) opIx) (opXAtt ["TooMany"] "many")) (aCons (b1 (b2 (eV 2) (eC (.int 5)) opIx) (opXAtt ["NoText"] "row")) (aCons (b1 (b2 (eV 2) (eC (.int 6)) opIx) (opXAtt ["NoMust", "NoDeed", "NoName"] "name")) (aCons (b1 (b2 (eV 2) (eC (.int 7)) opIx) (opXAtt ["NoMachine", "NoRun", "NoNumber"] "number")) (aCons (b1 (b2 (eV 2) (eC (.int 8)) opIx) (opXAtt ["NoMust", "NoDeed", "NoName"] "name")) aNil)))))) opAdd))
  (sRet (b2 (b1 (eV 3) opRepr) (b1 (b2 (eLst (aCons (eV 0) (aCons (eV 1) (aCons (eV 0) (aCons (eV 1) aNil))))) (b2 (eLst (aCons (eV 0) aNil)) (eC (.int 7)) opRep) opAdd) opRepr) opEq))))))
noncomputable def f_law_by_names : List D → R D := runF b_law_by_names 4
theorem e_law_by_names (a0 a1 : D) : f_law_by_names [a0, a1] = (b_law_by_names [.sh a0, .sh a1, .no, .no]).fin := runF_fin _ _ _

noncomputable def b_law : Lo → Fl := (sq (sFor (iE (b2 (eSl (eV 0) oN (oS (eC (.int 8)))) (b2 (eLst (aCons (eC (.int 7)) aNil)) (b1 (b2 (eV 0) (eLst aNil) opEq) opInt) opRep) opAdd)) (gT2 2 (gCons2 (gS 1) (gCons2 (gS 2) gNil2))) (sq (sSet 3 (eCall f_law_numbers (aCons (eV 2) (aCons (b2 (eC (.int 900)) (eV 1) opAdd) (aCons (eLst (aCons (eC (.int 16)) (aCons (eC (.int 16)) aNil))) aNil)))))
  (sq (sPar 4 5 (aCons (eCall f_law_odd (aCons (b2 (eV 3) (eC (.int 0)) opIx) aNil)) (aCons (eCall f_law_odd (aCons (b2 (eV 3) (eC (.int 1)) opIx) aNil)) aNil)))
  (sq (sSet 6 (eCall f_law_all (aCons (eV 4) (aCons (eV 5) aNil))))
  (sq (sFor (iE (eV 6)) (gT2 2 (gCons2 (gS 7) (gCons2 (gS 8) gNil2))) (sq (sIf (tb (b2 (eCall f_law_kinds (aCons (eV 8) aNil)) (eLc (iR1 (eC (.int 16))) (gS 9) tsY (b2 (eV 9) (eV 7) opEq) [9]) opNe)) (sRet (eC (.bl false))) sNx)
  (sq (sSet 10 (eLst (aCons (b2 (eV 7) (eC (.int 12)) opLt) (aCons (b2 (eV 7) (eTup (aCons (eC (.int 12)) (aCons (eC (.int 13)) (aCons (eC (.int 14)) aNil)))) opIn) (aCons (b2 (eV 7) (eC (.int 13)) opEq) (aCons (b2 (eV 7) (eC (.int 14)) opEq) (aCons (b2 (eV 7) (eC (.int 15)) opEq) (aCons (eC (.bl false)) aNil))))))))
  (sIf (tb (b2 (eCall f_law_over (aCons (eV 8) aNil)) (eV 10) opNe)) (sRet (eC (.bl false))) sNx))))
  (sq (sSet 11 (eLst (aCons (b1 (b2 (eV 6) (eC (.int 0)) opIx) (opXAtt ["NoMachine", "NoRun"] "part")) (aCons (b1 (b2 (eV 6) (eC (.int 0)) opIx) (opXAtt ["NoMachine", "NoRun", "NoNumber"] "number")) (aCons (b1 (b2 (eV 6) (eC (.int 1)) opIx) (opXAtt ["NoMachine", "NoRun"] "part")) (aCons (b1 (b2 (eV 6) (eC (.int 1)) opIx) (opXAtt ["NoMachine", "NoRun", "NoNumber"] "number")) (aCons (b1 (b2 (eV 6) (eC (.int 2)) opIx) (opXAtt ["NoStand"] "stand")) (aCons (b1 (b2 (eV 6) (eC (.int 3)) opIx) (opXAtt ["NoMust", "NoDeed", "NoName"] "name")) (aCons (b1 (b2 (eV 6) (eC (.int 4)) opIx) (opXAtt ["TooMany"] "many")) aNil)))))))))
  (sq (sSet 11 (b2 (eV 11) (eLst (aCons (b1 (b2 (eV 6) (eC (.int 5)) opIx) (opXAtt ["NoText"] "row")) (aCons (b1 (b2 (eV 6) (eC (.int 12)) opIx) (opXAtt ["NoMust", "NoDeed", "NoName"] "name")) (aCons (b1 (b2 (eV 6) (eC (.int 13)) opIx) (opXAtt ["NoMachine", "NoRun", "NoNumber"] "number")) (aCons (b1 (b2 (eV 6) (eC (.int 14)) opIx) (opXAtt ["NoMust", "NoDeed", "NoName"] "name")) aNil))))) opAdd))
  (sIf (tOrB (tb (b2 (b1 (eV 11) opRepr) (b1 (b2 (eLst (aCons (eV 4) (aCons (eV 5) (aCons (eV 4) (aCons (eV 5) aNil))))) (b2 (eLst (aCons (eV 4) aNil)) (eC (.int 7)) opRep) opAdd) opRepr) opNe)) (tNotB (tb (eCall f_law_by_names (aCons (eV 4) (aCons (eV 5) aNil)))))) (sRet (eC (.bl false))) sNx))))))))
  (sRet (eC (.bl true))))
noncomputable def f_law : List D → R D := runF b_law 12
theorem e_law (a0 : D) : f_law [a0] = (b_law [.sh a0, .no, .no, .no, .no, .no, .no, .no, .no, .no, .no, .no]).fin := runF_fin _ _ _

end K09

namespace K09
open PyProof.Rows PySem L2 PySem.Spec VL
local macro_rules
  | `(tactic| simp_arith only [$args,*] $[$l:location]?) => `(tactic| simp only [bind_ok, bind_ex, bind_bad, fb_ok, fb_ex, fb_bad, opt_some, opt_none, go_nx, go_bk, go_ct, go_rt, go_ex, go_bad, sq_go, fin_rt, fin_nx, fin_ex, val_sh, bor_sh, bor_ow, eV_ap, eC_ap, b1_ap, b2_ap, thn3_t, thn3_f, b3_ap, tru_bl, tb_ap, tAndB_ap, tOrB_ap, tNotB_ap, aNil_ap, aCons_ap, eTup_ap, eLst_ap, eCall_ap, oN_ap, oint_ok, oS_ap, eSl_ap, items_lst, items_tup, items_ctp, iR1_ap, enD_lst, iE_ap, gS_ap, gNil_ap, gCons_ap, gT_ap, sNx_ap, sFz_ap, sSet_ap, sNew_ap, nSl_lst, nSl_tup, nSl_int, nSl_dic, sRet_ap, sIf_ap, sFor_ap, eLc_ap, wipe_nil, wipe_cons, tsY_ap, fzS_ow, fzS_sh, fzS_no, fz_ap, augS_sh, appS_ow, sApp_ap, ends_nx, ends_ct, ends_bk, ends_rt, ends_ex, opAdd_ii, opSub_ii, opNeg_i, opLt_ii, opGt_ii, opGe_ii, opLen_l, opLen_t, opLen_c, opIx_l, opIx_t, opIx_c, opCut_l, opCut_t, opMax_ii, opInt_b, opInt_i, opEq_bb, opNe_bb, opEq_ii, opNe_ii, opNe_ss, opEq_ss, atI_0, atI_1, atI_2, atI_3, fit0, fit1, fit2, fit3, fit4, fit5, fit6, fit7, fit8, fit9, fit10, fit11, fit12, fit13, fit14, fit15, fit16, fit17, fit18, fit19, fit20, fit21, fit22, fit23, fit24, fit25, fit26, fit27, fit28, fit29, fit30, fit31, fit32, fit33, fit34, fit35, fit36, fit37, fit38, fit39, fit40, one_1, one_0, one_2, two_2, two_0, two_1, two_3, mtD_l, gTl_ap, lnt_sh, lnt_ow, putF_t, putR_ap, putS_l, putS_ds, putS_di, sPar_ap, parF_2, isDic_d, starK1, starK2, starK3, methF_t, enDt_t, putTF_t, putTR_ap, nSl_tdc, nSl_obj, insS_ow, finI_nx, retOS_ow, finI_ex, tryG_nx, tryG_bk, tryG_ct, tryG_rt, tryG_ex, clr_nx, clr_rt, noEx_nx, noEx_rt, newDF_tdc0, putNR_some, appDR_some, fzdG_some, fzdH_some, fzdF_dp, fzdF_sh, appXF_lst, isLst_lst, isLst_tup, isLst_str, isLst_int, isLst_non, isLst_bl, isLst_stT, ptOF_ow, fzNF_lst, finM_rt, eMkx_ap, aRev_ap, List.getElem?_cons_zero, List.getElem?_cons_succ, List.set_cons_zero, List.set_cons_succ, if_true, if_false, Bool.false_eq_true, List.length_cons, List.length_nil, List.length_map, Bool.true_and, Bool.and_true, Bool.false_and, Bool.and_false, Bool.not_true, Bool.not_false, eq_self, Nat.reduceEqDiff, Nat.reduceAdd, $args,*] $[$l]?)
  | `(tactic| simp_arith! only [$args,*] $[$l:location]?) => `(tactic| simp (disch := first | (first | lia | omega) | (simp only [List.length_cons, List.length_nil, List.length_map, List.length_append, Nat.reduceAdd, Nat.reduceLeDiff]; done) | (simp only [List.length_cons, List.length_nil, List.length_map, List.length_append, Nat.reduceAdd, Nat.reduceLeDiff]; (first | lia | omega))) only [bind_ok, bind_ex, bind_bad, fb_ok, fb_ex, fb_bad, opt_some, opt_none, go_nx, go_bk, go_ct, go_rt, go_ex, go_bad, sq_go, fin_rt, fin_nx, fin_ex, val_sh, bor_sh, bor_ow, eV_ap, eC_ap, b1_ap, b2_ap, thn3_t, thn3_f, b3_ap, tru_bl, tb_ap, tAndB_ap, tOrB_ap, tNotB_ap, aNil_ap, aCons_ap, eTup_ap, eLst_ap, eCall_ap, oN_ap, oint_ok, oS_ap, eSl_ap, items_lst, items_tup, items_ctp, iR1_ap, enD_lst, iE_ap, gS_ap, gNil_ap, gCons_ap, gT_ap, sNx_ap, sFz_ap, sSet_ap, sNew_ap, nSl_lst, nSl_tup, nSl_int, nSl_dic, sRet_ap, sIf_ap, sFor_ap, eLc_ap, wipe_nil, wipe_cons, tsY_ap, fzS_ow, fzS_sh, fzS_no, fz_ap, augS_sh, appS_ow, sApp_ap, ends_nx, ends_ct, ends_bk, ends_rt, ends_ex, opAdd_ii, opSub_ii, opNeg_i, opLt_ii, opGt_ii, opGe_ii, opLen_l, opLen_t, opLen_c, opIx_l, opIx_t, opIx_c, opCut_l, opCut_t, opMax_ii, opInt_b, opInt_i, opEq_bb, opNe_bb, opEq_ii, opNe_ii, opNe_ss, opEq_ss, atI_0, atI_1, atI_2, atI_3, fit0, fit1, fit2, fit3, fit4, fit5, fit6, fit7, fit8, fit9, fit10, fit11, fit12, fit13, fit14, fit15, fit16, fit17, fit18, fit19, fit20, fit21, fit22, fit23, fit24, fit25, fit26, fit27, fit28, fit29, fit30, fit31, fit32, fit33, fit34, fit35, fit36, fit37, fit38, fit39, fit40, one_1, one_0, one_2, two_2, two_0, two_1, two_3, mtD_l, gTl_ap, lnt_sh, lnt_ow, putF_t, putR_ap, putS_l, putS_ds, putS_di, sPar_ap, parF_2, isDic_d, starK1, starK2, starK3, methF_t, enDt_t, putTF_t, putTR_ap, nSl_tdc, nSl_obj, insS_ow, finI_nx, retOS_ow, finI_ex, tryG_nx, tryG_bk, tryG_ct, tryG_rt, tryG_ex, clr_nx, clr_rt, noEx_nx, noEx_rt, newDF_tdc0, putNR_some, appDR_some, fzdG_some, fzdH_some, fzdF_dp, fzdF_sh, appXF_lst, isLst_lst, isLst_tup, isLst_str, isLst_int, isLst_non, isLst_bl, isLst_stT, ptOF_ow, fzNF_lst, finM_rt, eMkx_ap, aRev_ap, List.getElem?_cons_zero, List.getElem?_cons_succ, List.set_cons_zero, List.set_cons_succ, if_true, if_false, Bool.false_eq_true, List.length_cons, List.length_nil, List.length_map, Bool.true_and, Bool.and_true, Bool.false_and, Bool.and_false, Bool.not_true, Bool.not_false, eq_self, Nat.reduceEqDiff, Nat.reduceAdd, $args,*] $[$l]?)
theorem numbers_ok (c s : Int) (hs : 0 ≤ s ∧ s ≤ 1000000) (sz : List Int) (hp : ∀ z ∈ sz, 0 < z ∧ z < 1073741824) (hl : sz.length ≤ 100000) : ∃ l : List Int, f_law_numbers [.int c, .int s, .lst (sz.map .int)] = .ok (.lst (l.map .int)) ∧ Dig sz l := by
  rw [e_law_numbers]
  unfold b_law_numbers
  simp_arith only [fits_of (show 0 ≤ 16777216 by (first | lia | omega)), range_n (show sz.length ≤ 16777216 by (first | lia | omega))]
  generalize hn : (if -1 - c > c then -1 - c else c) = n
  have hn0 : 0 ≤ n := by
    rw [← hn]
    split <;> (first | lia | omega)
  clear hn
  generalize hg : (sFz 5 (sRet (eV 5)) : Lo → Fl) = g
  refine (forL_post (Post := fun r => ∃ l : List Int, (r.go g).fin = .ok (.lst (l.map .int)) ∧ Dig sz l) (NumP c s n sz) (fun d r ρ h => ?_) (fun ρ h => ?_) ⟨[], n, .no, .no, by simp, rfl, rfl, rfl, fun i x z h => by simp at h⟩ :)
  · obtain ⟨l, lf, x6, x7, h1, h2, rfl, hd⟩ := h
    by_cases hlt : l.length < sz.length
    · rw [rng_cons (by (first | lia | omega))] at h2
      cases h2
      refine ⟨_, rfl, ?_⟩
      have hz : sz[l.length]? = some sz[l.length] := by simp [hlt]
      obtain ⟨zp, zl⟩ := hp sz[l.length] (List.getElem_mem hlt)
      generalize sz[l.length] = z at hz zp zl
      have ax : atI (sz.map D.int) (l.length : Int) = some (.int z) := atI_nat (by simp [hz])
      have m1 := Int.emod_nonneg n (b := 2147483629) (by (first | lia | omega))
      have m2 := Int.emod_lt_of_pos n (b := 2147483629) (by (first | lia | omega))
      have d16 : (0 : Int) < 16 ∧ (16 : Int) < 1073741824 := by (first | lia | omega)
      have fl := fits_of (show l.length + 1 ≤ 16777216 by (first | lia | omega))
      simp_arith only [pow18]
      by_cases hc : (decide (1000000000000000000 ≤ n) = true ∧ decide (0 < lf) = true)
      · simp_arith only [hc.1, hc.2, ax, opMod_ii zp, opDiv_ii ⟨zp, zl⟩, fl]
        exact num_key hd hz ⟨Int.emod_nonneg _ (by (first | lia | omega)), Int.emod_lt_of_pos _ zp⟩
      · have hcc : (if decide (1000000000000000000 ≤ n) = true then (R.ok (decide (0 < lf)) : R Bool) else .ok false) = .ok false := by
          split
          · rename_i q
            rw [Bool.eq_false_iff.mpr fun z => hc ⟨q, z⟩]
          · rfl
        rw [hcc]
        simp_arith only [ax, opMod_ii (show (0 : Int) < 2147483629 by (first | lia | omega)), opMod_ii (show (0 : Int) < 2147483647 by (first | lia | omega)), opMod_ii zp, opDiv_ii d16, mul_l s (show (0 : Int) ≤ 7919 by (first | lia | omega)) (by (first | lia | omega)), pow_ok (b := n % 2147483629 + 7919 * s + 1) (e := 3) (by (first | lia | omega)) (by (first | lia | omega)) (by (first | lia | omega)) (by (first | lia | omega)), mul_l _ (show (0 : Int) ≤ 104729 by (first | lia | omega)) (by (first | lia | omega)), mul_r _ (show 0 ≤ (l.length : Int) + 3 by (first | lia | omega)) (by (first | lia | omega))]
        generalize ((((n % 2147483629 + 7919 * s + 1) ^ (3 : Int).toNat % 2147483647 + 104729 * ((l.length : Int) + 1)) * ((l.length : Int) + 3))) = w
        have w1 := Int.emod_nonneg w (b := 2147483629) (by (first | lia | omega))
        have w2 := Int.emod_lt_of_pos w (b := 2147483629) (by (first | lia | omega))
        simp_arith only [ax, pow_ok (b := w % 2147483629) (e := 5) (by (first | lia | omega)) (by (first | lia | omega)) (by (first | lia | omega)) (by (first | lia | omega)), opMod_ii (show (0 : Int) < 2147483629 by (first | lia | omega)), opMod_ii (show (0 : Int) < 2147483647 by (first | lia | omega)), mul_r _ (show (0 : Int) ≤ 48271 by (first | lia | omega)) (by (first | lia | omega)), opMod_ii zp, opDiv_ii d16, fl]
        exact num_key hd hz ⟨Int.emod_nonneg _ (by (first | lia | omega)), Int.emod_lt_of_pos _ zp⟩
    · rw [rng_nil (by (first | lia | omega))] at h2
      cases h2
  · obtain ⟨l, lf, x6, x7, h1, h2, rfl, hd⟩ := h
    have e : l.length = sz.length := by
      by_cases hlt : l.length < sz.length
      · rw [rng_cons (by (first | lia | omega))] at h2
        cases h2
      · (first | lia | omega)
    refine ⟨l, ?_, by rw [e, List.take_length] at hd; exact hd⟩
    subst hg
    simp_arith only [eq_self]

theorem odd_ok2 (g : Int) : ∃ d, f_law_odd [.int g] = .ok d ∧ Ok 400 2 d := by
  obtain ⟨v, hv, e⟩ := atI_mod (xs := oddL) g (n := 16) rfl (by decide)
  refine ⟨v, ?_, oddL_ok v hv⟩
  rw [e_law_odd]
  unfold b_law_odd
  simp_arith! only [fits_of, pow30, opAdd_lw, opMod_ii, List.cons_append, List.nil_append]
  unfold oddL at e
  rw [e]
  rfl

theorem eqvAll_bls : ∀ l : List Bool, PyData.eqvAll (pyL (l.map .bl)) (pyL (l.map .bl)) = true
  | [] => by simp only [List.map_nil, pyL, PyData.eqvAll]
  | b :: l => by
    have ih := eqvAll_bls l
    rw [List.map_cons]
    simp only [pyL, py, PyData.eqvAll, PyData.eqv, ih, beq_self_eq_true, Bool.and_self]
theorem ne_bls (l : List Bool) : opNe (.lst (l.map .bl)) (.lst (l.map .bl)) = some (.bl false) := by
  have la : Lay 1 (.lst (l.map .bl)) := lay_lst fun d hd => by
    obtain ⟨b, _, rfl⟩ := List.mem_map.mp hd
    exact lay_b b
  have e : (D.lst (l.map .bl)).eqv (.lst (l.map .bl)) = true := by
    have := eqvAll_bls l
    unfold D.eqv
    simp only [py, PyData.eqv, this]
  rw [opNe_sh la la (by (first | lia | omega)) (by (first | lia | omega)), e]
  rfl
noncomputable def exL (one two : D) : List D := [.obj "NoMachine" [("number", two), ("part", one)], .obj "NoRun" [("number", two), ("part", one)], .obj "NoStand" [("stand", one)], .obj "NoMust" [("name", one)], .obj "TooMany" [("many", one)], .obj "NoText" [("row", one)], .obj "Unlike" [], .obj "NoStays" [], .obj "NoWord" [], .obj "NoTable" [], .obj "NoNames" [], .obj "NoRow" [],
  .obj "NoDeed" [("name", one)], .obj "NoNumber" [("number", one)], .obj "NoName" [("name", one)], .obj "Bare" []]
theorem all_09 (one two : D) : f_law_all [one, two] = .ok (.lst (exL one two)) := by rfl
noncomputable def kindL (i : Nat) : List Bool := (List.range 16).map fun j => decide (j = i)
noncomputable def overL (i : Nat) : List Bool := [decide (i < 12), decide (i = 12 ∨ i = 13 ∨ i = 14), decide (i = 13), decide (i = 14), decide (i = 15), false]
theorem kinds_09 (one two : D) : ∀ (i : Nat) (d : D), (exL one two)[i]? = some d → f_law_kinds [d] = .ok (.lst ((kindL i).map .bl)) ∧ f_law_over [d] = .ok (.lst ((overL i).map .bl))
  | 0, _, h => by cases h; exact ⟨rfl, rfl⟩
  | 1, _, h => by cases h; exact ⟨rfl, rfl⟩
  | 2, _, h => by cases h; exact ⟨rfl, rfl⟩
  | 3, _, h => by cases h; exact ⟨rfl, rfl⟩
  | 4, _, h => by cases h; exact ⟨rfl, rfl⟩
  | 5, _, h => by cases h; exact ⟨rfl, rfl⟩
  | 6, _, h => by cases h; exact ⟨rfl, rfl⟩
  | 7, _, h => by cases h; exact ⟨rfl, rfl⟩
  | 8, _, h => by cases h; exact ⟨rfl, rfl⟩
  | 9, _, h => by cases h; exact ⟨rfl, rfl⟩
  | 10, _, h => by cases h; exact ⟨rfl, rfl⟩
  | 11, _, h => by cases h; exact ⟨rfl, rfl⟩
  | 12, _, h => by cases h; exact ⟨rfl, rfl⟩
  | 13, _, h => by cases h; exact ⟨rfl, rfl⟩
  | 14, _, h => by cases h; exact ⟨rfl, rfl⟩
  | 15, _, h => by cases h; exact ⟨rfl, rfl⟩
  | _ + 16, _, h => by cases h
noncomputable def vals09 (one two : D) : D := .lst [one, two, one, two, one, one, one, one, one, one, one]
theorem rep_09 {one two : D} (h1 : Ok 400 2 one) (h2 : Ok 400 2 two) : opRepr (vals09 one two) = some (.str (py (vals09 one two)).shown) := by
  exact (Ok.lst (w := 400) (k := 2) 11 (by simp) fun d hd => by
    simp only [List.mem_cons, List.not_mem_nil, or_false] at hd
    rcases hd with rfl | rfl | rfl | rfl | rfl | rfl | rfl | rfl | rfl | rfl | rfl <;> assumption).rep (by (first | lia | omega)) (by (first | lia | omega))
theorem names_09 {one two : D} (h1 : Ok 400 2 one) (h2 : Ok 400 2 two) : f_law_by_names [one, two] = .ok (.bl true) := by
  have r := rep_09 h1 h2
  unfold vals09 at r
  have z2 : ∀ (a b : Str) (x y : D), ([a, b].zip [x, y]).reverse = [(b, y), (a, x)] := fun _ _ _ _ => rfl
  have z1 : ∀ (a : Str) (x : D), ([a].zip [x]).reverse = [(a, x)] := fun _ _ => rfl
  have rv : ∀ x y : D, [x, y].reverse = [y, x] := fun _ _ => rfl
  have rv1 : ∀ x : D, [x].reverse = [x] := fun _ => rfl
  have xa : ∀ (cs : List Str) (f c : Str) (fs : List (Str × D)) (d : D), (cs.contains c && true) = true → fs.lookup f = some d → opXAtt cs f (.obj c fs) = some d := fun cs f c fs d h1 h2 => xatt_ok (by simpa using h1) h2
  have a1 : opXAtt ["NoMachine", "NoRun"] "part" (.obj "NoMachine" [("number", two), ("part", one)]) = some one := rfl
  have a2 : opXAtt ["NoMachine", "NoRun", "NoNumber"] "number" (.obj "NoMachine" [("number", two), ("part", one)]) = some two := rfl
  have a3 : opXAtt ["NoMachine", "NoRun"] "part" (.obj "NoRun" [("number", two), ("part", one)]) = some one := rfl
  have a4 : opXAtt ["NoMachine", "NoRun", "NoNumber"] "number" (.obj "NoRun" [("number", two), ("part", one)]) = some two := rfl
  have a5 : opXAtt ["NoStand"] "stand" (.obj "NoStand" [("stand", one)]) = some one := rfl
  have a6 : opXAtt ["NoMust", "NoDeed", "NoName"] "name" (.obj "NoMust" [("name", one)]) = some one := rfl
  have a7 : opXAtt ["TooMany"] "many" (.obj "TooMany" [("many", one)]) = some one := rfl
  have a8 : opXAtt ["NoText"] "row" (.obj "NoText" [("row", one)]) = some one := rfl
  have a9 : opXAtt ["NoMust", "NoDeed", "NoName"] "name" (.obj "NoDeed" [("name", one)]) = some one := rfl
  have a10 : opXAtt ["NoMachine", "NoRun", "NoNumber"] "number" (.obj "NoNumber" [("number", one)]) = some one := rfl
  have a11 : opXAtt ["NoMust", "NoDeed", "NoName"] "name" (.obj "NoName" [("name", one)]) = some one := rfl
  have r7 : opRep (.lst [one]) (.int 7) = some (.lst [one, one, one, one, one, one, one]) := rfl
  rw [e_law_by_names]
  unfold b_law_by_names
  simp_arith! only [fits_of, opAdd_lw, rv, rv1, z2, z1, List.cons_append, List.nil_append, opIx_l, atI_0, a1, a2, a3, a4, a5, a6, a7, a8, a9, a10, a11, r7]
  have i2 : ∀ a b c d e f g h i : D, atI [a, b, c, d, e, f, g, h, i] 1 = some b ∧ atI [a, b, c, d, e, f, g, h, i] 2 = some c ∧ atI [a, b, c, d, e, f, g, h, i] 3 = some d ∧ atI [a, b, c, d, e, f, g, h, i] 4 = some e ∧ atI [a, b, c, d, e, f, g, h, i] 5 = some f ∧ atI [a, b, c, d, e, f, g, h, i] 6 = some g ∧ atI [a, b, c, d, e, f, g, h, i] 7 = some h ∧ atI [a, b, c, d, e, f, g, h, i] 8 = some i := fun _ _ _ _ _ _ _ _ _ => ⟨rfl, rfl, rfl, rfl, rfl, rfl, rfl, rfl⟩
  simp_arith! only [fits_of, opAdd_lw, List.cons_append, List.nil_append, i2, a1, a2, a3, a4, a5, a6, a7, a8, a9, a10, a11, r7, r, beq_self_eq_true]
noncomputable def tB09 : Lo → Fl := (sq (sIf (tb (b2 (eCall f_law_kinds (aCons (eV 8) aNil)) (eLc (iR1 (eC (.int 16))) (gS 9) tsY (b2 (eV 9) (eV 7) opEq) [9]) opNe)) (sRet (eC (.bl false))) sNx)
  (sq (sSet 10 (eLst (aCons (b2 (eV 7) (eC (.int 12)) opLt) (aCons (b2 (eV 7) (eTup (aCons (eC (.int 12)) (aCons (eC (.int 13)) (aCons (eC (.int 14)) aNil)))) opIn) (aCons (b2 (eV 7) (eC (.int 13)) opEq) (aCons (b2 (eV 7) (eC (.int 14)) opEq) (aCons (b2 (eV 7) (eC (.int 15)) opEq) (aCons (eC (.bl false)) aNil))))))))
  (sIf (tb (b2 (eCall f_law_over (aCons (eV 8) aNil)) (eV 10) opNe)) (sRet (eC (.bl false))) sNx)))
theorem place_09 {i : Nat} (hi : i < 16) : (opLt (.int (i : Int)) (.int 12) = some (.bl (decide (i < 12))) ∧ opIn (.int (i : Int)) (.tup [.int 12, .int 13, .int 14]) = some (.bl (decide (i = 12 ∨ i = 13 ∨ i = 14)))) ∧ (opEq (.int (i : Int)) (.int 13) = some (.bl (decide (i = 13))) ∧ opEq (.int (i : Int)) (.int 14) = some (.bl (decide (i = 14))) ∧ opEq (.int (i : Int)) (.int 15) = some (.bl (decide (i = 15)))) := by
  have : i = 0 ∨ i = 1 ∨ i = 2 ∨ i = 3 ∨ i = 4 ∨ i = 5 ∨ i = 6 ∨ i = 7 ∨ i = 8 ∨ i = 9 ∨ i = 10 ∨ i = 11 ∨ i = 12 ∨ i = 13 ∨ i = 14 ∨ i = 15 := by (first | lia | omega)
  rcases this with rfl | rfl | rfl | rfl | rfl | rfl | rfl | rfl | rfl | rfl | rfl | rfl | rfl | rfl | rfl | rfl <;> exact ⟨⟨rfl, rfl⟩, rfl, rfl, rfl⟩
theorem row_09 (x0 x1 x2 x3 x4 x5 x6 x8 x9 x10 x11 : Sl) {i : Nat} (hi : i < 16) : lcL (gS 9) tsY (b2 (eV 9) (eV 7) opEq) [x0, x1, x2, x3, x4, x5, x6, .sh (.int (i : Int)), x8, x9, x10, x11] ((List.range 16).map fun j : Nat => D.int (j : Int)) = .ok ((kindL i).map .bl) := by
  have e := lcL_encM (asg := gS 9) (elt := b2 (eV 9) (eV 7) opEq) (ρ := [x0, x1, x2, x3, x4, x5, x6, .sh (.int (i : Int)), x8, x9, x10, x11]) (fun j : Nat => D.int (j : Int)) (fun j => D.bl (decide (j = i))) (l := List.range 16) fun j hj => ⟨_, rfl, by
    have q : opEq (.int (j : Int)) (.int (i : Int)) = some (.bl (decide (j = i))) := by
      rw [opEq_ii]
      congr 2
      rw [Bool.eq_iff_iff, beq_iff_eq, decide_eq_true_eq]
      (first | lia | omega)
    simp_arith only [q]⟩
  rw [e]
  unfold kindL
  rw [List.map_map]
  rfl
theorem turn_09 {one two d : D} {i : Nat} (h : (exL one two)[i]? = some d) (x0 x1 x2 x3 x4 x5 x6 x9 x10 x11 : Sl) : ∃ y10, tB09 [x0, x1, x2, x3, x4, x5, x6, .sh (.int (i : Int)), .sh d, x9, x10, x11] = .nx [x0, x1, x2, x3, x4, x5, x6, .sh (.int (i : Int)), .sh d, x9, y10, x11] := by
  have hi : i < 16 := (List.getElem?_eq_some_iff.mp h).1
  obtain ⟨k, o⟩ := kinds_09 one two i d h
  obtain ⟨⟨p1, p2⟩, p3, p4, p5⟩ := place_09 hi
  have r16 : rangeD (.int 16) = .ok ((List.range 16).map fun j : Nat => D.int (j : Int)) := by rfl
  have rw9 := row_09 x0 x1 x2 x3 x4 x5 x6 (.sh d) .no x10 x11 hi
  have n1 := ne_bls (kindL i)
  have n2 := ne_bls (overL i)
  have n2 : opNe (.lst ((overL i).map .bl)) (.lst [.bl (decide (i < 12)), .bl (decide (i = 12 ∨ i = 13 ∨ i = 14)), .bl (decide (i = 13)), .bl (decide (i = 14)), .bl (decide (i = 15)), .bl false]) = some (.bl false) := n2
  generalize (kindL i).map D.bl = KL at k rw9 n1
  generalize (overL i).map D.bl = OL at o n2
  unfold tB09
  simp_arith only [k, o, r16, rw9, n1, p1, p2, p3, p4, p5, n2]
  exact ⟨_, rfl⟩
theorem turns_09 (one two : D) (x0 x1 x2 x3 x4 x5 x6 x9 x11 : Sl) : ∀ (k i : Nat), i + k = 16 → ∀ x7 x8 x10 : Sl, ∃ y7 y8 y10, forL (gT2 2 (gCons2 (gS 7) (gCons2 (gS 8) gNil2))) tB09 (enF (i : Int) ((exL one two).drop i)) [x0, x1, x2, x3, x4, x5, x6, x7, x8, x9, x10, x11] = .nx [x0, x1, x2, x3, x4, x5, x6, y7, y8, x9, y10, x11]
  | 0, i, h, x7, x8, x10 => by
    obtain rfl : i = 16 := by (first | lia | omega)
    exact ⟨x7, x8, x10, rfl⟩
  | k + 1, i, h, x7, x8, x10 => by
    have hi : i < (exL one two).length := by show i < 16; (first | lia | omega)
    have hd := List.drop_eq_getElem_cons hi
    have ge : (exL one two)[i]? = some (exL one two)[i] := List.getElem?_eq_getElem hi
    rw [hd]
    generalize (exL one two)[i] = d at ge
    obtain ⟨w10, e⟩ := turn_09 ge x0 x1 x2 x3 x4 x5 x6 x9 x10 x11
    obtain ⟨y7, y8, y10, ih⟩ := turns_09 one two x0 x1 x2 x3 x4 x5 x6 x9 x11 k (i + 1) (by (first | lia | omega)) (.sh (.int (i : Int))) (.sh d) w10
    refine ⟨y7, y8, y10, ?_⟩
    have en : enF (i : Int) (d :: (exL one two).drop (i + 1)) = .tup [.int (i : Int), d] :: enF ((i + 1 : Nat) : Int) ((exL one two).drop (i + 1)) := rfl
    rw [en, ← ih]
    have a : gT2 2 (gCons2 (gS 7) (gCons2 (gS 8) gNil2)) (.tup [.int (i : Int), d]) [x0, x1, x2, x3, x4, x5, x6, x7, x8, x9, x10, x11] = .ok [x0, x1, x2, x3, x4, x5, x6, .sh (.int (i : Int)), .sh d, x9, x10, x11] := rfl
    conv => lhs; unfold forL
    rw [a]
    dsimp only
    rw [e]
theorem law_true (ns : List Int) (hl : ns.length ≤ 63) : f_law [.lst (ns.map .int)] = .ok (.bl true) := by
  rw [e_law]
  unfold b_law
  generalize hb7 : (if (ns.map D.int).isEmpty = true then [7] else ([] : List Int)) = b7
  have l7 : b7.length ≤ 1 := by rw [← hb7]; split <;> simp
  simp_arith! only [cut_mapL, eq_nil_ints, rep7, hb7, fits_of, add_ints (show (ns.take (Int.toNat 8)).length + b7.length ≤ 16777216 by simp; (first | lia | omega))]
  rw [enumD_eq]
  have lc : (ns.take (Int.toNat 8) ++ b7).length ≤ 11 := by simp; (first | lia | omega)
  generalize ns.take (Int.toNat 8) ++ b7 = cs at lc
  generalize hg : (sRet (eC (.bl true)) : Lo → Fl) = g
  refine (forL_post (Post := fun r => (r.go g).fin = .ok (.bl true)) (fun r ρ => ∃ (i : Int) (t : List Int) (x1 x2 x3 x4 x5 x6 x7 x8 x9 x10 x11 : Sl), r = enF i (t.map .int) ∧ 0 ≤ i ∧ i + t.length ≤ 11 ∧ ρ = [.sh (.lst (ns.map .int)), x1, x2, x3, x4, x5, x6, x7, x8, x9, x10, x11]) (fun d r ρ q => ?_) (fun ρ q => ?_) ⟨0, cs, .no, .no, .no, .no, .no, .no, .no, .no, .no, .no, .no, rfl, by (first | lia | omega), by (first | lia | omega), rfl⟩ :)
  · obtain ⟨i, t, x1, x2, x3, x4, x5, x6, x7, x8, x9, x10, x11, h2, h3, h4, rfl⟩ := q
    rcases enF_nil h2 with ⟨rfl, e⟩ | ⟨c, t, rfl, e⟩
    · cases e
    · cases e
      refine ⟨_, rfl, ?_⟩
      rw [List.length_cons] at h4
      obtain ⟨l, en, hd⟩ := numbers_ok c (900 + i) (by (first | lia | omega)) [16, 16] (fun z hz => by
        simp only [List.mem_cons, List.not_mem_nil, or_false] at hz
        (first | lia | omega)) (by simp)
      have hll : l.length = 2 := hd.1
      obtain ⟨u, v, rfl⟩ : ∃ u v, l = [u, v] := by
        match l, hll with
        | [u, v], _ => exact ⟨u, v, rfl⟩
      obtain ⟨one, o1, k1⟩ := odd_ok2 u
      obtain ⟨two, o2, k2⟩ := odd_ok2 v
      have rp := rep_09 k1 k2
      have nm := names_09 k1 k2
      have al := all_09 one two
      obtain ⟨y7, y8, y10, lp⟩ := turns_09 one two (.sh (.lst (ns.map .int))) (.sh (.int i)) (.sh (.int c)) (.sh (.lst [.int u, .int v])) (.sh one) (.sh two) (.sh (.lst (exL one two))) x9 x11 16 0 rfl x7 x8 x10
      have lp : forL (gT2 2 (gCons2 (gS 7) (gCons2 (gS 8) gNil2))) tB09 (enF 0 (exL one two)) [.sh (.lst (ns.map .int)), .sh (.int i), .sh (.int c), .sh (.lst [.int u, .int v]), .sh one, .sh two, .sh (.lst (exL one two)), x7, x8, x9, x10, x11] = _ := lp
      have en : f_law_numbers [.int c, .int (900 + i), .lst [.int 16, .int 16]] = .ok (.lst [.int u, .int v]) := en
      have q0 : atI (exL one two) 0 = some (.obj "NoMachine" [("number", two), ("part", one)]) := rfl
      have q1 : atI (exL one two) 1 = some (.obj "NoRun" [("number", two), ("part", one)]) := rfl
      have q2 : atI (exL one two) 2 = some (.obj "NoStand" [("stand", one)]) := rfl
      have q3 : atI (exL one two) 3 = some (.obj "NoMust" [("name", one)]) := rfl
      have q4 : atI (exL one two) 4 = some (.obj "TooMany" [("many", one)]) := rfl
      have q5 : atI (exL one two) 5 = some (.obj "NoText" [("row", one)]) := rfl
      have q12 : atI (exL one two) 12 = some (.obj "NoDeed" [("name", one)]) := rfl
      have q13 : atI (exL one two) 13 = some (.obj "NoNumber" [("number", one)]) := rfl
      have q14 : atI (exL one two) 14 = some (.obj "NoName" [("name", one)]) := rfl
      have a1 : opXAtt ["NoMachine", "NoRun"] "part" (.obj "NoMachine" [("number", two), ("part", one)]) = some one := rfl
      have a2 : opXAtt ["NoMachine", "NoRun", "NoNumber"] "number" (.obj "NoMachine" [("number", two), ("part", one)]) = some two := rfl
      have a3 : opXAtt ["NoMachine", "NoRun"] "part" (.obj "NoRun" [("number", two), ("part", one)]) = some one := rfl
      have a4 : opXAtt ["NoMachine", "NoRun", "NoNumber"] "number" (.obj "NoRun" [("number", two), ("part", one)]) = some two := rfl
      have a5 : opXAtt ["NoStand"] "stand" (.obj "NoStand" [("stand", one)]) = some one := rfl
      have a6 : opXAtt ["NoMust", "NoDeed", "NoName"] "name" (.obj "NoMust" [("name", one)]) = some one := rfl
      have a7 : opXAtt ["TooMany"] "many" (.obj "TooMany" [("many", one)]) = some one := rfl
      have a8 : opXAtt ["NoText"] "row" (.obj "NoText" [("row", one)]) = some one := rfl
      have a9 : opXAtt ["NoMust", "NoDeed", "NoName"] "name" (.obj "NoDeed" [("name", one)]) = some one := rfl
      have a10 : opXAtt ["NoMachine", "NoRun", "NoNumber"] "number" (.obj "NoNumber" [("number", one)]) = some one := rfl
      have a11 : opXAtt ["NoMust", "NoDeed", "NoName"] "name" (.obj "NoName" [("name", one)]) = some one := rfl
      have r7 : opRep (.lst [one]) (.int 7) = some (.lst [one, one, one, one, one, one, one]) := rfl
      have fe : fits (exL one two).length = true := rfl
      unfold vals09 at rp
      unfold tB09 at lp
      have ei : enD (.lst (exL one two)) = .ok (enF 0 (exL one two)) := by first | rfl | exact enumD_eq _
      have nx : ∀ x : Str, opNe (.str x) (.str x) = some (.bl false) := fun x => by rw [opNe_ss, bne_self_eq_false]
      generalize exL one two = EX at al lp q0 q1 q2 q3 q4 q5 q12 q13 q14 fe ei
      simp_arith! only [fits_of, en, o1, o2, al, ei, lp, fe, opAdd_lw, List.cons_append, List.nil_append, q0, q1, q2, q3, q4, q5, q12, q13, q14, a1, a2, a3, a4, a5, a6, a7, a8, a9, a10, a11, r7, rp, nx, nm]
      exact ⟨i + 1, t, _, _, _, _, _, _, _, _, _, _, _, rfl, by (first | lia | omega), by (first | lia | omega), rfl⟩
  · obtain ⟨i, t, x1, x2, x3, x4, x5, x6, x7, x8, x9, x10, x11, h2, h3, h4, rfl⟩ := q
    subst hg
    simp_arith only [eq_self]

end K09
namespace K09
open PyProof.Rows PySem L2 PySem.Spec VL
noncomputable def topS (i : Nat) : Stmt := PySem.Challenge.pw_showshigh_k09_refusals_made.main.body.getD i (.Pass ⟨0, 0, 0, 0⟩)
noncomputable abbrev s_NoMachine___init__ : Stmt := inClass (topS 2) 0
theorem sc_NoMachine___init__ : FnScope ["self", "part", "number"] ["self", "part", "number"] (defScope s_NoMachine___init__) := ⟨rfl, rfl, rfl, by decide +kernel, rfl, by decide +kernel, by decide +kernel⟩
noncomputable abbrev s_NoRun___init__ : Stmt := inClass (topS 3) 0
theorem sc_NoRun___init__ : FnScope ["self", "part", "number"] ["self", "part", "number"] (defScope s_NoRun___init__) := ⟨rfl, rfl, rfl, by decide +kernel, rfl, by decide +kernel, by decide +kernel⟩
noncomputable abbrev s_NoStand___init__ : Stmt := inClass (topS 4) 0
theorem sc_NoStand___init__ : FnScope ["self", "stand"] ["self", "stand"] (defScope s_NoStand___init__) := ⟨rfl, rfl, rfl, by decide +kernel, rfl, by decide +kernel, by decide +kernel⟩
noncomputable abbrev s_NoMust___init__ : Stmt := inClass (topS 5) 0
theorem sc_NoMust___init__ : FnScope ["self", "name"] ["self", "name"] (defScope s_NoMust___init__) := ⟨rfl, rfl, rfl, by decide +kernel, rfl, by decide +kernel, by decide +kernel⟩
noncomputable abbrev s_TooMany___init__ : Stmt := inClass (topS 6) 0
theorem sc_TooMany___init__ : FnScope ["self", "many"] ["self", "many"] (defScope s_TooMany___init__) := ⟨rfl, rfl, rfl, by decide +kernel, rfl, by decide +kernel, by decide +kernel⟩
noncomputable abbrev s_NoText___init__ : Stmt := inClass (topS 7) 0
theorem sc_NoText___init__ : FnScope ["self", "row"] ["self", "row"] (defScope s_NoText___init__) := ⟨rfl, rfl, rfl, by decide +kernel, rfl, by decide +kernel, by decide +kernel⟩
noncomputable abbrev s_NoDeed___init__ : Stmt := inClass (topS 14) 0
theorem sc_NoDeed___init__ : FnScope ["self", "name"] ["self", "name"] (defScope s_NoDeed___init__) := ⟨rfl, rfl, rfl, by decide +kernel, rfl, by decide +kernel, by decide +kernel⟩
noncomputable abbrev s_NoNumber___init__ : Stmt := inClass (topS 15) 0
theorem sc_NoNumber___init__ : FnScope ["self", "number"] ["self", "number"] (defScope s_NoNumber___init__) := ⟨rfl, rfl, rfl, by decide +kernel, rfl, by decide +kernel, by decide +kernel⟩
noncomputable abbrev s_NoName___init__ : Stmt := inClass (topS 16) 0
theorem sc_NoName___init__ : FnScope ["self", "name"] ["self", "name"] (defScope s_NoName___init__) := ⟨rfl, rfl, rfl, by decide +kernel, rfl, by decide +kernel, by decide +kernel⟩
noncomputable abbrev s_law_numbers : Stmt := topS 19
theorem sc_law_numbers : FnScope ["_law_cell", "_law_salt", "_law_sizes", "_law_digit", "_law_left", "_law_found", "_law_k", "_law_one"] ["_law_cell", "_law_salt", "_law_sizes"] (defScope s_law_numbers) := ⟨rfl, rfl, rfl, by decide +kernel, rfl, by decide +kernel, by decide +kernel⟩
noncomputable abbrev s_law_odd : Stmt := topS 20
theorem sc_law_odd : FnScope ["_law_digit", "_law_some"] ["_law_digit"] (defScope s_law_odd) := ⟨rfl, rfl, rfl, by decide +kernel, rfl, by decide +kernel, by decide +kernel⟩
noncomputable abbrev s_law_kinds : Stmt := topS 22
theorem sc_law_kinds : FnScope ["_law_error", "_law_found"] ["_law_error"] (defScope s_law_kinds) := ⟨rfl, rfl, rfl, by decide +kernel, rfl, by decide +kernel, by decide +kernel⟩
noncomputable abbrev s_law_over : Stmt := topS 23
theorem sc_law_over : FnScope ["_law_error", "_law_found"] ["_law_error"] (defScope s_law_over) := ⟨rfl, rfl, rfl, by decide +kernel, rfl, by decide +kernel, by decide +kernel⟩
noncomputable abbrev s_law_all : Stmt := topS 21
theorem sc_law_all : FnScope ["_law_one", "_law_two", "_law_found"] ["_law_one", "_law_two"] (defScope s_law_all) := ⟨rfl, rfl, rfl, by decide +kernel, rfl, by decide +kernel, by decide +kernel⟩
noncomputable abbrev s_law_by_names : Stmt := topS 24
theorem sc_law_by_names : FnScope ["_law_one", "_law_two", "_law_found", "_law_values"] ["_law_one", "_law_two"] (defScope s_law_by_names) := ⟨rfl, rfl, rfl, by decide +kernel, rfl, by decide +kernel, by decide +kernel⟩
noncomputable abbrev s_law : Stmt := topS 25
theorem sc_law : FnScope ["_law_script", "_law_k", "_law_cell", "_law_digits", "_law_one", "_law_two", "_law_some", "_law_place", "_law_error", "_law_at", "_law_due", "_law_values"] ["_law_script"] (defScope s_law) := ⟨rfl, rfl, rfl, by decide +kernel, rfl, by decide +kernel, by decide +kernel⟩
structure Ms (K : PySem.W.Frag) (mg : Str → Option Value) (ad : Nat → Addr) (fd : Nat → FuncData) (cd : Nat → Addr) : Prop where
  f_NoMachine___init__ : FnM K "__init__" "NoMachine.__init__" s_NoMachine___init__ (ad 10200) (fd 10200) ["self", "part", "number"]
  f_NoRun___init__ : FnM K "__init__" "NoRun.__init__" s_NoRun___init__ (ad 10300) (fd 10300) ["self", "part", "number"]
  f_NoStand___init__ : FnM K "__init__" "NoStand.__init__" s_NoStand___init__ (ad 10400) (fd 10400) ["self", "stand"]
  f_NoMust___init__ : FnM K "__init__" "NoMust.__init__" s_NoMust___init__ (ad 10500) (fd 10500) ["self", "name"]
  f_TooMany___init__ : FnM K "__init__" "TooMany.__init__" s_TooMany___init__ (ad 10600) (fd 10600) ["self", "many"]
  f_NoText___init__ : FnM K "__init__" "NoText.__init__" s_NoText___init__ (ad 10700) (fd 10700) ["self", "row"]
  f_NoDeed___init__ : FnM K "__init__" "NoDeed.__init__" s_NoDeed___init__ (ad 11400) (fd 11400) ["self", "name"]
  f_NoNumber___init__ : FnM K "__init__" "NoNumber.__init__" s_NoNumber___init__ (ad 11500) (fd 11500) ["self", "number"]
  f_NoName___init__ : FnM K "__init__" "NoName.__init__" s_NoName___init__ (ad 11600) (fd 11600) ["self", "name"]
  f_law_numbers : FnT K mg "_law_numbers" "_law_numbers" s_law_numbers (ad 19) (fd 19) ["_law_cell", "_law_salt", "_law_sizes"]
  f_law_odd : FnT K mg "_law_odd" "_law_odd" s_law_odd (ad 20) (fd 20) ["_law_digit"]
  f_law_kinds : FnT K mg "_law_kinds" "_law_kinds" s_law_kinds (ad 22) (fd 22) ["_law_error"]
  f_law_over : FnT K mg "_law_over" "_law_over" s_law_over (ad 23) (fd 23) ["_law_error"]
  f_law_all : FnT K mg "_law_all" "_law_all" s_law_all (ad 21) (fd 21) ["_law_one", "_law_two"]
  f_law_by_names : FnT K mg "_law_by_names" "_law_by_names" s_law_by_names (ad 24) (fd 24) ["_law_one", "_law_two"]
  f_law : FnT K mg "law" "law" s_law (ad 25) (fd 25) ["_law_script"]
  gX_ShowError : mg "ShowError" = some (.ref (cd 1))
  gX_NoMachine : mg "NoMachine" = some (.ref (cd 2))
  gX_NoRun : mg "NoRun" = some (.ref (cd 3))
  gX_NoStand : mg "NoStand" = some (.ref (cd 4))
  gX_NoMust : mg "NoMust" = some (.ref (cd 5))
  gX_TooMany : mg "TooMany" = some (.ref (cd 6))
  gX_NoText : mg "NoText" = some (.ref (cd 7))
  gX_Unlike : mg "Unlike" = some (.ref (cd 8))
  gX_NoStays : mg "NoStays" = some (.ref (cd 9))
  gX_NoWord : mg "NoWord" = some (.ref (cd 10))
  gX_NoTable : mg "NoTable" = some (.ref (cd 11))
  gX_NoNames : mg "NoNames" = some (.ref (cd 12))
  gX_NoRow : mg "NoRow" = some (.ref (cd 13))
  gX_NoDeed : mg "NoDeed" = some (.ref (cd 14))
  gX_NoNumber : mg "NoNumber" = some (.ref (cd 15))
  gX_NoName : mg "NoName" = some (.ref (cd 16))
  gX_Bare : mg "Bare" = some (.ref (cd 17))
  X_NoMachine : ExF K "NoMachine" (cd 2)
  ini_NoMachine : PySem.W.excInitIn K (cd 2) [.type "Exception", .type "BaseException", .type "object"] "Exception.__new__" = true
  ovr_NoMachine : PySem.W.excOver K (cd 2) [.type "Exception", .type "BaseException", .type "object"] = true
  iC_NoMachine : PySem.W.findIn K (.ref (cd 2)) "__init__" = some (some (.ref (ad 10200)))
  tI_NoMachine : PySem.W.typeIn K (.ref (ad 10200)) = some (.type "function")
  kx_NoMachine : KBn K (fd 10200) ["self", "part", "number"] 1 ["number", "part"] (fun us ws => us ++ ws.reverse) (fun vs zs => vs ++ zs.reverse)
  no_NoMachine_part : PySem.W.findIn K (.ref (cd 2)) "part" = some none
  no_NoMachine_number : PySem.W.findIn K (.ref (cd 2)) "number" = some none
  X_NoRun : ExF K "NoRun" (cd 3)
  ini_NoRun : PySem.W.excInitIn K (cd 3) [.type "Exception", .type "BaseException", .type "object"] "Exception.__new__" = true
  ovr_NoRun : PySem.W.excOver K (cd 3) [.type "Exception", .type "BaseException", .type "object"] = true
  iC_NoRun : PySem.W.findIn K (.ref (cd 3)) "__init__" = some (some (.ref (ad 10300)))
  tI_NoRun : PySem.W.typeIn K (.ref (ad 10300)) = some (.type "function")
  kx_NoRun : KBn K (fd 10300) ["self", "part", "number"] 1 ["number", "part"] (fun us ws => us ++ ws.reverse) (fun vs zs => vs ++ zs.reverse)
  no_NoRun_part : PySem.W.findIn K (.ref (cd 3)) "part" = some none
  no_NoRun_number : PySem.W.findIn K (.ref (cd 3)) "number" = some none
  X_NoStand : ExF K "NoStand" (cd 4)
  ini_NoStand : PySem.W.excInitIn K (cd 4) [.type "Exception", .type "BaseException", .type "object"] "Exception.__new__" = true
  ovr_NoStand : PySem.W.excOver K (cd 4) [.type "Exception", .type "BaseException", .type "object"] = true
  iC_NoStand : PySem.W.findIn K (.ref (cd 4)) "__init__" = some (some (.ref (ad 10400)))
  tI_NoStand : PySem.W.typeIn K (.ref (ad 10400)) = some (.type "function")
  kx_NoStand : KBn K (fd 10400) ["self", "stand"] 1 ["stand"] (fun us ws => us ++ ws.reverse) (fun vs zs => vs ++ zs.reverse)
  no_NoStand_stand : PySem.W.findIn K (.ref (cd 4)) "stand" = some none
  X_NoMust : ExF K "NoMust" (cd 5)
  ini_NoMust : PySem.W.excInitIn K (cd 5) [.type "Exception", .type "BaseException", .type "object"] "Exception.__new__" = true
  ovr_NoMust : PySem.W.excOver K (cd 5) [.type "Exception", .type "BaseException", .type "object"] = true
  iC_NoMust : PySem.W.findIn K (.ref (cd 5)) "__init__" = some (some (.ref (ad 10500)))
  tI_NoMust : PySem.W.typeIn K (.ref (ad 10500)) = some (.type "function")
  kx_NoMust : KBn K (fd 10500) ["self", "name"] 1 ["name"] (fun us ws => us ++ ws.reverse) (fun vs zs => vs ++ zs.reverse)
  no_NoMust_name : PySem.W.findIn K (.ref (cd 5)) "name" = some none
  X_TooMany : ExF K "TooMany" (cd 6)
  ini_TooMany : PySem.W.excInitIn K (cd 6) [.type "Exception", .type "BaseException", .type "object"] "Exception.__new__" = true
  ovr_TooMany : PySem.W.excOver K (cd 6) [.type "Exception", .type "BaseException", .type "object"] = true
  iC_TooMany : PySem.W.findIn K (.ref (cd 6)) "__init__" = some (some (.ref (ad 10600)))
  tI_TooMany : PySem.W.typeIn K (.ref (ad 10600)) = some (.type "function")
  kx_TooMany : KBn K (fd 10600) ["self", "many"] 1 ["many"] (fun us ws => us ++ ws.reverse) (fun vs zs => vs ++ zs.reverse)
  no_TooMany_many : PySem.W.findIn K (.ref (cd 6)) "many" = some none
  X_NoText : ExF K "NoText" (cd 7)
  ini_NoText : PySem.W.excInitIn K (cd 7) [.type "Exception", .type "BaseException", .type "object"] "Exception.__new__" = true
  ovr_NoText : PySem.W.excOver K (cd 7) [.type "Exception", .type "BaseException", .type "object"] = true
  iC_NoText : PySem.W.findIn K (.ref (cd 7)) "__init__" = some (some (.ref (ad 10700)))
  tI_NoText : PySem.W.typeIn K (.ref (ad 10700)) = some (.type "function")
  kx_NoText : KBn K (fd 10700) ["self", "row"] 1 ["row"] (fun us ws => us ++ ws.reverse) (fun vs zs => vs ++ zs.reverse)
  no_NoText_row : PySem.W.findIn K (.ref (cd 7)) "row" = some none
  X_NoDeed : ExF K "NoDeed" (cd 14)
  ini_NoDeed : PySem.W.excInitIn K (cd 14) [.type "LookupError", .type "Exception", .type "BaseException", .type "object"] "LookupError.__new__" = true
  ovr_NoDeed : PySem.W.excOver K (cd 14) [.type "LookupError", .type "Exception", .type "BaseException", .type "object"] = true
  iC_NoDeed : PySem.W.findIn K (.ref (cd 14)) "__init__" = some (some (.ref (ad 11400)))
  tI_NoDeed : PySem.W.typeIn K (.ref (ad 11400)) = some (.type "function")
  kx_NoDeed : KBn K (fd 11400) ["self", "name"] 1 ["name"] (fun us ws => us ++ ws.reverse) (fun vs zs => vs ++ zs.reverse)
  no_NoDeed_name : PySem.W.findIn K (.ref (cd 14)) "name" = some none
  X_NoNumber : ExF K "NoNumber" (cd 15)
  ini_NoNumber : PySem.W.excInitIn K (cd 15) [.type "IndexError", .type "LookupError", .type "Exception", .type "BaseException", .type "object"] "IndexError.__new__" = true
  ovr_NoNumber : PySem.W.excOver K (cd 15) [.type "IndexError", .type "LookupError", .type "Exception", .type "BaseException", .type "object"] = true
  iC_NoNumber : PySem.W.findIn K (.ref (cd 15)) "__init__" = some (some (.ref (ad 11500)))
  tI_NoNumber : PySem.W.typeIn K (.ref (ad 11500)) = some (.type "function")
  kx_NoNumber : KBn K (fd 11500) ["self", "number"] 1 ["number"] (fun us ws => us ++ ws.reverse) (fun vs zs => vs ++ zs.reverse)
  no_NoNumber_number : PySem.W.findIn K (.ref (cd 15)) "number" = some none
  X_NoName : ExF K "NoName" (cd 16)
  ini_NoName : PySem.W.excInitIn K (cd 16) [.type "KeyError", .type "LookupError", .type "Exception", .type "BaseException", .type "object"] "LookupError.__new__" = true
  ovr_NoName : PySem.W.excOver K (cd 16) [.type "KeyError", .type "LookupError", .type "Exception", .type "BaseException", .type "object"] = true
  iC_NoName : PySem.W.findIn K (.ref (cd 16)) "__init__" = some (some (.ref (ad 11600)))
  tI_NoName : PySem.W.typeIn K (.ref (ad 11600)) = some (.type "function")
  kx_NoName : KBn K (fd 11600) ["self", "name"] 1 ["name"] (fun us ws => us ++ ws.reverse) (fun vs zs => vs ++ zs.reverse)
  no_NoName_name : PySem.W.findIn K (.ref (cd 16)) "name" = some none
  X_Unlike : ExF K "Unlike" (cd 8)
  q_Unlike : PySem.W.excIn K (cd 8) [.type "Exception", .type "BaseException", .type "object"] "Exception.__new__" = true
  X_NoStays : ExF K "NoStays" (cd 9)
  q_NoStays : PySem.W.excIn K (cd 9) [.type "Exception", .type "BaseException", .type "object"] "Exception.__new__" = true
  X_NoWord : ExF K "NoWord" (cd 10)
  q_NoWord : PySem.W.excIn K (cd 10) [.type "Exception", .type "BaseException", .type "object"] "Exception.__new__" = true
  X_NoTable : ExF K "NoTable" (cd 11)
  q_NoTable : PySem.W.excIn K (cd 11) [.type "Exception", .type "BaseException", .type "object"] "Exception.__new__" = true
  X_NoNames : ExF K "NoNames" (cd 12)
  q_NoNames : PySem.W.excIn K (cd 12) [.type "Exception", .type "BaseException", .type "object"] "Exception.__new__" = true
  X_NoRow : ExF K "NoRow" (cd 13)
  q_NoRow : PySem.W.excIn K (cd 13) [.type "Exception", .type "BaseException", .type "object"] "Exception.__new__" = true
  X_Bare : ExF K "Bare" (cd 17)
  q_Bare : PySem.W.excIn K (cd 17) [.type "RuntimeError", .type "Exception", .type "BaseException", .type "object"] "RuntimeError.__new__" = true
  gS_ShowError : PySem.W.specialIn K (.ref (cd 1)) "__getattribute__" = some (some (.builtin "type.__getattribute__"))
  rS_ShowError : PySem.W.readsIn K (cd 1) (.type "type") = true
  fS_ShowError : PySem.W.findCls K (.ref (cd 1)) (.type "type") "__init__" = some (.val (.builtin "Exception.__init__"))
  fB_IndexError : PySem.W.findCls K (.type "IndexError") (.type "type") "__init__" = some (.val (.builtin "IndexError.__init__"))
  fB_KeyError : PySem.W.findCls K (.type "KeyError") (.type "type") "__init__" = some (.val (.builtin "KeyError.__init__"))
  fB_LookupError : PySem.W.findCls K (.type "LookupError") (.type "type") "__init__" = some (.val (.builtin "LookupError.__init__"))
  kit_Bare_Bare : PySem.W.kitOne K (.ref (cd 17)) (.ref (cd 17)) = some true
  kit_Bare_IndexError : PySem.W.kitOne K (.ref (cd 17)) (.type "IndexError") = some false
  kit_Bare_KeyError : PySem.W.kitOne K (.ref (cd 17)) (.type "KeyError") = some false
  kit_Bare_LookupError : PySem.W.kitOne K (.ref (cd 17)) (.type "LookupError") = some false
  kit_Bare_NoDeed : PySem.W.kitOne K (.ref (cd 17)) (.ref (cd 14)) = some false
  kit_Bare_NoMachine : PySem.W.kitOne K (.ref (cd 17)) (.ref (cd 2)) = some false
  kit_Bare_NoMust : PySem.W.kitOne K (.ref (cd 17)) (.ref (cd 5)) = some false
  kit_Bare_NoName : PySem.W.kitOne K (.ref (cd 17)) (.ref (cd 16)) = some false
  kit_Bare_NoNames : PySem.W.kitOne K (.ref (cd 17)) (.ref (cd 12)) = some false
  kit_Bare_NoNumber : PySem.W.kitOne K (.ref (cd 17)) (.ref (cd 15)) = some false
  kit_Bare_NoRow : PySem.W.kitOne K (.ref (cd 17)) (.ref (cd 13)) = some false
  kit_Bare_NoRun : PySem.W.kitOne K (.ref (cd 17)) (.ref (cd 3)) = some false
  kit_Bare_NoStand : PySem.W.kitOne K (.ref (cd 17)) (.ref (cd 4)) = some false
  kit_Bare_NoStays : PySem.W.kitOne K (.ref (cd 17)) (.ref (cd 9)) = some false
  kit_Bare_NoTable : PySem.W.kitOne K (.ref (cd 17)) (.ref (cd 11)) = some false
  kit_Bare_NoText : PySem.W.kitOne K (.ref (cd 17)) (.ref (cd 7)) = some false
  kit_Bare_NoWord : PySem.W.kitOne K (.ref (cd 17)) (.ref (cd 10)) = some false
  kit_Bare_RuntimeError : PySem.W.kitOne K (.ref (cd 17)) (.type "RuntimeError") = some true
  kit_Bare_ShowError : PySem.W.kitOne K (.ref (cd 17)) (.ref (cd 1)) = some false
  kit_Bare_TooMany : PySem.W.kitOne K (.ref (cd 17)) (.ref (cd 6)) = some false
  kit_Bare_Unlike : PySem.W.kitOne K (.ref (cd 17)) (.ref (cd 8)) = some false
  kit_Bare_ValueError : PySem.W.kitOne K (.ref (cd 17)) (.type "ValueError") = some false
  kit_NoDeed_Bare : PySem.W.kitOne K (.ref (cd 14)) (.ref (cd 17)) = some false
  kit_NoDeed_IndexError : PySem.W.kitOne K (.ref (cd 14)) (.type "IndexError") = some false
  kit_NoDeed_KeyError : PySem.W.kitOne K (.ref (cd 14)) (.type "KeyError") = some false
  kit_NoDeed_LookupError : PySem.W.kitOne K (.ref (cd 14)) (.type "LookupError") = some true
  kit_NoDeed_NoDeed : PySem.W.kitOne K (.ref (cd 14)) (.ref (cd 14)) = some true
  kit_NoDeed_NoMachine : PySem.W.kitOne K (.ref (cd 14)) (.ref (cd 2)) = some false
  kit_NoDeed_NoMust : PySem.W.kitOne K (.ref (cd 14)) (.ref (cd 5)) = some false
  kit_NoDeed_NoName : PySem.W.kitOne K (.ref (cd 14)) (.ref (cd 16)) = some false
  kit_NoDeed_NoNames : PySem.W.kitOne K (.ref (cd 14)) (.ref (cd 12)) = some false
  kit_NoDeed_NoNumber : PySem.W.kitOne K (.ref (cd 14)) (.ref (cd 15)) = some false
  kit_NoDeed_NoRow : PySem.W.kitOne K (.ref (cd 14)) (.ref (cd 13)) = some false
  kit_NoDeed_NoRun : PySem.W.kitOne K (.ref (cd 14)) (.ref (cd 3)) = some false
  kit_NoDeed_NoStand : PySem.W.kitOne K (.ref (cd 14)) (.ref (cd 4)) = some false
  kit_NoDeed_NoStays : PySem.W.kitOne K (.ref (cd 14)) (.ref (cd 9)) = some false
  kit_NoDeed_NoTable : PySem.W.kitOne K (.ref (cd 14)) (.ref (cd 11)) = some false
  kit_NoDeed_NoText : PySem.W.kitOne K (.ref (cd 14)) (.ref (cd 7)) = some false
  kit_NoDeed_NoWord : PySem.W.kitOne K (.ref (cd 14)) (.ref (cd 10)) = some false
  kit_NoDeed_RuntimeError : PySem.W.kitOne K (.ref (cd 14)) (.type "RuntimeError") = some false
  kit_NoDeed_ShowError : PySem.W.kitOne K (.ref (cd 14)) (.ref (cd 1)) = some false
  kit_NoDeed_TooMany : PySem.W.kitOne K (.ref (cd 14)) (.ref (cd 6)) = some false
  kit_NoDeed_Unlike : PySem.W.kitOne K (.ref (cd 14)) (.ref (cd 8)) = some false
  kit_NoDeed_ValueError : PySem.W.kitOne K (.ref (cd 14)) (.type "ValueError") = some false
  kit_NoMachine_Bare : PySem.W.kitOne K (.ref (cd 2)) (.ref (cd 17)) = some false
  kit_NoMachine_IndexError : PySem.W.kitOne K (.ref (cd 2)) (.type "IndexError") = some false
  kit_NoMachine_KeyError : PySem.W.kitOne K (.ref (cd 2)) (.type "KeyError") = some false
  kit_NoMachine_LookupError : PySem.W.kitOne K (.ref (cd 2)) (.type "LookupError") = some false
  kit_NoMachine_NoDeed : PySem.W.kitOne K (.ref (cd 2)) (.ref (cd 14)) = some false
  kit_NoMachine_NoMachine : PySem.W.kitOne K (.ref (cd 2)) (.ref (cd 2)) = some true
  kit_NoMachine_NoMust : PySem.W.kitOne K (.ref (cd 2)) (.ref (cd 5)) = some false
  kit_NoMachine_NoName : PySem.W.kitOne K (.ref (cd 2)) (.ref (cd 16)) = some false
  kit_NoMachine_NoNames : PySem.W.kitOne K (.ref (cd 2)) (.ref (cd 12)) = some false
  kit_NoMachine_NoNumber : PySem.W.kitOne K (.ref (cd 2)) (.ref (cd 15)) = some false
  kit_NoMachine_NoRow : PySem.W.kitOne K (.ref (cd 2)) (.ref (cd 13)) = some false
  kit_NoMachine_NoRun : PySem.W.kitOne K (.ref (cd 2)) (.ref (cd 3)) = some false
  kit_NoMachine_NoStand : PySem.W.kitOne K (.ref (cd 2)) (.ref (cd 4)) = some false
  kit_NoMachine_NoStays : PySem.W.kitOne K (.ref (cd 2)) (.ref (cd 9)) = some false
  kit_NoMachine_NoTable : PySem.W.kitOne K (.ref (cd 2)) (.ref (cd 11)) = some false
  kit_NoMachine_NoText : PySem.W.kitOne K (.ref (cd 2)) (.ref (cd 7)) = some false
  kit_NoMachine_NoWord : PySem.W.kitOne K (.ref (cd 2)) (.ref (cd 10)) = some false
  kit_NoMachine_RuntimeError : PySem.W.kitOne K (.ref (cd 2)) (.type "RuntimeError") = some false
  kit_NoMachine_ShowError : PySem.W.kitOne K (.ref (cd 2)) (.ref (cd 1)) = some true
  kit_NoMachine_TooMany : PySem.W.kitOne K (.ref (cd 2)) (.ref (cd 6)) = some false
  kit_NoMachine_Unlike : PySem.W.kitOne K (.ref (cd 2)) (.ref (cd 8)) = some false
  kit_NoMachine_ValueError : PySem.W.kitOne K (.ref (cd 2)) (.type "ValueError") = some false
  kit_NoMust_Bare : PySem.W.kitOne K (.ref (cd 5)) (.ref (cd 17)) = some false
  kit_NoMust_IndexError : PySem.W.kitOne K (.ref (cd 5)) (.type "IndexError") = some false
  kit_NoMust_KeyError : PySem.W.kitOne K (.ref (cd 5)) (.type "KeyError") = some false
  kit_NoMust_LookupError : PySem.W.kitOne K (.ref (cd 5)) (.type "LookupError") = some false
  kit_NoMust_NoDeed : PySem.W.kitOne K (.ref (cd 5)) (.ref (cd 14)) = some false
  kit_NoMust_NoMachine : PySem.W.kitOne K (.ref (cd 5)) (.ref (cd 2)) = some false
  kit_NoMust_NoMust : PySem.W.kitOne K (.ref (cd 5)) (.ref (cd 5)) = some true
  kit_NoMust_NoName : PySem.W.kitOne K (.ref (cd 5)) (.ref (cd 16)) = some false
  kit_NoMust_NoNames : PySem.W.kitOne K (.ref (cd 5)) (.ref (cd 12)) = some false
  kit_NoMust_NoNumber : PySem.W.kitOne K (.ref (cd 5)) (.ref (cd 15)) = some false
  kit_NoMust_NoRow : PySem.W.kitOne K (.ref (cd 5)) (.ref (cd 13)) = some false
  kit_NoMust_NoRun : PySem.W.kitOne K (.ref (cd 5)) (.ref (cd 3)) = some false
  kit_NoMust_NoStand : PySem.W.kitOne K (.ref (cd 5)) (.ref (cd 4)) = some false
  kit_NoMust_NoStays : PySem.W.kitOne K (.ref (cd 5)) (.ref (cd 9)) = some false
  kit_NoMust_NoTable : PySem.W.kitOne K (.ref (cd 5)) (.ref (cd 11)) = some false
  kit_NoMust_NoText : PySem.W.kitOne K (.ref (cd 5)) (.ref (cd 7)) = some false
  kit_NoMust_NoWord : PySem.W.kitOne K (.ref (cd 5)) (.ref (cd 10)) = some false
  kit_NoMust_RuntimeError : PySem.W.kitOne K (.ref (cd 5)) (.type "RuntimeError") = some false
  kit_NoMust_ShowError : PySem.W.kitOne K (.ref (cd 5)) (.ref (cd 1)) = some true
  kit_NoMust_TooMany : PySem.W.kitOne K (.ref (cd 5)) (.ref (cd 6)) = some false
  kit_NoMust_Unlike : PySem.W.kitOne K (.ref (cd 5)) (.ref (cd 8)) = some false
  kit_NoMust_ValueError : PySem.W.kitOne K (.ref (cd 5)) (.type "ValueError") = some false
  kit_NoName_Bare : PySem.W.kitOne K (.ref (cd 16)) (.ref (cd 17)) = some false
  kit_NoName_IndexError : PySem.W.kitOne K (.ref (cd 16)) (.type "IndexError") = some false
  kit_NoName_KeyError : PySem.W.kitOne K (.ref (cd 16)) (.type "KeyError") = some true
  kit_NoName_LookupError : PySem.W.kitOne K (.ref (cd 16)) (.type "LookupError") = some true
  kit_NoName_NoDeed : PySem.W.kitOne K (.ref (cd 16)) (.ref (cd 14)) = some false
  kit_NoName_NoMachine : PySem.W.kitOne K (.ref (cd 16)) (.ref (cd 2)) = some false
  kit_NoName_NoMust : PySem.W.kitOne K (.ref (cd 16)) (.ref (cd 5)) = some false
  kit_NoName_NoName : PySem.W.kitOne K (.ref (cd 16)) (.ref (cd 16)) = some true
  kit_NoName_NoNames : PySem.W.kitOne K (.ref (cd 16)) (.ref (cd 12)) = some false
  kit_NoName_NoNumber : PySem.W.kitOne K (.ref (cd 16)) (.ref (cd 15)) = some false
  kit_NoName_NoRow : PySem.W.kitOne K (.ref (cd 16)) (.ref (cd 13)) = some false
  kit_NoName_NoRun : PySem.W.kitOne K (.ref (cd 16)) (.ref (cd 3)) = some false
  kit_NoName_NoStand : PySem.W.kitOne K (.ref (cd 16)) (.ref (cd 4)) = some false
  kit_NoName_NoStays : PySem.W.kitOne K (.ref (cd 16)) (.ref (cd 9)) = some false
  kit_NoName_NoTable : PySem.W.kitOne K (.ref (cd 16)) (.ref (cd 11)) = some false
  kit_NoName_NoText : PySem.W.kitOne K (.ref (cd 16)) (.ref (cd 7)) = some false
  kit_NoName_NoWord : PySem.W.kitOne K (.ref (cd 16)) (.ref (cd 10)) = some false
  kit_NoName_RuntimeError : PySem.W.kitOne K (.ref (cd 16)) (.type "RuntimeError") = some false
  kit_NoName_ShowError : PySem.W.kitOne K (.ref (cd 16)) (.ref (cd 1)) = some false
  kit_NoName_TooMany : PySem.W.kitOne K (.ref (cd 16)) (.ref (cd 6)) = some false
  kit_NoName_Unlike : PySem.W.kitOne K (.ref (cd 16)) (.ref (cd 8)) = some false
  kit_NoName_ValueError : PySem.W.kitOne K (.ref (cd 16)) (.type "ValueError") = some false
  kit_NoNames_Bare : PySem.W.kitOne K (.ref (cd 12)) (.ref (cd 17)) = some false
  kit_NoNames_IndexError : PySem.W.kitOne K (.ref (cd 12)) (.type "IndexError") = some false
  kit_NoNames_KeyError : PySem.W.kitOne K (.ref (cd 12)) (.type "KeyError") = some false
  kit_NoNames_LookupError : PySem.W.kitOne K (.ref (cd 12)) (.type "LookupError") = some false
  kit_NoNames_NoDeed : PySem.W.kitOne K (.ref (cd 12)) (.ref (cd 14)) = some false
  kit_NoNames_NoMachine : PySem.W.kitOne K (.ref (cd 12)) (.ref (cd 2)) = some false
  kit_NoNames_NoMust : PySem.W.kitOne K (.ref (cd 12)) (.ref (cd 5)) = some false
  kit_NoNames_NoName : PySem.W.kitOne K (.ref (cd 12)) (.ref (cd 16)) = some false
  kit_NoNames_NoNames : PySem.W.kitOne K (.ref (cd 12)) (.ref (cd 12)) = some true
  kit_NoNames_NoNumber : PySem.W.kitOne K (.ref (cd 12)) (.ref (cd 15)) = some false
  kit_NoNames_NoRow : PySem.W.kitOne K (.ref (cd 12)) (.ref (cd 13)) = some false
  kit_NoNames_NoRun : PySem.W.kitOne K (.ref (cd 12)) (.ref (cd 3)) = some false
  kit_NoNames_NoStand : PySem.W.kitOne K (.ref (cd 12)) (.ref (cd 4)) = some false
  kit_NoNames_NoStays : PySem.W.kitOne K (.ref (cd 12)) (.ref (cd 9)) = some false
  kit_NoNames_NoTable : PySem.W.kitOne K (.ref (cd 12)) (.ref (cd 11)) = some false
  kit_NoNames_NoText : PySem.W.kitOne K (.ref (cd 12)) (.ref (cd 7)) = some false
  kit_NoNames_NoWord : PySem.W.kitOne K (.ref (cd 12)) (.ref (cd 10)) = some false
  kit_NoNames_RuntimeError : PySem.W.kitOne K (.ref (cd 12)) (.type "RuntimeError") = some false
  kit_NoNames_ShowError : PySem.W.kitOne K (.ref (cd 12)) (.ref (cd 1)) = some true
  kit_NoNames_TooMany : PySem.W.kitOne K (.ref (cd 12)) (.ref (cd 6)) = some false
  kit_NoNames_Unlike : PySem.W.kitOne K (.ref (cd 12)) (.ref (cd 8)) = some false
  kit_NoNames_ValueError : PySem.W.kitOne K (.ref (cd 12)) (.type "ValueError") = some false
  kit_NoNumber_Bare : PySem.W.kitOne K (.ref (cd 15)) (.ref (cd 17)) = some false
  kit_NoNumber_IndexError : PySem.W.kitOne K (.ref (cd 15)) (.type "IndexError") = some true
  kit_NoNumber_KeyError : PySem.W.kitOne K (.ref (cd 15)) (.type "KeyError") = some false
  kit_NoNumber_LookupError : PySem.W.kitOne K (.ref (cd 15)) (.type "LookupError") = some true
  kit_NoNumber_NoDeed : PySem.W.kitOne K (.ref (cd 15)) (.ref (cd 14)) = some false
  kit_NoNumber_NoMachine : PySem.W.kitOne K (.ref (cd 15)) (.ref (cd 2)) = some false
  kit_NoNumber_NoMust : PySem.W.kitOne K (.ref (cd 15)) (.ref (cd 5)) = some false
  kit_NoNumber_NoName : PySem.W.kitOne K (.ref (cd 15)) (.ref (cd 16)) = some false
  kit_NoNumber_NoNames : PySem.W.kitOne K (.ref (cd 15)) (.ref (cd 12)) = some false
  kit_NoNumber_NoNumber : PySem.W.kitOne K (.ref (cd 15)) (.ref (cd 15)) = some true
  kit_NoNumber_NoRow : PySem.W.kitOne K (.ref (cd 15)) (.ref (cd 13)) = some false
  kit_NoNumber_NoRun : PySem.W.kitOne K (.ref (cd 15)) (.ref (cd 3)) = some false
  kit_NoNumber_NoStand : PySem.W.kitOne K (.ref (cd 15)) (.ref (cd 4)) = some false
  kit_NoNumber_NoStays : PySem.W.kitOne K (.ref (cd 15)) (.ref (cd 9)) = some false
  kit_NoNumber_NoTable : PySem.W.kitOne K (.ref (cd 15)) (.ref (cd 11)) = some false
  kit_NoNumber_NoText : PySem.W.kitOne K (.ref (cd 15)) (.ref (cd 7)) = some false
  kit_NoNumber_NoWord : PySem.W.kitOne K (.ref (cd 15)) (.ref (cd 10)) = some false
  kit_NoNumber_RuntimeError : PySem.W.kitOne K (.ref (cd 15)) (.type "RuntimeError") = some false
  kit_NoNumber_ShowError : PySem.W.kitOne K (.ref (cd 15)) (.ref (cd 1)) = some false
  kit_NoNumber_TooMany : PySem.W.kitOne K (.ref (cd 15)) (.ref (cd 6)) = some false
  kit_NoNumber_Unlike : PySem.W.kitOne K (.ref (cd 15)) (.ref (cd 8)) = some false
  kit_NoNumber_ValueError : PySem.W.kitOne K (.ref (cd 15)) (.type "ValueError") = some false
  kit_NoRow_Bare : PySem.W.kitOne K (.ref (cd 13)) (.ref (cd 17)) = some false
  kit_NoRow_IndexError : PySem.W.kitOne K (.ref (cd 13)) (.type "IndexError") = some false
  kit_NoRow_KeyError : PySem.W.kitOne K (.ref (cd 13)) (.type "KeyError") = some false
  kit_NoRow_LookupError : PySem.W.kitOne K (.ref (cd 13)) (.type "LookupError") = some false
  kit_NoRow_NoDeed : PySem.W.kitOne K (.ref (cd 13)) (.ref (cd 14)) = some false
  kit_NoRow_NoMachine : PySem.W.kitOne K (.ref (cd 13)) (.ref (cd 2)) = some false
  kit_NoRow_NoMust : PySem.W.kitOne K (.ref (cd 13)) (.ref (cd 5)) = some false
  kit_NoRow_NoName : PySem.W.kitOne K (.ref (cd 13)) (.ref (cd 16)) = some false
  kit_NoRow_NoNames : PySem.W.kitOne K (.ref (cd 13)) (.ref (cd 12)) = some false
  kit_NoRow_NoNumber : PySem.W.kitOne K (.ref (cd 13)) (.ref (cd 15)) = some false
  kit_NoRow_NoRow : PySem.W.kitOne K (.ref (cd 13)) (.ref (cd 13)) = some true
  kit_NoRow_NoRun : PySem.W.kitOne K (.ref (cd 13)) (.ref (cd 3)) = some false
  kit_NoRow_NoStand : PySem.W.kitOne K (.ref (cd 13)) (.ref (cd 4)) = some false
  kit_NoRow_NoStays : PySem.W.kitOne K (.ref (cd 13)) (.ref (cd 9)) = some false
  kit_NoRow_NoTable : PySem.W.kitOne K (.ref (cd 13)) (.ref (cd 11)) = some false
  kit_NoRow_NoText : PySem.W.kitOne K (.ref (cd 13)) (.ref (cd 7)) = some false
  kit_NoRow_NoWord : PySem.W.kitOne K (.ref (cd 13)) (.ref (cd 10)) = some false
  kit_NoRow_RuntimeError : PySem.W.kitOne K (.ref (cd 13)) (.type "RuntimeError") = some false
  kit_NoRow_ShowError : PySem.W.kitOne K (.ref (cd 13)) (.ref (cd 1)) = some true
  kit_NoRow_TooMany : PySem.W.kitOne K (.ref (cd 13)) (.ref (cd 6)) = some false
  kit_NoRow_Unlike : PySem.W.kitOne K (.ref (cd 13)) (.ref (cd 8)) = some false
  kit_NoRow_ValueError : PySem.W.kitOne K (.ref (cd 13)) (.type "ValueError") = some false
  kit_NoRun_Bare : PySem.W.kitOne K (.ref (cd 3)) (.ref (cd 17)) = some false
  kit_NoRun_IndexError : PySem.W.kitOne K (.ref (cd 3)) (.type "IndexError") = some false
  kit_NoRun_KeyError : PySem.W.kitOne K (.ref (cd 3)) (.type "KeyError") = some false
  kit_NoRun_LookupError : PySem.W.kitOne K (.ref (cd 3)) (.type "LookupError") = some false
  kit_NoRun_NoDeed : PySem.W.kitOne K (.ref (cd 3)) (.ref (cd 14)) = some false
  kit_NoRun_NoMachine : PySem.W.kitOne K (.ref (cd 3)) (.ref (cd 2)) = some false
  kit_NoRun_NoMust : PySem.W.kitOne K (.ref (cd 3)) (.ref (cd 5)) = some false
  kit_NoRun_NoName : PySem.W.kitOne K (.ref (cd 3)) (.ref (cd 16)) = some false
  kit_NoRun_NoNames : PySem.W.kitOne K (.ref (cd 3)) (.ref (cd 12)) = some false
  kit_NoRun_NoNumber : PySem.W.kitOne K (.ref (cd 3)) (.ref (cd 15)) = some false
  kit_NoRun_NoRow : PySem.W.kitOne K (.ref (cd 3)) (.ref (cd 13)) = some false
  kit_NoRun_NoRun : PySem.W.kitOne K (.ref (cd 3)) (.ref (cd 3)) = some true
  kit_NoRun_NoStand : PySem.W.kitOne K (.ref (cd 3)) (.ref (cd 4)) = some false
  kit_NoRun_NoStays : PySem.W.kitOne K (.ref (cd 3)) (.ref (cd 9)) = some false
  kit_NoRun_NoTable : PySem.W.kitOne K (.ref (cd 3)) (.ref (cd 11)) = some false
  kit_NoRun_NoText : PySem.W.kitOne K (.ref (cd 3)) (.ref (cd 7)) = some false
  kit_NoRun_NoWord : PySem.W.kitOne K (.ref (cd 3)) (.ref (cd 10)) = some false
  kit_NoRun_RuntimeError : PySem.W.kitOne K (.ref (cd 3)) (.type "RuntimeError") = some false
  kit_NoRun_ShowError : PySem.W.kitOne K (.ref (cd 3)) (.ref (cd 1)) = some true
  kit_NoRun_TooMany : PySem.W.kitOne K (.ref (cd 3)) (.ref (cd 6)) = some false
  kit_NoRun_Unlike : PySem.W.kitOne K (.ref (cd 3)) (.ref (cd 8)) = some false
  kit_NoRun_ValueError : PySem.W.kitOne K (.ref (cd 3)) (.type "ValueError") = some false
  kit_NoStand_Bare : PySem.W.kitOne K (.ref (cd 4)) (.ref (cd 17)) = some false
  kit_NoStand_IndexError : PySem.W.kitOne K (.ref (cd 4)) (.type "IndexError") = some false
  kit_NoStand_KeyError : PySem.W.kitOne K (.ref (cd 4)) (.type "KeyError") = some false
  kit_NoStand_LookupError : PySem.W.kitOne K (.ref (cd 4)) (.type "LookupError") = some false
  kit_NoStand_NoDeed : PySem.W.kitOne K (.ref (cd 4)) (.ref (cd 14)) = some false
  kit_NoStand_NoMachine : PySem.W.kitOne K (.ref (cd 4)) (.ref (cd 2)) = some false
  kit_NoStand_NoMust : PySem.W.kitOne K (.ref (cd 4)) (.ref (cd 5)) = some false
  kit_NoStand_NoName : PySem.W.kitOne K (.ref (cd 4)) (.ref (cd 16)) = some false
  kit_NoStand_NoNames : PySem.W.kitOne K (.ref (cd 4)) (.ref (cd 12)) = some false
  kit_NoStand_NoNumber : PySem.W.kitOne K (.ref (cd 4)) (.ref (cd 15)) = some false
  kit_NoStand_NoRow : PySem.W.kitOne K (.ref (cd 4)) (.ref (cd 13)) = some false
  kit_NoStand_NoRun : PySem.W.kitOne K (.ref (cd 4)) (.ref (cd 3)) = some false
  kit_NoStand_NoStand : PySem.W.kitOne K (.ref (cd 4)) (.ref (cd 4)) = some true
  kit_NoStand_NoStays : PySem.W.kitOne K (.ref (cd 4)) (.ref (cd 9)) = some false
  kit_NoStand_NoTable : PySem.W.kitOne K (.ref (cd 4)) (.ref (cd 11)) = some false
  kit_NoStand_NoText : PySem.W.kitOne K (.ref (cd 4)) (.ref (cd 7)) = some false
  kit_NoStand_NoWord : PySem.W.kitOne K (.ref (cd 4)) (.ref (cd 10)) = some false
  kit_NoStand_RuntimeError : PySem.W.kitOne K (.ref (cd 4)) (.type "RuntimeError") = some false
  kit_NoStand_ShowError : PySem.W.kitOne K (.ref (cd 4)) (.ref (cd 1)) = some true
  kit_NoStand_TooMany : PySem.W.kitOne K (.ref (cd 4)) (.ref (cd 6)) = some false
  kit_NoStand_Unlike : PySem.W.kitOne K (.ref (cd 4)) (.ref (cd 8)) = some false
  kit_NoStand_ValueError : PySem.W.kitOne K (.ref (cd 4)) (.type "ValueError") = some false
  kit_NoStays_Bare : PySem.W.kitOne K (.ref (cd 9)) (.ref (cd 17)) = some false
  kit_NoStays_IndexError : PySem.W.kitOne K (.ref (cd 9)) (.type "IndexError") = some false
  kit_NoStays_KeyError : PySem.W.kitOne K (.ref (cd 9)) (.type "KeyError") = some false
  kit_NoStays_LookupError : PySem.W.kitOne K (.ref (cd 9)) (.type "LookupError") = some false
  kit_NoStays_NoDeed : PySem.W.kitOne K (.ref (cd 9)) (.ref (cd 14)) = some false
  kit_NoStays_NoMachine : PySem.W.kitOne K (.ref (cd 9)) (.ref (cd 2)) = some false
  kit_NoStays_NoMust : PySem.W.kitOne K (.ref (cd 9)) (.ref (cd 5)) = some false
  kit_NoStays_NoName : PySem.W.kitOne K (.ref (cd 9)) (.ref (cd 16)) = some false
  kit_NoStays_NoNames : PySem.W.kitOne K (.ref (cd 9)) (.ref (cd 12)) = some false
  kit_NoStays_NoNumber : PySem.W.kitOne K (.ref (cd 9)) (.ref (cd 15)) = some false
  kit_NoStays_NoRow : PySem.W.kitOne K (.ref (cd 9)) (.ref (cd 13)) = some false
  kit_NoStays_NoRun : PySem.W.kitOne K (.ref (cd 9)) (.ref (cd 3)) = some false
  kit_NoStays_NoStand : PySem.W.kitOne K (.ref (cd 9)) (.ref (cd 4)) = some false
  kit_NoStays_NoStays : PySem.W.kitOne K (.ref (cd 9)) (.ref (cd 9)) = some true
  kit_NoStays_NoTable : PySem.W.kitOne K (.ref (cd 9)) (.ref (cd 11)) = some false
  kit_NoStays_NoText : PySem.W.kitOne K (.ref (cd 9)) (.ref (cd 7)) = some false
  kit_NoStays_NoWord : PySem.W.kitOne K (.ref (cd 9)) (.ref (cd 10)) = some false
  kit_NoStays_RuntimeError : PySem.W.kitOne K (.ref (cd 9)) (.type "RuntimeError") = some false
  kit_NoStays_ShowError : PySem.W.kitOne K (.ref (cd 9)) (.ref (cd 1)) = some true
  kit_NoStays_TooMany : PySem.W.kitOne K (.ref (cd 9)) (.ref (cd 6)) = some false
  kit_NoStays_Unlike : PySem.W.kitOne K (.ref (cd 9)) (.ref (cd 8)) = some false
  kit_NoStays_ValueError : PySem.W.kitOne K (.ref (cd 9)) (.type "ValueError") = some false
  kit_NoTable_Bare : PySem.W.kitOne K (.ref (cd 11)) (.ref (cd 17)) = some false
  kit_NoTable_IndexError : PySem.W.kitOne K (.ref (cd 11)) (.type "IndexError") = some false
  kit_NoTable_KeyError : PySem.W.kitOne K (.ref (cd 11)) (.type "KeyError") = some false
  kit_NoTable_LookupError : PySem.W.kitOne K (.ref (cd 11)) (.type "LookupError") = some false
  kit_NoTable_NoDeed : PySem.W.kitOne K (.ref (cd 11)) (.ref (cd 14)) = some false
  kit_NoTable_NoMachine : PySem.W.kitOne K (.ref (cd 11)) (.ref (cd 2)) = some false
  kit_NoTable_NoMust : PySem.W.kitOne K (.ref (cd 11)) (.ref (cd 5)) = some false
  kit_NoTable_NoName : PySem.W.kitOne K (.ref (cd 11)) (.ref (cd 16)) = some false
  kit_NoTable_NoNames : PySem.W.kitOne K (.ref (cd 11)) (.ref (cd 12)) = some false
  kit_NoTable_NoNumber : PySem.W.kitOne K (.ref (cd 11)) (.ref (cd 15)) = some false
  kit_NoTable_NoRow : PySem.W.kitOne K (.ref (cd 11)) (.ref (cd 13)) = some false
  kit_NoTable_NoRun : PySem.W.kitOne K (.ref (cd 11)) (.ref (cd 3)) = some false
  kit_NoTable_NoStand : PySem.W.kitOne K (.ref (cd 11)) (.ref (cd 4)) = some false
  kit_NoTable_NoStays : PySem.W.kitOne K (.ref (cd 11)) (.ref (cd 9)) = some false
  kit_NoTable_NoTable : PySem.W.kitOne K (.ref (cd 11)) (.ref (cd 11)) = some true
  kit_NoTable_NoText : PySem.W.kitOne K (.ref (cd 11)) (.ref (cd 7)) = some false
  kit_NoTable_NoWord : PySem.W.kitOne K (.ref (cd 11)) (.ref (cd 10)) = some false
  kit_NoTable_RuntimeError : PySem.W.kitOne K (.ref (cd 11)) (.type "RuntimeError") = some false
  kit_NoTable_ShowError : PySem.W.kitOne K (.ref (cd 11)) (.ref (cd 1)) = some true
  kit_NoTable_TooMany : PySem.W.kitOne K (.ref (cd 11)) (.ref (cd 6)) = some false
  kit_NoTable_Unlike : PySem.W.kitOne K (.ref (cd 11)) (.ref (cd 8)) = some false
  kit_NoTable_ValueError : PySem.W.kitOne K (.ref (cd 11)) (.type "ValueError") = some false
  kit_NoText_Bare : PySem.W.kitOne K (.ref (cd 7)) (.ref (cd 17)) = some false
  kit_NoText_IndexError : PySem.W.kitOne K (.ref (cd 7)) (.type "IndexError") = some false
  kit_NoText_KeyError : PySem.W.kitOne K (.ref (cd 7)) (.type "KeyError") = some false
  kit_NoText_LookupError : PySem.W.kitOne K (.ref (cd 7)) (.type "LookupError") = some false
  kit_NoText_NoDeed : PySem.W.kitOne K (.ref (cd 7)) (.ref (cd 14)) = some false
  kit_NoText_NoMachine : PySem.W.kitOne K (.ref (cd 7)) (.ref (cd 2)) = some false
  kit_NoText_NoMust : PySem.W.kitOne K (.ref (cd 7)) (.ref (cd 5)) = some false
  kit_NoText_NoName : PySem.W.kitOne K (.ref (cd 7)) (.ref (cd 16)) = some false
  kit_NoText_NoNames : PySem.W.kitOne K (.ref (cd 7)) (.ref (cd 12)) = some false
  kit_NoText_NoNumber : PySem.W.kitOne K (.ref (cd 7)) (.ref (cd 15)) = some false
  kit_NoText_NoRow : PySem.W.kitOne K (.ref (cd 7)) (.ref (cd 13)) = some false
  kit_NoText_NoRun : PySem.W.kitOne K (.ref (cd 7)) (.ref (cd 3)) = some false
  kit_NoText_NoStand : PySem.W.kitOne K (.ref (cd 7)) (.ref (cd 4)) = some false
  kit_NoText_NoStays : PySem.W.kitOne K (.ref (cd 7)) (.ref (cd 9)) = some false
  kit_NoText_NoTable : PySem.W.kitOne K (.ref (cd 7)) (.ref (cd 11)) = some false
  kit_NoText_NoText : PySem.W.kitOne K (.ref (cd 7)) (.ref (cd 7)) = some true
  kit_NoText_NoWord : PySem.W.kitOne K (.ref (cd 7)) (.ref (cd 10)) = some false
  kit_NoText_RuntimeError : PySem.W.kitOne K (.ref (cd 7)) (.type "RuntimeError") = some false
  kit_NoText_ShowError : PySem.W.kitOne K (.ref (cd 7)) (.ref (cd 1)) = some true
  kit_NoText_TooMany : PySem.W.kitOne K (.ref (cd 7)) (.ref (cd 6)) = some false
  kit_NoText_Unlike : PySem.W.kitOne K (.ref (cd 7)) (.ref (cd 8)) = some false
  kit_NoText_ValueError : PySem.W.kitOne K (.ref (cd 7)) (.type "ValueError") = some false
  kit_NoWord_Bare : PySem.W.kitOne K (.ref (cd 10)) (.ref (cd 17)) = some false
  kit_NoWord_IndexError : PySem.W.kitOne K (.ref (cd 10)) (.type "IndexError") = some false
  kit_NoWord_KeyError : PySem.W.kitOne K (.ref (cd 10)) (.type "KeyError") = some false
  kit_NoWord_LookupError : PySem.W.kitOne K (.ref (cd 10)) (.type "LookupError") = some false
  kit_NoWord_NoDeed : PySem.W.kitOne K (.ref (cd 10)) (.ref (cd 14)) = some false
  kit_NoWord_NoMachine : PySem.W.kitOne K (.ref (cd 10)) (.ref (cd 2)) = some false
  kit_NoWord_NoMust : PySem.W.kitOne K (.ref (cd 10)) (.ref (cd 5)) = some false
  kit_NoWord_NoName : PySem.W.kitOne K (.ref (cd 10)) (.ref (cd 16)) = some false
  kit_NoWord_NoNames : PySem.W.kitOne K (.ref (cd 10)) (.ref (cd 12)) = some false
  kit_NoWord_NoNumber : PySem.W.kitOne K (.ref (cd 10)) (.ref (cd 15)) = some false
  kit_NoWord_NoRow : PySem.W.kitOne K (.ref (cd 10)) (.ref (cd 13)) = some false
  kit_NoWord_NoRun : PySem.W.kitOne K (.ref (cd 10)) (.ref (cd 3)) = some false
  kit_NoWord_NoStand : PySem.W.kitOne K (.ref (cd 10)) (.ref (cd 4)) = some false
  kit_NoWord_NoStays : PySem.W.kitOne K (.ref (cd 10)) (.ref (cd 9)) = some false
  kit_NoWord_NoTable : PySem.W.kitOne K (.ref (cd 10)) (.ref (cd 11)) = some false
  kit_NoWord_NoText : PySem.W.kitOne K (.ref (cd 10)) (.ref (cd 7)) = some false
  kit_NoWord_NoWord : PySem.W.kitOne K (.ref (cd 10)) (.ref (cd 10)) = some true
  kit_NoWord_RuntimeError : PySem.W.kitOne K (.ref (cd 10)) (.type "RuntimeError") = some false
  kit_NoWord_ShowError : PySem.W.kitOne K (.ref (cd 10)) (.ref (cd 1)) = some true
  kit_NoWord_TooMany : PySem.W.kitOne K (.ref (cd 10)) (.ref (cd 6)) = some false
  kit_NoWord_Unlike : PySem.W.kitOne K (.ref (cd 10)) (.ref (cd 8)) = some false
  kit_NoWord_ValueError : PySem.W.kitOne K (.ref (cd 10)) (.type "ValueError") = some false
  kit_TooMany_Bare : PySem.W.kitOne K (.ref (cd 6)) (.ref (cd 17)) = some false
  kit_TooMany_IndexError : PySem.W.kitOne K (.ref (cd 6)) (.type "IndexError") = some false
  kit_TooMany_KeyError : PySem.W.kitOne K (.ref (cd 6)) (.type "KeyError") = some false
  kit_TooMany_LookupError : PySem.W.kitOne K (.ref (cd 6)) (.type "LookupError") = some false
  kit_TooMany_NoDeed : PySem.W.kitOne K (.ref (cd 6)) (.ref (cd 14)) = some false
  kit_TooMany_NoMachine : PySem.W.kitOne K (.ref (cd 6)) (.ref (cd 2)) = some false
  kit_TooMany_NoMust : PySem.W.kitOne K (.ref (cd 6)) (.ref (cd 5)) = some false
  kit_TooMany_NoName : PySem.W.kitOne K (.ref (cd 6)) (.ref (cd 16)) = some false
  kit_TooMany_NoNames : PySem.W.kitOne K (.ref (cd 6)) (.ref (cd 12)) = some false
  kit_TooMany_NoNumber : PySem.W.kitOne K (.ref (cd 6)) (.ref (cd 15)) = some false
  kit_TooMany_NoRow : PySem.W.kitOne K (.ref (cd 6)) (.ref (cd 13)) = some false
  kit_TooMany_NoRun : PySem.W.kitOne K (.ref (cd 6)) (.ref (cd 3)) = some false
  kit_TooMany_NoStand : PySem.W.kitOne K (.ref (cd 6)) (.ref (cd 4)) = some false
  kit_TooMany_NoStays : PySem.W.kitOne K (.ref (cd 6)) (.ref (cd 9)) = some false
  kit_TooMany_NoTable : PySem.W.kitOne K (.ref (cd 6)) (.ref (cd 11)) = some false
  kit_TooMany_NoText : PySem.W.kitOne K (.ref (cd 6)) (.ref (cd 7)) = some false
  kit_TooMany_NoWord : PySem.W.kitOne K (.ref (cd 6)) (.ref (cd 10)) = some false
  kit_TooMany_RuntimeError : PySem.W.kitOne K (.ref (cd 6)) (.type "RuntimeError") = some false
  kit_TooMany_ShowError : PySem.W.kitOne K (.ref (cd 6)) (.ref (cd 1)) = some true
  kit_TooMany_TooMany : PySem.W.kitOne K (.ref (cd 6)) (.ref (cd 6)) = some true
  kit_TooMany_Unlike : PySem.W.kitOne K (.ref (cd 6)) (.ref (cd 8)) = some false
  kit_TooMany_ValueError : PySem.W.kitOne K (.ref (cd 6)) (.type "ValueError") = some false
  kit_Unlike_Bare : PySem.W.kitOne K (.ref (cd 8)) (.ref (cd 17)) = some false
  kit_Unlike_IndexError : PySem.W.kitOne K (.ref (cd 8)) (.type "IndexError") = some false
  kit_Unlike_KeyError : PySem.W.kitOne K (.ref (cd 8)) (.type "KeyError") = some false
  kit_Unlike_LookupError : PySem.W.kitOne K (.ref (cd 8)) (.type "LookupError") = some false
  kit_Unlike_NoDeed : PySem.W.kitOne K (.ref (cd 8)) (.ref (cd 14)) = some false
  kit_Unlike_NoMachine : PySem.W.kitOne K (.ref (cd 8)) (.ref (cd 2)) = some false
  kit_Unlike_NoMust : PySem.W.kitOne K (.ref (cd 8)) (.ref (cd 5)) = some false
  kit_Unlike_NoName : PySem.W.kitOne K (.ref (cd 8)) (.ref (cd 16)) = some false
  kit_Unlike_NoNames : PySem.W.kitOne K (.ref (cd 8)) (.ref (cd 12)) = some false
  kit_Unlike_NoNumber : PySem.W.kitOne K (.ref (cd 8)) (.ref (cd 15)) = some false
  kit_Unlike_NoRow : PySem.W.kitOne K (.ref (cd 8)) (.ref (cd 13)) = some false
  kit_Unlike_NoRun : PySem.W.kitOne K (.ref (cd 8)) (.ref (cd 3)) = some false
  kit_Unlike_NoStand : PySem.W.kitOne K (.ref (cd 8)) (.ref (cd 4)) = some false
  kit_Unlike_NoStays : PySem.W.kitOne K (.ref (cd 8)) (.ref (cd 9)) = some false
  kit_Unlike_NoTable : PySem.W.kitOne K (.ref (cd 8)) (.ref (cd 11)) = some false
  kit_Unlike_NoText : PySem.W.kitOne K (.ref (cd 8)) (.ref (cd 7)) = some false
  kit_Unlike_NoWord : PySem.W.kitOne K (.ref (cd 8)) (.ref (cd 10)) = some false
  kit_Unlike_RuntimeError : PySem.W.kitOne K (.ref (cd 8)) (.type "RuntimeError") = some false
  kit_Unlike_ShowError : PySem.W.kitOne K (.ref (cd 8)) (.ref (cd 1)) = some true
  kit_Unlike_TooMany : PySem.W.kitOne K (.ref (cd 8)) (.ref (cd 6)) = some false
  kit_Unlike_Unlike : PySem.W.kitOne K (.ref (cd 8)) (.ref (cd 8)) = some true
  kit_Unlike_ValueError : PySem.W.kitOne K (.ref (cd 8)) (.type "ValueError") = some false
  n_IndexError : mg "IndexError" = none
  n_KeyError : mg "KeyError" = none
  n_LookupError : mg "LookupError" = none
  n_RuntimeError : mg "RuntimeError" = none
  n_ValueError : mg "ValueError" = none
  n_enumerate : mg "enumerate" = none
  n_int : mg "int" = none
  n_isinstance : mg "isinstance" = none
  n_len : mg "len" = none
  n_max : mg "max" = none
  n_range : mg "range" = none
  n_repr : mg "repr" = none
section
variable {P : Program} {w : World} {K : PySem.W.Frag} {mg : Str → Option Value} {base : Heap} {ad : Nat → Addr} {fd : Nat → FuncData} {cd : Nat → Addr}
theorem ok_NoMachine___init__ (M : Ms K mg ad fd cd) (hsys : Sysm base) : FnG P w K mg base 1 (ad 10200) (fd 10200) ["self", "part", "number"] (spE K [.type "Exception", .type "BaseException", .type "object"] "Exception.__new__" ["part", "number"]) :=
  ec_fn2 M.f_NoMachine___init__.F sc_NoMachine___init__ fun cdv A outer s H E => (pss_cons (ps_expr (pe_ecinit PySem.F.excBase_Exception rfl M.gX_ShowError M.gS_ShowError M.rS_ShowError M.fS_ShowError (by decide +kernel) (pa_cons (pe_var (i := 0) rfl (.inl rfl) (by decide) (by decide)) (pa_cons pe_str pa_nil)))) (pss_cons (ps_ecst PySem.F.store_Exception (pe_var (i := 0) rfl (.inl rfl) (by decide) (by decide)) (pe_var (i := 1) rfl (.inl rfl) (by decide) (by decide))) (pss_one (ps_ecst PySem.F.store_Exception (pe_var (i := 0) rfl (.inl rfl) (by decide) (by decide)) (pe_var (i := 2) rfl (.inl rfl) (by decide) (by decide))))))
theorem ok_NoRun___init__ (M : Ms K mg ad fd cd) (hsys : Sysm base) : FnG P w K mg base 1 (ad 10300) (fd 10300) ["self", "part", "number"] (spE K [.type "Exception", .type "BaseException", .type "object"] "Exception.__new__" ["part", "number"]) :=
  ec_fn2 M.f_NoRun___init__.F sc_NoRun___init__ fun cdv A outer s H E => (pss_cons (ps_expr (pe_ecinit PySem.F.excBase_Exception rfl M.gX_ShowError M.gS_ShowError M.rS_ShowError M.fS_ShowError (by decide +kernel) (pa_cons (pe_var (i := 0) rfl (.inl rfl) (by decide) (by decide)) (pa_cons pe_str pa_nil)))) (pss_cons (ps_ecst PySem.F.store_Exception (pe_var (i := 0) rfl (.inl rfl) (by decide) (by decide)) (pe_var (i := 1) rfl (.inl rfl) (by decide) (by decide))) (pss_one (ps_ecst PySem.F.store_Exception (pe_var (i := 0) rfl (.inl rfl) (by decide) (by decide)) (pe_var (i := 2) rfl (.inl rfl) (by decide) (by decide))))))
theorem ok_NoStand___init__ (M : Ms K mg ad fd cd) (hsys : Sysm base) : FnG P w K mg base 1 (ad 10400) (fd 10400) ["self", "stand"] (spE K [.type "Exception", .type "BaseException", .type "object"] "Exception.__new__" ["stand"]) :=
  ec_fn1 M.f_NoStand___init__.F sc_NoStand___init__ fun cdv A outer s H E => (pss_cons (ps_expr (pe_ecinit PySem.F.excBase_Exception rfl M.gX_ShowError M.gS_ShowError M.rS_ShowError M.fS_ShowError (by decide +kernel) (pa_cons (pe_var (i := 0) rfl (.inl rfl) (by decide) (by decide)) (pa_cons pe_str pa_nil)))) (pss_one (ps_ecst PySem.F.store_Exception (pe_var (i := 0) rfl (.inl rfl) (by decide) (by decide)) (pe_var (i := 1) rfl (.inl rfl) (by decide) (by decide)))))
theorem ok_NoMust___init__ (M : Ms K mg ad fd cd) (hsys : Sysm base) : FnG P w K mg base 1 (ad 10500) (fd 10500) ["self", "name"] (spE K [.type "Exception", .type "BaseException", .type "object"] "Exception.__new__" ["name"]) :=
  ec_fn1 M.f_NoMust___init__.F sc_NoMust___init__ fun cdv A outer s H E => (pss_cons (ps_expr (pe_ecinit PySem.F.excBase_Exception rfl M.gX_ShowError M.gS_ShowError M.rS_ShowError M.fS_ShowError (by decide +kernel) (pa_cons (pe_var (i := 0) rfl (.inl rfl) (by decide) (by decide)) (pa_cons pe_str pa_nil)))) (pss_one (ps_ecst PySem.F.store_Exception (pe_var (i := 0) rfl (.inl rfl) (by decide) (by decide)) (pe_var (i := 1) rfl (.inl rfl) (by decide) (by decide)))))
theorem ok_TooMany___init__ (M : Ms K mg ad fd cd) (hsys : Sysm base) : FnG P w K mg base 1 (ad 10600) (fd 10600) ["self", "many"] (spE K [.type "Exception", .type "BaseException", .type "object"] "Exception.__new__" ["many"]) :=
  ec_fn1 M.f_TooMany___init__.F sc_TooMany___init__ fun cdv A outer s H E => (pss_cons (ps_expr (pe_ecinit PySem.F.excBase_Exception rfl M.gX_ShowError M.gS_ShowError M.rS_ShowError M.fS_ShowError (by decide +kernel) (pa_cons (pe_var (i := 0) rfl (.inl rfl) (by decide) (by decide)) (pa_cons pe_str pa_nil)))) (pss_one (ps_ecst PySem.F.store_Exception (pe_var (i := 0) rfl (.inl rfl) (by decide) (by decide)) (pe_var (i := 1) rfl (.inl rfl) (by decide) (by decide)))))
theorem ok_NoText___init__ (M : Ms K mg ad fd cd) (hsys : Sysm base) : FnG P w K mg base 1 (ad 10700) (fd 10700) ["self", "row"] (spE K [.type "Exception", .type "BaseException", .type "object"] "Exception.__new__" ["row"]) :=
  ec_fn1 M.f_NoText___init__.F sc_NoText___init__ fun cdv A outer s H E => (pss_cons (ps_expr (pe_ecinit PySem.F.excBase_Exception rfl M.gX_ShowError M.gS_ShowError M.rS_ShowError M.fS_ShowError (by decide +kernel) (pa_cons (pe_var (i := 0) rfl (.inl rfl) (by decide) (by decide)) (pa_cons pe_str pa_nil)))) (pss_one (ps_ecst PySem.F.store_Exception (pe_var (i := 0) rfl (.inl rfl) (by decide) (by decide)) (pe_var (i := 1) rfl (.inl rfl) (by decide) (by decide)))))
theorem ok_NoDeed___init__ (M : Ms K mg ad fd cd) (hsys : Sysm base) : FnG P w K mg base 1 (ad 11400) (fd 11400) ["self", "name"] (spE K [.type "LookupError", .type "Exception", .type "BaseException", .type "object"] "LookupError.__new__" ["name"]) :=
  ec_fn1 M.f_NoDeed___init__.F sc_NoDeed___init__ fun cdv A outer s H E => (pss_cons (ps_expr (pe_ecinitB PySem.F.excBase_LookupError rfl M.n_LookupError rfl rfl (by decide +kernel) M.fB_LookupError (by decide +kernel) (pa_cons (pe_var (i := 0) rfl (.inl rfl) (by decide) (by decide)) (pa_cons pe_str pa_nil)))) (pss_one (ps_ecst PySem.F.store_LookupError (pe_var (i := 0) rfl (.inl rfl) (by decide) (by decide)) (pe_var (i := 1) rfl (.inl rfl) (by decide) (by decide)))))
theorem ok_NoNumber___init__ (M : Ms K mg ad fd cd) (hsys : Sysm base) : FnG P w K mg base 1 (ad 11500) (fd 11500) ["self", "number"] (spE K [.type "IndexError", .type "LookupError", .type "Exception", .type "BaseException", .type "object"] "IndexError.__new__" ["number"]) :=
  ec_fn1 M.f_NoNumber___init__.F sc_NoNumber___init__ fun cdv A outer s H E => (pss_cons (ps_expr (pe_ecinitB PySem.F.excBase_IndexError rfl M.n_IndexError rfl rfl (by decide +kernel) M.fB_IndexError (by decide +kernel) (pa_cons (pe_var (i := 0) rfl (.inl rfl) (by decide) (by decide)) (pa_cons pe_str pa_nil)))) (pss_one (ps_ecst PySem.F.store_IndexError (pe_var (i := 0) rfl (.inl rfl) (by decide) (by decide)) (pe_var (i := 1) rfl (.inl rfl) (by decide) (by decide)))))
theorem ok_NoName___init__ (M : Ms K mg ad fd cd) (hsys : Sysm base) : FnG P w K mg base 1 (ad 11600) (fd 11600) ["self", "name"] (spE K [.type "KeyError", .type "LookupError", .type "Exception", .type "BaseException", .type "object"] "LookupError.__new__" ["name"]) :=
  ec_fn1 M.f_NoName___init__.F sc_NoName___init__ fun cdv A outer s H E => (pss_cons (ps_expr (pe_ecinitKey (by decide +kernel) rfl M.n_KeyError rfl rfl (by decide +kernel) M.fB_KeyError (by decide +kernel) (pa_cons (pe_var (i := 0) rfl (.inl rfl) (by decide) (by decide)) (pa_cons pe_str pa_nil)))) (pss_one (ps_ecst store_KeyError (pe_var (i := 0) rfl (.inl rfl) (by decide) (by decide)) (pe_var (i := 1) rfl (.inl rfl) (by decide) (by decide)))))
theorem ok_law_numbers (M : Ms K mg ad fd cd) (hsys : Sysm base) : FnG P w K mg base 1 (ad 19) (fd 19) ["_law_cell", "_law_salt", "_law_sizes"] (spV K mg 3 .sh f_law_numbers) :=
  fn_v M.f_law_numbers.F sc_law_numbers hsys fun cdv A outer s H E G eg x =>
    (vb_cons (vs_set 3 x (ve_max (m := .sh) x M.n_max (vv 0) (ve_sub (m := .sh) (ve_neg (m := .sh) (vi (m := .sh))) (vv 0))))
    (vb_cons (vs_set 4 x (vv 3))
    (vb_cons (vs_new 5 x (ve_lst (m := .fr) va_nil))
    (vb_cons (vs_for x (passes_of rfl) (vi_range1 M.n_range (ve_len (m := .sh) x M.n_len (vv 2))) (vp_name 6 x) (vb_one (vs_if (VW.vt (vw_and (vt_ge (vv 3) (ve_pow (m := .sh) (vi (m := .sh)) (vi (m := .sh)))) (vw_and1 (vt_gt (vv 4) (vi (m := .sh)))))) (vb_cons (va_app 5 (ve_mod (m := .sh) (vv 4) (ve_ix x (vv 2) (vv 6))))
    (vb_one (vs_set 4 x (ve_div (m := .sh) (vv 4) (ve_ix x (vv 2) (vv 6)))))) (vb_cons (vs_set 7 x (ve_mod (m := .sh) (ve_pow (m := .sh) (ve_add (m := .sh) x (ve_add (m := .sh) x (ve_mod (m := .sh) (vv 3) (vi (m := .sh))) (ve_mul (m := .sh) (vi (m := .sh)) (vv 1))) (vi (m := .sh))) (vi (m := .sh))) (vi (m := .sh))))
    (vb_cons (vs_set 7 x (ve_mod (m := .sh) (ve_mul (m := .sh) (ve_add (m := .sh) x (vv 7) (ve_mul (m := .sh) (vi (m := .sh)) (ve_add (m := .sh) x (vv 6) (vi (m := .sh))))) (ve_add (m := .sh) x (vv 6) (vi (m := .sh)))) (vi (m := .sh))))
    (vb_cons (vs_set 7 x (ve_mod (m := .sh) (ve_mul (m := .sh) (ve_mod (m := .sh) (ve_pow (m := .sh) (vv 7) (vi (m := .sh))) (vi (m := .sh))) (vi (m := .sh))) (vi (m := .sh))))
    (vb_one (va_app 5 (ve_mod (m := .sh) (ve_div (m := .sh) (vv 7) (vi (m := .sh))) (ve_ix x (vv 2) (vv 6)))))))))))
    (vb_one (vs_fz 5 (vs_ret (vv 5))))))))
theorem ok_law_odd (M : Ms K mg ad fd cd) (hsys : Sysm base) : FnG P w K mg base 1 (ad 20) (fd 20) ["_law_digit"] (spV K mg 1 .sh f_law_odd) :=
  fn_v M.f_law_odd.F sc_law_odd hsys fun cdv A outer s H E G eg x =>
    (vb_cons (vs_set 1 x (ve_lst (m := .sh) (va_cons (vn (m := .sh)) (va_cons (vbl (m := .sh)) (va_cons (vbl (m := .sh)) (va_cons (vs (m := .sh)) (va_cons (vs (m := .sh)) (va_cons (vi (m := .sh)) (va_cons (ve_neg (m := .sh) (vi (m := .sh))) (va_cons (ve_tup (m := .sh) va_nil) (va_cons (ve_lst (m := .sh) va_nil) (va_cons (ve_fs ve_dict0) (va_cons (ve_tup (m := .sh) (va_cons (vs (m := .sh)) va_nil)) (va_cons (ve_lst (m := .sh) (va_cons (ve_tup (m := .sh) (va_cons (vs (m := .sh)) (va_cons (vi (m := .sh)) (va_cons (vs (m := .sh)) va_nil)))) va_nil)) (va_cons (ve_tup (m := .sh) (va_cons (vs (m := .sh)) va_nil)) (va_cons (ve_pow (m := .sh) (vi (m := .sh)) (vi (m := .sh))) (va_cons (vs (m := .sh)) va_nil)))))))))))))))))
    (vb_one (vs_ret (ve_ix x (ve_add (m := .sh) x (vv 1) (ve_lst (m := .sh) (va_cons (ve_tup (m := .sh) (va_cons (vi (m := .sh)) va_nil)) va_nil))) (ve_mod (m := .sh) (vv 0) (vi (m := .sh)))))))
theorem ok_law_kinds (M : Ms K mg ad fd cd) (hsys : Sysm base) : FnG P w K mg base 1 (ad 22) (fd 22) ["_law_error"] (spV K mg 1 .sh f_law_kinds) :=
  fn_v M.f_law_kinds.F sc_law_kinds hsys fun cdv A outer s H E G eg x =>
    (vb_cons (vs_set 1 x (ve_lst (m := .sh) (va_cons (ve_isK (ct := [("NoMachine", true), ("NoRun", false), ("NoStand", false), ("NoMust", false), ("TooMany", false), ("NoText", false), ("NoDeed", false), ("NoNumber", false), ("NoName", false), ("Unlike", false), ("NoStays", false), ("NoWord", false), ("NoTable", false), ("NoNames", false), ("NoRow", false), ("Bare", false)]) (m := .sh) x.lo M.n_isinstance M.gX_NoMachine (ctC ((M.X_NoMachine.isK M.kit_NoMachine_NoMachine)) (ctC ((M.X_NoRun.isK M.kit_NoRun_NoMachine)) (ctC ((M.X_NoStand.isK M.kit_NoStand_NoMachine)) (ctC ((M.X_NoMust.isK M.kit_NoMust_NoMachine)) (ctC ((M.X_TooMany.isK M.kit_TooMany_NoMachine)) (ctC ((M.X_NoText.isK M.kit_NoText_NoMachine)) (ctC ((M.X_NoDeed.isK M.kit_NoDeed_NoMachine)) (ctC ((M.X_NoNumber.isK M.kit_NoNumber_NoMachine)) (ctC ((M.X_NoName.isK M.kit_NoName_NoMachine)) (ctC ((M.X_Unlike.isK M.kit_Unlike_NoMachine)) (ctC ((M.X_NoStays.isK M.kit_NoStays_NoMachine)) (ctC ((M.X_NoWord.isK M.kit_NoWord_NoMachine)) (ctC ((M.X_NoTable.isK M.kit_NoTable_NoMachine)) (ctC ((M.X_NoNames.isK M.kit_NoNames_NoMachine)) (ctC ((M.X_NoRow.isK M.kit_NoRow_NoMachine)) (ctC ((M.X_Bare.isK M.kit_Bare_NoMachine)) ctN)))))))))))))))) (vv 0)) (va_cons (ve_isK (ct := [("NoMachine", false), ("NoRun", true), ("NoStand", false), ("NoMust", false), ("TooMany", false), ("NoText", false), ("NoDeed", false), ("NoNumber", false), ("NoName", false), ("Unlike", false), ("NoStays", false), ("NoWord", false), ("NoTable", false), ("NoNames", false), ("NoRow", false), ("Bare", false)]) (m := .sh) x.lo M.n_isinstance M.gX_NoRun (ctC ((M.X_NoMachine.isK M.kit_NoMachine_NoRun)) (ctC ((M.X_NoRun.isK M.kit_NoRun_NoRun)) (ctC ((M.X_NoStand.isK M.kit_NoStand_NoRun)) (ctC ((M.X_NoMust.isK M.kit_NoMust_NoRun)) (ctC ((M.X_TooMany.isK M.kit_TooMany_NoRun)) (ctC ((M.X_NoText.isK M.kit_NoText_NoRun)) (ctC ((M.X_NoDeed.isK M.kit_NoDeed_NoRun)) (ctC ((M.X_NoNumber.isK M.kit_NoNumber_NoRun)) (ctC ((M.X_NoName.isK M.kit_NoName_NoRun)) (ctC ((M.X_Unlike.isK M.kit_Unlike_NoRun)) (ctC ((M.X_NoStays.isK M.kit_NoStays_NoRun)) (ctC ((M.X_NoWord.isK M.kit_NoWord_NoRun)) (ctC ((M.X_NoTable.isK M.kit_NoTable_NoRun)) (ctC ((M.X_NoNames.isK M.kit_NoNames_NoRun)) (ctC ((M.X_NoRow.isK M.kit_NoRow_NoRun)) (ctC ((M.X_Bare.isK M.kit_Bare_NoRun)) ctN)))))))))))))))) (vv 0)) (va_cons (ve_isK (ct := [("NoMachine", false), ("NoRun", false), ("NoStand", true), ("NoMust", false), ("TooMany", false), ("NoText", false), ("NoDeed", false), ("NoNumber", false), ("NoName", false), ("Unlike", false), ("NoStays", false), ("NoWord", false), ("NoTable", false), ("NoNames", false), ("NoRow", false), ("Bare", false)]) (m := .sh) x.lo M.n_isinstance M.gX_NoStand (ctC ((M.X_NoMachine.isK M.kit_NoMachine_NoStand)) (ctC ((M.X_NoRun.isK M.kit_NoRun_NoStand)) (ctC ((M.X_NoStand.isK M.kit_NoStand_NoStand)) (ctC ((M.X_NoMust.isK M.kit_NoMust_NoStand)) (ctC ((M.X_TooMany.isK M.kit_TooMany_NoStand)) (ctC ((M.X_NoText.isK M.kit_NoText_NoStand)) (ctC ((M.X_NoDeed.isK M.kit_NoDeed_NoStand)) (ctC ((M.X_NoNumber.isK M.kit_NoNumber_NoStand)) (ctC ((M.X_NoName.isK M.kit_NoName_NoStand)) (ctC ((M.X_Unlike.isK M.kit_Unlike_NoStand)) (ctC ((M.X_NoStays.isK M.kit_NoStays_NoStand)) (ctC ((M.X_NoWord.isK M.kit_NoWord_NoStand)) (ctC ((M.X_NoTable.isK M.kit_NoTable_NoStand)) (ctC ((M.X_NoNames.isK M.kit_NoNames_NoStand)) (ctC ((M.X_NoRow.isK M.kit_NoRow_NoStand)) (ctC ((M.X_Bare.isK M.kit_Bare_NoStand)) ctN)))))))))))))))) (vv 0)) va_nil)))))
    (vb_cons (vs_set 1 x (ve_add (m := .sh) x (vv 1) (ve_lst (m := .sh) (va_cons (ve_isK (ct := [("NoMachine", false), ("NoRun", false), ("NoStand", false), ("NoMust", true), ("TooMany", false), ("NoText", false), ("NoDeed", false), ("NoNumber", false), ("NoName", false), ("Unlike", false), ("NoStays", false), ("NoWord", false), ("NoTable", false), ("NoNames", false), ("NoRow", false), ("Bare", false)]) (m := .sh) x.lo M.n_isinstance M.gX_NoMust (ctC ((M.X_NoMachine.isK M.kit_NoMachine_NoMust)) (ctC ((M.X_NoRun.isK M.kit_NoRun_NoMust)) (ctC ((M.X_NoStand.isK M.kit_NoStand_NoMust)) (ctC ((M.X_NoMust.isK M.kit_NoMust_NoMust)) (ctC ((M.X_TooMany.isK M.kit_TooMany_NoMust)) (ctC ((M.X_NoText.isK M.kit_NoText_NoMust)) (ctC ((M.X_NoDeed.isK M.kit_NoDeed_NoMust)) (ctC ((M.X_NoNumber.isK M.kit_NoNumber_NoMust)) (ctC ((M.X_NoName.isK M.kit_NoName_NoMust)) (ctC ((M.X_Unlike.isK M.kit_Unlike_NoMust)) (ctC ((M.X_NoStays.isK M.kit_NoStays_NoMust)) (ctC ((M.X_NoWord.isK M.kit_NoWord_NoMust)) (ctC ((M.X_NoTable.isK M.kit_NoTable_NoMust)) (ctC ((M.X_NoNames.isK M.kit_NoNames_NoMust)) (ctC ((M.X_NoRow.isK M.kit_NoRow_NoMust)) (ctC ((M.X_Bare.isK M.kit_Bare_NoMust)) ctN)))))))))))))))) (vv 0)) (va_cons (ve_isK (ct := [("NoMachine", false), ("NoRun", false), ("NoStand", false), ("NoMust", false), ("TooMany", true), ("NoText", false), ("NoDeed", false), ("NoNumber", false), ("NoName", false), ("Unlike", false), ("NoStays", false), ("NoWord", false), ("NoTable", false), ("NoNames", false), ("NoRow", false), ("Bare", false)]) (m := .sh) x.lo M.n_isinstance M.gX_TooMany (ctC ((M.X_NoMachine.isK M.kit_NoMachine_TooMany)) (ctC ((M.X_NoRun.isK M.kit_NoRun_TooMany)) (ctC ((M.X_NoStand.isK M.kit_NoStand_TooMany)) (ctC ((M.X_NoMust.isK M.kit_NoMust_TooMany)) (ctC ((M.X_TooMany.isK M.kit_TooMany_TooMany)) (ctC ((M.X_NoText.isK M.kit_NoText_TooMany)) (ctC ((M.X_NoDeed.isK M.kit_NoDeed_TooMany)) (ctC ((M.X_NoNumber.isK M.kit_NoNumber_TooMany)) (ctC ((M.X_NoName.isK M.kit_NoName_TooMany)) (ctC ((M.X_Unlike.isK M.kit_Unlike_TooMany)) (ctC ((M.X_NoStays.isK M.kit_NoStays_TooMany)) (ctC ((M.X_NoWord.isK M.kit_NoWord_TooMany)) (ctC ((M.X_NoTable.isK M.kit_NoTable_TooMany)) (ctC ((M.X_NoNames.isK M.kit_NoNames_TooMany)) (ctC ((M.X_NoRow.isK M.kit_NoRow_TooMany)) (ctC ((M.X_Bare.isK M.kit_Bare_TooMany)) ctN)))))))))))))))) (vv 0)) (va_cons (ve_isK (ct := [("NoMachine", false), ("NoRun", false), ("NoStand", false), ("NoMust", false), ("TooMany", false), ("NoText", true), ("NoDeed", false), ("NoNumber", false), ("NoName", false), ("Unlike", false), ("NoStays", false), ("NoWord", false), ("NoTable", false), ("NoNames", false), ("NoRow", false), ("Bare", false)]) (m := .sh) x.lo M.n_isinstance M.gX_NoText (ctC ((M.X_NoMachine.isK M.kit_NoMachine_NoText)) (ctC ((M.X_NoRun.isK M.kit_NoRun_NoText)) (ctC ((M.X_NoStand.isK M.kit_NoStand_NoText)) (ctC ((M.X_NoMust.isK M.kit_NoMust_NoText)) (ctC ((M.X_TooMany.isK M.kit_TooMany_NoText)) (ctC ((M.X_NoText.isK M.kit_NoText_NoText)) (ctC ((M.X_NoDeed.isK M.kit_NoDeed_NoText)) (ctC ((M.X_NoNumber.isK M.kit_NoNumber_NoText)) (ctC ((M.X_NoName.isK M.kit_NoName_NoText)) (ctC ((M.X_Unlike.isK M.kit_Unlike_NoText)) (ctC ((M.X_NoStays.isK M.kit_NoStays_NoText)) (ctC ((M.X_NoWord.isK M.kit_NoWord_NoText)) (ctC ((M.X_NoTable.isK M.kit_NoTable_NoText)) (ctC ((M.X_NoNames.isK M.kit_NoNames_NoText)) (ctC ((M.X_NoRow.isK M.kit_NoRow_NoText)) (ctC ((M.X_Bare.isK M.kit_Bare_NoText)) ctN)))))))))))))))) (vv 0)) va_nil))))))
    (vb_cons (vs_set 1 x (ve_add (m := .sh) x (vv 1) (ve_lst (m := .sh) (va_cons (ve_isK (ct := [("NoMachine", false), ("NoRun", false), ("NoStand", false), ("NoMust", false), ("TooMany", false), ("NoText", false), ("NoDeed", false), ("NoNumber", false), ("NoName", false), ("Unlike", true), ("NoStays", false), ("NoWord", false), ("NoTable", false), ("NoNames", false), ("NoRow", false), ("Bare", false)]) (m := .sh) x.lo M.n_isinstance M.gX_Unlike (ctC ((M.X_NoMachine.isK M.kit_NoMachine_Unlike)) (ctC ((M.X_NoRun.isK M.kit_NoRun_Unlike)) (ctC ((M.X_NoStand.isK M.kit_NoStand_Unlike)) (ctC ((M.X_NoMust.isK M.kit_NoMust_Unlike)) (ctC ((M.X_TooMany.isK M.kit_TooMany_Unlike)) (ctC ((M.X_NoText.isK M.kit_NoText_Unlike)) (ctC ((M.X_NoDeed.isK M.kit_NoDeed_Unlike)) (ctC ((M.X_NoNumber.isK M.kit_NoNumber_Unlike)) (ctC ((M.X_NoName.isK M.kit_NoName_Unlike)) (ctC ((M.X_Unlike.isK M.kit_Unlike_Unlike)) (ctC ((M.X_NoStays.isK M.kit_NoStays_Unlike)) (ctC ((M.X_NoWord.isK M.kit_NoWord_Unlike)) (ctC ((M.X_NoTable.isK M.kit_NoTable_Unlike)) (ctC ((M.X_NoNames.isK M.kit_NoNames_Unlike)) (ctC ((M.X_NoRow.isK M.kit_NoRow_Unlike)) (ctC ((M.X_Bare.isK M.kit_Bare_Unlike)) ctN)))))))))))))))) (vv 0)) (va_cons (ve_isK (ct := [("NoMachine", false), ("NoRun", false), ("NoStand", false), ("NoMust", false), ("TooMany", false), ("NoText", false), ("NoDeed", false), ("NoNumber", false), ("NoName", false), ("Unlike", false), ("NoStays", true), ("NoWord", false), ("NoTable", false), ("NoNames", false), ("NoRow", false), ("Bare", false)]) (m := .sh) x.lo M.n_isinstance M.gX_NoStays (ctC ((M.X_NoMachine.isK M.kit_NoMachine_NoStays)) (ctC ((M.X_NoRun.isK M.kit_NoRun_NoStays)) (ctC ((M.X_NoStand.isK M.kit_NoStand_NoStays)) (ctC ((M.X_NoMust.isK M.kit_NoMust_NoStays)) (ctC ((M.X_TooMany.isK M.kit_TooMany_NoStays)) (ctC ((M.X_NoText.isK M.kit_NoText_NoStays)) (ctC ((M.X_NoDeed.isK M.kit_NoDeed_NoStays)) (ctC ((M.X_NoNumber.isK M.kit_NoNumber_NoStays)) (ctC ((M.X_NoName.isK M.kit_NoName_NoStays)) (ctC ((M.X_Unlike.isK M.kit_Unlike_NoStays)) (ctC ((M.X_NoStays.isK M.kit_NoStays_NoStays)) (ctC ((M.X_NoWord.isK M.kit_NoWord_NoStays)) (ctC ((M.X_NoTable.isK M.kit_NoTable_NoStays)) (ctC ((M.X_NoNames.isK M.kit_NoNames_NoStays)) (ctC ((M.X_NoRow.isK M.kit_NoRow_NoStays)) (ctC ((M.X_Bare.isK M.kit_Bare_NoStays)) ctN)))))))))))))))) (vv 0)) (va_cons (ve_isK (ct := [("NoMachine", false), ("NoRun", false), ("NoStand", false), ("NoMust", false), ("TooMany", false), ("NoText", false), ("NoDeed", false), ("NoNumber", false), ("NoName", false), ("Unlike", false), ("NoStays", false), ("NoWord", true), ("NoTable", false), ("NoNames", false), ("NoRow", false), ("Bare", false)]) (m := .sh) x.lo M.n_isinstance M.gX_NoWord (ctC ((M.X_NoMachine.isK M.kit_NoMachine_NoWord)) (ctC ((M.X_NoRun.isK M.kit_NoRun_NoWord)) (ctC ((M.X_NoStand.isK M.kit_NoStand_NoWord)) (ctC ((M.X_NoMust.isK M.kit_NoMust_NoWord)) (ctC ((M.X_TooMany.isK M.kit_TooMany_NoWord)) (ctC ((M.X_NoText.isK M.kit_NoText_NoWord)) (ctC ((M.X_NoDeed.isK M.kit_NoDeed_NoWord)) (ctC ((M.X_NoNumber.isK M.kit_NoNumber_NoWord)) (ctC ((M.X_NoName.isK M.kit_NoName_NoWord)) (ctC ((M.X_Unlike.isK M.kit_Unlike_NoWord)) (ctC ((M.X_NoStays.isK M.kit_NoStays_NoWord)) (ctC ((M.X_NoWord.isK M.kit_NoWord_NoWord)) (ctC ((M.X_NoTable.isK M.kit_NoTable_NoWord)) (ctC ((M.X_NoNames.isK M.kit_NoNames_NoWord)) (ctC ((M.X_NoRow.isK M.kit_NoRow_NoWord)) (ctC ((M.X_Bare.isK M.kit_Bare_NoWord)) ctN)))))))))))))))) (vv 0)) va_nil))))))
    (vb_cons (vs_set 1 x (ve_add (m := .sh) x (vv 1) (ve_lst (m := .sh) (va_cons (ve_isK (ct := [("NoMachine", false), ("NoRun", false), ("NoStand", false), ("NoMust", false), ("TooMany", false), ("NoText", false), ("NoDeed", false), ("NoNumber", false), ("NoName", false), ("Unlike", false), ("NoStays", false), ("NoWord", false), ("NoTable", true), ("NoNames", false), ("NoRow", false), ("Bare", false)]) (m := .sh) x.lo M.n_isinstance M.gX_NoTable (ctC ((M.X_NoMachine.isK M.kit_NoMachine_NoTable)) (ctC ((M.X_NoRun.isK M.kit_NoRun_NoTable)) (ctC ((M.X_NoStand.isK M.kit_NoStand_NoTable)) (ctC ((M.X_NoMust.isK M.kit_NoMust_NoTable)) (ctC ((M.X_TooMany.isK M.kit_TooMany_NoTable)) (ctC ((M.X_NoText.isK M.kit_NoText_NoTable)) (ctC ((M.X_NoDeed.isK M.kit_NoDeed_NoTable)) (ctC ((M.X_NoNumber.isK M.kit_NoNumber_NoTable)) (ctC ((M.X_NoName.isK M.kit_NoName_NoTable)) (ctC ((M.X_Unlike.isK M.kit_Unlike_NoTable)) (ctC ((M.X_NoStays.isK M.kit_NoStays_NoTable)) (ctC ((M.X_NoWord.isK M.kit_NoWord_NoTable)) (ctC ((M.X_NoTable.isK M.kit_NoTable_NoTable)) (ctC ((M.X_NoNames.isK M.kit_NoNames_NoTable)) (ctC ((M.X_NoRow.isK M.kit_NoRow_NoTable)) (ctC ((M.X_Bare.isK M.kit_Bare_NoTable)) ctN)))))))))))))))) (vv 0)) (va_cons (ve_isK (ct := [("NoMachine", false), ("NoRun", false), ("NoStand", false), ("NoMust", false), ("TooMany", false), ("NoText", false), ("NoDeed", false), ("NoNumber", false), ("NoName", false), ("Unlike", false), ("NoStays", false), ("NoWord", false), ("NoTable", false), ("NoNames", true), ("NoRow", false), ("Bare", false)]) (m := .sh) x.lo M.n_isinstance M.gX_NoNames (ctC ((M.X_NoMachine.isK M.kit_NoMachine_NoNames)) (ctC ((M.X_NoRun.isK M.kit_NoRun_NoNames)) (ctC ((M.X_NoStand.isK M.kit_NoStand_NoNames)) (ctC ((M.X_NoMust.isK M.kit_NoMust_NoNames)) (ctC ((M.X_TooMany.isK M.kit_TooMany_NoNames)) (ctC ((M.X_NoText.isK M.kit_NoText_NoNames)) (ctC ((M.X_NoDeed.isK M.kit_NoDeed_NoNames)) (ctC ((M.X_NoNumber.isK M.kit_NoNumber_NoNames)) (ctC ((M.X_NoName.isK M.kit_NoName_NoNames)) (ctC ((M.X_Unlike.isK M.kit_Unlike_NoNames)) (ctC ((M.X_NoStays.isK M.kit_NoStays_NoNames)) (ctC ((M.X_NoWord.isK M.kit_NoWord_NoNames)) (ctC ((M.X_NoTable.isK M.kit_NoTable_NoNames)) (ctC ((M.X_NoNames.isK M.kit_NoNames_NoNames)) (ctC ((M.X_NoRow.isK M.kit_NoRow_NoNames)) (ctC ((M.X_Bare.isK M.kit_Bare_NoNames)) ctN)))))))))))))))) (vv 0)) (va_cons (ve_isK (ct := [("NoMachine", false), ("NoRun", false), ("NoStand", false), ("NoMust", false), ("TooMany", false), ("NoText", false), ("NoDeed", false), ("NoNumber", false), ("NoName", false), ("Unlike", false), ("NoStays", false), ("NoWord", false), ("NoTable", false), ("NoNames", false), ("NoRow", true), ("Bare", false)]) (m := .sh) x.lo M.n_isinstance M.gX_NoRow (ctC ((M.X_NoMachine.isK M.kit_NoMachine_NoRow)) (ctC ((M.X_NoRun.isK M.kit_NoRun_NoRow)) (ctC ((M.X_NoStand.isK M.kit_NoStand_NoRow)) (ctC ((M.X_NoMust.isK M.kit_NoMust_NoRow)) (ctC ((M.X_TooMany.isK M.kit_TooMany_NoRow)) (ctC ((M.X_NoText.isK M.kit_NoText_NoRow)) (ctC ((M.X_NoDeed.isK M.kit_NoDeed_NoRow)) (ctC ((M.X_NoNumber.isK M.kit_NoNumber_NoRow)) (ctC ((M.X_NoName.isK M.kit_NoName_NoRow)) (ctC ((M.X_Unlike.isK M.kit_Unlike_NoRow)) (ctC ((M.X_NoStays.isK M.kit_NoStays_NoRow)) (ctC ((M.X_NoWord.isK M.kit_NoWord_NoRow)) (ctC ((M.X_NoTable.isK M.kit_NoTable_NoRow)) (ctC ((M.X_NoNames.isK M.kit_NoNames_NoRow)) (ctC ((M.X_NoRow.isK M.kit_NoRow_NoRow)) (ctC ((M.X_Bare.isK M.kit_Bare_NoRow)) ctN)))))))))))))))) (vv 0)) va_nil))))))
    (vb_cons (vs_set 1 x (ve_add (m := .sh) x (vv 1) (ve_lst (m := .sh) (va_cons (ve_isK (ct := [("NoMachine", false), ("NoRun", false), ("NoStand", false), ("NoMust", false), ("TooMany", false), ("NoText", false), ("NoDeed", true), ("NoNumber", false), ("NoName", false), ("Unlike", false), ("NoStays", false), ("NoWord", false), ("NoTable", false), ("NoNames", false), ("NoRow", false), ("Bare", false)]) (m := .sh) x.lo M.n_isinstance M.gX_NoDeed (ctC ((M.X_NoMachine.isK M.kit_NoMachine_NoDeed)) (ctC ((M.X_NoRun.isK M.kit_NoRun_NoDeed)) (ctC ((M.X_NoStand.isK M.kit_NoStand_NoDeed)) (ctC ((M.X_NoMust.isK M.kit_NoMust_NoDeed)) (ctC ((M.X_TooMany.isK M.kit_TooMany_NoDeed)) (ctC ((M.X_NoText.isK M.kit_NoText_NoDeed)) (ctC ((M.X_NoDeed.isK M.kit_NoDeed_NoDeed)) (ctC ((M.X_NoNumber.isK M.kit_NoNumber_NoDeed)) (ctC ((M.X_NoName.isK M.kit_NoName_NoDeed)) (ctC ((M.X_Unlike.isK M.kit_Unlike_NoDeed)) (ctC ((M.X_NoStays.isK M.kit_NoStays_NoDeed)) (ctC ((M.X_NoWord.isK M.kit_NoWord_NoDeed)) (ctC ((M.X_NoTable.isK M.kit_NoTable_NoDeed)) (ctC ((M.X_NoNames.isK M.kit_NoNames_NoDeed)) (ctC ((M.X_NoRow.isK M.kit_NoRow_NoDeed)) (ctC ((M.X_Bare.isK M.kit_Bare_NoDeed)) ctN)))))))))))))))) (vv 0)) (va_cons (ve_isK (ct := [("NoMachine", false), ("NoRun", false), ("NoStand", false), ("NoMust", false), ("TooMany", false), ("NoText", false), ("NoDeed", false), ("NoNumber", true), ("NoName", false), ("Unlike", false), ("NoStays", false), ("NoWord", false), ("NoTable", false), ("NoNames", false), ("NoRow", false), ("Bare", false)]) (m := .sh) x.lo M.n_isinstance M.gX_NoNumber (ctC ((M.X_NoMachine.isK M.kit_NoMachine_NoNumber)) (ctC ((M.X_NoRun.isK M.kit_NoRun_NoNumber)) (ctC ((M.X_NoStand.isK M.kit_NoStand_NoNumber)) (ctC ((M.X_NoMust.isK M.kit_NoMust_NoNumber)) (ctC ((M.X_TooMany.isK M.kit_TooMany_NoNumber)) (ctC ((M.X_NoText.isK M.kit_NoText_NoNumber)) (ctC ((M.X_NoDeed.isK M.kit_NoDeed_NoNumber)) (ctC ((M.X_NoNumber.isK M.kit_NoNumber_NoNumber)) (ctC ((M.X_NoName.isK M.kit_NoName_NoNumber)) (ctC ((M.X_Unlike.isK M.kit_Unlike_NoNumber)) (ctC ((M.X_NoStays.isK M.kit_NoStays_NoNumber)) (ctC ((M.X_NoWord.isK M.kit_NoWord_NoNumber)) (ctC ((M.X_NoTable.isK M.kit_NoTable_NoNumber)) (ctC ((M.X_NoNames.isK M.kit_NoNames_NoNumber)) (ctC ((M.X_NoRow.isK M.kit_NoRow_NoNumber)) (ctC ((M.X_Bare.isK M.kit_Bare_NoNumber)) ctN)))))))))))))))) (vv 0)) (va_cons (ve_isK (ct := [("NoMachine", false), ("NoRun", false), ("NoStand", false), ("NoMust", false), ("TooMany", false), ("NoText", false), ("NoDeed", false), ("NoNumber", false), ("NoName", true), ("Unlike", false), ("NoStays", false), ("NoWord", false), ("NoTable", false), ("NoNames", false), ("NoRow", false), ("Bare", false)]) (m := .sh) x.lo M.n_isinstance M.gX_NoName (ctC ((M.X_NoMachine.isK M.kit_NoMachine_NoName)) (ctC ((M.X_NoRun.isK M.kit_NoRun_NoName)) (ctC ((M.X_NoStand.isK M.kit_NoStand_NoName)) (ctC ((M.X_NoMust.isK M.kit_NoMust_NoName)) (ctC ((M.X_TooMany.isK M.kit_TooMany_NoName)) (ctC ((M.X_NoText.isK M.kit_NoText_NoName)) (ctC ((M.X_NoDeed.isK M.kit_NoDeed_NoName)) (ctC ((M.X_NoNumber.isK M.kit_NoNumber_NoName)) (ctC ((M.X_NoName.isK M.kit_NoName_NoName)) (ctC ((M.X_Unlike.isK M.kit_Unlike_NoName)) (ctC ((M.X_NoStays.isK M.kit_NoStays_NoName)) (ctC ((M.X_NoWord.isK M.kit_NoWord_NoName)) (ctC ((M.X_NoTable.isK M.kit_NoTable_NoName)) (ctC ((M.X_NoNames.isK M.kit_NoNames_NoName)) (ctC ((M.X_NoRow.isK M.kit_NoRow_NoName)) (ctC ((M.X_Bare.isK M.kit_Bare_NoName)) ctN)))))))))))))))) (vv 0)) va_nil))))))
    (vb_one (vs_ret (ve_add (m := .sh) x (vv 1) (ve_lst (m := .sh) (va_cons (ve_isK (ct := [("NoMachine", false), ("NoRun", false), ("NoStand", false), ("NoMust", false), ("TooMany", false), ("NoText", false), ("NoDeed", false), ("NoNumber", false), ("NoName", false), ("Unlike", false), ("NoStays", false), ("NoWord", false), ("NoTable", false), ("NoNames", false), ("NoRow", false), ("Bare", true)]) (m := .sh) x.lo M.n_isinstance M.gX_Bare (ctC ((M.X_NoMachine.isK M.kit_NoMachine_Bare)) (ctC ((M.X_NoRun.isK M.kit_NoRun_Bare)) (ctC ((M.X_NoStand.isK M.kit_NoStand_Bare)) (ctC ((M.X_NoMust.isK M.kit_NoMust_Bare)) (ctC ((M.X_TooMany.isK M.kit_TooMany_Bare)) (ctC ((M.X_NoText.isK M.kit_NoText_Bare)) (ctC ((M.X_NoDeed.isK M.kit_NoDeed_Bare)) (ctC ((M.X_NoNumber.isK M.kit_NoNumber_Bare)) (ctC ((M.X_NoName.isK M.kit_NoName_Bare)) (ctC ((M.X_Unlike.isK M.kit_Unlike_Bare)) (ctC ((M.X_NoStays.isK M.kit_NoStays_Bare)) (ctC ((M.X_NoWord.isK M.kit_NoWord_Bare)) (ctC ((M.X_NoTable.isK M.kit_NoTable_Bare)) (ctC ((M.X_NoNames.isK M.kit_NoNames_Bare)) (ctC ((M.X_NoRow.isK M.kit_NoRow_Bare)) (ctC ((M.X_Bare.isK M.kit_Bare_Bare)) ctN)))))))))))))))) (vv 0)) va_nil))))))))))
theorem ok_law_over (M : Ms K mg ad fd cd) (hsys : Sysm base) : FnG P w K mg base 1 (ad 23) (fd 23) ["_law_error"] (spV K mg 1 .sh f_law_over) :=
  fn_v M.f_law_over.F sc_law_over hsys fun cdv A outer s H E G eg x =>
    (vb_cons (vs_set 1 x (ve_lst (m := .sh) (va_cons (ve_isK (ct := [("NoMachine", true), ("NoRun", true), ("NoStand", true), ("NoMust", true), ("TooMany", true), ("NoText", true), ("NoDeed", false), ("NoNumber", false), ("NoName", false), ("Unlike", true), ("NoStays", true), ("NoWord", true), ("NoTable", true), ("NoNames", true), ("NoRow", true), ("Bare", false)]) (m := .sh) x.lo M.n_isinstance M.gX_ShowError (ctC ((M.X_NoMachine.isK M.kit_NoMachine_ShowError)) (ctC ((M.X_NoRun.isK M.kit_NoRun_ShowError)) (ctC ((M.X_NoStand.isK M.kit_NoStand_ShowError)) (ctC ((M.X_NoMust.isK M.kit_NoMust_ShowError)) (ctC ((M.X_TooMany.isK M.kit_TooMany_ShowError)) (ctC ((M.X_NoText.isK M.kit_NoText_ShowError)) (ctC ((M.X_NoDeed.isK M.kit_NoDeed_ShowError)) (ctC ((M.X_NoNumber.isK M.kit_NoNumber_ShowError)) (ctC ((M.X_NoName.isK M.kit_NoName_ShowError)) (ctC ((M.X_Unlike.isK M.kit_Unlike_ShowError)) (ctC ((M.X_NoStays.isK M.kit_NoStays_ShowError)) (ctC ((M.X_NoWord.isK M.kit_NoWord_ShowError)) (ctC ((M.X_NoTable.isK M.kit_NoTable_ShowError)) (ctC ((M.X_NoNames.isK M.kit_NoNames_ShowError)) (ctC ((M.X_NoRow.isK M.kit_NoRow_ShowError)) (ctC ((M.X_Bare.isK M.kit_Bare_ShowError)) ctN)))))))))))))))) (vv 0)) (va_cons (ve_isB (ct := [("NoMachine", false), ("NoRun", false), ("NoStand", false), ("NoMust", false), ("TooMany", false), ("NoText", false), ("NoDeed", true), ("NoNumber", true), ("NoName", true), ("Unlike", false), ("NoStays", false), ("NoWord", false), ("NoTable", false), ("NoNames", false), ("NoRow", false), ("Bare", false)]) (m := .sh) x.lo M.n_isinstance M.n_LookupError (by decide +kernel) (by decide) (ctC ((M.X_NoMachine.isK M.kit_NoMachine_LookupError)) (ctC ((M.X_NoRun.isK M.kit_NoRun_LookupError)) (ctC ((M.X_NoStand.isK M.kit_NoStand_LookupError)) (ctC ((M.X_NoMust.isK M.kit_NoMust_LookupError)) (ctC ((M.X_TooMany.isK M.kit_TooMany_LookupError)) (ctC ((M.X_NoText.isK M.kit_NoText_LookupError)) (ctC ((M.X_NoDeed.isK M.kit_NoDeed_LookupError)) (ctC ((M.X_NoNumber.isK M.kit_NoNumber_LookupError)) (ctC ((M.X_NoName.isK M.kit_NoName_LookupError)) (ctC ((M.X_Unlike.isK M.kit_Unlike_LookupError)) (ctC ((M.X_NoStays.isK M.kit_NoStays_LookupError)) (ctC ((M.X_NoWord.isK M.kit_NoWord_LookupError)) (ctC ((M.X_NoTable.isK M.kit_NoTable_LookupError)) (ctC ((M.X_NoNames.isK M.kit_NoNames_LookupError)) (ctC ((M.X_NoRow.isK M.kit_NoRow_LookupError)) (ctC ((M.X_Bare.isK M.kit_Bare_LookupError)) ctN)))))))))))))))) (vv 0)) (va_cons (ve_isB (ct := [("NoMachine", false), ("NoRun", false), ("NoStand", false), ("NoMust", false), ("TooMany", false), ("NoText", false), ("NoDeed", false), ("NoNumber", true), ("NoName", false), ("Unlike", false), ("NoStays", false), ("NoWord", false), ("NoTable", false), ("NoNames", false), ("NoRow", false), ("Bare", false)]) (m := .sh) x.lo M.n_isinstance M.n_IndexError (by decide +kernel) (by decide) (ctC ((M.X_NoMachine.isK M.kit_NoMachine_IndexError)) (ctC ((M.X_NoRun.isK M.kit_NoRun_IndexError)) (ctC ((M.X_NoStand.isK M.kit_NoStand_IndexError)) (ctC ((M.X_NoMust.isK M.kit_NoMust_IndexError)) (ctC ((M.X_TooMany.isK M.kit_TooMany_IndexError)) (ctC ((M.X_NoText.isK M.kit_NoText_IndexError)) (ctC ((M.X_NoDeed.isK M.kit_NoDeed_IndexError)) (ctC ((M.X_NoNumber.isK M.kit_NoNumber_IndexError)) (ctC ((M.X_NoName.isK M.kit_NoName_IndexError)) (ctC ((M.X_Unlike.isK M.kit_Unlike_IndexError)) (ctC ((M.X_NoStays.isK M.kit_NoStays_IndexError)) (ctC ((M.X_NoWord.isK M.kit_NoWord_IndexError)) (ctC ((M.X_NoTable.isK M.kit_NoTable_IndexError)) (ctC ((M.X_NoNames.isK M.kit_NoNames_IndexError)) (ctC ((M.X_NoRow.isK M.kit_NoRow_IndexError)) (ctC ((M.X_Bare.isK M.kit_Bare_IndexError)) ctN)))))))))))))))) (vv 0)) va_nil)))))
    (vb_one (vs_ret (ve_add (m := .sh) x (vv 1) (ve_lst (m := .sh) (va_cons (ve_isB (ct := [("NoMachine", false), ("NoRun", false), ("NoStand", false), ("NoMust", false), ("TooMany", false), ("NoText", false), ("NoDeed", false), ("NoNumber", false), ("NoName", true), ("Unlike", false), ("NoStays", false), ("NoWord", false), ("NoTable", false), ("NoNames", false), ("NoRow", false), ("Bare", false)]) (m := .sh) x.lo M.n_isinstance M.n_KeyError (by decide +kernel) (by decide) (ctC ((M.X_NoMachine.isK M.kit_NoMachine_KeyError)) (ctC ((M.X_NoRun.isK M.kit_NoRun_KeyError)) (ctC ((M.X_NoStand.isK M.kit_NoStand_KeyError)) (ctC ((M.X_NoMust.isK M.kit_NoMust_KeyError)) (ctC ((M.X_TooMany.isK M.kit_TooMany_KeyError)) (ctC ((M.X_NoText.isK M.kit_NoText_KeyError)) (ctC ((M.X_NoDeed.isK M.kit_NoDeed_KeyError)) (ctC ((M.X_NoNumber.isK M.kit_NoNumber_KeyError)) (ctC ((M.X_NoName.isK M.kit_NoName_KeyError)) (ctC ((M.X_Unlike.isK M.kit_Unlike_KeyError)) (ctC ((M.X_NoStays.isK M.kit_NoStays_KeyError)) (ctC ((M.X_NoWord.isK M.kit_NoWord_KeyError)) (ctC ((M.X_NoTable.isK M.kit_NoTable_KeyError)) (ctC ((M.X_NoNames.isK M.kit_NoNames_KeyError)) (ctC ((M.X_NoRow.isK M.kit_NoRow_KeyError)) (ctC ((M.X_Bare.isK M.kit_Bare_KeyError)) ctN)))))))))))))))) (vv 0)) (va_cons (ve_isB (ct := [("NoMachine", false), ("NoRun", false), ("NoStand", false), ("NoMust", false), ("TooMany", false), ("NoText", false), ("NoDeed", false), ("NoNumber", false), ("NoName", false), ("Unlike", false), ("NoStays", false), ("NoWord", false), ("NoTable", false), ("NoNames", false), ("NoRow", false), ("Bare", true)]) (m := .sh) x.lo M.n_isinstance M.n_RuntimeError (by decide +kernel) (by decide) (ctC ((M.X_NoMachine.isK M.kit_NoMachine_RuntimeError)) (ctC ((M.X_NoRun.isK M.kit_NoRun_RuntimeError)) (ctC ((M.X_NoStand.isK M.kit_NoStand_RuntimeError)) (ctC ((M.X_NoMust.isK M.kit_NoMust_RuntimeError)) (ctC ((M.X_TooMany.isK M.kit_TooMany_RuntimeError)) (ctC ((M.X_NoText.isK M.kit_NoText_RuntimeError)) (ctC ((M.X_NoDeed.isK M.kit_NoDeed_RuntimeError)) (ctC ((M.X_NoNumber.isK M.kit_NoNumber_RuntimeError)) (ctC ((M.X_NoName.isK M.kit_NoName_RuntimeError)) (ctC ((M.X_Unlike.isK M.kit_Unlike_RuntimeError)) (ctC ((M.X_NoStays.isK M.kit_NoStays_RuntimeError)) (ctC ((M.X_NoWord.isK M.kit_NoWord_RuntimeError)) (ctC ((M.X_NoTable.isK M.kit_NoTable_RuntimeError)) (ctC ((M.X_NoNames.isK M.kit_NoNames_RuntimeError)) (ctC ((M.X_NoRow.isK M.kit_NoRow_RuntimeError)) (ctC ((M.X_Bare.isK M.kit_Bare_RuntimeError)) ctN)))))))))))))))) (vv 0)) (va_cons (ve_isB (ct := [("NoMachine", false), ("NoRun", false), ("NoStand", false), ("NoMust", false), ("TooMany", false), ("NoText", false), ("NoDeed", false), ("NoNumber", false), ("NoName", false), ("Unlike", false), ("NoStays", false), ("NoWord", false), ("NoTable", false), ("NoNames", false), ("NoRow", false), ("Bare", false)]) (m := .sh) x.lo M.n_isinstance M.n_ValueError (by decide +kernel) (by decide) (ctC ((M.X_NoMachine.isK M.kit_NoMachine_ValueError)) (ctC ((M.X_NoRun.isK M.kit_NoRun_ValueError)) (ctC ((M.X_NoStand.isK M.kit_NoStand_ValueError)) (ctC ((M.X_NoMust.isK M.kit_NoMust_ValueError)) (ctC ((M.X_TooMany.isK M.kit_TooMany_ValueError)) (ctC ((M.X_NoText.isK M.kit_NoText_ValueError)) (ctC ((M.X_NoDeed.isK M.kit_NoDeed_ValueError)) (ctC ((M.X_NoNumber.isK M.kit_NoNumber_ValueError)) (ctC ((M.X_NoName.isK M.kit_NoName_ValueError)) (ctC ((M.X_Unlike.isK M.kit_Unlike_ValueError)) (ctC ((M.X_NoStays.isK M.kit_NoStays_ValueError)) (ctC ((M.X_NoWord.isK M.kit_NoWord_ValueError)) (ctC ((M.X_NoTable.isK M.kit_NoTable_ValueError)) (ctC ((M.X_NoNames.isK M.kit_NoNames_ValueError)) (ctC ((M.X_NoRow.isK M.kit_NoRow_ValueError)) (ctC ((M.X_Bare.isK M.kit_Bare_ValueError)) ctN)))))))))))))))) (vv 0)) va_nil))))))))
theorem ok_law_all (M : Ms K mg ad fd cd) (hsys : Sysm base) : FnG P w K mg base 3 (ad 21) (fd 21) ["_law_one", "_law_two"] (spV K mg 2 .sh f_law_all) :=
  fn_v M.f_law_all.F sc_law_all hsys fun cdv A outer s H E G eg x =>
    (vb_cons (vs_set 2 x (ve_lst (m := .sh) (va_cons (ve_mkx x M.X_NoMachine.ns M.X_NoMachine.cc.hg (pmk_ec x (M.X_NoMachine.ec M.ini_NoMachine M.ovr_NoMachine) PySem.F.excBase_Exception (fun f hf => by rcases List.mem_cons.mp hf with rfl | hf; exact M.no_NoMachine_part; rcases List.mem_cons.mp hf with rfl | hf; exact M.no_NoMachine_number; cases hf) M.iC_NoMachine M.tI_NoMachine (ok_NoMachine___init__ M hsys) (by decide) M.f_NoMachine___init__.b rfl M.gX_NoMachine (va_cons (vv 0) (va_cons (vv 1) va_nil)).pa) (by decide) (by simp)) (va_cons (ve_mkx x M.X_NoRun.ns M.X_NoRun.cc.hg (pmk_ec x (M.X_NoRun.ec M.ini_NoRun M.ovr_NoRun) PySem.F.excBase_Exception (fun f hf => by rcases List.mem_cons.mp hf with rfl | hf; exact M.no_NoRun_part; rcases List.mem_cons.mp hf with rfl | hf; exact M.no_NoRun_number; cases hf) M.iC_NoRun M.tI_NoRun (ok_NoRun___init__ M hsys) (by decide) M.f_NoRun___init__.b rfl M.gX_NoRun (va_cons (vv 0) (va_cons (vv 1) va_nil)).pa) (by decide) (by simp)) (va_cons (ve_mkx x M.X_NoStand.ns M.X_NoStand.cc.hg (pmk_ec x (M.X_NoStand.ec M.ini_NoStand M.ovr_NoStand) PySem.F.excBase_Exception (fun f hf => by rcases List.mem_cons.mp hf with rfl | hf; exact M.no_NoStand_stand; cases hf) M.iC_NoStand M.tI_NoStand (ok_NoStand___init__ M hsys) (by decide) M.f_NoStand___init__.b rfl M.gX_NoStand (va_cons (vv 0) va_nil).pa) (by decide) (by simp)) (va_cons (ve_mkx x M.X_NoMust.ns M.X_NoMust.cc.hg (pmk_ec x (M.X_NoMust.ec M.ini_NoMust M.ovr_NoMust) PySem.F.excBase_Exception (fun f hf => by rcases List.mem_cons.mp hf with rfl | hf; exact M.no_NoMust_name; cases hf) M.iC_NoMust M.tI_NoMust (ok_NoMust___init__ M hsys) (by decide) M.f_NoMust___init__.b rfl M.gX_NoMust (va_cons (vv 0) va_nil).pa) (by decide) (by simp)) (va_cons (ve_mkx x M.X_TooMany.ns M.X_TooMany.cc.hg (pmk_ec x (M.X_TooMany.ec M.ini_TooMany M.ovr_TooMany) PySem.F.excBase_Exception (fun f hf => by rcases List.mem_cons.mp hf with rfl | hf; exact M.no_TooMany_many; cases hf) M.iC_TooMany M.tI_TooMany (ok_TooMany___init__ M hsys) (by decide) M.f_TooMany___init__.b rfl M.gX_TooMany (va_cons (vv 0) va_nil).pa) (by decide) (by simp)) (va_cons (ve_mkx x M.X_NoText.ns M.X_NoText.cc.hg (pmk_ec x (M.X_NoText.ec M.ini_NoText M.ovr_NoText) PySem.F.excBase_Exception (fun f hf => by rcases List.mem_cons.mp hf with rfl | hf; exact M.no_NoText_row; cases hf) M.iC_NoText M.tI_NoText (ok_NoText___init__ M hsys) (by decide) M.f_NoText___init__.b rfl M.gX_NoText (va_cons (vv 0) va_nil).pa) (by decide) (by simp)) (va_cons (ve_mkx0 x M.X_Unlike.ns M.X_Unlike.cc.hg (pmk_own PySem.F.excBase_Exception M.q_Unlike M.gX_Unlike M.X_Unlike.kep (raises_own M.X_Unlike.cc.hs M.X_Unlike.typ) rfl (by decide))) va_nil)))))))))
    (vb_cons (vs_set 2 x (ve_add (m := .sh) x (vv 2) (ve_lst (m := .sh) (va_cons (ve_mkx0 x M.X_NoStays.ns M.X_NoStays.cc.hg (pmk_own PySem.F.excBase_Exception M.q_NoStays M.gX_NoStays M.X_NoStays.kep (raises_own M.X_NoStays.cc.hs M.X_NoStays.typ) rfl (by decide))) (va_cons (ve_mkx0 x M.X_NoWord.ns M.X_NoWord.cc.hg (pmk_own PySem.F.excBase_Exception M.q_NoWord M.gX_NoWord M.X_NoWord.kep (raises_own M.X_NoWord.cc.hs M.X_NoWord.typ) rfl (by decide))) (va_cons (ve_mkx0 x M.X_NoTable.ns M.X_NoTable.cc.hg (pmk_own PySem.F.excBase_Exception M.q_NoTable M.gX_NoTable M.X_NoTable.kep (raises_own M.X_NoTable.cc.hs M.X_NoTable.typ) rfl (by decide))) (va_cons (ve_mkx0 x M.X_NoNames.ns M.X_NoNames.cc.hg (pmk_own PySem.F.excBase_Exception M.q_NoNames M.gX_NoNames M.X_NoNames.kep (raises_own M.X_NoNames.cc.hs M.X_NoNames.typ) rfl (by decide))) (va_cons (ve_mkx0 x M.X_NoRow.ns M.X_NoRow.cc.hg (pmk_own PySem.F.excBase_Exception M.q_NoRow M.gX_NoRow M.X_NoRow.kep (raises_own M.X_NoRow.cc.hs M.X_NoRow.typ) rfl (by decide))) va_nil))))))))
    (vb_one (vs_ret (ve_add (m := .sh) x (vv 2) (ve_lst (m := .sh) (va_cons (ve_mkx x M.X_NoDeed.ns M.X_NoDeed.cc.hg (pmk_ec x (M.X_NoDeed.ec M.ini_NoDeed M.ovr_NoDeed) PySem.F.excBase_LookupError (fun f hf => by rcases List.mem_cons.mp hf with rfl | hf; exact M.no_NoDeed_name; cases hf) M.iC_NoDeed M.tI_NoDeed (ok_NoDeed___init__ M hsys) (by decide) M.f_NoDeed___init__.b rfl M.gX_NoDeed (va_cons (vv 0) va_nil).pa) (by decide) (by simp)) (va_cons (ve_mkx x M.X_NoNumber.ns M.X_NoNumber.cc.hg (pmk_ec x (M.X_NoNumber.ec M.ini_NoNumber M.ovr_NoNumber) PySem.F.excBase_IndexError (fun f hf => by rcases List.mem_cons.mp hf with rfl | hf; exact M.no_NoNumber_number; cases hf) M.iC_NoNumber M.tI_NoNumber (ok_NoNumber___init__ M hsys) (by decide) M.f_NoNumber___init__.b rfl M.gX_NoNumber (va_cons (vv 0) va_nil).pa) (by decide) (by simp)) (va_cons (ve_mkx x M.X_NoName.ns M.X_NoName.cc.hg (pmk_ecX x (M.X_NoName.ec M.ini_NoName M.ovr_NoName) PySem.F.excBase_LookupError (fun f hf => by rcases List.mem_cons.mp hf with rfl | hf; exact M.no_NoName_name; cases hf) M.iC_NoName M.tI_NoName (ok_NoName___init__ M hsys) (by decide) M.f_NoName___init__.b rfl M.gX_NoName (va_cons (vv 0) va_nil).pa) (by decide) (by simp)) (va_cons (ve_mkx0 x M.X_Bare.ns M.X_Bare.cc.hg (pmk_own PySem.F.excBase_RuntimeError M.q_Bare M.gX_Bare M.X_Bare.kep (raises_own M.X_Bare.cc.hs M.X_Bare.typ) rfl (by decide))) va_nil))))))))))
theorem ok_law_by_names (M : Ms K mg ad fd cd) (hsys : Sysm base) : FnG P w K mg base 3 (ad 24) (fd 24) ["_law_one", "_law_two"] (spV K mg 2 .sh f_law_by_names) :=
  fn_v M.f_law_by_names.F sc_law_by_names hsys fun cdv A outer s H E G eg x =>
    (vb_cons (vs_set 2 x (ve_lst (m := .sh) (va_cons (ve_mkx x M.X_NoMachine.ns M.X_NoMachine.cc.hg (pmk_rev (pmk_ecK (ks := ["number", "part"]) x (M.X_NoMachine.ec M.ini_NoMachine M.ovr_NoMachine) PySem.F.excBase_Exception (fun f hf => by rcases List.mem_cons.mp hf with rfl | hf; exact M.no_NoMachine_part; rcases List.mem_cons.mp hf with rfl | hf; exact M.no_NoMachine_number; cases hf) M.iC_NoMachine M.tI_NoMachine (ok_NoMachine___init__ M hsys) (by decide) M.kx_NoMachine rfl M.gX_NoMachine (vk_cons (vv 1) (vk_cons (vv 0) vk_nil)).pk rfl)) (by decide) (by simp)) (va_cons (ve_mkx x M.X_NoRun.ns M.X_NoRun.cc.hg (pmk_rev (pmk_ecK (ks := ["number", "part"]) x (M.X_NoRun.ec M.ini_NoRun M.ovr_NoRun) PySem.F.excBase_Exception (fun f hf => by rcases List.mem_cons.mp hf with rfl | hf; exact M.no_NoRun_part; rcases List.mem_cons.mp hf with rfl | hf; exact M.no_NoRun_number; cases hf) M.iC_NoRun M.tI_NoRun (ok_NoRun___init__ M hsys) (by decide) M.kx_NoRun rfl M.gX_NoRun (vk_cons (vv 1) (vk_cons (vv 0) vk_nil)).pk rfl)) (by decide) (by simp)) (va_cons (ve_mkx x M.X_NoStand.ns M.X_NoStand.cc.hg (pmk_rev (pmk_ecK (ks := ["stand"]) x (M.X_NoStand.ec M.ini_NoStand M.ovr_NoStand) PySem.F.excBase_Exception (fun f hf => by rcases List.mem_cons.mp hf with rfl | hf; exact M.no_NoStand_stand; cases hf) M.iC_NoStand M.tI_NoStand (ok_NoStand___init__ M hsys) (by decide) M.kx_NoStand rfl M.gX_NoStand (vk_cons (vv 0) vk_nil).pk rfl)) (by decide) (by simp)) (va_cons (ve_mkx x M.X_NoMust.ns M.X_NoMust.cc.hg (pmk_rev (pmk_ecK (ks := ["name"]) x (M.X_NoMust.ec M.ini_NoMust M.ovr_NoMust) PySem.F.excBase_Exception (fun f hf => by rcases List.mem_cons.mp hf with rfl | hf; exact M.no_NoMust_name; cases hf) M.iC_NoMust M.tI_NoMust (ok_NoMust___init__ M hsys) (by decide) M.kx_NoMust rfl M.gX_NoMust (vk_cons (vv 0) vk_nil).pk rfl)) (by decide) (by simp)) va_nil))))))
    (vb_cons (vs_set 2 x (ve_add (m := .sh) x (vv 2) (ve_lst (m := .sh) (va_cons (ve_mkx x M.X_TooMany.ns M.X_TooMany.cc.hg (pmk_rev (pmk_ecK (ks := ["many"]) x (M.X_TooMany.ec M.ini_TooMany M.ovr_TooMany) PySem.F.excBase_Exception (fun f hf => by rcases List.mem_cons.mp hf with rfl | hf; exact M.no_TooMany_many; cases hf) M.iC_TooMany M.tI_TooMany (ok_TooMany___init__ M hsys) (by decide) M.kx_TooMany rfl M.gX_TooMany (vk_cons (vv 0) vk_nil).pk rfl)) (by decide) (by simp)) (va_cons (ve_mkx x M.X_NoText.ns M.X_NoText.cc.hg (pmk_rev (pmk_ecK (ks := ["row"]) x (M.X_NoText.ec M.ini_NoText M.ovr_NoText) PySem.F.excBase_Exception (fun f hf => by rcases List.mem_cons.mp hf with rfl | hf; exact M.no_NoText_row; cases hf) M.iC_NoText M.tI_NoText (ok_NoText___init__ M hsys) (by decide) M.kx_NoText rfl M.gX_NoText (vk_cons (vv 0) vk_nil).pk rfl)) (by decide) (by simp)) (va_cons (ve_mkx x M.X_NoDeed.ns M.X_NoDeed.cc.hg (pmk_rev (pmk_ecK (ks := ["name"]) x (M.X_NoDeed.ec M.ini_NoDeed M.ovr_NoDeed) PySem.F.excBase_LookupError (fun f hf => by rcases List.mem_cons.mp hf with rfl | hf; exact M.no_NoDeed_name; cases hf) M.iC_NoDeed M.tI_NoDeed (ok_NoDeed___init__ M hsys) (by decide) M.kx_NoDeed rfl M.gX_NoDeed (vk_cons (vv 0) vk_nil).pk rfl)) (by decide) (by simp)) (va_cons (ve_mkx x M.X_NoNumber.ns M.X_NoNumber.cc.hg (pmk_rev (pmk_ecK (ks := ["number"]) x (M.X_NoNumber.ec M.ini_NoNumber M.ovr_NoNumber) PySem.F.excBase_IndexError (fun f hf => by rcases List.mem_cons.mp hf with rfl | hf; exact M.no_NoNumber_number; cases hf) M.iC_NoNumber M.tI_NoNumber (ok_NoNumber___init__ M hsys) (by decide) M.kx_NoNumber rfl M.gX_NoNumber (vk_cons (vv 0) vk_nil).pk rfl)) (by decide) (by simp)) (va_cons (ve_mkx x M.X_NoName.ns M.X_NoName.cc.hg (pmk_rev (pmk_ecK (ks := ["name"]) x (M.X_NoName.ec M.ini_NoName M.ovr_NoName) PySem.F.excBase_LookupError (fun f hf => by rcases List.mem_cons.mp hf with rfl | hf; exact M.no_NoName_name; cases hf) M.iC_NoName M.tI_NoName (ok_NoName___init__ M hsys) (by decide) M.kx_NoName rfl M.gX_NoName (vk_cons (vv 0) vk_nil).pk rfl)) (by decide) (by simp)) va_nil))))))))
    (vb_cons (vs_set 3 x (ve_lst (m := .sh) (va_cons (ve_xat (cs := ["NoMachine", "NoRun"]) x.lo (csC (M.X_NoMachine.xa M.no_NoMachine_part) (csC (M.X_NoRun.xa M.no_NoRun_part) csN)) (ve_ix x (vv 2) (vi (m := .sh)))) (va_cons (ve_xat (cs := ["NoMachine", "NoRun", "NoNumber"]) x.lo (csC (M.X_NoMachine.xa M.no_NoMachine_number) (csC (M.X_NoRun.xa M.no_NoRun_number) (csC (M.X_NoNumber.xa M.no_NoNumber_number) csN))) (ve_ix x (vv 2) (vi (m := .sh)))) (va_cons (ve_xat (cs := ["NoMachine", "NoRun"]) x.lo (csC (M.X_NoMachine.xa M.no_NoMachine_part) (csC (M.X_NoRun.xa M.no_NoRun_part) csN)) (ve_ix x (vv 2) (vi (m := .sh)))) (va_cons (ve_xat (cs := ["NoMachine", "NoRun", "NoNumber"]) x.lo (csC (M.X_NoMachine.xa M.no_NoMachine_number) (csC (M.X_NoRun.xa M.no_NoRun_number) (csC (M.X_NoNumber.xa M.no_NoNumber_number) csN))) (ve_ix x (vv 2) (vi (m := .sh)))) (va_cons (ve_xat (cs := ["NoStand"]) x.lo (csC (M.X_NoStand.xa M.no_NoStand_stand) csN) (ve_ix x (vv 2) (vi (m := .sh)))) (va_cons (ve_xat (cs := ["NoMust", "NoDeed", "NoName"]) x.lo (csC (M.X_NoMust.xa M.no_NoMust_name) (csC (M.X_NoDeed.xa M.no_NoDeed_name) (csC (M.X_NoName.xa M.no_NoName_name) csN))) (ve_ix x (vv 2) (vi (m := .sh)))) va_nil))))))))
    (vb_cons (vs_set 3 x (ve_add (m := .sh) x (vv 3) (ve_lst (m := .sh) (va_cons (ve_xat (cs := ["TooMany"]) x.lo (csC (M.X_TooMany.xa M.no_TooMany_many) csN) (ve_ix x (vv 2) (vi (m := .sh)))) (va_cons (ve_xat (cs := ["NoText"]) x.lo (csC (M.X_NoText.xa M.no_NoText_row) csN) (ve_ix x (vv 2) (vi (m := .sh)))) (va_cons (ve_xat (cs := ["NoMust", "NoDeed", "NoName"]) x.lo (csC (M.X_NoMust.xa M.no_NoMust_name) (csC (M.X_NoDeed.xa M.no_NoDeed_name) (csC (M.X_NoName.xa M.no_NoName_name) csN))) (ve_ix x (vv 2) (vi (m := .sh)))) (va_cons (ve_xat (cs := ["NoMachine", "NoRun", "NoNumber"]) x.lo (csC (M.X_NoMachine.xa M.no_NoMachine_number) (csC (M.X_NoRun.xa M.no_NoRun_number) (csC (M.X_NoNumber.xa M.no_NoNumber_number) csN))) (ve_ix x (vv 2) (vi (m := .sh)))) (va_cons (ve_xat (cs := ["NoMust", "NoDeed", "NoName"]) x.lo (csC (M.X_NoMust.xa M.no_NoMust_name) (csC (M.X_NoDeed.xa M.no_NoDeed_name) (csC (M.X_NoName.xa M.no_NoName_name) csN))) (ve_ix x (vv 2) (vi (m := .sh)))) va_nil))))))))
    (vb_one (vs_ret (ve_eq (m := .sh) x (ve_repr (m := .sh) x M.n_repr (vv 3)) (ve_repr (m := .sh) x M.n_repr (ve_add (m := .sh) x (ve_lst (m := .sh) (va_cons (vv 0) (va_cons (vv 1) (va_cons (vv 0) (va_cons (vv 1) va_nil))))) (ve_rep (m := .sh) (ve_lst (m := .fr) (va_cons (vv 0) va_nil)) (vi (m := .sh))))))))))))
theorem ok_law (M : Ms K mg ad fd cd) (hsys : Sysm base) : FnG P w K mg base 4 (ad 25) (fd 25) ["_law_script"] (spV K mg 1 .sh f_law) :=
  fn_v M.f_law.F sc_law hsys fun cdv A outer s H E G eg x =>
    (vb_cons (vs_for x (passes_of rfl) (vi_enum x M.n_enumerate (ve_add (m := .sh) x (ve_sl (m := .sh) x (vv 0) vo_none (vo_some (vi (m := .sh)))) (ve_rep (m := .sh) (ve_lst (m := .fr) (va_cons (vi (m := .sh)) va_nil)) (ve_int (m := .sh) M.n_int (ve_eq (m := .sh) x (vv 0) (ve_lst (m := .sh) va_nil)))))) (vp_tup x (vps_cons (vp_name 1 x) (vps_cons (vp_name 2 x) vps_nil))) (vb_cons (vs_set 3 x (ve_call x (ok_law_numbers M hsys) (by decide) M.f_law_numbers.g M.f_law_numbers.F.kp M.f_law_numbers.b (va_cons (vv 2) (va_cons (ve_add (m := .sh) x (vi (m := .sh)) (vv 1)) (va_cons (ve_lst (m := .sh) (va_cons (vi (m := .sh)) (va_cons (vi (m := .sh)) va_nil))) va_nil))) (len_cons (len_cons (len_cons (fun _ _ h => len_nil h))))))
    (vb_cons (vs_par 4 5 x (va_cons (ve_call x (ok_law_odd M hsys) (by decide) M.f_law_odd.g M.f_law_odd.F.kp M.f_law_odd.b (va_cons (ve_ix x (vv 3) (vi (m := .sh))) va_nil) (len_cons (fun _ _ h => len_nil h))) (va_cons (ve_call x (ok_law_odd M hsys) (by decide) M.f_law_odd.g M.f_law_odd.F.kp M.f_law_odd.b (va_cons (ve_ix x (vv 3) (vi (m := .sh))) va_nil) (len_cons (fun _ _ h => len_nil h))) va_nil)))
    (vb_cons (vs_set 6 x (ve_call x (ok_law_all M hsys) (by decide) M.f_law_all.g M.f_law_all.F.kp M.f_law_all.b (va_cons (vv 4) (va_cons (vv 5) va_nil)) (len_cons (len_cons (fun _ _ h => len_nil h)))))
    (vb_cons (vs_for x (passes_of rfl) (vi_enum x M.n_enumerate (vv 6)) (vp_tup x (vps_cons (vp_name 7 x) (vps_cons (vp_name 8 x) vps_nil))) (vb_cons (vs_if (vt_ne x (ve_call x (ok_law_kinds M hsys) (by decide) M.f_law_kinds.g M.f_law_kinds.F.kp M.f_law_kinds.b (va_cons (vv 8) va_nil) (len_cons (fun _ _ h => len_nil h))) (ve_lc (own := [("_law_at", 9)]) x (vi_range1 M.n_range (vi (m := .sh))) (blkOk_by (by rfl)) (by decide) (fun _ _ _ _ _ x1 => (vp_name 9 x1)) (fun _ _ _ _ _ x1 => vts_nil) (fun _ _ _ _ _ x1 => (ve_eq (m := .sh) x1 (vv 9) (vv 7))))) (vb_one (vs_ret (vbl (m := .sh)))) vb_nil)
    (vb_cons (vs_set 10 x (ve_lst (m := .sh) (va_cons (ve_lt (m := .sh) (vv 7) (vi (m := .sh))) (va_cons (ve_in (m := .sh) x (vv 7) (ve_tup (m := .sh) (va_cons (vi (m := .sh)) (va_cons (vi (m := .sh)) (va_cons (vi (m := .sh)) va_nil))))) (va_cons (ve_eq (m := .sh) x (vv 7) (vi (m := .sh))) (va_cons (ve_eq (m := .sh) x (vv 7) (vi (m := .sh))) (va_cons (ve_eq (m := .sh) x (vv 7) (vi (m := .sh))) (va_cons (vbl (m := .sh)) va_nil))))))))
    (vb_one (vs_if (vt_ne x (ve_call x (ok_law_over M hsys) (by decide) M.f_law_over.g M.f_law_over.F.kp M.f_law_over.b (va_cons (vv 8) va_nil) (len_cons (fun _ _ h => len_nil h))) (vv 10)) (vb_one (vs_ret (vbl (m := .sh)))) vb_nil)))))
    (vb_cons (vs_set 11 x (ve_lst (m := .sh) (va_cons (ve_xat (cs := ["NoMachine", "NoRun"]) x.lo (csC (M.X_NoMachine.xa M.no_NoMachine_part) (csC (M.X_NoRun.xa M.no_NoRun_part) csN)) (ve_ix x (vv 6) (vi (m := .sh)))) (va_cons (ve_xat (cs := ["NoMachine", "NoRun", "NoNumber"]) x.lo (csC (M.X_NoMachine.xa M.no_NoMachine_number) (csC (M.X_NoRun.xa M.no_NoRun_number) (csC (M.X_NoNumber.xa M.no_NoNumber_number) csN))) (ve_ix x (vv 6) (vi (m := .sh)))) (va_cons (ve_xat (cs := ["NoMachine", "NoRun"]) x.lo (csC (M.X_NoMachine.xa M.no_NoMachine_part) (csC (M.X_NoRun.xa M.no_NoRun_part) csN)) (ve_ix x (vv 6) (vi (m := .sh)))) (va_cons (ve_xat (cs := ["NoMachine", "NoRun", "NoNumber"]) x.lo (csC (M.X_NoMachine.xa M.no_NoMachine_number) (csC (M.X_NoRun.xa M.no_NoRun_number) (csC (M.X_NoNumber.xa M.no_NoNumber_number) csN))) (ve_ix x (vv 6) (vi (m := .sh)))) (va_cons (ve_xat (cs := ["NoStand"]) x.lo (csC (M.X_NoStand.xa M.no_NoStand_stand) csN) (ve_ix x (vv 6) (vi (m := .sh)))) (va_cons (ve_xat (cs := ["NoMust", "NoDeed", "NoName"]) x.lo (csC (M.X_NoMust.xa M.no_NoMust_name) (csC (M.X_NoDeed.xa M.no_NoDeed_name) (csC (M.X_NoName.xa M.no_NoName_name) csN))) (ve_ix x (vv 6) (vi (m := .sh)))) (va_cons (ve_xat (cs := ["TooMany"]) x.lo (csC (M.X_TooMany.xa M.no_TooMany_many) csN) (ve_ix x (vv 6) (vi (m := .sh)))) va_nil)))))))))
    (vb_cons (vs_set 11 x (ve_add (m := .sh) x (vv 11) (ve_lst (m := .sh) (va_cons (ve_xat (cs := ["NoText"]) x.lo (csC (M.X_NoText.xa M.no_NoText_row) csN) (ve_ix x (vv 6) (vi (m := .sh)))) (va_cons (ve_xat (cs := ["NoMust", "NoDeed", "NoName"]) x.lo (csC (M.X_NoMust.xa M.no_NoMust_name) (csC (M.X_NoDeed.xa M.no_NoDeed_name) (csC (M.X_NoName.xa M.no_NoName_name) csN))) (ve_ix x (vv 6) (vi (m := .sh)))) (va_cons (ve_xat (cs := ["NoMachine", "NoRun", "NoNumber"]) x.lo (csC (M.X_NoMachine.xa M.no_NoMachine_number) (csC (M.X_NoRun.xa M.no_NoRun_number) (csC (M.X_NoNumber.xa M.no_NoNumber_number) csN))) (ve_ix x (vv 6) (vi (m := .sh)))) (va_cons (ve_xat (cs := ["NoMust", "NoDeed", "NoName"]) x.lo (csC (M.X_NoMust.xa M.no_NoMust_name) (csC (M.X_NoDeed.xa M.no_NoDeed_name) (csC (M.X_NoName.xa M.no_NoName_name) csN))) (ve_ix x (vv 6) (vi (m := .sh)))) va_nil)))))))
    (vb_one (vs_if (VW.vt (vw_or (vt_ne x (ve_repr (m := .sh) x M.n_repr (vv 11)) (ve_repr (m := .sh) x M.n_repr (ve_add (m := .sh) x (ve_lst (m := .sh) (va_cons (vv 4) (va_cons (vv 5) (va_cons (vv 4) (va_cons (vv 5) va_nil))))) (ve_rep (m := .sh) (ve_lst (m := .fr) (va_cons (vv 4) va_nil)) (vi (m := .sh)))))) (vw_or1 (vt_not (vt_val (ve_call x (ok_law_by_names M hsys) (by decide) M.f_law_by_names.g M.f_law_by_names.F.kp M.f_law_by_names.b (va_cons (vv 4) (va_cons (vv 5) va_nil)) (len_cons (len_cons (fun _ _ h => len_nil h))))))))) (vb_one (vs_ret (vbl (m := .sh)))) vb_nil)))))))))
    (vb_one (vs_ret (vbl (m := .sh)))))
end
section
variable {l : PySem.W.OpenLaw} {w : World} {K : PySem.W.Frag} {h : Heap} {mg : Str → Option Value} {fa : Addr}
set_option maxHeartbeats 0 in
theorem all_mk (X : K.In h) (G : h.Ns mainGlobals mg) (hfa : mg "law" = some (.ref fa))
    {f0 : Addr} {oc0 dc0 pm0 cd0 ct0 : Value} {od0 an0 : Option Addr} {sl0 : Array (Option Value)} {kV0 : Value}
    {f1 : Addr} {oc1 dc1 pm1 cd1 ct1 : Value} {od1 an1 : Option Addr} {sl1 : Array (Option Value)} {kV1 : Value}
    {f2 : Addr} {oc2 dc2 pm2 cd2 ct2 : Value} {od2 an2 : Option Addr} {sl2 : Array (Option Value)} {kV2 : Value}
    {f3 : Addr} {oc3 dc3 pm3 cd3 ct3 : Value} {od3 an3 : Option Addr} {sl3 : Array (Option Value)} {kV3 : Value}
    {f4 : Addr} {oc4 dc4 pm4 cd4 ct4 : Value} {od4 an4 : Option Addr} {sl4 : Array (Option Value)} {kV4 : Value}
    {f5 : Addr} {oc5 dc5 pm5 cd5 ct5 : Value} {od5 an5 : Option Addr} {sl5 : Array (Option Value)} {kV5 : Value}
    {f6 : Addr} {oc6 dc6 pm6 cd6 ct6 : Value} {od6 an6 : Option Addr} {sl6 : Array (Option Value)} {kV6 : Value}
    {f7 : Addr} {oc7 dc7 pm7 cd7 ct7 : Value} {od7 an7 : Option Addr} {sl7 : Array (Option Value)} {kV7 : Value}
    {f8 : Addr} {oc8 dc8 pm8 cd8 ct8 : Value} {od8 an8 : Option Addr} {sl8 : Array (Option Value)} {kV8 : Value}
    {f9 : Addr} {oc9 dc9 pm9 cd9 ct9 : Value} {od9 an9 : Option Addr} {sl9 : Array (Option Value)} {kV9 : Value}
    {f10 : Addr} {oc10 dc10 pm10 cd10 ct10 : Value} {od10 an10 : Option Addr} {sl10 : Array (Option Value)} {kV10 : Value}
    {f11 : Addr} {oc11 dc11 pm11 cd11 ct11 : Value} {od11 an11 : Option Addr} {sl11 : Array (Option Value)} {kV11 : Value}
    {f12 : Addr} {oc12 dc12 pm12 cd12 ct12 : Value} {od12 an12 : Option Addr} {sl12 : Array (Option Value)} {kV12 : Value}
    {f13 : Addr} {oc13 dc13 pm13 cd13 ct13 : Value} {od13 an13 : Option Addr} {sl13 : Array (Option Value)} {kV13 : Value}
    {f14 : Addr} {oc14 dc14 pm14 cd14 ct14 : Value} {od14 an14 : Option Addr} {sl14 : Array (Option Value)} {kV14 : Value}
    {f15 : Addr} {oc15 dc15 pm15 cd15 ct15 : Value} {od15 an15 : Option Addr} {sl15 : Array (Option Value)} {kV15 : Value}
    {C1 : Addr}
    {C2 : Addr}
    {C3 : Addr}
    {C4 : Addr}
    {C5 : Addr}
    {C6 : Addr}
    {C7 : Addr}
    {C8 : Addr}
    {C9 : Addr}
    {C10 : Addr}
    {C11 : Addr}
    {C12 : Addr}
    {C13 : Addr}
    {C14 : Addr}
    {C15 : Addr}
    {C16 : Addr}
    {C17 : Addr}
    (i0 : PySem.W.isFn K (.ref f0) = true)
    (a0 : PySem.W.findIn K (.ref C2) "__init__" = some (some (.ref f0))) (l0 : K.lookup f0 = some ⟨oc0, od0, .func (PySem.W.fnOf "__init__" "NoMachine.__init__" (defArgs s_NoMachine___init__) (defBody s_NoMachine___init__) (defScope s_NoMachine___init__) .none kV0 dc0 pm0 an0 cd0 ct0), sl0⟩) (c0 : PySem.W.codeIn K cd0 "NoMachine.__init__" = true) (k0 : PySem.W.keepIn K (.ref f0) = true)
    (i1 : PySem.W.isFn K (.ref f1) = true)
    (a1 : PySem.W.findIn K (.ref C3) "__init__" = some (some (.ref f1))) (l1 : K.lookup f1 = some ⟨oc1, od1, .func (PySem.W.fnOf "__init__" "NoRun.__init__" (defArgs s_NoRun___init__) (defBody s_NoRun___init__) (defScope s_NoRun___init__) .none kV1 dc1 pm1 an1 cd1 ct1), sl1⟩) (c1 : PySem.W.codeIn K cd1 "NoRun.__init__" = true) (k1 : PySem.W.keepIn K (.ref f1) = true)
    (i2 : PySem.W.isFn K (.ref f2) = true)
    (a2 : PySem.W.findIn K (.ref C4) "__init__" = some (some (.ref f2))) (l2 : K.lookup f2 = some ⟨oc2, od2, .func (PySem.W.fnOf "__init__" "NoStand.__init__" (defArgs s_NoStand___init__) (defBody s_NoStand___init__) (defScope s_NoStand___init__) .none kV2 dc2 pm2 an2 cd2 ct2), sl2⟩) (c2 : PySem.W.codeIn K cd2 "NoStand.__init__" = true) (k2 : PySem.W.keepIn K (.ref f2) = true)
    (i3 : PySem.W.isFn K (.ref f3) = true)
    (a3 : PySem.W.findIn K (.ref C5) "__init__" = some (some (.ref f3))) (l3 : K.lookup f3 = some ⟨oc3, od3, .func (PySem.W.fnOf "__init__" "NoMust.__init__" (defArgs s_NoMust___init__) (defBody s_NoMust___init__) (defScope s_NoMust___init__) .none kV3 dc3 pm3 an3 cd3 ct3), sl3⟩) (c3 : PySem.W.codeIn K cd3 "NoMust.__init__" = true) (k3 : PySem.W.keepIn K (.ref f3) = true)
    (i4 : PySem.W.isFn K (.ref f4) = true)
    (a4 : PySem.W.findIn K (.ref C6) "__init__" = some (some (.ref f4))) (l4 : K.lookup f4 = some ⟨oc4, od4, .func (PySem.W.fnOf "__init__" "TooMany.__init__" (defArgs s_TooMany___init__) (defBody s_TooMany___init__) (defScope s_TooMany___init__) .none kV4 dc4 pm4 an4 cd4 ct4), sl4⟩) (c4 : PySem.W.codeIn K cd4 "TooMany.__init__" = true) (k4 : PySem.W.keepIn K (.ref f4) = true)
    (i5 : PySem.W.isFn K (.ref f5) = true)
    (a5 : PySem.W.findIn K (.ref C7) "__init__" = some (some (.ref f5))) (l5 : K.lookup f5 = some ⟨oc5, od5, .func (PySem.W.fnOf "__init__" "NoText.__init__" (defArgs s_NoText___init__) (defBody s_NoText___init__) (defScope s_NoText___init__) .none kV5 dc5 pm5 an5 cd5 ct5), sl5⟩) (c5 : PySem.W.codeIn K cd5 "NoText.__init__" = true) (k5 : PySem.W.keepIn K (.ref f5) = true)
    (i6 : PySem.W.isFn K (.ref f6) = true)
    (a6 : PySem.W.findIn K (.ref C14) "__init__" = some (some (.ref f6))) (l6 : K.lookup f6 = some ⟨oc6, od6, .func (PySem.W.fnOf "__init__" "NoDeed.__init__" (defArgs s_NoDeed___init__) (defBody s_NoDeed___init__) (defScope s_NoDeed___init__) .none kV6 dc6 pm6 an6 cd6 ct6), sl6⟩) (c6 : PySem.W.codeIn K cd6 "NoDeed.__init__" = true) (k6 : PySem.W.keepIn K (.ref f6) = true)
    (i7 : PySem.W.isFn K (.ref f7) = true)
    (a7 : PySem.W.findIn K (.ref C15) "__init__" = some (some (.ref f7))) (l7 : K.lookup f7 = some ⟨oc7, od7, .func (PySem.W.fnOf "__init__" "NoNumber.__init__" (defArgs s_NoNumber___init__) (defBody s_NoNumber___init__) (defScope s_NoNumber___init__) .none kV7 dc7 pm7 an7 cd7 ct7), sl7⟩) (c7 : PySem.W.codeIn K cd7 "NoNumber.__init__" = true) (k7 : PySem.W.keepIn K (.ref f7) = true)
    (i8 : PySem.W.isFn K (.ref f8) = true)
    (a8 : PySem.W.findIn K (.ref C16) "__init__" = some (some (.ref f8))) (l8 : K.lookup f8 = some ⟨oc8, od8, .func (PySem.W.fnOf "__init__" "NoName.__init__" (defArgs s_NoName___init__) (defBody s_NoName___init__) (defScope s_NoName___init__) .none kV8 dc8 pm8 an8 cd8 ct8), sl8⟩) (c8 : PySem.W.codeIn K cd8 "NoName.__init__" = true) (k8 : PySem.W.keepIn K (.ref f8) = true)
    (a9 : PySem.W.nsIn K mainGlobals "_law_numbers" = some (some (.ref f9))) (l9 : K.lookup f9 = some ⟨oc9, od9, .func (PySem.W.fnOf "_law_numbers" "_law_numbers" (defArgs s_law_numbers) (defBody s_law_numbers) (defScope s_law_numbers) .none kV9 dc9 pm9 an9 cd9 ct9), sl9⟩) (c9 : PySem.W.codeIn K cd9 "_law_numbers" = true) (k9 : PySem.W.keepIn K (.ref f9) = true)
    (a10 : PySem.W.nsIn K mainGlobals "_law_odd" = some (some (.ref f10))) (l10 : K.lookup f10 = some ⟨oc10, od10, .func (PySem.W.fnOf "_law_odd" "_law_odd" (defArgs s_law_odd) (defBody s_law_odd) (defScope s_law_odd) .none kV10 dc10 pm10 an10 cd10 ct10), sl10⟩) (c10 : PySem.W.codeIn K cd10 "_law_odd" = true) (k10 : PySem.W.keepIn K (.ref f10) = true)
    (a11 : PySem.W.nsIn K mainGlobals "_law_kinds" = some (some (.ref f11))) (l11 : K.lookup f11 = some ⟨oc11, od11, .func (PySem.W.fnOf "_law_kinds" "_law_kinds" (defArgs s_law_kinds) (defBody s_law_kinds) (defScope s_law_kinds) .none kV11 dc11 pm11 an11 cd11 ct11), sl11⟩) (c11 : PySem.W.codeIn K cd11 "_law_kinds" = true) (k11 : PySem.W.keepIn K (.ref f11) = true)
    (a12 : PySem.W.nsIn K mainGlobals "_law_over" = some (some (.ref f12))) (l12 : K.lookup f12 = some ⟨oc12, od12, .func (PySem.W.fnOf "_law_over" "_law_over" (defArgs s_law_over) (defBody s_law_over) (defScope s_law_over) .none kV12 dc12 pm12 an12 cd12 ct12), sl12⟩) (c12 : PySem.W.codeIn K cd12 "_law_over" = true) (k12 : PySem.W.keepIn K (.ref f12) = true)
    (a13 : PySem.W.nsIn K mainGlobals "_law_all" = some (some (.ref f13))) (l13 : K.lookup f13 = some ⟨oc13, od13, .func (PySem.W.fnOf "_law_all" "_law_all" (defArgs s_law_all) (defBody s_law_all) (defScope s_law_all) .none kV13 dc13 pm13 an13 cd13 ct13), sl13⟩) (c13 : PySem.W.codeIn K cd13 "_law_all" = true) (k13 : PySem.W.keepIn K (.ref f13) = true)
    (a14 : PySem.W.nsIn K mainGlobals "_law_by_names" = some (some (.ref f14))) (l14 : K.lookup f14 = some ⟨oc14, od14, .func (PySem.W.fnOf "_law_by_names" "_law_by_names" (defArgs s_law_by_names) (defBody s_law_by_names) (defScope s_law_by_names) .none kV14 dc14 pm14 an14 cd14 ct14), sl14⟩) (c14 : PySem.W.codeIn K cd14 "_law_by_names" = true) (k14 : PySem.W.keepIn K (.ref f14) = true)
    (a15 : PySem.W.nsIn K mainGlobals "law" = some (some (.ref f15))) (l15 : K.lookup f15 = some ⟨oc15, od15, .func (PySem.W.fnOf "law" "law" (defArgs s_law) (defBody s_law) (defScope s_law) .none kV15 dc15 pm15 an15 cd15 ct15), sl15⟩) (c15 : PySem.W.codeIn K cd15 "law" = true) (k15 : PySem.W.keepIn K (.ref f15) = true)
    (aC1 : PySem.W.nsIn K mainGlobals "ShowError" = some (some (.ref C1)))
    (aC2 : PySem.W.nsIn K mainGlobals "NoMachine" = some (some (.ref C2)))
    (aC3 : PySem.W.nsIn K mainGlobals "NoRun" = some (some (.ref C3)))
    (aC4 : PySem.W.nsIn K mainGlobals "NoStand" = some (some (.ref C4)))
    (aC5 : PySem.W.nsIn K mainGlobals "NoMust" = some (some (.ref C5)))
    (aC6 : PySem.W.nsIn K mainGlobals "TooMany" = some (some (.ref C6)))
    (aC7 : PySem.W.nsIn K mainGlobals "NoText" = some (some (.ref C7)))
    (aC8 : PySem.W.nsIn K mainGlobals "Unlike" = some (some (.ref C8)))
    (aC9 : PySem.W.nsIn K mainGlobals "NoStays" = some (some (.ref C9)))
    (aC10 : PySem.W.nsIn K mainGlobals "NoWord" = some (some (.ref C10)))
    (aC11 : PySem.W.nsIn K mainGlobals "NoTable" = some (some (.ref C11)))
    (aC12 : PySem.W.nsIn K mainGlobals "NoNames" = some (some (.ref C12)))
    (aC13 : PySem.W.nsIn K mainGlobals "NoRow" = some (some (.ref C13)))
    (aC14 : PySem.W.nsIn K mainGlobals "NoDeed" = some (some (.ref C14)))
    (aC15 : PySem.W.nsIn K mainGlobals "NoNumber" = some (some (.ref C15)))
    (aC16 : PySem.W.nsIn K mainGlobals "NoName" = some (some (.ref C16)))
    (aC17 : PySem.W.nsIn K mainGlobals "Bare" = some (some (.ref C17)))
    (yn0 : PySem.W.specialIn K (.builtin "object.__class__") "__get__" = some (some (.builtin "getset_descriptor.__get__")))
    (yt0 : PySem.W.takesIn K (.builtin "object.__class__") = some true)
    (yg2 : PySem.W.findIn K (.ref C2) "__getattribute__" = some (some (.builtin "BaseException.__getattribute__")))
    (yk2 : PySem.W.findIn K (.ref C2) "__getattr__" = some none)
    (ys2 : PySem.W.subIn K (.ref C2) (.type "BaseException") = some true)
    (yd2 : PySem.W.hasDictIn K C2 = true)
    (ya2 : PySem.W.findIn K (.ref C2) "__class__" = some (some (.builtin "object.__class__")))
    (ym2 : PySem.W.mroIn K C2 (.type "object") = some true)
    (yp2 : PySem.W.keepIn K (.ref C2) = true)
    (yt2 : PySem.W.typeIn K (.ref C2) = some (.type "type"))
    (yz2 : PySem.W.findIn K (.ref C2) "__setattr__" = some (some (.builtin "object.__setattr__")))
    (yx2 : PySem.W.excInitIn K C2 [.type "Exception", .type "BaseException", .type "object"] "Exception.__new__" = true)
    (yxo2 : PySem.W.excOver K C2 [.type "Exception", .type "BaseException", .type "object"] = true)
    (yf2 : PySem.W.typeIn K (.ref f0) = some (.type "function"))
    (yo2_part : PySem.W.findIn K (.ref C2) "part" = some none)
    (yo2_number : PySem.W.findIn K (.ref C2) "number" = some none)
    (yg3 : PySem.W.findIn K (.ref C3) "__getattribute__" = some (some (.builtin "BaseException.__getattribute__")))
    (yk3 : PySem.W.findIn K (.ref C3) "__getattr__" = some none)
    (ys3 : PySem.W.subIn K (.ref C3) (.type "BaseException") = some true)
    (yd3 : PySem.W.hasDictIn K C3 = true)
    (ya3 : PySem.W.findIn K (.ref C3) "__class__" = some (some (.builtin "object.__class__")))
    (ym3 : PySem.W.mroIn K C3 (.type "object") = some true)
    (yp3 : PySem.W.keepIn K (.ref C3) = true)
    (yt3 : PySem.W.typeIn K (.ref C3) = some (.type "type"))
    (yz3 : PySem.W.findIn K (.ref C3) "__setattr__" = some (some (.builtin "object.__setattr__")))
    (yx3 : PySem.W.excInitIn K C3 [.type "Exception", .type "BaseException", .type "object"] "Exception.__new__" = true)
    (yxo3 : PySem.W.excOver K C3 [.type "Exception", .type "BaseException", .type "object"] = true)
    (yf3 : PySem.W.typeIn K (.ref f1) = some (.type "function"))
    (yo3_part : PySem.W.findIn K (.ref C3) "part" = some none)
    (yo3_number : PySem.W.findIn K (.ref C3) "number" = some none)
    (yg4 : PySem.W.findIn K (.ref C4) "__getattribute__" = some (some (.builtin "BaseException.__getattribute__")))
    (yk4 : PySem.W.findIn K (.ref C4) "__getattr__" = some none)
    (ys4 : PySem.W.subIn K (.ref C4) (.type "BaseException") = some true)
    (yd4 : PySem.W.hasDictIn K C4 = true)
    (ya4 : PySem.W.findIn K (.ref C4) "__class__" = some (some (.builtin "object.__class__")))
    (ym4 : PySem.W.mroIn K C4 (.type "object") = some true)
    (yp4 : PySem.W.keepIn K (.ref C4) = true)
    (yt4 : PySem.W.typeIn K (.ref C4) = some (.type "type"))
    (yz4 : PySem.W.findIn K (.ref C4) "__setattr__" = some (some (.builtin "object.__setattr__")))
    (yx4 : PySem.W.excInitIn K C4 [.type "Exception", .type "BaseException", .type "object"] "Exception.__new__" = true)
    (yxo4 : PySem.W.excOver K C4 [.type "Exception", .type "BaseException", .type "object"] = true)
    (yf4 : PySem.W.typeIn K (.ref f2) = some (.type "function"))
    (yo4_stand : PySem.W.findIn K (.ref C4) "stand" = some none)
    (yg5 : PySem.W.findIn K (.ref C5) "__getattribute__" = some (some (.builtin "BaseException.__getattribute__")))
    (yk5 : PySem.W.findIn K (.ref C5) "__getattr__" = some none)
    (ys5 : PySem.W.subIn K (.ref C5) (.type "BaseException") = some true)
    (yd5 : PySem.W.hasDictIn K C5 = true)
    (ya5 : PySem.W.findIn K (.ref C5) "__class__" = some (some (.builtin "object.__class__")))
    (ym5 : PySem.W.mroIn K C5 (.type "object") = some true)
    (yp5 : PySem.W.keepIn K (.ref C5) = true)
    (yt5 : PySem.W.typeIn K (.ref C5) = some (.type "type"))
    (yz5 : PySem.W.findIn K (.ref C5) "__setattr__" = some (some (.builtin "object.__setattr__")))
    (yx5 : PySem.W.excInitIn K C5 [.type "Exception", .type "BaseException", .type "object"] "Exception.__new__" = true)
    (yxo5 : PySem.W.excOver K C5 [.type "Exception", .type "BaseException", .type "object"] = true)
    (yf5 : PySem.W.typeIn K (.ref f3) = some (.type "function"))
    (yo5_name : PySem.W.findIn K (.ref C5) "name" = some none)
    (yg6 : PySem.W.findIn K (.ref C6) "__getattribute__" = some (some (.builtin "BaseException.__getattribute__")))
    (yk6 : PySem.W.findIn K (.ref C6) "__getattr__" = some none)
    (ys6 : PySem.W.subIn K (.ref C6) (.type "BaseException") = some true)
    (yd6 : PySem.W.hasDictIn K C6 = true)
    (ya6 : PySem.W.findIn K (.ref C6) "__class__" = some (some (.builtin "object.__class__")))
    (ym6 : PySem.W.mroIn K C6 (.type "object") = some true)
    (yp6 : PySem.W.keepIn K (.ref C6) = true)
    (yt6 : PySem.W.typeIn K (.ref C6) = some (.type "type"))
    (yz6 : PySem.W.findIn K (.ref C6) "__setattr__" = some (some (.builtin "object.__setattr__")))
    (yx6 : PySem.W.excInitIn K C6 [.type "Exception", .type "BaseException", .type "object"] "Exception.__new__" = true)
    (yxo6 : PySem.W.excOver K C6 [.type "Exception", .type "BaseException", .type "object"] = true)
    (yf6 : PySem.W.typeIn K (.ref f4) = some (.type "function"))
    (yo6_many : PySem.W.findIn K (.ref C6) "many" = some none)
    (yg7 : PySem.W.findIn K (.ref C7) "__getattribute__" = some (some (.builtin "BaseException.__getattribute__")))
    (yk7 : PySem.W.findIn K (.ref C7) "__getattr__" = some none)
    (ys7 : PySem.W.subIn K (.ref C7) (.type "BaseException") = some true)
    (yd7 : PySem.W.hasDictIn K C7 = true)
    (ya7 : PySem.W.findIn K (.ref C7) "__class__" = some (some (.builtin "object.__class__")))
    (ym7 : PySem.W.mroIn K C7 (.type "object") = some true)
    (yp7 : PySem.W.keepIn K (.ref C7) = true)
    (yt7 : PySem.W.typeIn K (.ref C7) = some (.type "type"))
    (yz7 : PySem.W.findIn K (.ref C7) "__setattr__" = some (some (.builtin "object.__setattr__")))
    (yx7 : PySem.W.excInitIn K C7 [.type "Exception", .type "BaseException", .type "object"] "Exception.__new__" = true)
    (yxo7 : PySem.W.excOver K C7 [.type "Exception", .type "BaseException", .type "object"] = true)
    (yf7 : PySem.W.typeIn K (.ref f5) = some (.type "function"))
    (yo7_row : PySem.W.findIn K (.ref C7) "row" = some none)
    (yg14 : PySem.W.findIn K (.ref C14) "__getattribute__" = some (some (.builtin "BaseException.__getattribute__")))
    (yk14 : PySem.W.findIn K (.ref C14) "__getattr__" = some none)
    (ys14 : PySem.W.subIn K (.ref C14) (.type "BaseException") = some true)
    (yd14 : PySem.W.hasDictIn K C14 = true)
    (ya14 : PySem.W.findIn K (.ref C14) "__class__" = some (some (.builtin "object.__class__")))
    (ym14 : PySem.W.mroIn K C14 (.type "object") = some true)
    (yp14 : PySem.W.keepIn K (.ref C14) = true)
    (yt14 : PySem.W.typeIn K (.ref C14) = some (.type "type"))
    (yz14 : PySem.W.findIn K (.ref C14) "__setattr__" = some (some (.builtin "object.__setattr__")))
    (yx14 : PySem.W.excInitIn K C14 [.type "LookupError", .type "Exception", .type "BaseException", .type "object"] "LookupError.__new__" = true)
    (yxo14 : PySem.W.excOver K C14 [.type "LookupError", .type "Exception", .type "BaseException", .type "object"] = true)
    (yf14 : PySem.W.typeIn K (.ref f6) = some (.type "function"))
    (yo14_name : PySem.W.findIn K (.ref C14) "name" = some none)
    (yg15 : PySem.W.findIn K (.ref C15) "__getattribute__" = some (some (.builtin "BaseException.__getattribute__")))
    (yk15 : PySem.W.findIn K (.ref C15) "__getattr__" = some none)
    (ys15 : PySem.W.subIn K (.ref C15) (.type "BaseException") = some true)
    (yd15 : PySem.W.hasDictIn K C15 = true)
    (ya15 : PySem.W.findIn K (.ref C15) "__class__" = some (some (.builtin "object.__class__")))
    (ym15 : PySem.W.mroIn K C15 (.type "object") = some true)
    (yp15 : PySem.W.keepIn K (.ref C15) = true)
    (yt15 : PySem.W.typeIn K (.ref C15) = some (.type "type"))
    (yz15 : PySem.W.findIn K (.ref C15) "__setattr__" = some (some (.builtin "object.__setattr__")))
    (yx15 : PySem.W.excInitIn K C15 [.type "IndexError", .type "LookupError", .type "Exception", .type "BaseException", .type "object"] "IndexError.__new__" = true)
    (yxo15 : PySem.W.excOver K C15 [.type "IndexError", .type "LookupError", .type "Exception", .type "BaseException", .type "object"] = true)
    (yf15 : PySem.W.typeIn K (.ref f7) = some (.type "function"))
    (yo15_number : PySem.W.findIn K (.ref C15) "number" = some none)
    (yg16 : PySem.W.findIn K (.ref C16) "__getattribute__" = some (some (.builtin "BaseException.__getattribute__")))
    (yk16 : PySem.W.findIn K (.ref C16) "__getattr__" = some none)
    (ys16 : PySem.W.subIn K (.ref C16) (.type "BaseException") = some true)
    (yd16 : PySem.W.hasDictIn K C16 = true)
    (ya16 : PySem.W.findIn K (.ref C16) "__class__" = some (some (.builtin "object.__class__")))
    (ym16 : PySem.W.mroIn K C16 (.type "object") = some true)
    (yp16 : PySem.W.keepIn K (.ref C16) = true)
    (yt16 : PySem.W.typeIn K (.ref C16) = some (.type "type"))
    (yz16 : PySem.W.findIn K (.ref C16) "__setattr__" = some (some (.builtin "object.__setattr__")))
    (yx16 : PySem.W.excInitIn K C16 [.type "KeyError", .type "LookupError", .type "Exception", .type "BaseException", .type "object"] "LookupError.__new__" = true)
    (yxo16 : PySem.W.excOver K C16 [.type "KeyError", .type "LookupError", .type "Exception", .type "BaseException", .type "object"] = true)
    (yf16 : PySem.W.typeIn K (.ref f8) = some (.type "function"))
    (yo16_name : PySem.W.findIn K (.ref C16) "name" = some none)
    (yg8 : PySem.W.findIn K (.ref C8) "__getattribute__" = some (some (.builtin "BaseException.__getattribute__")))
    (yk8 : PySem.W.findIn K (.ref C8) "__getattr__" = some none)
    (ys8 : PySem.W.subIn K (.ref C8) (.type "BaseException") = some true)
    (yd8 : PySem.W.hasDictIn K C8 = true)
    (ya8 : PySem.W.findIn K (.ref C8) "__class__" = some (some (.builtin "object.__class__")))
    (ym8 : PySem.W.mroIn K C8 (.type "object") = some true)
    (yp8 : PySem.W.keepIn K (.ref C8) = true)
    (yt8 : PySem.W.typeIn K (.ref C8) = some (.type "type"))
    (yz8 : PySem.W.findIn K (.ref C8) "__setattr__" = some (some (.builtin "object.__setattr__")))
    (yq8 : PySem.W.excIn K C8 [.type "Exception", .type "BaseException", .type "object"] "Exception.__new__" = true)
    (yg9 : PySem.W.findIn K (.ref C9) "__getattribute__" = some (some (.builtin "BaseException.__getattribute__")))
    (yk9 : PySem.W.findIn K (.ref C9) "__getattr__" = some none)
    (ys9 : PySem.W.subIn K (.ref C9) (.type "BaseException") = some true)
    (yd9 : PySem.W.hasDictIn K C9 = true)
    (ya9 : PySem.W.findIn K (.ref C9) "__class__" = some (some (.builtin "object.__class__")))
    (ym9 : PySem.W.mroIn K C9 (.type "object") = some true)
    (yp9 : PySem.W.keepIn K (.ref C9) = true)
    (yt9 : PySem.W.typeIn K (.ref C9) = some (.type "type"))
    (yz9 : PySem.W.findIn K (.ref C9) "__setattr__" = some (some (.builtin "object.__setattr__")))
    (yq9 : PySem.W.excIn K C9 [.type "Exception", .type "BaseException", .type "object"] "Exception.__new__" = true)
    (yg10 : PySem.W.findIn K (.ref C10) "__getattribute__" = some (some (.builtin "BaseException.__getattribute__")))
    (yk10 : PySem.W.findIn K (.ref C10) "__getattr__" = some none)
    (ys10 : PySem.W.subIn K (.ref C10) (.type "BaseException") = some true)
    (yd10 : PySem.W.hasDictIn K C10 = true)
    (ya10 : PySem.W.findIn K (.ref C10) "__class__" = some (some (.builtin "object.__class__")))
    (ym10 : PySem.W.mroIn K C10 (.type "object") = some true)
    (yp10 : PySem.W.keepIn K (.ref C10) = true)
    (yt10 : PySem.W.typeIn K (.ref C10) = some (.type "type"))
    (yz10 : PySem.W.findIn K (.ref C10) "__setattr__" = some (some (.builtin "object.__setattr__")))
    (yq10 : PySem.W.excIn K C10 [.type "Exception", .type "BaseException", .type "object"] "Exception.__new__" = true)
    (yg11 : PySem.W.findIn K (.ref C11) "__getattribute__" = some (some (.builtin "BaseException.__getattribute__")))
    (yk11 : PySem.W.findIn K (.ref C11) "__getattr__" = some none)
    (ys11 : PySem.W.subIn K (.ref C11) (.type "BaseException") = some true)
    (yd11 : PySem.W.hasDictIn K C11 = true)
    (ya11 : PySem.W.findIn K (.ref C11) "__class__" = some (some (.builtin "object.__class__")))
    (ym11 : PySem.W.mroIn K C11 (.type "object") = some true)
    (yp11 : PySem.W.keepIn K (.ref C11) = true)
    (yt11 : PySem.W.typeIn K (.ref C11) = some (.type "type"))
    (yz11 : PySem.W.findIn K (.ref C11) "__setattr__" = some (some (.builtin "object.__setattr__")))
    (yq11 : PySem.W.excIn K C11 [.type "Exception", .type "BaseException", .type "object"] "Exception.__new__" = true)
    (yg12 : PySem.W.findIn K (.ref C12) "__getattribute__" = some (some (.builtin "BaseException.__getattribute__")))
    (yk12 : PySem.W.findIn K (.ref C12) "__getattr__" = some none)
    (ys12 : PySem.W.subIn K (.ref C12) (.type "BaseException") = some true)
    (yd12 : PySem.W.hasDictIn K C12 = true)
    (ya12 : PySem.W.findIn K (.ref C12) "__class__" = some (some (.builtin "object.__class__")))
    (ym12 : PySem.W.mroIn K C12 (.type "object") = some true)
    (yp12 : PySem.W.keepIn K (.ref C12) = true)
    (yt12 : PySem.W.typeIn K (.ref C12) = some (.type "type"))
    (yz12 : PySem.W.findIn K (.ref C12) "__setattr__" = some (some (.builtin "object.__setattr__")))
    (yq12 : PySem.W.excIn K C12 [.type "Exception", .type "BaseException", .type "object"] "Exception.__new__" = true)
    (yg13 : PySem.W.findIn K (.ref C13) "__getattribute__" = some (some (.builtin "BaseException.__getattribute__")))
    (yk13 : PySem.W.findIn K (.ref C13) "__getattr__" = some none)
    (ys13 : PySem.W.subIn K (.ref C13) (.type "BaseException") = some true)
    (yd13 : PySem.W.hasDictIn K C13 = true)
    (ya13 : PySem.W.findIn K (.ref C13) "__class__" = some (some (.builtin "object.__class__")))
    (ym13 : PySem.W.mroIn K C13 (.type "object") = some true)
    (yp13 : PySem.W.keepIn K (.ref C13) = true)
    (yt13 : PySem.W.typeIn K (.ref C13) = some (.type "type"))
    (yz13 : PySem.W.findIn K (.ref C13) "__setattr__" = some (some (.builtin "object.__setattr__")))
    (yq13 : PySem.W.excIn K C13 [.type "Exception", .type "BaseException", .type "object"] "Exception.__new__" = true)
    (yg17 : PySem.W.findIn K (.ref C17) "__getattribute__" = some (some (.builtin "BaseException.__getattribute__")))
    (yk17 : PySem.W.findIn K (.ref C17) "__getattr__" = some none)
    (ys17 : PySem.W.subIn K (.ref C17) (.type "BaseException") = some true)
    (yd17 : PySem.W.hasDictIn K C17 = true)
    (ya17 : PySem.W.findIn K (.ref C17) "__class__" = some (some (.builtin "object.__class__")))
    (ym17 : PySem.W.mroIn K C17 (.type "object") = some true)
    (yp17 : PySem.W.keepIn K (.ref C17) = true)
    (yt17 : PySem.W.typeIn K (.ref C17) = some (.type "type"))
    (yz17 : PySem.W.findIn K (.ref C17) "__setattr__" = some (some (.builtin "object.__setattr__")))
    (yq17 : PySem.W.excIn K C17 [.type "RuntimeError", .type "Exception", .type "BaseException", .type "object"] "RuntimeError.__new__" = true)
    (yb1 : PySem.W.specialIn K (.ref C1) "__getattribute__" = some (some (.builtin "type.__getattribute__")))
    (yr1 : PySem.W.readsIn K C1 (.type "type") = true)
    (yc1 : PySem.W.findCls K (.ref C1) (.type "type") "__init__" = some (.val (.builtin "Exception.__init__")))
    (yB0 : PySem.W.findCls K (.type "IndexError") (.type "type") "__init__" = some (.val (.builtin "IndexError.__init__")))
    (yB1 : PySem.W.findCls K (.type "KeyError") (.type "type") "__init__" = some (.val (.builtin "KeyError.__init__")))
    (yB2 : PySem.W.findCls K (.type "LookupError") (.type "type") "__init__" = some (.val (.builtin "LookupError.__init__")))
    (yi0 : PySem.W.kitOne K (.ref C17) (.ref C17) = some true)
    (yi1 : PySem.W.kitOne K (.ref C17) (.type "IndexError") = some false)
    (yi2 : PySem.W.kitOne K (.ref C17) (.type "KeyError") = some false)
    (yi3 : PySem.W.kitOne K (.ref C17) (.type "LookupError") = some false)
    (yi4 : PySem.W.kitOne K (.ref C17) (.ref C14) = some false)
    (yi5 : PySem.W.kitOne K (.ref C17) (.ref C2) = some false)
    (yi6 : PySem.W.kitOne K (.ref C17) (.ref C5) = some false)
    (yi7 : PySem.W.kitOne K (.ref C17) (.ref C16) = some false)
    (yi8 : PySem.W.kitOne K (.ref C17) (.ref C12) = some false)
    (yi9 : PySem.W.kitOne K (.ref C17) (.ref C15) = some false)
    (yi10 : PySem.W.kitOne K (.ref C17) (.ref C13) = some false)
    (yi11 : PySem.W.kitOne K (.ref C17) (.ref C3) = some false)
    (yi12 : PySem.W.kitOne K (.ref C17) (.ref C4) = some false)
    (yi13 : PySem.W.kitOne K (.ref C17) (.ref C9) = some false)
    (yi14 : PySem.W.kitOne K (.ref C17) (.ref C11) = some false)
    (yi15 : PySem.W.kitOne K (.ref C17) (.ref C7) = some false)
    (yi16 : PySem.W.kitOne K (.ref C17) (.ref C10) = some false)
    (yi17 : PySem.W.kitOne K (.ref C17) (.type "RuntimeError") = some true)
    (yi18 : PySem.W.kitOne K (.ref C17) (.ref C1) = some false)
    (yi19 : PySem.W.kitOne K (.ref C17) (.ref C6) = some false)
    (yi20 : PySem.W.kitOne K (.ref C17) (.ref C8) = some false)
    (yi21 : PySem.W.kitOne K (.ref C17) (.type "ValueError") = some false)
    (yi22 : PySem.W.kitOne K (.ref C14) (.ref C17) = some false)
    (yi23 : PySem.W.kitOne K (.ref C14) (.type "IndexError") = some false)
    (yi24 : PySem.W.kitOne K (.ref C14) (.type "KeyError") = some false)
    (yi25 : PySem.W.kitOne K (.ref C14) (.type "LookupError") = some true)
    (yi26 : PySem.W.kitOne K (.ref C14) (.ref C14) = some true)
    (yi27 : PySem.W.kitOne K (.ref C14) (.ref C2) = some false)
    (yi28 : PySem.W.kitOne K (.ref C14) (.ref C5) = some false)
    (yi29 : PySem.W.kitOne K (.ref C14) (.ref C16) = some false)
    (yi30 : PySem.W.kitOne K (.ref C14) (.ref C12) = some false)
    (yi31 : PySem.W.kitOne K (.ref C14) (.ref C15) = some false)
    (yi32 : PySem.W.kitOne K (.ref C14) (.ref C13) = some false)
    (yi33 : PySem.W.kitOne K (.ref C14) (.ref C3) = some false)
    (yi34 : PySem.W.kitOne K (.ref C14) (.ref C4) = some false)
    (yi35 : PySem.W.kitOne K (.ref C14) (.ref C9) = some false)
    (yi36 : PySem.W.kitOne K (.ref C14) (.ref C11) = some false)
    (yi37 : PySem.W.kitOne K (.ref C14) (.ref C7) = some false)
    (yi38 : PySem.W.kitOne K (.ref C14) (.ref C10) = some false)
    (yi39 : PySem.W.kitOne K (.ref C14) (.type "RuntimeError") = some false)
    (yi40 : PySem.W.kitOne K (.ref C14) (.ref C1) = some false)
    (yi41 : PySem.W.kitOne K (.ref C14) (.ref C6) = some false)
    (yi42 : PySem.W.kitOne K (.ref C14) (.ref C8) = some false)
    (yi43 : PySem.W.kitOne K (.ref C14) (.type "ValueError") = some false)
    (yi44 : PySem.W.kitOne K (.ref C2) (.ref C17) = some false)
    (yi45 : PySem.W.kitOne K (.ref C2) (.type "IndexError") = some false)
    (yi46 : PySem.W.kitOne K (.ref C2) (.type "KeyError") = some false)
    (yi47 : PySem.W.kitOne K (.ref C2) (.type "LookupError") = some false)
    (yi48 : PySem.W.kitOne K (.ref C2) (.ref C14) = some false)
    (yi49 : PySem.W.kitOne K (.ref C2) (.ref C2) = some true)
    (yi50 : PySem.W.kitOne K (.ref C2) (.ref C5) = some false)
    (yi51 : PySem.W.kitOne K (.ref C2) (.ref C16) = some false)
    (yi52 : PySem.W.kitOne K (.ref C2) (.ref C12) = some false)
    (yi53 : PySem.W.kitOne K (.ref C2) (.ref C15) = some false)
    (yi54 : PySem.W.kitOne K (.ref C2) (.ref C13) = some false)
    (yi55 : PySem.W.kitOne K (.ref C2) (.ref C3) = some false)
    (yi56 : PySem.W.kitOne K (.ref C2) (.ref C4) = some false)
    (yi57 : PySem.W.kitOne K (.ref C2) (.ref C9) = some false)
    (yi58 : PySem.W.kitOne K (.ref C2) (.ref C11) = some false)
    (yi59 : PySem.W.kitOne K (.ref C2) (.ref C7) = some false)
    (yi60 : PySem.W.kitOne K (.ref C2) (.ref C10) = some false)
    (yi61 : PySem.W.kitOne K (.ref C2) (.type "RuntimeError") = some false)
    (yi62 : PySem.W.kitOne K (.ref C2) (.ref C1) = some true)
    (yi63 : PySem.W.kitOne K (.ref C2) (.ref C6) = some false)
    (yi64 : PySem.W.kitOne K (.ref C2) (.ref C8) = some false)
    (yi65 : PySem.W.kitOne K (.ref C2) (.type "ValueError") = some false)
    (yi66 : PySem.W.kitOne K (.ref C5) (.ref C17) = some false)
    (yi67 : PySem.W.kitOne K (.ref C5) (.type "IndexError") = some false)
    (yi68 : PySem.W.kitOne K (.ref C5) (.type "KeyError") = some false)
    (yi69 : PySem.W.kitOne K (.ref C5) (.type "LookupError") = some false)
    (yi70 : PySem.W.kitOne K (.ref C5) (.ref C14) = some false)
    (yi71 : PySem.W.kitOne K (.ref C5) (.ref C2) = some false)
    (yi72 : PySem.W.kitOne K (.ref C5) (.ref C5) = some true)
    (yi73 : PySem.W.kitOne K (.ref C5) (.ref C16) = some false)
    (yi74 : PySem.W.kitOne K (.ref C5) (.ref C12) = some false)
    (yi75 : PySem.W.kitOne K (.ref C5) (.ref C15) = some false)
    (yi76 : PySem.W.kitOne K (.ref C5) (.ref C13) = some false)
    (yi77 : PySem.W.kitOne K (.ref C5) (.ref C3) = some false)
    (yi78 : PySem.W.kitOne K (.ref C5) (.ref C4) = some false)
    (yi79 : PySem.W.kitOne K (.ref C5) (.ref C9) = some false)
    (yi80 : PySem.W.kitOne K (.ref C5) (.ref C11) = some false)
    (yi81 : PySem.W.kitOne K (.ref C5) (.ref C7) = some false)
    (yi82 : PySem.W.kitOne K (.ref C5) (.ref C10) = some false)
    (yi83 : PySem.W.kitOne K (.ref C5) (.type "RuntimeError") = some false)
    (yi84 : PySem.W.kitOne K (.ref C5) (.ref C1) = some true)
    (yi85 : PySem.W.kitOne K (.ref C5) (.ref C6) = some false)
    (yi86 : PySem.W.kitOne K (.ref C5) (.ref C8) = some false)
    (yi87 : PySem.W.kitOne K (.ref C5) (.type "ValueError") = some false)
    (yi88 : PySem.W.kitOne K (.ref C16) (.ref C17) = some false)
    (yi89 : PySem.W.kitOne K (.ref C16) (.type "IndexError") = some false)
    (yi90 : PySem.W.kitOne K (.ref C16) (.type "KeyError") = some true)
    (yi91 : PySem.W.kitOne K (.ref C16) (.type "LookupError") = some true)
    (yi92 : PySem.W.kitOne K (.ref C16) (.ref C14) = some false)
    (yi93 : PySem.W.kitOne K (.ref C16) (.ref C2) = some false)
    (yi94 : PySem.W.kitOne K (.ref C16) (.ref C5) = some false)
    (yi95 : PySem.W.kitOne K (.ref C16) (.ref C16) = some true)
    (yi96 : PySem.W.kitOne K (.ref C16) (.ref C12) = some false)
    (yi97 : PySem.W.kitOne K (.ref C16) (.ref C15) = some false)
    (yi98 : PySem.W.kitOne K (.ref C16) (.ref C13) = some false)
    (yi99 : PySem.W.kitOne K (.ref C16) (.ref C3) = some false)
    (yi100 : PySem.W.kitOne K (.ref C16) (.ref C4) = some false)
    (yi101 : PySem.W.kitOne K (.ref C16) (.ref C9) = some false)
    (yi102 : PySem.W.kitOne K (.ref C16) (.ref C11) = some false)
    (yi103 : PySem.W.kitOne K (.ref C16) (.ref C7) = some false)
    (yi104 : PySem.W.kitOne K (.ref C16) (.ref C10) = some false)
    (yi105 : PySem.W.kitOne K (.ref C16) (.type "RuntimeError") = some false)
    (yi106 : PySem.W.kitOne K (.ref C16) (.ref C1) = some false)
    (yi107 : PySem.W.kitOne K (.ref C16) (.ref C6) = some false)
    (yi108 : PySem.W.kitOne K (.ref C16) (.ref C8) = some false)
    (yi109 : PySem.W.kitOne K (.ref C16) (.type "ValueError") = some false)
    (yi110 : PySem.W.kitOne K (.ref C12) (.ref C17) = some false)
    (yi111 : PySem.W.kitOne K (.ref C12) (.type "IndexError") = some false)
    (yi112 : PySem.W.kitOne K (.ref C12) (.type "KeyError") = some false)
    (yi113 : PySem.W.kitOne K (.ref C12) (.type "LookupError") = some false)
    (yi114 : PySem.W.kitOne K (.ref C12) (.ref C14) = some false)
    (yi115 : PySem.W.kitOne K (.ref C12) (.ref C2) = some false)
    (yi116 : PySem.W.kitOne K (.ref C12) (.ref C5) = some false)
    (yi117 : PySem.W.kitOne K (.ref C12) (.ref C16) = some false)
    (yi118 : PySem.W.kitOne K (.ref C12) (.ref C12) = some true)
    (yi119 : PySem.W.kitOne K (.ref C12) (.ref C15) = some false)
    (yi120 : PySem.W.kitOne K (.ref C12) (.ref C13) = some false)
    (yi121 : PySem.W.kitOne K (.ref C12) (.ref C3) = some false)
    (yi122 : PySem.W.kitOne K (.ref C12) (.ref C4) = some false)
    (yi123 : PySem.W.kitOne K (.ref C12) (.ref C9) = some false)
    (yi124 : PySem.W.kitOne K (.ref C12) (.ref C11) = some false)
    (yi125 : PySem.W.kitOne K (.ref C12) (.ref C7) = some false)
    (yi126 : PySem.W.kitOne K (.ref C12) (.ref C10) = some false)
    (yi127 : PySem.W.kitOne K (.ref C12) (.type "RuntimeError") = some false)
    (yi128 : PySem.W.kitOne K (.ref C12) (.ref C1) = some true)
    (yi129 : PySem.W.kitOne K (.ref C12) (.ref C6) = some false)
    (yi130 : PySem.W.kitOne K (.ref C12) (.ref C8) = some false)
    (yi131 : PySem.W.kitOne K (.ref C12) (.type "ValueError") = some false)
    (yi132 : PySem.W.kitOne K (.ref C15) (.ref C17) = some false)
    (yi133 : PySem.W.kitOne K (.ref C15) (.type "IndexError") = some true)
    (yi134 : PySem.W.kitOne K (.ref C15) (.type "KeyError") = some false)
    (yi135 : PySem.W.kitOne K (.ref C15) (.type "LookupError") = some true)
    (yi136 : PySem.W.kitOne K (.ref C15) (.ref C14) = some false)
    (yi137 : PySem.W.kitOne K (.ref C15) (.ref C2) = some false)
    (yi138 : PySem.W.kitOne K (.ref C15) (.ref C5) = some false)
    (yi139 : PySem.W.kitOne K (.ref C15) (.ref C16) = some false)
    (yi140 : PySem.W.kitOne K (.ref C15) (.ref C12) = some false)
    (yi141 : PySem.W.kitOne K (.ref C15) (.ref C15) = some true)
    (yi142 : PySem.W.kitOne K (.ref C15) (.ref C13) = some false)
    (yi143 : PySem.W.kitOne K (.ref C15) (.ref C3) = some false)
    (yi144 : PySem.W.kitOne K (.ref C15) (.ref C4) = some false)
    (yi145 : PySem.W.kitOne K (.ref C15) (.ref C9) = some false)
    (yi146 : PySem.W.kitOne K (.ref C15) (.ref C11) = some false)
    (yi147 : PySem.W.kitOne K (.ref C15) (.ref C7) = some false)
    (yi148 : PySem.W.kitOne K (.ref C15) (.ref C10) = some false)
    (yi149 : PySem.W.kitOne K (.ref C15) (.type "RuntimeError") = some false)
    (yi150 : PySem.W.kitOne K (.ref C15) (.ref C1) = some false)
    (yi151 : PySem.W.kitOne K (.ref C15) (.ref C6) = some false)
    (yi152 : PySem.W.kitOne K (.ref C15) (.ref C8) = some false)
    (yi153 : PySem.W.kitOne K (.ref C15) (.type "ValueError") = some false)
    (yi154 : PySem.W.kitOne K (.ref C13) (.ref C17) = some false)
    (yi155 : PySem.W.kitOne K (.ref C13) (.type "IndexError") = some false)
    (yi156 : PySem.W.kitOne K (.ref C13) (.type "KeyError") = some false)
    (yi157 : PySem.W.kitOne K (.ref C13) (.type "LookupError") = some false)
    (yi158 : PySem.W.kitOne K (.ref C13) (.ref C14) = some false)
    (yi159 : PySem.W.kitOne K (.ref C13) (.ref C2) = some false)
    (yi160 : PySem.W.kitOne K (.ref C13) (.ref C5) = some false)
    (yi161 : PySem.W.kitOne K (.ref C13) (.ref C16) = some false)
    (yi162 : PySem.W.kitOne K (.ref C13) (.ref C12) = some false)
    (yi163 : PySem.W.kitOne K (.ref C13) (.ref C15) = some false)
    (yi164 : PySem.W.kitOne K (.ref C13) (.ref C13) = some true)
    (yi165 : PySem.W.kitOne K (.ref C13) (.ref C3) = some false)
    (yi166 : PySem.W.kitOne K (.ref C13) (.ref C4) = some false)
    (yi167 : PySem.W.kitOne K (.ref C13) (.ref C9) = some false)
    (yi168 : PySem.W.kitOne K (.ref C13) (.ref C11) = some false)
    (yi169 : PySem.W.kitOne K (.ref C13) (.ref C7) = some false)
    (yi170 : PySem.W.kitOne K (.ref C13) (.ref C10) = some false)
    (yi171 : PySem.W.kitOne K (.ref C13) (.type "RuntimeError") = some false)
    (yi172 : PySem.W.kitOne K (.ref C13) (.ref C1) = some true)
    (yi173 : PySem.W.kitOne K (.ref C13) (.ref C6) = some false)
    (yi174 : PySem.W.kitOne K (.ref C13) (.ref C8) = some false)
    (yi175 : PySem.W.kitOne K (.ref C13) (.type "ValueError") = some false)
    (yi176 : PySem.W.kitOne K (.ref C3) (.ref C17) = some false)
    (yi177 : PySem.W.kitOne K (.ref C3) (.type "IndexError") = some false)
    (yi178 : PySem.W.kitOne K (.ref C3) (.type "KeyError") = some false)
    (yi179 : PySem.W.kitOne K (.ref C3) (.type "LookupError") = some false)
    (yi180 : PySem.W.kitOne K (.ref C3) (.ref C14) = some false)
    (yi181 : PySem.W.kitOne K (.ref C3) (.ref C2) = some false)
    (yi182 : PySem.W.kitOne K (.ref C3) (.ref C5) = some false)
    (yi183 : PySem.W.kitOne K (.ref C3) (.ref C16) = some false)
    (yi184 : PySem.W.kitOne K (.ref C3) (.ref C12) = some false)
    (yi185 : PySem.W.kitOne K (.ref C3) (.ref C15) = some false)
    (yi186 : PySem.W.kitOne K (.ref C3) (.ref C13) = some false)
    (yi187 : PySem.W.kitOne K (.ref C3) (.ref C3) = some true)
    (yi188 : PySem.W.kitOne K (.ref C3) (.ref C4) = some false)
    (yi189 : PySem.W.kitOne K (.ref C3) (.ref C9) = some false)
    (yi190 : PySem.W.kitOne K (.ref C3) (.ref C11) = some false)
    (yi191 : PySem.W.kitOne K (.ref C3) (.ref C7) = some false)
    (yi192 : PySem.W.kitOne K (.ref C3) (.ref C10) = some false)
    (yi193 : PySem.W.kitOne K (.ref C3) (.type "RuntimeError") = some false)
    (yi194 : PySem.W.kitOne K (.ref C3) (.ref C1) = some true)
    (yi195 : PySem.W.kitOne K (.ref C3) (.ref C6) = some false)
    (yi196 : PySem.W.kitOne K (.ref C3) (.ref C8) = some false)
    (yi197 : PySem.W.kitOne K (.ref C3) (.type "ValueError") = some false)
    (yi198 : PySem.W.kitOne K (.ref C4) (.ref C17) = some false)
    (yi199 : PySem.W.kitOne K (.ref C4) (.type "IndexError") = some false)
    (yi200 : PySem.W.kitOne K (.ref C4) (.type "KeyError") = some false)
    (yi201 : PySem.W.kitOne K (.ref C4) (.type "LookupError") = some false)
    (yi202 : PySem.W.kitOne K (.ref C4) (.ref C14) = some false)
    (yi203 : PySem.W.kitOne K (.ref C4) (.ref C2) = some false)
    (yi204 : PySem.W.kitOne K (.ref C4) (.ref C5) = some false)
    (yi205 : PySem.W.kitOne K (.ref C4) (.ref C16) = some false)
    (yi206 : PySem.W.kitOne K (.ref C4) (.ref C12) = some false)
    (yi207 : PySem.W.kitOne K (.ref C4) (.ref C15) = some false)
    (yi208 : PySem.W.kitOne K (.ref C4) (.ref C13) = some false)
    (yi209 : PySem.W.kitOne K (.ref C4) (.ref C3) = some false)
    (yi210 : PySem.W.kitOne K (.ref C4) (.ref C4) = some true)
    (yi211 : PySem.W.kitOne K (.ref C4) (.ref C9) = some false)
    (yi212 : PySem.W.kitOne K (.ref C4) (.ref C11) = some false)
    (yi213 : PySem.W.kitOne K (.ref C4) (.ref C7) = some false)
    (yi214 : PySem.W.kitOne K (.ref C4) (.ref C10) = some false)
    (yi215 : PySem.W.kitOne K (.ref C4) (.type "RuntimeError") = some false)
    (yi216 : PySem.W.kitOne K (.ref C4) (.ref C1) = some true)
    (yi217 : PySem.W.kitOne K (.ref C4) (.ref C6) = some false)
    (yi218 : PySem.W.kitOne K (.ref C4) (.ref C8) = some false)
    (yi219 : PySem.W.kitOne K (.ref C4) (.type "ValueError") = some false)
    (yi220 : PySem.W.kitOne K (.ref C9) (.ref C17) = some false)
    (yi221 : PySem.W.kitOne K (.ref C9) (.type "IndexError") = some false)
    (yi222 : PySem.W.kitOne K (.ref C9) (.type "KeyError") = some false)
    (yi223 : PySem.W.kitOne K (.ref C9) (.type "LookupError") = some false)
    (yi224 : PySem.W.kitOne K (.ref C9) (.ref C14) = some false)
    (yi225 : PySem.W.kitOne K (.ref C9) (.ref C2) = some false)
    (yi226 : PySem.W.kitOne K (.ref C9) (.ref C5) = some false)
    (yi227 : PySem.W.kitOne K (.ref C9) (.ref C16) = some false)
    (yi228 : PySem.W.kitOne K (.ref C9) (.ref C12) = some false)
    (yi229 : PySem.W.kitOne K (.ref C9) (.ref C15) = some false)
    (yi230 : PySem.W.kitOne K (.ref C9) (.ref C13) = some false)
    (yi231 : PySem.W.kitOne K (.ref C9) (.ref C3) = some false)
    (yi232 : PySem.W.kitOne K (.ref C9) (.ref C4) = some false)
    (yi233 : PySem.W.kitOne K (.ref C9) (.ref C9) = some true)
    (yi234 : PySem.W.kitOne K (.ref C9) (.ref C11) = some false)
    (yi235 : PySem.W.kitOne K (.ref C9) (.ref C7) = some false)
    (yi236 : PySem.W.kitOne K (.ref C9) (.ref C10) = some false)
    (yi237 : PySem.W.kitOne K (.ref C9) (.type "RuntimeError") = some false)
    (yi238 : PySem.W.kitOne K (.ref C9) (.ref C1) = some true)
    (yi239 : PySem.W.kitOne K (.ref C9) (.ref C6) = some false)
    (yi240 : PySem.W.kitOne K (.ref C9) (.ref C8) = some false)
    (yi241 : PySem.W.kitOne K (.ref C9) (.type "ValueError") = some false)
    (yi242 : PySem.W.kitOne K (.ref C11) (.ref C17) = some false)
    (yi243 : PySem.W.kitOne K (.ref C11) (.type "IndexError") = some false)
    (yi244 : PySem.W.kitOne K (.ref C11) (.type "KeyError") = some false)
    (yi245 : PySem.W.kitOne K (.ref C11) (.type "LookupError") = some false)
    (yi246 : PySem.W.kitOne K (.ref C11) (.ref C14) = some false)
    (yi247 : PySem.W.kitOne K (.ref C11) (.ref C2) = some false)
    (yi248 : PySem.W.kitOne K (.ref C11) (.ref C5) = some false)
    (yi249 : PySem.W.kitOne K (.ref C11) (.ref C16) = some false)
    (yi250 : PySem.W.kitOne K (.ref C11) (.ref C12) = some false)
    (yi251 : PySem.W.kitOne K (.ref C11) (.ref C15) = some false)
    (yi252 : PySem.W.kitOne K (.ref C11) (.ref C13) = some false)
    (yi253 : PySem.W.kitOne K (.ref C11) (.ref C3) = some false)
    (yi254 : PySem.W.kitOne K (.ref C11) (.ref C4) = some false)
    (yi255 : PySem.W.kitOne K (.ref C11) (.ref C9) = some false)
    (yi256 : PySem.W.kitOne K (.ref C11) (.ref C11) = some true)
    (yi257 : PySem.W.kitOne K (.ref C11) (.ref C7) = some false)
    (yi258 : PySem.W.kitOne K (.ref C11) (.ref C10) = some false)
    (yi259 : PySem.W.kitOne K (.ref C11) (.type "RuntimeError") = some false)
    (yi260 : PySem.W.kitOne K (.ref C11) (.ref C1) = some true)
    (yi261 : PySem.W.kitOne K (.ref C11) (.ref C6) = some false)
    (yi262 : PySem.W.kitOne K (.ref C11) (.ref C8) = some false)
    (yi263 : PySem.W.kitOne K (.ref C11) (.type "ValueError") = some false)
    (yi264 : PySem.W.kitOne K (.ref C7) (.ref C17) = some false)
    (yi265 : PySem.W.kitOne K (.ref C7) (.type "IndexError") = some false)
    (yi266 : PySem.W.kitOne K (.ref C7) (.type "KeyError") = some false)
    (yi267 : PySem.W.kitOne K (.ref C7) (.type "LookupError") = some false)
    (yi268 : PySem.W.kitOne K (.ref C7) (.ref C14) = some false)
    (yi269 : PySem.W.kitOne K (.ref C7) (.ref C2) = some false)
    (yi270 : PySem.W.kitOne K (.ref C7) (.ref C5) = some false)
    (yi271 : PySem.W.kitOne K (.ref C7) (.ref C16) = some false)
    (yi272 : PySem.W.kitOne K (.ref C7) (.ref C12) = some false)
    (yi273 : PySem.W.kitOne K (.ref C7) (.ref C15) = some false)
    (yi274 : PySem.W.kitOne K (.ref C7) (.ref C13) = some false)
    (yi275 : PySem.W.kitOne K (.ref C7) (.ref C3) = some false)
    (yi276 : PySem.W.kitOne K (.ref C7) (.ref C4) = some false)
    (yi277 : PySem.W.kitOne K (.ref C7) (.ref C9) = some false)
    (yi278 : PySem.W.kitOne K (.ref C7) (.ref C11) = some false)
    (yi279 : PySem.W.kitOne K (.ref C7) (.ref C7) = some true)
    (yi280 : PySem.W.kitOne K (.ref C7) (.ref C10) = some false)
    (yi281 : PySem.W.kitOne K (.ref C7) (.type "RuntimeError") = some false)
    (yi282 : PySem.W.kitOne K (.ref C7) (.ref C1) = some true)
    (yi283 : PySem.W.kitOne K (.ref C7) (.ref C6) = some false)
    (yi284 : PySem.W.kitOne K (.ref C7) (.ref C8) = some false)
    (yi285 : PySem.W.kitOne K (.ref C7) (.type "ValueError") = some false)
    (yi286 : PySem.W.kitOne K (.ref C10) (.ref C17) = some false)
    (yi287 : PySem.W.kitOne K (.ref C10) (.type "IndexError") = some false)
    (yi288 : PySem.W.kitOne K (.ref C10) (.type "KeyError") = some false)
    (yi289 : PySem.W.kitOne K (.ref C10) (.type "LookupError") = some false)
    (yi290 : PySem.W.kitOne K (.ref C10) (.ref C14) = some false)
    (yi291 : PySem.W.kitOne K (.ref C10) (.ref C2) = some false)
    (yi292 : PySem.W.kitOne K (.ref C10) (.ref C5) = some false)
    (yi293 : PySem.W.kitOne K (.ref C10) (.ref C16) = some false)
    (yi294 : PySem.W.kitOne K (.ref C10) (.ref C12) = some false)
    (yi295 : PySem.W.kitOne K (.ref C10) (.ref C15) = some false)
    (yi296 : PySem.W.kitOne K (.ref C10) (.ref C13) = some false)
    (yi297 : PySem.W.kitOne K (.ref C10) (.ref C3) = some false)
    (yi298 : PySem.W.kitOne K (.ref C10) (.ref C4) = some false)
    (yi299 : PySem.W.kitOne K (.ref C10) (.ref C9) = some false)
    (yi300 : PySem.W.kitOne K (.ref C10) (.ref C11) = some false)
    (yi301 : PySem.W.kitOne K (.ref C10) (.ref C7) = some false)
    (yi302 : PySem.W.kitOne K (.ref C10) (.ref C10) = some true)
    (yi303 : PySem.W.kitOne K (.ref C10) (.type "RuntimeError") = some false)
    (yi304 : PySem.W.kitOne K (.ref C10) (.ref C1) = some true)
    (yi305 : PySem.W.kitOne K (.ref C10) (.ref C6) = some false)
    (yi306 : PySem.W.kitOne K (.ref C10) (.ref C8) = some false)
    (yi307 : PySem.W.kitOne K (.ref C10) (.type "ValueError") = some false)
    (yi308 : PySem.W.kitOne K (.ref C6) (.ref C17) = some false)
    (yi309 : PySem.W.kitOne K (.ref C6) (.type "IndexError") = some false)
    (yi310 : PySem.W.kitOne K (.ref C6) (.type "KeyError") = some false)
    (yi311 : PySem.W.kitOne K (.ref C6) (.type "LookupError") = some false)
    (yi312 : PySem.W.kitOne K (.ref C6) (.ref C14) = some false)
    (yi313 : PySem.W.kitOne K (.ref C6) (.ref C2) = some false)
    (yi314 : PySem.W.kitOne K (.ref C6) (.ref C5) = some false)
    (yi315 : PySem.W.kitOne K (.ref C6) (.ref C16) = some false)
    (yi316 : PySem.W.kitOne K (.ref C6) (.ref C12) = some false)
    (yi317 : PySem.W.kitOne K (.ref C6) (.ref C15) = some false)
    (yi318 : PySem.W.kitOne K (.ref C6) (.ref C13) = some false)
    (yi319 : PySem.W.kitOne K (.ref C6) (.ref C3) = some false)
    (yi320 : PySem.W.kitOne K (.ref C6) (.ref C4) = some false)
    (yi321 : PySem.W.kitOne K (.ref C6) (.ref C9) = some false)
    (yi322 : PySem.W.kitOne K (.ref C6) (.ref C11) = some false)
    (yi323 : PySem.W.kitOne K (.ref C6) (.ref C7) = some false)
    (yi324 : PySem.W.kitOne K (.ref C6) (.ref C10) = some false)
    (yi325 : PySem.W.kitOne K (.ref C6) (.type "RuntimeError") = some false)
    (yi326 : PySem.W.kitOne K (.ref C6) (.ref C1) = some true)
    (yi327 : PySem.W.kitOne K (.ref C6) (.ref C6) = some true)
    (yi328 : PySem.W.kitOne K (.ref C6) (.ref C8) = some false)
    (yi329 : PySem.W.kitOne K (.ref C6) (.type "ValueError") = some false)
    (yi330 : PySem.W.kitOne K (.ref C8) (.ref C17) = some false)
    (yi331 : PySem.W.kitOne K (.ref C8) (.type "IndexError") = some false)
    (yi332 : PySem.W.kitOne K (.ref C8) (.type "KeyError") = some false)
    (yi333 : PySem.W.kitOne K (.ref C8) (.type "LookupError") = some false)
    (yi334 : PySem.W.kitOne K (.ref C8) (.ref C14) = some false)
    (yi335 : PySem.W.kitOne K (.ref C8) (.ref C2) = some false)
    (yi336 : PySem.W.kitOne K (.ref C8) (.ref C5) = some false)
    (yi337 : PySem.W.kitOne K (.ref C8) (.ref C16) = some false)
    (yi338 : PySem.W.kitOne K (.ref C8) (.ref C12) = some false)
    (yi339 : PySem.W.kitOne K (.ref C8) (.ref C15) = some false)
    (yi340 : PySem.W.kitOne K (.ref C8) (.ref C13) = some false)
    (yi341 : PySem.W.kitOne K (.ref C8) (.ref C3) = some false)
    (yi342 : PySem.W.kitOne K (.ref C8) (.ref C4) = some false)
    (yi343 : PySem.W.kitOne K (.ref C8) (.ref C9) = some false)
    (yi344 : PySem.W.kitOne K (.ref C8) (.ref C11) = some false)
    (yi345 : PySem.W.kitOne K (.ref C8) (.ref C7) = some false)
    (yi346 : PySem.W.kitOne K (.ref C8) (.ref C10) = some false)
    (yi347 : PySem.W.kitOne K (.ref C8) (.type "RuntimeError") = some false)
    (yi348 : PySem.W.kitOne K (.ref C8) (.ref C1) = some true)
    (yi349 : PySem.W.kitOne K (.ref C8) (.ref C6) = some false)
    (yi350 : PySem.W.kitOne K (.ref C8) (.ref C8) = some true)
    (yi351 : PySem.W.kitOne K (.ref C8) (.type "ValueError") = some false)
    (z0 : PySem.W.nsIn K mainGlobals "IndexError" = some none)
    (z1 : PySem.W.nsIn K mainGlobals "KeyError" = some none)
    (z2 : PySem.W.nsIn K mainGlobals "LookupError" = some none)
    (z3 : PySem.W.nsIn K mainGlobals "RuntimeError" = some none)
    (z4 : PySem.W.nsIn K mainGlobals "ValueError" = some none)
    (z5 : PySem.W.nsIn K mainGlobals "enumerate" = some none)
    (z6 : PySem.W.nsIn K mainGlobals "int" = some none)
    (z7 : PySem.W.nsIn K mainGlobals "isinstance" = some none)
    (z8 : PySem.W.nsIn K mainGlobals "len" = some none)
    (z9 : PySem.W.nsIn K mainGlobals "max" = some none)
    (z10 : PySem.W.nsIn K mainGlobals "range" = some none)
    (z11 : PySem.W.nsIn K mainGlobals "repr" = some none) :
    ∃ fd : FuncData, (∀ (s : Shared) (v : Value), BindsTo s fd ⟨[v], []⟩ [("_law_script", v)]) ∧ ∀ base : Heap, K.In base → base.Ns mainGlobals mg → Sysm base → FnG l.prog w K mg base 4 fa fd ["_law_script"] (spV K mg 1 .sh f_law) := by
  cases hfa.symm.trans (PySem.W.mg_of X G a15)
  have M : Ms K mg (fun i => match i with
    | 10200 => f0
    | 10300 => f1
    | 10400 => f2
    | 10500 => f3
    | 10600 => f4
    | 10700 => f5
    | 11400 => f6
    | 11500 => f7
    | 11600 => f8
    | 19 => f9
    | 20 => f10
    | 22 => f11
    | 23 => f12
    | 21 => f13
    | 24 => f14
    | 25 => fa
    | _ => fa) (fun i => match i with
    | 10200 => PySem.W.fnOf "__init__" "NoMachine.__init__" (defArgs s_NoMachine___init__) (defBody s_NoMachine___init__) (defScope s_NoMachine___init__) .none kV0 dc0 pm0 an0 cd0 ct0
    | 10300 => PySem.W.fnOf "__init__" "NoRun.__init__" (defArgs s_NoRun___init__) (defBody s_NoRun___init__) (defScope s_NoRun___init__) .none kV1 dc1 pm1 an1 cd1 ct1
    | 10400 => PySem.W.fnOf "__init__" "NoStand.__init__" (defArgs s_NoStand___init__) (defBody s_NoStand___init__) (defScope s_NoStand___init__) .none kV2 dc2 pm2 an2 cd2 ct2
    | 10500 => PySem.W.fnOf "__init__" "NoMust.__init__" (defArgs s_NoMust___init__) (defBody s_NoMust___init__) (defScope s_NoMust___init__) .none kV3 dc3 pm3 an3 cd3 ct3
    | 10600 => PySem.W.fnOf "__init__" "TooMany.__init__" (defArgs s_TooMany___init__) (defBody s_TooMany___init__) (defScope s_TooMany___init__) .none kV4 dc4 pm4 an4 cd4 ct4
    | 10700 => PySem.W.fnOf "__init__" "NoText.__init__" (defArgs s_NoText___init__) (defBody s_NoText___init__) (defScope s_NoText___init__) .none kV5 dc5 pm5 an5 cd5 ct5
    | 11400 => PySem.W.fnOf "__init__" "NoDeed.__init__" (defArgs s_NoDeed___init__) (defBody s_NoDeed___init__) (defScope s_NoDeed___init__) .none kV6 dc6 pm6 an6 cd6 ct6
    | 11500 => PySem.W.fnOf "__init__" "NoNumber.__init__" (defArgs s_NoNumber___init__) (defBody s_NoNumber___init__) (defScope s_NoNumber___init__) .none kV7 dc7 pm7 an7 cd7 ct7
    | 11600 => PySem.W.fnOf "__init__" "NoName.__init__" (defArgs s_NoName___init__) (defBody s_NoName___init__) (defScope s_NoName___init__) .none kV8 dc8 pm8 an8 cd8 ct8
    | 19 => PySem.W.fnOf "_law_numbers" "_law_numbers" (defArgs s_law_numbers) (defBody s_law_numbers) (defScope s_law_numbers) .none kV9 dc9 pm9 an9 cd9 ct9
    | 20 => PySem.W.fnOf "_law_odd" "_law_odd" (defArgs s_law_odd) (defBody s_law_odd) (defScope s_law_odd) .none kV10 dc10 pm10 an10 cd10 ct10
    | 22 => PySem.W.fnOf "_law_kinds" "_law_kinds" (defArgs s_law_kinds) (defBody s_law_kinds) (defScope s_law_kinds) .none kV11 dc11 pm11 an11 cd11 ct11
    | 23 => PySem.W.fnOf "_law_over" "_law_over" (defArgs s_law_over) (defBody s_law_over) (defScope s_law_over) .none kV12 dc12 pm12 an12 cd12 ct12
    | 21 => PySem.W.fnOf "_law_all" "_law_all" (defArgs s_law_all) (defBody s_law_all) (defScope s_law_all) .none kV13 dc13 pm13 an13 cd13 ct13
    | 24 => PySem.W.fnOf "_law_by_names" "_law_by_names" (defArgs s_law_by_names) (defBody s_law_by_names) (defScope s_law_by_names) .none kV14 dc14 pm14 an14 cd14 ct14
    | 25 => PySem.W.fnOf "law" "law" (defArgs s_law) (defBody s_law) (defScope s_law) .none kV15 dc15 pm15 an15 cd15 ct15
    | _ => PySem.W.fnOf "law" "law" (defArgs s_law) (defBody s_law) (defScope s_law) .none kV15 dc15 pm15 an15 cd15 ct15) (fun i => match i with
    | 1 => C1
    | 2 => C2
    | 3 => C3
    | 4 => C4
    | 5 => C5
    | 6 => C6
    | 7 => C7
    | 8 => C8
    | 9 => C9
    | 10 => C10
    | 11 => C11
    | 12 => C12
    | 13 => C13
    | 14 => C14
    | 15 => C15
    | 16 => C16
    | 17 => C17
    | _ => fa) := by
    have F0 := fun_mk (st := s_NoMachine___init__) l0 c0 k0
    have b0 := F0.binds (ps := ["self", "part", "number"]) fun _ _ _ _ _ _ us hl => us3 (P := fun us => bindArgs _ ⟨us, []⟩ = pure (List.zip _ us)) hl fun _ _ _ => rfl
    have F1 := fun_mk (st := s_NoRun___init__) l1 c1 k1
    have b1 := F1.binds (ps := ["self", "part", "number"]) fun _ _ _ _ _ _ us hl => us3 (P := fun us => bindArgs _ ⟨us, []⟩ = pure (List.zip _ us)) hl fun _ _ _ => rfl
    have F2 := fun_mk (st := s_NoStand___init__) l2 c2 k2
    have b2 := F2.binds (ps := ["self", "stand"]) fun _ _ _ _ _ _ us hl => us2 (P := fun us => bindArgs _ ⟨us, []⟩ = pure (List.zip _ us)) hl fun _ _ => rfl
    have F3 := fun_mk (st := s_NoMust___init__) l3 c3 k3
    have b3 := F3.binds (ps := ["self", "name"]) fun _ _ _ _ _ _ us hl => us2 (P := fun us => bindArgs _ ⟨us, []⟩ = pure (List.zip _ us)) hl fun _ _ => rfl
    have F4 := fun_mk (st := s_TooMany___init__) l4 c4 k4
    have b4 := F4.binds (ps := ["self", "many"]) fun _ _ _ _ _ _ us hl => us2 (P := fun us => bindArgs _ ⟨us, []⟩ = pure (List.zip _ us)) hl fun _ _ => rfl
    have F5 := fun_mk (st := s_NoText___init__) l5 c5 k5
    have b5 := F5.binds (ps := ["self", "row"]) fun _ _ _ _ _ _ us hl => us2 (P := fun us => bindArgs _ ⟨us, []⟩ = pure (List.zip _ us)) hl fun _ _ => rfl
    have F6 := fun_mk (st := s_NoDeed___init__) l6 c6 k6
    have b6 := F6.binds (ps := ["self", "name"]) fun _ _ _ _ _ _ us hl => us2 (P := fun us => bindArgs _ ⟨us, []⟩ = pure (List.zip _ us)) hl fun _ _ => rfl
    have F7 := fun_mk (st := s_NoNumber___init__) l7 c7 k7
    have b7 := F7.binds (ps := ["self", "number"]) fun _ _ _ _ _ _ us hl => us2 (P := fun us => bindArgs _ ⟨us, []⟩ = pure (List.zip _ us)) hl fun _ _ => rfl
    have F8 := fun_mk (st := s_NoName___init__) l8 c8 k8
    have b8 := F8.binds (ps := ["self", "name"]) fun _ _ _ _ _ _ us hl => us2 (P := fun us => bindArgs _ ⟨us, []⟩ = pure (List.zip _ us)) hl fun _ _ => rfl
    have F9 := fun_mk (st := s_law_numbers) l9 c9 k9
    have b9 := F9.binds (ps := ["_law_cell", "_law_salt", "_law_sizes"]) fun _ _ _ _ _ _ us hl => us3 (P := fun us => bindArgs _ ⟨us, []⟩ = pure (List.zip _ us)) hl fun _ _ _ => rfl
    have F10 := fun_mk (st := s_law_odd) l10 c10 k10
    have b10 := F10.binds (ps := ["_law_digit"]) fun _ _ _ _ _ _ us hl => us1 (P := fun us => bindArgs _ ⟨us, []⟩ = pure (List.zip _ us)) hl fun _ => rfl
    have F11 := fun_mk (st := s_law_kinds) l11 c11 k11
    have b11 := F11.binds (ps := ["_law_error"]) fun _ _ _ _ _ _ us hl => us1 (P := fun us => bindArgs _ ⟨us, []⟩ = pure (List.zip _ us)) hl fun _ => rfl
    have F12 := fun_mk (st := s_law_over) l12 c12 k12
    have b12 := F12.binds (ps := ["_law_error"]) fun _ _ _ _ _ _ us hl => us1 (P := fun us => bindArgs _ ⟨us, []⟩ = pure (List.zip _ us)) hl fun _ => rfl
    have F13 := fun_mk (st := s_law_all) l13 c13 k13
    have b13 := F13.binds (ps := ["_law_one", "_law_two"]) fun _ _ _ _ _ _ us hl => us2 (P := fun us => bindArgs _ ⟨us, []⟩ = pure (List.zip _ us)) hl fun _ _ => rfl
    have F14 := fun_mk (st := s_law_by_names) l14 c14 k14
    have b14 := F14.binds (ps := ["_law_one", "_law_two"]) fun _ _ _ _ _ _ us hl => us2 (P := fun us => bindArgs _ ⟨us, []⟩ = pure (List.zip _ us)) hl fun _ _ => rfl
    have F15 := fun_mk (st := s_law) l15 c15 k15
    have b15 := F15.binds (ps := ["_law_script"]) fun _ _ _ _ _ _ us hl => us1 (P := fun us => bindArgs _ ⟨us, []⟩ = pure (List.zip _ us)) hl fun _ => rfl
    exact ⟨⟨F0, b0⟩, ⟨F1, b1⟩, ⟨F2, b2⟩, ⟨F3, b3⟩, ⟨F4, b4⟩, ⟨F5, b5⟩, ⟨F6, b6⟩, ⟨F7, b7⟩, ⟨F8, b8⟩, ⟨PySem.W.mg_of X G a9, F9, b9⟩, ⟨PySem.W.mg_of X G a10, F10, b10⟩, ⟨PySem.W.mg_of X G a11, F11, b11⟩, ⟨PySem.W.mg_of X G a12, F12, b12⟩, ⟨PySem.W.mg_of X G a13, F13, b13⟩, ⟨PySem.W.mg_of X G a14, F14, b14⟩, ⟨PySem.W.mg_of X G a15, F15, b15⟩, PySem.W.mg_of X G aC1, PySem.W.mg_of X G aC2, PySem.W.mg_of X G aC3, PySem.W.mg_of X G aC4, PySem.W.mg_of X G aC5, PySem.W.mg_of X G aC6, PySem.W.mg_of X G aC7, PySem.W.mg_of X G aC8, PySem.W.mg_of X G aC9, PySem.W.mg_of X G aC10, PySem.W.mg_of X G aC11, PySem.W.mg_of X G aC12, PySem.W.mg_of X G aC13, PySem.W.mg_of X G aC14, PySem.W.mg_of X G aC15, PySem.W.mg_of X G aC16, PySem.W.mg_of X G aC17, ⟨aC2, ⟨yg2, yk2, ys2, yd2, ya2, yn0, yt0, ym2⟩, yp2, yt2, yz2⟩, yx2, yxo2, a0, yf2, ⟨fun s us ws X l1 l2 => match us, ws, l1, l2 with | [_], [_, _], _, _ => .of_eq rfl, fun r1 r2 => r1.append (vals_rev r2)⟩, yo2_part, yo2_number, ⟨aC3, ⟨yg3, yk3, ys3, yd3, ya3, yn0, yt0, ym3⟩, yp3, yt3, yz3⟩, yx3, yxo3, a1, yf3, ⟨fun s us ws X l1 l2 => match us, ws, l1, l2 with | [_], [_, _], _, _ => .of_eq rfl, fun r1 r2 => r1.append (vals_rev r2)⟩, yo3_part, yo3_number, ⟨aC4, ⟨yg4, yk4, ys4, yd4, ya4, yn0, yt0, ym4⟩, yp4, yt4, yz4⟩, yx4, yxo4, a2, yf4, ⟨fun s us ws X l1 l2 => match us, ws, l1, l2 with | [_], [_], _, _ => .of_eq rfl, fun r1 r2 => r1.append (vals_rev r2)⟩, yo4_stand, ⟨aC5, ⟨yg5, yk5, ys5, yd5, ya5, yn0, yt0, ym5⟩, yp5, yt5, yz5⟩, yx5, yxo5, a3, yf5, ⟨fun s us ws X l1 l2 => match us, ws, l1, l2 with | [_], [_], _, _ => .of_eq rfl, fun r1 r2 => r1.append (vals_rev r2)⟩, yo5_name, ⟨aC6, ⟨yg6, yk6, ys6, yd6, ya6, yn0, yt0, ym6⟩, yp6, yt6, yz6⟩, yx6, yxo6, a4, yf6, ⟨fun s us ws X l1 l2 => match us, ws, l1, l2 with | [_], [_], _, _ => .of_eq rfl, fun r1 r2 => r1.append (vals_rev r2)⟩, yo6_many, ⟨aC7, ⟨yg7, yk7, ys7, yd7, ya7, yn0, yt0, ym7⟩, yp7, yt7, yz7⟩, yx7, yxo7, a5, yf7, ⟨fun s us ws X l1 l2 => match us, ws, l1, l2 with | [_], [_], _, _ => .of_eq rfl, fun r1 r2 => r1.append (vals_rev r2)⟩, yo7_row, ⟨aC14, ⟨yg14, yk14, ys14, yd14, ya14, yn0, yt0, ym14⟩, yp14, yt14, yz14⟩, yx14, yxo14, a6, yf14, ⟨fun s us ws X l1 l2 => match us, ws, l1, l2 with | [_], [_], _, _ => .of_eq rfl, fun r1 r2 => r1.append (vals_rev r2)⟩, yo14_name, ⟨aC15, ⟨yg15, yk15, ys15, yd15, ya15, yn0, yt0, ym15⟩, yp15, yt15, yz15⟩, yx15, yxo15, a7, yf15, ⟨fun s us ws X l1 l2 => match us, ws, l1, l2 with | [_], [_], _, _ => .of_eq rfl, fun r1 r2 => r1.append (vals_rev r2)⟩, yo15_number, ⟨aC16, ⟨yg16, yk16, ys16, yd16, ya16, yn0, yt0, ym16⟩, yp16, yt16, yz16⟩, yx16, yxo16, a8, yf16, ⟨fun s us ws X l1 l2 => match us, ws, l1, l2 with | [_], [_], _, _ => .of_eq rfl, fun r1 r2 => r1.append (vals_rev r2)⟩, yo16_name, ⟨aC8, ⟨yg8, yk8, ys8, yd8, ya8, yn0, yt0, ym8⟩, yp8, yt8, yz8⟩, yq8, ⟨aC9, ⟨yg9, yk9, ys9, yd9, ya9, yn0, yt0, ym9⟩, yp9, yt9, yz9⟩, yq9, ⟨aC10, ⟨yg10, yk10, ys10, yd10, ya10, yn0, yt0, ym10⟩, yp10, yt10, yz10⟩, yq10, ⟨aC11, ⟨yg11, yk11, ys11, yd11, ya11, yn0, yt0, ym11⟩, yp11, yt11, yz11⟩, yq11, ⟨aC12, ⟨yg12, yk12, ys12, yd12, ya12, yn0, yt0, ym12⟩, yp12, yt12, yz12⟩, yq12, ⟨aC13, ⟨yg13, yk13, ys13, yd13, ya13, yn0, yt0, ym13⟩, yp13, yt13, yz13⟩, yq13, ⟨aC17, ⟨yg17, yk17, ys17, yd17, ya17, yn0, yt0, ym17⟩, yp17, yt17, yz17⟩, yq17, yb1, yr1, yc1, yB0, yB1, yB2, yi0, yi1, yi2, yi3, yi4, yi5, yi6, yi7, yi8, yi9, yi10, yi11, yi12, yi13, yi14, yi15, yi16, yi17, yi18, yi19, yi20, yi21, yi22, yi23, yi24, yi25, yi26, yi27, yi28, yi29, yi30, yi31, yi32, yi33, yi34, yi35, yi36, yi37, yi38, yi39, yi40, yi41, yi42, yi43, yi44, yi45, yi46, yi47, yi48, yi49, yi50, yi51, yi52, yi53, yi54, yi55, yi56, yi57, yi58, yi59, yi60, yi61, yi62, yi63, yi64, yi65, yi66, yi67, yi68, yi69, yi70, yi71, yi72, yi73, yi74, yi75, yi76, yi77, yi78, yi79, yi80, yi81, yi82, yi83, yi84, yi85, yi86, yi87, yi88, yi89, yi90, yi91, yi92, yi93, yi94, yi95, yi96, yi97, yi98, yi99, yi100, yi101, yi102, yi103, yi104, yi105, yi106, yi107, yi108, yi109, yi110, yi111, yi112, yi113, yi114, yi115, yi116, yi117, yi118, yi119, yi120, yi121, yi122, yi123, yi124, yi125, yi126, yi127, yi128, yi129, yi130, yi131, yi132, yi133, yi134, yi135, yi136, yi137, yi138, yi139, yi140, yi141, yi142, yi143, yi144, yi145, yi146, yi147, yi148, yi149, yi150, yi151, yi152, yi153, yi154, yi155, yi156, yi157, yi158, yi159, yi160, yi161, yi162, yi163, yi164, yi165, yi166, yi167, yi168, yi169, yi170, yi171, yi172, yi173, yi174, yi175, yi176, yi177, yi178, yi179, yi180, yi181, yi182, yi183, yi184, yi185, yi186, yi187, yi188, yi189, yi190, yi191, yi192, yi193, yi194, yi195, yi196, yi197, yi198, yi199, yi200, yi201, yi202, yi203, yi204, yi205, yi206, yi207, yi208, yi209, yi210, yi211, yi212, yi213, yi214, yi215, yi216, yi217, yi218, yi219, yi220, yi221, yi222, yi223, yi224, yi225, yi226, yi227, yi228, yi229, yi230, yi231, yi232, yi233, yi234, yi235, yi236, yi237, yi238, yi239, yi240, yi241, yi242, yi243, yi244, yi245, yi246, yi247, yi248, yi249, yi250, yi251, yi252, yi253, yi254, yi255, yi256, yi257, yi258, yi259, yi260, yi261, yi262, yi263, yi264, yi265, yi266, yi267, yi268, yi269, yi270, yi271, yi272, yi273, yi274, yi275, yi276, yi277, yi278, yi279, yi280, yi281, yi282, yi283, yi284, yi285, yi286, yi287, yi288, yi289, yi290, yi291, yi292, yi293, yi294, yi295, yi296, yi297, yi298, yi299, yi300, yi301, yi302, yi303, yi304, yi305, yi306, yi307, yi308, yi309, yi310, yi311, yi312, yi313, yi314, yi315, yi316, yi317, yi318, yi319, yi320, yi321, yi322, yi323, yi324, yi325, yi326, yi327, yi328, yi329, yi330, yi331, yi332, yi333, yi334, yi335, yi336, yi337, yi338, yi339, yi340, yi341, yi342, yi343, yi344, yi345, yi346, yi347, yi348, yi349, yi350, yi351, PySem.W.mg_none_of X G z0, PySem.W.mg_none_of X G z1, PySem.W.mg_none_of X G z2, PySem.W.mg_none_of X G z3, PySem.W.mg_none_of X G z4, PySem.W.mg_none_of X G z5, PySem.W.mg_none_of X G z6, PySem.W.mg_none_of X G z7, PySem.W.mg_none_of X G z8, PySem.W.mg_none_of X G z9, PySem.W.mg_none_of X G z10, PySem.W.mg_none_of X G z11⟩
  exact ⟨PySem.W.fnOf "law" "law" (defArgs s_law) (defBody s_law) (defScope s_law) .none kV15 dc15 pm15 an15 cd15 ct15, fun s v => .of_eq rfl, fun base _ _ hy => ok_law M hy⟩
end
end K09

open PyProof.Rows PySem L2 PySem.Spec PySem.W
set_option maxHeartbeats 0 in
theorem PySem.Challenge.cw_showshigh_k09_refusals_made_holds : PySem.Challenge.rw_showshigh_k09_refusals_made.Holds := by
  w_on
  o_law
  k_headL
  (case hw => w_witness2)
  k_fill
  refine VL.law_end (l := PySem.Challenge.rw_showshigh_k09_refusals_made) (n := 63) (k := 4) (x := "_law_script") (m := .sh) (g := K09.f_law) rfl (by decide) rfl ⟨rfl, by decide, by decide⟩ (by decide +kernel) (fun w h Y => PySem.W.kIn_of Y) ?F K09.law_true
  case F =>
    intro w mg fa h KX G hmg
    refine' K09.all_mk KX G hmg ?i0 ?a0 ?l0 ?c0 ?k0 ?i1 ?a1 ?l1 ?c1 ?k1 ?i2 ?a2 ?l2 ?c2 ?k2 ?i3 ?a3 ?l3 ?c3 ?k3 ?i4 ?a4 ?l4 ?c4 ?k4 ?i5 ?a5 ?l5 ?c5 ?k5 ?i6 ?a6 ?l6 ?c6 ?k6 ?i7 ?a7 ?l7 ?c7 ?k7 ?i8 ?a8 ?l8 ?c8 ?k8 ?a9 ?l9 ?c9 ?k9 ?a10 ?l10 ?c10 ?k10 ?a11 ?l11 ?c11 ?k11 ?a12 ?l12 ?c12 ?k12 ?a13 ?l13 ?c13 ?k13 ?a14 ?l14 ?c14 ?k14 ?a15 ?l15 ?c15 ?k15 ?aC1 ?aC2 ?aC3 ?aC4 ?aC5 ?aC6 ?aC7 ?aC8 ?aC9 ?aC10 ?aC11 ?aC12 ?aC13 ?aC14 ?aC15 ?aC16 ?aC17 ?yn0 ?yt0 ?yg2 ?yk2 ?ys2 ?yd2 ?ya2 ?ym2 ?yp2 ?yt2 ?yz2 ?yx2 ?yxo2 ?yf2 ?yo2_part ?yo2_number ?yg3 ?yk3 ?ys3 ?yd3 ?ya3 ?ym3 ?yp3 ?yt3 ?yz3 ?yx3 ?yxo3 ?yf3 ?yo3_part ?yo3_number ?yg4 ?yk4 ?ys4 ?yd4 ?ya4 ?ym4 ?yp4 ?yt4 ?yz4 ?yx4 ?yxo4 ?yf4 ?yo4_stand ?yg5 ?yk5 ?ys5 ?yd5 ?ya5 ?ym5 ?yp5 ?yt5 ?yz5 ?yx5 ?yxo5 ?yf5 ?yo5_name ?yg6 ?yk6 ?ys6 ?yd6 ?ya6 ?ym6 ?yp6 ?yt6 ?yz6 ?yx6 ?yxo6 ?yf6 ?yo6_many ?yg7 ?yk7 ?ys7 ?yd7 ?ya7 ?ym7 ?yp7 ?yt7 ?yz7 ?yx7 ?yxo7 ?yf7 ?yo7_row ?yg14 ?yk14 ?ys14 ?yd14 ?ya14 ?ym14 ?yp14 ?yt14 ?yz14 ?yx14 ?yxo14 ?yf14 ?yo14_name ?yg15 ?yk15 ?ys15 ?yd15 ?ya15 ?ym15 ?yp15 ?yt15 ?yz15 ?yx15 ?yxo15 ?yf15 ?yo15_number ?yg16 ?yk16 ?ys16 ?yd16 ?ya16 ?ym16 ?yp16 ?yt16 ?yz16 ?yx16 ?yxo16 ?yf16 ?yo16_name ?yg8 ?yk8 ?ys8 ?yd8 ?ya8 ?ym8 ?yp8 ?yt8 ?yz8 ?yq8 ?yg9 ?yk9 ?ys9 ?yd9 ?ya9 ?ym9 ?yp9 ?yt9 ?yz9 ?yq9 ?yg10 ?yk10 ?ys10 ?yd10 ?ya10 ?ym10 ?yp10 ?yt10 ?yz10 ?yq10 ?yg11 ?yk11 ?ys11 ?yd11 ?ya11 ?ym11 ?yp11 ?yt11 ?yz11 ?yq11 ?yg12 ?yk12 ?ys12 ?yd12 ?ya12 ?ym12 ?yp12 ?yt12 ?yz12 ?yq12 ?yg13 ?yk13 ?ys13 ?yd13 ?ya13 ?ym13 ?yp13 ?yt13 ?yz13 ?yq13 ?yg17 ?yk17 ?ys17 ?yd17 ?ya17 ?ym17 ?yp17 ?yt17 ?yz17 ?yq17 ?yb1 ?yr1 ?yc1 ?yB0 ?yB1 ?yB2 ?yi0 ?yi1 ?yi2 ?yi3 ?yi4 ?yi5 ?yi6 ?yi7 ?yi8 ?yi9 ?yi10 ?yi11 ?yi12 ?yi13 ?yi14 ?yi15 ?yi16 ?yi17 ?yi18 ?yi19 ?yi20 ?yi21 ?yi22 ?yi23 ?yi24 ?yi25 ?yi26 ?yi27 ?yi28 ?yi29 ?yi30 ?yi31 ?yi32 ?yi33 ?yi34 ?yi35 ?yi36 ?yi37 ?yi38 ?yi39 ?yi40 ?yi41 ?yi42 ?yi43 ?yi44 ?yi45 ?yi46 ?yi47 ?yi48 ?yi49 ?yi50 ?yi51 ?yi52 ?yi53 ?yi54 ?yi55 ?yi56 ?yi57 ?yi58 ?yi59 ?yi60 ?yi61 ?yi62 ?yi63 ?yi64 ?yi65 ?yi66 ?yi67 ?yi68 ?yi69 ?yi70 ?yi71 ?yi72 ?yi73 ?yi74 ?yi75 ?yi76 ?yi77 ?yi78 ?yi79 ?yi80 ?yi81 ?yi82 ?yi83 ?yi84 ?yi85 ?yi86 ?yi87 ?yi88 ?yi89 ?yi90 ?yi91 ?yi92 ?yi93 ?yi94 ?yi95 ?yi96 ?yi97 ?yi98 ?yi99 ?yi100 ?yi101 ?yi102 ?yi103 ?yi104 ?yi105 ?yi106 ?yi107 ?yi108 ?yi109 ?yi110 ?yi111 ?yi112 ?yi113 ?yi114 ?yi115 ?yi116 ?yi117 ?yi118 ?yi119 ?yi120 ?yi121 ?yi122 ?yi123 ?yi124 ?yi125 ?yi126 ?yi127 ?yi128 ?yi129 ?yi130 ?yi131 ?yi132 ?yi133 ?yi134 ?yi135 ?yi136 ?yi137 ?yi138 ?yi139 ?yi140 ?yi141 ?yi142 ?yi143 ?yi144 ?yi145 ?yi146 ?yi147 ?yi148 ?yi149 ?yi150 ?yi151 ?yi152 ?yi153 ?yi154 ?yi155 ?yi156 ?yi157 ?yi158 ?yi159 ?yi160 ?yi161 ?yi162 ?yi163 ?yi164 ?yi165 ?yi166 ?yi167 ?yi168 ?yi169 ?yi170 ?yi171 ?yi172 ?yi173 ?yi174 ?yi175 ?yi176 ?yi177 ?yi178 ?yi179 ?yi180 ?yi181 ?yi182 ?yi183 ?yi184 ?yi185 ?yi186 ?yi187 ?yi188 ?yi189 ?yi190 ?yi191 ?yi192 ?yi193 ?yi194 ?yi195 ?yi196 ?yi197 ?yi198 ?yi199 ?yi200 ?yi201 ?yi202 ?yi203 ?yi204 ?yi205 ?yi206 ?yi207 ?yi208 ?yi209 ?yi210 ?yi211 ?yi212 ?yi213 ?yi214 ?yi215 ?yi216 ?yi217 ?yi218 ?yi219 ?yi220 ?yi221 ?yi222 ?yi223 ?yi224 ?yi225 ?yi226 ?yi227 ?yi228 ?yi229 ?yi230 ?yi231 ?yi232 ?yi233 ?yi234 ?yi235 ?yi236 ?yi237 ?yi238 ?yi239 ?yi240 ?yi241 ?yi242 ?yi243 ?yi244 ?yi245 ?yi246 ?yi247 ?yi248 ?yi249 ?yi250 ?yi251 ?yi252 ?yi253 ?yi254 ?yi255 ?yi256 ?yi257 ?yi258 ?yi259 ?yi260 ?yi261 ?yi262 ?yi263 ?yi264 ?yi265 ?yi266 ?yi267 ?yi268 ?yi269 ?yi270 ?yi271 ?yi272 ?yi273 ?yi274 ?yi275 ?yi276 ?yi277 ?yi278 ?yi279 ?yi280 ?yi281 ?yi282 ?yi283 ?yi284 ?yi285 ?yi286 ?yi287 ?yi288 ?yi289 ?yi290 ?yi291 ?yi292 ?yi293 ?yi294 ?yi295 ?yi296 ?yi297 ?yi298 ?yi299 ?yi300 ?yi301 ?yi302 ?yi303 ?yi304 ?yi305 ?yi306 ?yi307 ?yi308 ?yi309 ?yi310 ?yi311 ?yi312 ?yi313 ?yi314 ?yi315 ?yi316 ?yi317 ?yi318 ?yi319 ?yi320 ?yi321 ?yi322 ?yi323 ?yi324 ?yi325 ?yi326 ?yi327 ?yi328 ?yi329 ?yi330 ?yi331 ?yi332 ?yi333 ?yi334 ?yi335 ?yi336 ?yi337 ?yi338 ?yi339 ?yi340 ?yi341 ?yi342 ?yi343 ?yi344 ?yi345 ?yi346 ?yi347 ?yi348 ?yi349 ?yi350 ?yi351 ?z0 ?z1 ?z2 ?z3 ?z4 ?z5 ?z6 ?z7 ?z8 ?z9 ?z10 ?z11
    (case aC1 => as_aux_lemma => k_is)
    (case aC2 => as_aux_lemma => k_is)
    (case aC3 => as_aux_lemma => k_is)
    (case aC4 => as_aux_lemma => k_is)
    (case aC5 => as_aux_lemma => k_is)
    (case aC6 => as_aux_lemma => k_is)
    (case aC7 => as_aux_lemma => k_is)
    (case aC8 => as_aux_lemma => k_is)
    (case aC9 => as_aux_lemma => k_is)
    (case aC10 => as_aux_lemma => k_is)
    (case aC11 => as_aux_lemma => k_is)
    (case aC12 => as_aux_lemma => k_is)
    (case aC13 => as_aux_lemma => k_is)
    (case aC14 => as_aux_lemma => k_is)
    (case aC15 => as_aux_lemma => k_is)
    (case aC16 => as_aux_lemma => k_is)
    (case aC17 => as_aux_lemma => k_is)
    (case a0 => as_aux_lemma => k_is)
    (case a1 => as_aux_lemma => k_is)
    (case a2 => as_aux_lemma => k_is)
    (case a3 => as_aux_lemma => k_is)
    (case a4 => as_aux_lemma => k_is)
    (case a5 => as_aux_lemma => k_is)
    (case a6 => as_aux_lemma => k_is)
    (case a7 => as_aux_lemma => k_is)
    (case a8 => as_aux_lemma => k_is)
    (case a9 => as_aux_lemma => k_is)
    (case a10 => as_aux_lemma => k_is)
    (case a11 => as_aux_lemma => k_is)
    (case a12 => as_aux_lemma => k_is)
    (case a13 => as_aux_lemma => k_is)
    (case a14 => as_aux_lemma => k_is)
    (case a15 => as_aux_lemma => k_is)
    (case i0 => as_aux_lemma => k_is)
    (case l0 => as_aux_lemma => k_is)
    (case c0 => as_aux_lemma => k_is)
    (case k0 => as_aux_lemma => k_is)
    (case i1 => as_aux_lemma => k_is)
    (case l1 => as_aux_lemma => k_is)
    (case c1 => as_aux_lemma => k_is)
    (case k1 => as_aux_lemma => k_is)
    (case i2 => as_aux_lemma => k_is)
    (case l2 => as_aux_lemma => k_is)
    (case c2 => as_aux_lemma => k_is)
    (case k2 => as_aux_lemma => k_is)
    (case i3 => as_aux_lemma => k_is)
    (case l3 => as_aux_lemma => k_is)
    (case c3 => as_aux_lemma => k_is)
    (case k3 => as_aux_lemma => k_is)
    (case i4 => as_aux_lemma => k_is)
    (case l4 => as_aux_lemma => k_is)
    (case c4 => as_aux_lemma => k_is)
    (case k4 => as_aux_lemma => k_is)
    (case i5 => as_aux_lemma => k_is)
    (case l5 => as_aux_lemma => k_is)
    (case c5 => as_aux_lemma => k_is)
    (case k5 => as_aux_lemma => k_is)
    (case i6 => as_aux_lemma => k_is)
    (case l6 => as_aux_lemma => k_is)
    (case c6 => as_aux_lemma => k_is)
    (case k6 => as_aux_lemma => k_is)
    (case i7 => as_aux_lemma => k_is)
    (case l7 => as_aux_lemma => k_is)
    (case c7 => as_aux_lemma => k_is)
    (case k7 => as_aux_lemma => k_is)
    (case i8 => as_aux_lemma => k_is)
    (case l8 => as_aux_lemma => k_is)
    (case c8 => as_aux_lemma => k_is)
    (case k8 => as_aux_lemma => k_is)
    (case l9 => as_aux_lemma => k_is)
    (case c9 => as_aux_lemma => k_is)
    (case k9 => as_aux_lemma => k_is)
    (case l10 => as_aux_lemma => k_is)
    (case c10 => as_aux_lemma => k_is)
    (case k10 => as_aux_lemma => k_is)
    (case l11 => as_aux_lemma => k_is)
    (case c11 => as_aux_lemma => k_is)
    (case k11 => as_aux_lemma => k_is)
    (case l12 => as_aux_lemma => k_is)
    (case c12 => as_aux_lemma => k_is)
    (case k12 => as_aux_lemma => k_is)
    (case l13 => as_aux_lemma => k_is)
    (case c13 => as_aux_lemma => k_is)
    (case k13 => as_aux_lemma => k_is)
    (case l14 => as_aux_lemma => k_is)
    (case c14 => as_aux_lemma => k_is)
    (case k14 => as_aux_lemma => k_is)
    (case l15 => as_aux_lemma => k_is)
    (case c15 => as_aux_lemma => k_is)
    (case k15 => as_aux_lemma => k_is)
    (case yn0 => as_aux_lemma => k_is)
    (case yt0 => as_aux_lemma => k_is)
    (case yg2 => as_aux_lemma => k_is)
    (case yk2 => as_aux_lemma => k_is)
    (case ys2 => as_aux_lemma => k_is)
    (case yd2 => as_aux_lemma => k_is)
    (case ya2 => as_aux_lemma => k_is)
    (case ym2 => as_aux_lemma => k_is)
    (case yp2 => as_aux_lemma => k_is)
    (case yt2 => as_aux_lemma => k_is)
    (case yz2 => as_aux_lemma => k_is)
    (case yx2 => kx_is)
    (case yxo2 => kx_is)
    (case yf2 => as_aux_lemma => k_is)
    (case yo2_part => as_aux_lemma => k_is)
    (case yo2_number => as_aux_lemma => k_is)
    (case yg3 => as_aux_lemma => k_is)
    (case yk3 => as_aux_lemma => k_is)
    (case ys3 => as_aux_lemma => k_is)
    (case yd3 => as_aux_lemma => k_is)
    (case ya3 => as_aux_lemma => k_is)
    (case ym3 => as_aux_lemma => k_is)
    (case yp3 => as_aux_lemma => k_is)
    (case yt3 => as_aux_lemma => k_is)
    (case yz3 => as_aux_lemma => k_is)
    (case yx3 => kx_is)
    (case yxo3 => kx_is)
    (case yf3 => as_aux_lemma => k_is)
    (case yo3_part => as_aux_lemma => k_is)
    (case yo3_number => as_aux_lemma => k_is)
    (case yg4 => as_aux_lemma => k_is)
    (case yk4 => as_aux_lemma => k_is)
    (case ys4 => as_aux_lemma => k_is)
    (case yd4 => as_aux_lemma => k_is)
    (case ya4 => as_aux_lemma => k_is)
    (case ym4 => as_aux_lemma => k_is)
    (case yp4 => as_aux_lemma => k_is)
    (case yt4 => as_aux_lemma => k_is)
    (case yz4 => as_aux_lemma => k_is)
    (case yx4 => kx_is)
    (case yxo4 => kx_is)
    (case yf4 => as_aux_lemma => k_is)
    (case yo4_stand => as_aux_lemma => k_is)
    (case yg5 => as_aux_lemma => k_is)
    (case yk5 => as_aux_lemma => k_is)
    (case ys5 => as_aux_lemma => k_is)
    (case yd5 => as_aux_lemma => k_is)
    (case ya5 => as_aux_lemma => k_is)
    (case ym5 => as_aux_lemma => k_is)
    (case yp5 => as_aux_lemma => k_is)
    (case yt5 => as_aux_lemma => k_is)
    (case yz5 => as_aux_lemma => k_is)
    (case yx5 => kx_is)
    (case yxo5 => kx_is)
    (case yf5 => as_aux_lemma => k_is)
    (case yo5_name => as_aux_lemma => k_is)
    (case yg6 => as_aux_lemma => k_is)
    (case yk6 => as_aux_lemma => k_is)
    (case ys6 => as_aux_lemma => k_is)
    (case yd6 => as_aux_lemma => k_is)
    (case ya6 => as_aux_lemma => k_is)
    (case ym6 => as_aux_lemma => k_is)
    (case yp6 => as_aux_lemma => k_is)
    (case yt6 => as_aux_lemma => k_is)
    (case yz6 => as_aux_lemma => k_is)
    (case yx6 => kx_is)
    (case yxo6 => kx_is)
    (case yf6 => as_aux_lemma => k_is)
    (case yo6_many => as_aux_lemma => k_is)
    (case yg7 => as_aux_lemma => k_is)
    (case yk7 => as_aux_lemma => k_is)
    (case ys7 => as_aux_lemma => k_is)
    (case yd7 => as_aux_lemma => k_is)
    (case ya7 => as_aux_lemma => k_is)
    (case ym7 => as_aux_lemma => k_is)
    (case yp7 => as_aux_lemma => k_is)
    (case yt7 => as_aux_lemma => k_is)
    (case yz7 => as_aux_lemma => k_is)
    (case yx7 => kx_is)
    (case yxo7 => kx_is)
    (case yf7 => as_aux_lemma => k_is)
    (case yo7_row => as_aux_lemma => k_is)
    (case yg14 => as_aux_lemma => k_is)
    (case yk14 => as_aux_lemma => k_is)
    (case ys14 => as_aux_lemma => k_is)
    (case yd14 => as_aux_lemma => k_is)
    (case ya14 => as_aux_lemma => k_is)
    (case ym14 => as_aux_lemma => k_is)
    (case yp14 => as_aux_lemma => k_is)
    (case yt14 => as_aux_lemma => k_is)
    (case yz14 => as_aux_lemma => k_is)
    (case yx14 => kx_is)
    (case yxo14 => kx_is)
    (case yf14 => as_aux_lemma => k_is)
    (case yo14_name => as_aux_lemma => k_is)
    (case yg15 => as_aux_lemma => k_is)
    (case yk15 => as_aux_lemma => k_is)
    (case ys15 => as_aux_lemma => k_is)
    (case yd15 => as_aux_lemma => k_is)
    (case ya15 => as_aux_lemma => k_is)
    (case ym15 => as_aux_lemma => k_is)
    (case yp15 => as_aux_lemma => k_is)
    (case yt15 => as_aux_lemma => k_is)
    (case yz15 => as_aux_lemma => k_is)
    (case yx15 => kx_is)
    (case yxo15 => kx_is)
    (case yf15 => as_aux_lemma => k_is)
    (case yo15_number => as_aux_lemma => k_is)
    (case yg16 => as_aux_lemma => k_is)
    (case yk16 => as_aux_lemma => k_is)
    (case ys16 => as_aux_lemma => k_is)
    (case yd16 => as_aux_lemma => k_is)
    (case ya16 => as_aux_lemma => k_is)
    (case ym16 => as_aux_lemma => k_is)
    (case yp16 => as_aux_lemma => k_is)
    (case yt16 => as_aux_lemma => k_is)
    (case yz16 => as_aux_lemma => k_is)
    (case yx16 => kx_is)
    (case yxo16 => kx_is)
    (case yf16 => as_aux_lemma => k_is)
    (case yo16_name => as_aux_lemma => k_is)
    (case yg8 => as_aux_lemma => k_is)
    (case yk8 => as_aux_lemma => k_is)
    (case ys8 => as_aux_lemma => k_is)
    (case yd8 => as_aux_lemma => k_is)
    (case ya8 => as_aux_lemma => k_is)
    (case ym8 => as_aux_lemma => k_is)
    (case yp8 => as_aux_lemma => k_is)
    (case yt8 => as_aux_lemma => k_is)
    (case yz8 => as_aux_lemma => k_is)
    (case yq8 => k_exc)
    (case yg9 => as_aux_lemma => k_is)
    (case yk9 => as_aux_lemma => k_is)
    (case ys9 => as_aux_lemma => k_is)
    (case yd9 => as_aux_lemma => k_is)
    (case ya9 => as_aux_lemma => k_is)
    (case ym9 => as_aux_lemma => k_is)
    (case yp9 => as_aux_lemma => k_is)
    (case yt9 => as_aux_lemma => k_is)
    (case yz9 => as_aux_lemma => k_is)
    (case yq9 => k_exc)
    (case yg10 => as_aux_lemma => k_is)
    (case yk10 => as_aux_lemma => k_is)
    (case ys10 => as_aux_lemma => k_is)
    (case yd10 => as_aux_lemma => k_is)
    (case ya10 => as_aux_lemma => k_is)
    (case ym10 => as_aux_lemma => k_is)
    (case yp10 => as_aux_lemma => k_is)
    (case yt10 => as_aux_lemma => k_is)
    (case yz10 => as_aux_lemma => k_is)
    (case yq10 => k_exc)
    (case yg11 => as_aux_lemma => k_is)
    (case yk11 => as_aux_lemma => k_is)
    (case ys11 => as_aux_lemma => k_is)
    (case yd11 => as_aux_lemma => k_is)
    (case ya11 => as_aux_lemma => k_is)
    (case ym11 => as_aux_lemma => k_is)
    (case yp11 => as_aux_lemma => k_is)
    (case yt11 => as_aux_lemma => k_is)
    (case yz11 => as_aux_lemma => k_is)
    (case yq11 => k_exc)
    (case yg12 => as_aux_lemma => k_is)
    (case yk12 => as_aux_lemma => k_is)
    (case ys12 => as_aux_lemma => k_is)
    (case yd12 => as_aux_lemma => k_is)
    (case ya12 => as_aux_lemma => k_is)
    (case ym12 => as_aux_lemma => k_is)
    (case yp12 => as_aux_lemma => k_is)
    (case yt12 => as_aux_lemma => k_is)
    (case yz12 => as_aux_lemma => k_is)
    (case yq12 => k_exc)
    (case yg13 => as_aux_lemma => k_is)
    (case yk13 => as_aux_lemma => k_is)
    (case ys13 => as_aux_lemma => k_is)
    (case yd13 => as_aux_lemma => k_is)
    (case ya13 => as_aux_lemma => k_is)
    (case ym13 => as_aux_lemma => k_is)
    (case yp13 => as_aux_lemma => k_is)
    (case yt13 => as_aux_lemma => k_is)
    (case yz13 => as_aux_lemma => k_is)
    (case yq13 => k_exc)
    (case yg17 => as_aux_lemma => k_is)
    (case yk17 => as_aux_lemma => k_is)
    (case ys17 => as_aux_lemma => k_is)
    (case yd17 => as_aux_lemma => k_is)
    (case ya17 => as_aux_lemma => k_is)
    (case ym17 => as_aux_lemma => k_is)
    (case yp17 => as_aux_lemma => k_is)
    (case yt17 => as_aux_lemma => k_is)
    (case yz17 => as_aux_lemma => k_is)
    (case yq17 => k_exc)
    (case yb1 => as_aux_lemma => k_is)
    (case yr1 => as_aux_lemma => k_is)
    (case yc1 => as_aux_lemma => k_is)
    (case yB0 => as_aux_lemma => k_is)
    (case yB1 => as_aux_lemma => k_is)
    (case yB2 => as_aux_lemma => k_is)
    (case yi0 => kit_is)
    (case yi1 => kit_is)
    (case yi2 => kit_is)
    (case yi3 => kit_is)
    (case yi4 => kit_is)
    (case yi5 => kit_is)
    (case yi6 => kit_is)
    (case yi7 => kit_is)
    (case yi8 => kit_is)
    (case yi9 => kit_is)
    (case yi10 => kit_is)
    (case yi11 => kit_is)
    (case yi12 => kit_is)
    (case yi13 => kit_is)
    (case yi14 => kit_is)
    (case yi15 => kit_is)
    (case yi16 => kit_is)
    (case yi17 => kit_is)
    (case yi18 => kit_is)
    (case yi19 => kit_is)
    (case yi20 => kit_is)
    (case yi21 => kit_is)
    (case yi22 => kit_is)
    (case yi23 => kit_is)
    (case yi24 => kit_is)
    (case yi25 => kit_is)
    (case yi26 => kit_is)
    (case yi27 => kit_is)
    (case yi28 => kit_is)
    (case yi29 => kit_is)
    (case yi30 => kit_is)
    (case yi31 => kit_is)
    (case yi32 => kit_is)
    (case yi33 => kit_is)
    (case yi34 => kit_is)
    (case yi35 => kit_is)
    (case yi36 => kit_is)
    (case yi37 => kit_is)
    (case yi38 => kit_is)
    (case yi39 => kit_is)
    (case yi40 => kit_is)
    (case yi41 => kit_is)
    (case yi42 => kit_is)
    (case yi43 => kit_is)
    (case yi44 => kit_is)
    (case yi45 => kit_is)
    (case yi46 => kit_is)
    (case yi47 => kit_is)
    (case yi48 => kit_is)
    (case yi49 => kit_is)
    (case yi50 => kit_is)
    (case yi51 => kit_is)
    (case yi52 => kit_is)
    (case yi53 => kit_is)
    (case yi54 => kit_is)
    (case yi55 => kit_is)
    (case yi56 => kit_is)
    (case yi57 => kit_is)
    (case yi58 => kit_is)
    (case yi59 => kit_is)
    (case yi60 => kit_is)
    (case yi61 => kit_is)
    (case yi62 => kit_is)
    (case yi63 => kit_is)
    (case yi64 => kit_is)
    (case yi65 => kit_is)
    (case yi66 => kit_is)
    (case yi67 => kit_is)
    (case yi68 => kit_is)
    (case yi69 => kit_is)
    (case yi70 => kit_is)
    (case yi71 => kit_is)
    (case yi72 => kit_is)
    (case yi73 => kit_is)
    (case yi74 => kit_is)
    (case yi75 => kit_is)
    (case yi76 => kit_is)
    (case yi77 => kit_is)
    (case yi78 => kit_is)
    (case yi79 => kit_is)
    (case yi80 => kit_is)
    (case yi81 => kit_is)
    (case yi82 => kit_is)
    (case yi83 => kit_is)
    (case yi84 => kit_is)
    (case yi85 => kit_is)
    (case yi86 => kit_is)
    (case yi87 => kit_is)
    (case yi88 => kit_is)
    (case yi89 => kit_is)
    (case yi90 => kit_is)
    (case yi91 => kit_is)
    (case yi92 => kit_is)
    (case yi93 => kit_is)
    (case yi94 => kit_is)
    (case yi95 => kit_is)
    (case yi96 => kit_is)
    (case yi97 => kit_is)
    (case yi98 => kit_is)
    (case yi99 => kit_is)
    (case yi100 => kit_is)
    (case yi101 => kit_is)
    (case yi102 => kit_is)
    (case yi103 => kit_is)
    (case yi104 => kit_is)
    (case yi105 => kit_is)
    (case yi106 => kit_is)
    (case yi107 => kit_is)
    (case yi108 => kit_is)
    (case yi109 => kit_is)
    (case yi110 => kit_is)
    (case yi111 => kit_is)
    (case yi112 => kit_is)
    (case yi113 => kit_is)
    (case yi114 => kit_is)
    (case yi115 => kit_is)
    (case yi116 => kit_is)
    (case yi117 => kit_is)
    (case yi118 => kit_is)
    (case yi119 => kit_is)
    (case yi120 => kit_is)
    (case yi121 => kit_is)
    (case yi122 => kit_is)
    (case yi123 => kit_is)
    (case yi124 => kit_is)
    (case yi125 => kit_is)
    (case yi126 => kit_is)
    (case yi127 => kit_is)
    (case yi128 => kit_is)
    (case yi129 => kit_is)
    (case yi130 => kit_is)
    (case yi131 => kit_is)
    (case yi132 => kit_is)
    (case yi133 => kit_is)
    (case yi134 => kit_is)
    (case yi135 => kit_is)
    (case yi136 => kit_is)
    (case yi137 => kit_is)
    (case yi138 => kit_is)
    (case yi139 => kit_is)
    (case yi140 => kit_is)
    (case yi141 => kit_is)
    (case yi142 => kit_is)
    (case yi143 => kit_is)
    (case yi144 => kit_is)
    (case yi145 => kit_is)
    (case yi146 => kit_is)
    (case yi147 => kit_is)
    (case yi148 => kit_is)
    (case yi149 => kit_is)
    (case yi150 => kit_is)
    (case yi151 => kit_is)
    (case yi152 => kit_is)
    (case yi153 => kit_is)
    (case yi154 => kit_is)
    (case yi155 => kit_is)
    (case yi156 => kit_is)
    (case yi157 => kit_is)
    (case yi158 => kit_is)
    (case yi159 => kit_is)
    (case yi160 => kit_is)
    (case yi161 => kit_is)
    (case yi162 => kit_is)
    (case yi163 => kit_is)
    (case yi164 => kit_is)
    (case yi165 => kit_is)
    (case yi166 => kit_is)
    (case yi167 => kit_is)
    (case yi168 => kit_is)
    (case yi169 => kit_is)
    (case yi170 => kit_is)
    (case yi171 => kit_is)
    (case yi172 => kit_is)
    (case yi173 => kit_is)
    (case yi174 => kit_is)
    (case yi175 => kit_is)
    (case yi176 => kit_is)
    (case yi177 => kit_is)
    (case yi178 => kit_is)
    (case yi179 => kit_is)
    (case yi180 => kit_is)
    (case yi181 => kit_is)
    (case yi182 => kit_is)
    (case yi183 => kit_is)
    (case yi184 => kit_is)
    (case yi185 => kit_is)
    (case yi186 => kit_is)
    (case yi187 => kit_is)
    (case yi188 => kit_is)
    (case yi189 => kit_is)
    (case yi190 => kit_is)
    (case yi191 => kit_is)
    (case yi192 => kit_is)
    (case yi193 => kit_is)
    (case yi194 => kit_is)
    (case yi195 => kit_is)
    (case yi196 => kit_is)
    (case yi197 => kit_is)
    (case yi198 => kit_is)
    (case yi199 => kit_is)
    (case yi200 => kit_is)
    (case yi201 => kit_is)
    (case yi202 => kit_is)
    (case yi203 => kit_is)
    (case yi204 => kit_is)
    (case yi205 => kit_is)
    (case yi206 => kit_is)
    (case yi207 => kit_is)
    (case yi208 => kit_is)
    (case yi209 => kit_is)
    (case yi210 => kit_is)
    (case yi211 => kit_is)
    (case yi212 => kit_is)
    (case yi213 => kit_is)
    (case yi214 => kit_is)
    (case yi215 => kit_is)
    (case yi216 => kit_is)
    (case yi217 => kit_is)
    (case yi218 => kit_is)
    (case yi219 => kit_is)
    (case yi220 => kit_is)
    (case yi221 => kit_is)
    (case yi222 => kit_is)
    (case yi223 => kit_is)
    (case yi224 => kit_is)
    (case yi225 => kit_is)
    (case yi226 => kit_is)
    (case yi227 => kit_is)
    (case yi228 => kit_is)
    (case yi229 => kit_is)
    (case yi230 => kit_is)
    (case yi231 => kit_is)
    (case yi232 => kit_is)
    (case yi233 => kit_is)
    (case yi234 => kit_is)
    (case yi235 => kit_is)
    (case yi236 => kit_is)
    (case yi237 => kit_is)
    (case yi238 => kit_is)
    (case yi239 => kit_is)
    (case yi240 => kit_is)
    (case yi241 => kit_is)
    (case yi242 => kit_is)
    (case yi243 => kit_is)
    (case yi244 => kit_is)
    (case yi245 => kit_is)
    (case yi246 => kit_is)
    (case yi247 => kit_is)
    (case yi248 => kit_is)
    (case yi249 => kit_is)
    (case yi250 => kit_is)
    (case yi251 => kit_is)
    (case yi252 => kit_is)
    (case yi253 => kit_is)
    (case yi254 => kit_is)
    (case yi255 => kit_is)
    (case yi256 => kit_is)
    (case yi257 => kit_is)
    (case yi258 => kit_is)
    (case yi259 => kit_is)
    (case yi260 => kit_is)
    (case yi261 => kit_is)
    (case yi262 => kit_is)
    (case yi263 => kit_is)
    (case yi264 => kit_is)
    (case yi265 => kit_is)
    (case yi266 => kit_is)
    (case yi267 => kit_is)
    (case yi268 => kit_is)
    (case yi269 => kit_is)
    (case yi270 => kit_is)
    (case yi271 => kit_is)
    (case yi272 => kit_is)
    (case yi273 => kit_is)
    (case yi274 => kit_is)
    (case yi275 => kit_is)
    (case yi276 => kit_is)
    (case yi277 => kit_is)
    (case yi278 => kit_is)
    (case yi279 => kit_is)
    (case yi280 => kit_is)
    (case yi281 => kit_is)
    (case yi282 => kit_is)
    (case yi283 => kit_is)
    (case yi284 => kit_is)
    (case yi285 => kit_is)
    (case yi286 => kit_is)
    (case yi287 => kit_is)
    (case yi288 => kit_is)
    (case yi289 => kit_is)
    (case yi290 => kit_is)
    (case yi291 => kit_is)
    (case yi292 => kit_is)
    (case yi293 => kit_is)
    (case yi294 => kit_is)
    (case yi295 => kit_is)
    (case yi296 => kit_is)
    (case yi297 => kit_is)
    (case yi298 => kit_is)
    (case yi299 => kit_is)
    (case yi300 => kit_is)
    (case yi301 => kit_is)
    (case yi302 => kit_is)
    (case yi303 => kit_is)
    (case yi304 => kit_is)
    (case yi305 => kit_is)
    (case yi306 => kit_is)
    (case yi307 => kit_is)
    (case yi308 => kit_is)
    (case yi309 => kit_is)
    (case yi310 => kit_is)
    (case yi311 => kit_is)
    (case yi312 => kit_is)
    (case yi313 => kit_is)
    (case yi314 => kit_is)
    (case yi315 => kit_is)
    (case yi316 => kit_is)
    (case yi317 => kit_is)
    (case yi318 => kit_is)
    (case yi319 => kit_is)
    (case yi320 => kit_is)
    (case yi321 => kit_is)
    (case yi322 => kit_is)
    (case yi323 => kit_is)
    (case yi324 => kit_is)
    (case yi325 => kit_is)
    (case yi326 => kit_is)
    (case yi327 => kit_is)
    (case yi328 => kit_is)
    (case yi329 => kit_is)
    (case yi330 => kit_is)
    (case yi331 => kit_is)
    (case yi332 => kit_is)
    (case yi333 => kit_is)
    (case yi334 => kit_is)
    (case yi335 => kit_is)
    (case yi336 => kit_is)
    (case yi337 => kit_is)
    (case yi338 => kit_is)
    (case yi339 => kit_is)
    (case yi340 => kit_is)
    (case yi341 => kit_is)
    (case yi342 => kit_is)
    (case yi343 => kit_is)
    (case yi344 => kit_is)
    (case yi345 => kit_is)
    (case yi346 => kit_is)
    (case yi347 => kit_is)
    (case yi348 => kit_is)
    (case yi349 => kit_is)
    (case yi350 => kit_is)
    (case yi351 => kit_is)
    (case z0 => as_aux_lemma => k_is)
    (case z1 => as_aux_lemma => k_is)
    (case z2 => as_aux_lemma => k_is)
    (case z3 => as_aux_lemma => k_is)
    (case z4 => as_aux_lemma => k_is)
    (case z5 => as_aux_lemma => k_is)
    (case z6 => as_aux_lemma => k_is)
    (case z7 => as_aux_lemma => k_is)
    (case z8 => as_aux_lemma => k_is)
    (case z9 => as_aux_lemma => k_is)
    (case z10 => as_aux_lemma => k_is)
    (case z11 => as_aux_lemma => k_is)

