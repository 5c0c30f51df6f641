import PyProof.Rows.All
import HandS.ForMost
import HandS.ForExc
import HandS.TupAny
import HandS.Lambda
import KE.KeyNested
import HandS.Wide
import HandS.Deep
import KE.SortData
import KE.DataCmp
import HandS.IsInst
import HandS.ExcIs
import HandS.Gcd
import HandS.Flow
import HandS.SetFor
import HandS.TupSets
import HandS.Style
import HandS.RaiseMore
import HandS.Conv
import HandS.DictComp
import HandS.Iter
import KE.GoesEnum
import KE.KExcSuper
import HandS.ExcInit
import HandS.ExcField
import HandS.EndOwn
import HandS.WordsExc
import KE.KNestM
import HandS.TupMul
import KE.KDictCopyH
import HandS.TupLen
import HandS.SetTxt0
import HandS.HotCalls
import PySem.Challenge.RW_tableguild_k17_trees_of_parts_are_checke
set_option Elab.async false
set_option linter.all false
set_option maxRecDepth 100000
set_option maxHeartbeats 4000000
/-! A layer of our own: data by content, mutable things by address. Part 1: states, judgements. -/
namespace DL
open PySem PySem.Spec PyProof.Rows L2

/-- a value: data by content, or a mutable thing by its address -/
inductive DV where
  | d (x : PyData)
  | r (a : Addr)

/-- a mutable thing -/
inductive MO where
  | ls (xs : List PyData)
  | lv (xs : List DV)
  | dk (kvs : List (Key × DV))
  | dl (kvs : List (Key × DV))
  | ins (C dx : Addr) (fs : List (Str × DV))
  | tb (q : Str)
  | dt (P : Program) (w : World) (a : Addr) (kvs : List (NestedKey × DV))

abbrev MHp := Addr → Option MO
abbrev Hid := Addr → Bool
def mu (M : MHp) (a : Addr) (o : MO) : MHp := fun b => if b = a then some o else M b
theorem mu_same {M : MHp} {a : Addr} {o : MO} : mu M a o a = some o := by unfold mu; rw [if_pos rfl]
theorem mu_ne {M : MHp} {a b : Addr} {o : MO} (h : b ≠ a) : mu M a o b = M b := by unfold mu; rw [if_neg h]
theorem mu_mu {M : MHp} {a : Addr} {o u : MO} : mu (mu M a o) a u = mu M a u := by
  funext b; unfold mu; split <;> rfl
theorem mu_comm {M : MHp} {a b : Addr} {o u : MO} (h : a ≠ b) : mu (mu M a o) b u = mu (mu M b u) a o := by
  funext c
  unfold mu
  by_cases h1 : c = a
  · by_cases h2 : c = b
    · exact absurd (h1.symm.trans h2) h
    · rw [if_neg h2, if_pos h1, if_pos h1]
  · by_cases h2 : c = b
    · rw [if_pos h2, if_neg h1, if_pos h2]
    · rw [if_neg h2, if_neg h1, if_neg h1, if_neg h2]

/-- all but tables of code -/
def nt : Option HO → Option HO
  | some (.tbl _) => none
  | o => o
theorem nt_some {x : Option HO} {o : HO} (h : nt x = some o) : x = some o := by
  unfold nt at h
  split at h
  · cases h
  · exact h
theorem nt_keep {H H' : Hp} {a : Addr} {o : HO} (s : ∀ o, H a = some o → (∀ ps, o ≠ .tbl ps) → H' a = some o) (h : nt (H a) = some o) : nt (H' a) = some o := by
  have e := nt_some h
  rw [e] at h
  rw [s o e (fun ps z => by rw [z] at h; cases h)]
  exact h
theorem nt_ne {x : Option HO} (h : nt x ≠ none) : ∃ o, x = some o ∧ ∀ ps, o ≠ .tbl ps := by
  cases x with
  | none => exact absurd rfl h
  | some o => exact ⟨o, rfl, fun ps z => by rw [z] at h; exact h rfl⟩
/-- what may be hidden -/
def nt2 : Option HO → Option HO
  | some (.tbl _) => none
  | some (.ext _) => none
  | o => o
theorem nt2_ne {x : Option HO} (h : nt2 x ≠ none) : ∃ o, x = some o ∧ (∀ ps, o ≠ .tbl ps) ∧ ∀ φ, o ≠ .ext φ := by
  cases x with
  | none => exact absurd rfl h
  | some o => exact ⟨o, rfl, fun ps z => by rw [z] at h; exact h rfl, fun φ z => by rw [z] at h; exact h rfl⟩
/-- what never changes -/
def isMu : Option MO → Bool
  | none => false
  | some (.dl _) => false
  | some _ => true
def fz (M : MHp) (N : Hid) (H : Hp) : Hp := fun a => if N a = true then none else if isMu (M a) = true then none else nt (H a)

mutual
theorem dp_mono {K : PySem.W.Frag} {F G : Hp} (s : Same F G) : ∀ (d : PyData) (v : V), Dp K F v d → Dp K G v d
  | .none, _, h => by cases h; exact .non
  | .bool _, _, h => by cases h; exact .bl _
  | .int _, _, h => by cases h; exact .int _
  | .str _, _, h => by cases h; exact .str _
  | .list ds, _, h => by
    cases h with
    | lst h1 h2 => exact .lst (s.seq h1) (dpAll_mono s ds _ h2)
  | .tuple ds, _, h => by
    cases h with
    | tup h1 h2 =>
      refine .tup ?_ (dpAll_mono s ds _ h2)
      rcases h1 with (h | ⟨o, h⟩) | h
      · exact .inl (.inl (s _ _ h))
      · exact .inl (.inr ⟨o, s _ _ h⟩)
      · exact .inr h
  | .dict _, _, h => by cases h
theorem dpAll_mono {K : PySem.W.Frag} {F G : Hp} (s : Same F G) : ∀ (ds : List PyData) (vs : List V), DpAll K F vs ds → DpAll K G vs ds
  | [], _, h => by cases h; exact .nil
  | d :: ds, _, h => by
    cases h with
    | cons h1 h2 => exact .cons (dp_mono s d _ h1) (dpAll_mono s ds _ h2)
end
theorem dpAll_len {K : PySem.W.Frag} {F : Hp} : ∀ {vs : List V} {ds : List PyData}, DpAll K F vs ds → vs.length = ds.length
  | _, [], h => by cases h; rfl
  | _, _ :: _, h => by
    cases h with
    | cons h1 h2 => simp [dpAll_len h2]
theorem dpAll_get {K : PySem.W.Frag} {F : Hp} : ∀ {vs : List V} {ds : List PyData} {i : Nat} {d : PyData}, DpAll K F vs ds → ds[i]? = some d → ∃ v, vs[i]? = some v ∧ Dp K F v d
  | _, [], i, d, h, e => by simp at e
  | _, _ :: _, i, d, h, e => by
    cases h with
    | cons h1 h2 =>
      cases i with
      | zero => simp at e; subst e; exact ⟨_, rfl, h1⟩
      | succ i =>
        obtain ⟨v, q1, q2⟩ := dpAll_get (i := i) h2 (by simpa using e)
        exact ⟨v, by simpa using q1, q2⟩
theorem dpAll_get' {K : PySem.W.Frag} {F : Hp} {vs : List V} {ds : List PyData} {i : Nat} {v : V} (h : DpAll K F vs ds) (e : vs[i]? = some v) : ∃ d, ds[i]? = some d ∧ Dp K F v d := by
  obtain ⟨hi, _⟩ := List.getElem?_eq_some_iff.mp e
  have hi' : i < ds.length := by rw [← dpAll_len h]; exact hi
  obtain ⟨v', q1, q2⟩ := dpAll_get h (List.getElem?_eq_getElem hi')
  rw [e] at q1
  cases q1
  exact ⟨_, List.getElem?_eq_getElem hi', q2⟩
theorem dpAll_app {K : PySem.W.Frag} {F : Hp} : ∀ {vs ws : List V} {ds es : List PyData}, DpAll K F vs ds → DpAll K F ws es → DpAll K F (vs ++ ws) (ds ++ es)
  | _, _, [], _, h, g => by cases h; exact g
  | _, _, _ :: _, _, h, g => by
    cases h with
    | cons h1 h2 => exact .cons h1 (dpAll_app h2 g)
theorem dpAll_drop {K : PySem.W.Frag} {F : Hp} : ∀ {vs : List V} {ds : List PyData} (n : Nat), DpAll K F vs ds → DpAll K F (vs.drop n) (ds.drop n)
  | _, _, 0, h => h
  | _, [], n + 1, h => by cases h; exact .nil
  | _, _ :: _, n + 1, h => by
    cases h with
    | cons h1 h2 => exact dpAll_drop n h2
theorem dpAll_take {K : PySem.W.Frag} {F : Hp} : ∀ {vs : List V} {ds : List PyData} (n : Nat), DpAll K F vs ds → DpAll K F (vs.take n) (ds.take n)
  | _, _, 0, h => by simpa using DpAll.nil
  | _, [], n + 1, h => by cases h; exact .nil
  | _, _ :: _, n + 1, h => by
    cases h with
    | cons h1 h2 => exact .cons h1 (dpAll_take n h2)
theorem dpAll_set {K : PySem.W.Frag} {F : Hp} {v : V} {d : PyData} (hv : Dp K F v d) : ∀ {vs : List V} {ds : List PyData} (n : Nat), DpAll K F vs ds → DpAll K F (vs.set n v) (ds.set n d)
  | _, [], n, h => by cases h; exact .nil
  | _, _ :: _, n, h => by
    cases h with
    | cons h1 h2 =>
      cases n with
      | zero => exact .cons hv h2
      | succ n => exact .cons h1 (dpAll_set hv n h2)
theorem dpAll_rev {K : PySem.W.Frag} {F : Hp} : ∀ {vs : List V} {ds : List PyData}, DpAll K F vs ds → DpAll K F vs.reverse ds.reverse
  | _, [], h => by cases h; exact .nil
  | _, _ :: _, h => by
    cases h with
    | cons h1 h2 =>
      rw [List.reverse_cons, List.reverse_cons]
      exact dpAll_app (dpAll_rev h2) (.cons h1 .nil)

/-- v stands for the value, in the heap of what never changes -/
def IsD (K : PySem.W.Frag) (F : Hp) (v : V) : DV → Prop
  | .d x => Dp K F v x
  | .r a => v = .ref a
theorem isD_mono {K : PySem.W.Frag} {F G : Hp} (s : Same F G) {v : V} : ∀ {x : DV}, IsD K F v x → IsD K G v x
  | .d x, h => dp_mono s x v h
  | .r _, h => h
abbrev AreD (K : PySem.W.Frag) (F : Hp) : List V → List DV → Prop := Paired (IsD K F)
theorem areD_mono {K : PySem.W.Frag} {F G : Hp} (s : Same F G) {vs : List V} {xs : List DV} (h : AreD K F vs xs) : AreD K G vs xs := Paired.mapP h fun _ _ => isD_mono s
/-- at a: a dict whose keys are tuples, nested or not -/
def DtP (P : Program) (w : World) (a : Addr) (xs : List (NestedKey × Addr × V)) (h : Heap) : Prop := (a == sysModules) = false ∧ xs.length ≤ sizeLine ∧ ∃ ys : List (NestedKey × Addr × Value), Paired (fun (p : NestedKey × Addr × V) (q : NestedKey × Addr × Value) => p.1 = q.1 ∧ p.2.1 = q.2.1 ∧ RelV p.2.2 q.2.2) xs ys ∧
  ∃ o es ep, h.get? a = some o ∧ o.ExactDict ∧ o.data = .dict es ep ∧ es.toList = ys.map (entryOfKey (nestedKind P w)) ∧ (ys.map (·.1)).Nodup
def dtO (P : Program) (w : World) (a : Addr) (xs : List (NestedKey × Addr × V)) : HO := .ext (DtP P w a xs)
def ObjD (K : PySem.W.Frag) (F : Hp) : HO → MO → Prop
  | .lst vs, .ls ds => DpAll K F vs ds
  | .lst vs, .lv ds => AreD K F vs ds
  | .dK a, .dk b => Paired (fun (p : Key × V) (q : Key × DV) => p.1 = q.1 ∧ IsD K F p.2 q.2) a b
  | .ins C dx fs, .ins C' dx' gs => C = C' ∧ dx = dx' ∧ Paired (fun (p : Str × V) (q : Str × DV) => p.1 = q.1 ∧ IsD K F p.2 q.2) fs gs
  | o, .dl b => ∃ ob a, o = .frz ob (.dK a) ∧ Paired (fun (p : Key × V) (q : Key × DV) => p.1 = q.1 ∧ IsD K F p.2 q.2) a b
  | o, .dt P w a kvs => ∃ xs, o = dtO P w a xs ∧ Paired (fun (p : NestedKey × Addr × V) (q : NestedKey × DV) => p.1 = q.1 ∧ Dp K F (.ref p.2.1) p.1.data ∧ p.1.depth ≤ 8 ∧ IsD K F p.2.2 q.2) xs kvs
  | .tbl ps, .tb q => TriplesOk ps.toList ∧ ∀ (pos : Pos) (cv : Value), codeAmong pos ps.toList = some cv → ∃ c, cv = .ref c ∧ F c = some (LamX.CodeO c q)
  | _, _ => False
theorem objD_mono {K : PySem.W.Frag} {F G : Hp} (s : Same F G) {h : HO} {o : MO} (x : ObjD K F h o) : ObjD K G h o := by
  cases o with
  | ls ds =>
    cases h with
    | lst vs => exact dpAll_mono s ds vs x
    | _ => exact x.elim
  | lv ds =>
    cases h with
    | lst vs => exact areD_mono s x
    | _ => exact x.elim
  | dk ds =>
    cases h with
    | dK vs => exact Paired.mapP (show Paired _ _ _ from x) fun _ _ z => ⟨z.1, isD_mono s z.2⟩
    | _ => exact x.elim
  | dl ds =>
    have go : (∃ ob a, h = .frz ob (.dK a) ∧ Paired (fun (p : Key × V) (q : Key × DV) => p.1 = q.1 ∧ IsD K F p.2 q.2) a ds) → ∃ ob a, h = .frz ob (.dK a) ∧ Paired (fun (p : Key × V) (q : Key × DV) => p.1 = q.1 ∧ IsD K G p.2 q.2) a ds :=
      fun ⟨ob, a, e, p⟩ => ⟨ob, a, e, Paired.mapP p fun _ _ z => ⟨z.1, isD_mono s z.2⟩⟩
    cases h <;> exact go x
  | ins C dx fs =>
    cases h with
    | ins C' dx' gs => exact ⟨x.1, x.2.1, Paired.mapP x.2.2 fun _ _ z => ⟨z.1, isD_mono s z.2⟩⟩
    | _ => exact x.elim
  | dt P w a kvs =>
    have go : (∃ xs, h = dtO P w a xs ∧ Paired (fun (p : NestedKey × Addr × V) (q : NestedKey × DV) => p.1 = q.1 ∧ Dp K F (.ref p.2.1) p.1.data ∧ p.1.depth ≤ 8 ∧ IsD K F p.2.2 q.2) xs kvs) → ∃ xs, h = dtO P w a xs ∧ Paired (fun (p : NestedKey × Addr × V) (q : NestedKey × DV) => p.1 = q.1 ∧ Dp K G (.ref p.2.1) p.1.data ∧ p.1.depth ≤ 8 ∧ IsD K G p.2.2 q.2) xs kvs :=
      fun ⟨xs, e, p⟩ => ⟨xs, e, Paired.mapP p fun _ _ z => ⟨z.1, dp_mono s _ _ z.2.1, z.2.2.1, isD_mono s z.2.2.2⟩⟩
    cases h <;> exact go x
  | tb q =>
    cases h with
    | tbl ps => exact ⟨x.1, fun pos cv e => let ⟨c, e1, e2⟩ := x.2 pos cv e; ⟨c, e1, s _ _ e2⟩⟩
    | _ => exact x.elim

structure HRel (K : PySem.W.Frag) (M : MHp) (N : Hid) (H : Hp) : Prop where
  obj : ∀ a o, M a = some o → ∃ h, H a = some h ∧ ObjD K (fz M N H) h o
  hid : ∀ a, N a = true → M a = none ∧ nt2 (H a) ≠ none
structure Af (M : MHp) (N : Hid) (H : Hp) (M' : MHp) (H' : Hp) : Prop where
  fr : Same (fz M N H) (fz M' N H')
  hd : ∀ a, N a = true → H' a = H a
theorem Af.refl {M : MHp} {N : Hid} {H : Hp} : Af M N H M H := ⟨Same.refl _, fun _ _ => rfl⟩
theorem Af.trans {M M1 M2 : MHp} {N : Hid} {H H1 H2 : Hp} (a : Af M N H M1 H1) (b : Af M1 N H1 M2 H2) : Af M N H M2 H2 :=
  ⟨a.fr.trans b.fr, fun c h => (b.hd c h).trans (a.hd c h)⟩
def SRel (K : PySem.W.Frag) (F : Hp) (σ : L2.St) (ρ : List (Option DV)) : Prop :=
  σ.length = ρ.length ∧ ∀ (i : Nat) (x : DV), ρ[i]? = some (some x) → ∃ v, σ[i]? = some (some v) ∧ IsD K F v x
theorem SRel.mono {K : PySem.W.Frag} {F G : Hp} (s : Same F G) {σ : L2.St} {ρ : List (Option DV)} (h : SRel K F σ ρ) : SRel K G σ ρ :=
  ⟨h.1, fun i x e => let ⟨v, h1, h2⟩ := h.2 i x e; ⟨v, h1, isD_mono s h2⟩⟩
theorem SRel.set {K : PySem.W.Frag} {F : Hp} {σ : L2.St} {ρ : List (Option DV)} (h : SRel K F σ ρ) {v : V} {x : DV} (hv : IsD K F v x) (i : Nat) : SRel K F (σ.set i (some v)) (ρ.set i (some x)) := by
  refine ⟨by rw [List.length_set, List.length_set]; exact h.1, fun j y e => ?_⟩
  by_cases hj : i = j
  · subst hj
    by_cases hi : i < ρ.length
    · rw [List.getElem?_set_self hi] at e
      cases e
      exact ⟨v, by rw [List.getElem?_set_self (by rw [h.1]; exact hi)], hv⟩
    · rw [List.getElem?_eq_none (by rw [List.length_set]; omega)] at e; cases e
  · rw [List.getElem?_set_ne hj] at e
    obtain ⟨w, e1, e2⟩ := h.2 j y e
    exact ⟨w, by rw [List.getElem?_set_ne hj]; exact e1, e2⟩
/-- slots forgotten -/
theorem SRel.setNone {K : PySem.W.Frag} {F : Hp} {σ : L2.St} {ρ : List (Option DV)} (h : SRel K F σ ρ) (x : Option V) (i : Nat) : SRel K F (σ.set i x) (ρ.set i none) := by
  refine ⟨by rw [List.length_set, List.length_set]; exact h.1, fun j y e => ?_⟩
  by_cases hj : i = j
  · subst hj
    by_cases hi : i < ρ.length
    · rw [List.getElem?_set_self hi] at e
      cases e
    · rw [List.getElem?_eq_none (by rw [List.length_set]; omega)] at e; cases e
  · rw [List.getElem?_set_ne hj] at e
    obtain ⟨w, e1, e2⟩ := h.2 j y e
    exact ⟨w, by rw [List.getElem?_set_ne hj]; exact e1, e2⟩

/-- an exception: its class, its attributes -/
structure XD where
  cls : Value
  fs : Option (List (Str × PyData)) := none
def ExD (K : PySem.W.Frag) (F : Hp) (x : XD) (d : Option Addr) : Prop := match x.fs with
  | none => d = none
  | some gs => ∃ dd fs, d = some dd ∧ F dd = some (.xd fs) ∧ Paired (fun (p : Str × V) (q : Str × PyData) => p.1 = q.1 ∧ Dp K F p.2 q.2) fs gs
theorem exD_mono {K : PySem.W.Frag} {F G : Hp} (s : Same F G) {x : XD} {d : Option Addr} (h : ExD K F x d) : ExD K G x d := by
  unfold ExD at h ⊢
  split at h
  · exact h
  · obtain ⟨dd, fs, h1, h2, h3⟩ := h
    exact ⟨dd, fs, h1, s _ _ h2, Paired.mapP h3 fun _ _ z => ⟨z.1, dp_mono s _ _ z.2⟩⟩

abbrev DEnv := List (Option DV)
abbrev DK := DV → MHp → Prop
abbrev DX := XD → MHp → Prop
/-- readings: an expression's, a test's, an argument list's -/
abbrev DTE := DEnv → MHp → DK → DX → Prop
abbrev DTT := DEnv → MHp → (Bool → MHp → Prop) → DX → Prop
abbrev DTA := DEnv → MHp → (List DV → MHp → Prop) → DX → Prop

/-- where the exceptional end is reached -/
def XEnd (K : PySem.W.Frag) (W : WX) (σ : L2.St) (M : MHp) (N : Hid) (H : Hp) (PX : DX) : Prop :=
  ∀ x M' d H', PX x M' → HRel K M' N H' → Af M N H M' H' → ExD K (fz M' N H') x d → W x.cls d σ H'
theorem XEnd.step {K : PySem.W.Frag} {W : WX} {σ : L2.St} {M M1 : MHp} {N : Hid} {H H1 : Hp} {PX : DX} (h : XEnd K W σ M N H PX) (a : Af M N H M1 H1) : XEnd K W σ M1 N H1 PX :=
  fun x M' d H' p hr af ex => h x M' d H' p hr (a.trans af) ex

def LE (K : PySem.W.Frag) (W : WX) (t : DTE) : TE := fun σ H Q => ∃ ρ M N P PX, SRel K (fz M N H) σ ρ ∧ HRel K M N H ∧ t ρ M P PX ∧
  (∀ x M' v H', P x M' → HRel K M' N H' → Af M N H M' H' → IsD K (fz M' N H') v x → Q v H') ∧ XEnd K W σ M N H PX
def LT (K : PySem.W.Frag) (W : WX) (t : DTT) : TT := fun σ H Q => ∃ ρ M N P PX, SRel K (fz M N H) σ ρ ∧ HRel K M N H ∧ t ρ M P PX ∧
  (∀ b M' H', P b M' → HRel K M' N H' → Af M N H M' H' → Q b H') ∧ XEnd K W σ M N H PX
def LA (K : PySem.W.Frag) (W : WX) (t : DTA) : TA := fun σ H Q => ∃ ρ M N P PX, SRel K (fz M N H) σ ρ ∧ HRel K M N H ∧ t ρ M P PX ∧
  (∀ xs M' vs H', P xs M' → HRel K M' N H' → Af M N H M' H' → AreD K (fz M' N H') vs xs → Q vs H') ∧ XEnd K W σ M N H PX

structure DE (X : Cx) (W : WX) (e : Expr) (t : DTE) : Prop where
  pe : PE X e (LE X.K W t)
structure DT (X : Cx) (W : WX) (e : Expr) (t : DTT) : Prop where
  pt : PT X e (LT X.K W t)
structure DA (X : Cx) (W : WX) (es : List Expr) (t : DTA) : Prop where
  pa : PA X es (LA X.K W t)

theorem PE.imp {X : Cx} {e : Expr} {t u : TE} (h : PE X e t) (i : ∀ σ H Q, u σ H Q → t σ H Q) : PE X e u := ⟨fun pins s σ H Q I q => h.run pins s σ H Q I (i σ H Q q)⟩
theorem PT.imp {X : Cx} {e : Expr} {t u : TT} (h : PT X e t) (i : ∀ σ H Q, u σ H Q → t σ H Q) : PT X e u := ⟨fun pins s σ H Q I q => h.run pins s σ H Q I (i σ H Q q)⟩
theorem PA.imp {X : Cx} {e : List Expr} {t u : TA} (h : PA X e t) (i : ∀ σ H Q, u σ H Q → t σ H Q) : PA X e u := ⟨fun pos pins s σ H Q I q => h.run pos pins s σ H Q I (i σ H Q q)⟩
theorem PS.imp {X : Cx} {e : Stmt} {t u : TS} (h : PS X e t) (i : ∀ D σ H, u D σ H → t D σ H) : PS X e u := ⟨fun pins s σ H D I q => h.run pins s σ H D I (i D σ H q)⟩
theorem PSs.imp {X : Cx} {e : List Stmt} {t u : TS} (h : PSs X e t) (i : ∀ D σ H, u D σ H → t D σ H) : PSs X e u := ⟨fun pins s σ H D I q => h.run pins s σ H D I (i D σ H q)⟩

/-- what is wanted behind a statement -/
structure DEnds where
  nx : DEnv → MHp → Prop
  rt : DK
  ex : XD → DEnv → MHp → Prop := fun _ _ _ => False
  bk : DEnv → MHp → Prop := fun _ _ => False
  ct : DEnv → MHp → Prop := fun _ _ => False
abbrev DTS := DEnds → DEnv → MHp → Prop

/-- the ends of the abstract heap are those of ours -/
structure EndsOk (K : PySem.W.Frag) (W : WX) (M : MHp) (N : Hid) (H : Hp) (E : DEnds) (D : Ends) : Prop where
  nx : ∀ ρ' M' σ' H', E.nx ρ' M' → SRel K (fz M' N H') σ' ρ' → HRel K M' N H' → Af M N H M' H' → D.nx σ' H'
  rt : ∀ x M' v H', E.rt x M' → HRel K M' N H' → Af M N H M' H' → IsD K (fz M' N H') v x → D.rt v H'
  bk : ∀ ρ' M' σ' H', E.bk ρ' M' → SRel K (fz M' N H') σ' ρ' → HRel K M' N H' → Af M N H M' H' → D.bk σ' H'
  ct : ∀ ρ' M' σ' H', E.ct ρ' M' → SRel K (fz M' N H') σ' ρ' → HRel K M' N H' → Af M N H M' H' → D.ct σ' H'
  ex : ∀ x ρ' M' d σ' H', E.ex x ρ' M' → SRel K (fz M' N H') σ' ρ' → HRel K M' N H' → Af M N H M' H' → ExD K (fz M' N H') x d → W x.cls d σ' H'
theorem EndsOk.step {K : PySem.W.Frag} {W : WX} {M M1 : MHp} {N : Hid} {H H1 : Hp} {E : DEnds} {D : Ends} (h : EndsOk K W M N H E D) (a : Af M N H M1 H1) : EndsOk K W M1 N H1 E D :=
  ⟨fun ρ' M' σ' H' e s r f => h.nx ρ' M' σ' H' e s r (a.trans f), fun x M' v H' e r f i => h.rt x M' v H' e r (a.trans f) i, fun ρ' M' σ' H' e s r f => h.bk ρ' M' σ' H' e s r (a.trans f),
    fun ρ' M' σ' H' e s r f => h.ct ρ' M' σ' H' e s r (a.trans f), fun x ρ' M' d σ' H' e s r f i => h.ex x ρ' M' d σ' H' e s r (a.trans f) i⟩
/-- another continuation -/
theorem EndsOk.next {K : PySem.W.Frag} {W : WX} {M : MHp} {N : Hid} {H : Hp} {E : DEnds} {D : Ends} (h : EndsOk K W M N H E D) {n : DEnv → MHp → Prop} {n' : L2.St → Hp → Prop}
    (hn : ∀ ρ' M' σ' H', n ρ' M' → SRel K (fz M' N H') σ' ρ' → HRel K M' N H' → Af M N H M' H' → n' σ' H') : EndsOk K W M N H { E with nx := n } { D with nx := n' } :=
  ⟨hn, h.rt, h.bk, h.ct, h.ex⟩
/-- an expression's exceptional end, from a statement's -/
theorem EndsOk.xend {K : PySem.W.Frag} {W : WX} {M : MHp} {N : Hid} {H : Hp} {E : DEnds} {D : Ends} (h : EndsOk K W M N H E D) {σ : L2.St} {ρ : DEnv} (s : SRel K (fz M N H) σ ρ) : XEnd K W σ M N H (fun x M' => E.ex x ρ M') :=
  fun x M' d H' p hr af ed => h.ex x ρ M' d σ H' p (s.mono af.fr) hr af ed

def LS (K : PySem.W.Frag) (W : WX) (t : DTS) : TS := fun D σ H => ∃ ρ M N E, SRel K (fz M N H) σ ρ ∧ HRel K M N H ∧ t E ρ M ∧ EndsOk K W M N H E D
structure DS (X : Cx) (W : WX) (st : Stmt) (t : DTS) : Prop where
  ps : PS X st (LS X.K W t)
structure DSs (X : Cx) (W : WX) (st : List Stmt) (t : DTS) : Prop where
  ps : PSs X st (LS X.K W t)

/-! ### heaps -/
section
variable {K : PySem.W.Frag} {M M' : MHp} {N : Hid} {H H' : Hp} {a : Addr}
theorem fz_sub : Same (fz M N H) H := fun b o e => by
  unfold fz at e
  split at e
  · cases e
  · split at e
    · cases e
    · exact nt_some e
theorem fz_at (hn : N a = false) (hm : M a = none) : fz M N H a = nt (H a) := by
  unfold fz
  rw [if_neg (by rw [hn]; exact Bool.false_ne_true), hm]
  rfl
theorem HRel.free (h : HRel K M N H) (e : H a = none) : M a = none ∧ N a = false := by
  constructor
  · cases q : M a with
    | none => rfl
    | some o =>
      obtain ⟨x, e1, _⟩ := h.obj a o q
      rw [e] at e1; cases e1
  · cases q : N a with
    | false => rfl
    | true => exact absurd (by rw [e]; rfl) (h.hid a q).2
/-- the heap has grown, but for the tables -/
theorem Af.growN (h : HRel K M N H) (s : ∀ b o, H b = some o → (∀ ps, o ≠ .tbl ps) → H' b = some o) : Af M N H M H' := by
  refine ⟨fun b o e => ?_, fun b hb => ?_⟩
  · unfold fz at e ⊢
    by_cases hb : N b = true
    · rw [if_pos hb] at e; cases e
    · rw [if_neg hb] at e ⊢
      by_cases hm : isMu (M b) = true
      · rw [if_pos hm] at e; cases e
      · rw [if_neg hm] at e ⊢
        exact nt_keep (s b) e
  · obtain ⟨o, e1, e2, _⟩ := nt2_ne (h.hid b hb).2
    rw [e1]
    exact s b o e1 e2
/-- the heap has grown -/
theorem Af.grow (h : HRel K M N H) (s : Same H H') : Af M N H M H' := Af.growN h fun b o e _ => s b o e
theorem HRel.grow (h : HRel K M N H) (s : Same H H') : HRel K M N H' := by
  refine ⟨fun b o e => ?_, fun b hb => ⟨(h.hid b hb).1, fun z => ?_⟩⟩
  · obtain ⟨x, h1, h2⟩ := h.obj b o e
    exact ⟨x, s _ _ h1, objD_mono (Af.grow h s).fr h2⟩
  · have := (Af.grow h s).hd b hb
    rw [this] at z
    exact (h.hid b hb).2 z
theorem same_new {o : HO} (h : H a = none) : Same H (upd H a o) := fun b x e => by
  rw [upd_ne (ne_of_none e h)]
  exact e
/-- a new thing that never changes -/
theorem fz_new (h : HRel K M N H) (e : H a = none) {o : HO} (ho : nt (some o) = some o := by rfl) : fz M N (upd H a o) a = some o := by
  obtain ⟨h1, h2⟩ := h.free e
  rw [fz_at h2 h1, upd_same]
  exact ho
/-- a mutable thing is written, or a new one laid -/
theorem HRel.put (h : HRel K M N H) {o : HO} {x : MO} (hn : N a = false) (hnew : isMu (M a) = true ∨ H a = none) (ho : ObjD K (fz M N H) o x) : HRel K (mu M a x) N (upd H a o) ∧ Af M N H (mu M a x) (upd H a o) := by
  have af : Af M N H (mu M a x) (upd H a o) := by
    refine ⟨fun b u e => ?_, fun b hb => ?_⟩
    · have hba : b ≠ a := by
        rintro rfl
        rcases hnew with z | z
        · unfold fz at e
          rw [if_neg (by rw [hn]; exact Bool.false_ne_true), if_pos z] at e
          cases e
        · have := fz_sub _ _ e
          rw [z] at this; cases this
      unfold fz at e ⊢
      rw [mu_ne hba, upd_ne hba]
      exact e
    · have hba : b ≠ a := by rintro rfl; rw [hn] at hb; cases hb
      exact upd_ne hba
  refine ⟨⟨fun b u e => ?_, fun b hb => ?_⟩, af⟩
  · by_cases hba : b = a
    · subst hba
      rw [mu_same] at e
      cases e
      exact ⟨o, upd_same, objD_mono af.fr ho⟩
    · rw [mu_ne hba] at e
      obtain ⟨y, e1, e2⟩ := h.obj b u e
      exact ⟨y, by rw [upd_ne hba]; exact e1, objD_mono af.fr e2⟩
  · have hba : b ≠ a := by rintro rfl; rw [hn] at hb; cases hb
    rw [mu_ne hba, upd_ne hba]
    exact h.hid b hb
theorem HRel.notHid (h : HRel K M N H) {x : MO} (e : M a = some x) : N a = false := by
  cases q : N a with
  | false => rfl
  | true => rw [(h.hid a q).1] at e; cases e
theorem HRel.write (h : HRel K M N H) {o : HO} {x y : MO} (e : M a = some y) (ho : ObjD K (fz M N H) o x) (hy : isMu (some y) = true := by rfl) : HRel K (mu M a x) N (upd H a o) ∧ Af M N H (mu M a x) (upd H a o) :=
  h.put (h.notHid e) (.inl (by rw [e]; exact hy)) ho
theorem HRel.new (h : HRel K M N H) {o : HO} {x : MO} (e : H a = none) (ho : ObjD K (fz M N H) o x) : HRel K (mu M a x) N (upd H a o) ∧ Af M N H (mu M a x) (upd H a o) :=
  h.put (h.free e).2 (.inr e) ho

/-! ### forgetting -/
def MLe (M' M : MHp) : Prop := ∀ a o, M' a = some o → M a = some o
theorem MLe.refl : MLe M M := fun _ _ e => e
theorem MLe.trans {M1 M2 M3 : MHp} (a : MLe M1 M2) (b : MLe M2 M3) : MLe M1 M3 := fun c o e => b c o (a c o e)
theorem MLe.mu {o : MO} (h : MLe M' M) : MLe (DL.mu M' a o) (DL.mu M a o) := fun b u e => by
  unfold DL.mu at e ⊢
  split at e
  · rename_i q
    rw [if_pos q]; exact e
  · rename_i q
    rw [if_neg q]; exact h _ _ e
theorem MLe.new {o : MO} (h : MLe M' M) (n : M a = none) : MLe M' (DL.mu M a o) := fun b u e => by
  have := h b u e
  rw [mu_ne (by rintro rfl; rw [n] at this; cases this)]
  exact this
theorem fz_le (l : MLe M' M) : Same (fz M N H) (fz M' N H) := fun b o e => by
  unfold fz at e ⊢
  by_cases hb : N b = true
  · rw [if_pos hb] at e; cases e
  · rw [if_neg hb] at e ⊢
    cases q' : M' b with
    | none =>
      show nt (H b) = some o
      split at e
      · cases e
      · exact e
    | some x =>
      rw [l b x q'] at e
      exact e
theorem HRel.le (h : HRel K M N H) (l : MLe M' M) : HRel K M' N H ∧ Af M N H M' H := by
  refine ⟨⟨fun b o e => ?_, fun b hb => ⟨?_, (h.hid b hb).2⟩⟩, fz_le l, fun _ _ => rfl⟩
  · obtain ⟨x, h1, h2⟩ := h.obj b o (l b o e)
    exact ⟨x, h1, objD_mono (fz_le l) h2⟩
  · cases q : M' b with
    | none => rfl
    | some x => have := l b x q; rw [(h.hid b hb).1] at this; cases this
end
def ELe (ρ' ρ : DEnv) : Prop := ρ'.length = ρ.length ∧ ∀ (i : Nat) (x : DV), ρ'[i]? = some (some x) → ρ[i]? = some (some x)
theorem ELe.refl {ρ : DEnv} : ELe ρ ρ := ⟨rfl, fun _ _ e => e⟩
theorem SRel.le {K : PySem.W.Frag} {F : Hp} {σ : L2.St} {ρ ρ' : DEnv} (h : SRel K F σ ρ) (l : ELe ρ' ρ) : SRel K F σ ρ' :=
  ⟨h.1.trans l.1.symm, fun i x e => h.2 i x (l.2 i x e)⟩
end DL

/-! Part 2: names, constants, operators, tests, statements, loops. -/
namespace DL
open PySem PySem.Spec PyProof.Rows L2

section
variable {X : Cx} {W : WX} {a b c e : Expr} {es : List Expr} {ta tb tc te : DTE} {pos : Pos}

/-! ### names and constants -/
def eVar (i : Nat) : DTE := fun ρ M P _ => match ρ[i]? with | some (some x) => P x M | _ => False
def eC (x : PyData) : DTE := fun _ M P _ => P (.d x) M
theorem de_var (i : Nat) {x : Str} (hN : X.N[i]? = some x := by rfl) (hv : Vis X.env.scope x := by first | exact Or.inl rfl | exact Or.inr (Or.inl rfl) | exact Or.inr (Or.inr rfl)) (hd : (x == ("__debug__" : Str)) = false := by decide)
    (hcd : (x == ("__classdict__" : Str)) = false := by decide) : DE X W (.Name x pos) (eVar i) := ⟨PE.imp (pe_var hN hv hd hcd) fun σ H Q ⟨ρ, M, N, P, PX, hs, hr, ht, hP, hX⟩ => by
  unfold eVar at ht
  split at ht
  · rename_i y q
    obtain ⟨v, e1, e2⟩ := hs.2 i y q
    exact ⟨v, e1, hP y M v H ht hr .refl e2⟩
  · exact ht.elim⟩
theorem de_of_const {v : V} {x : PyData} (h : PE X e (tC v)) (hd : ∀ F : Hp, Dp X.K F v x) : DE X W e (eC x) := ⟨PE.imp h fun σ H Q ⟨ρ, M, N, P, PX, hs, hr, ht, hP, hX⟩ => hP _ M v H ht hr .refl (hd _)⟩
theorem de_int {i j} : DE X W (.Constant (.int i) j pos) (eC (.int i)) := de_of_const pe_int fun _ => .int _
theorem de_bl {i j} : DE X W (.Constant (.bool i) j pos) (eC (.bool i)) := de_of_const pe_bl fun _ => .bl _
theorem de_non {j} : DE X W (.Constant .none j pos) (eC .none) := de_of_const pe_non fun _ => .non
theorem de_str {x j} : DE X W (.Constant (.str x) j pos) (eC (.str x)) := de_of_const pe_str fun _ => .str _
/-- a module's constant -/
theorem de_glob {x : Str} {v : V} {u : Value} {y : PyData} (hg : Gl X x) (hm : X.mg x = some u) (r : RelV v u) (hd : ∀ F : Hp, Dp X.K F v y) (hdb : (x == ("__debug__" : Str)) = false := by decide) : DE X W (.Name x pos) (eC y) := de_of_const (pe_glob hg hm r hdb) hd

/-! ### two in a row -/
abbrev D2 := DV → DV → MHp → DK → Prop
abbrev D1 := DV → MHp → DK → Prop
abbrev DN := List DV → MHp → DK → Prop
/-- what follows an operation that raises nothing -/
def Fol (K : PySem.W.Frag) (M : MHp) (N : Hid) (H : Hp) (P : DK) (Q : VK) : Prop := ∀ z M' v H', P z M' → HRel K M' N H' → Af M N H M' H' → IsD K (fz M' N H') v z → Q v H'
theorem Fol.same {K : PySem.W.Frag} {M : MHp} {N : Hid} {H : Hp} {P : DK} {Q : VK} (f : Fol K M N H P Q) (hr : HRel K M N H) {z : DV} {v : V} (p : P z M) (i : IsD K (fz M N H) v z) : Q v H := f z M v H p hr .refl i
theorem Fol.new {K : PySem.W.Frag} {M : MHp} {N : Hid} {H : Hp} {P : DK} {Q : VK} (f : Fol K M N H P Q) (hr : HRel K M N H) {z : DV} {v : V} {q : Addr} {o : HO} (p : P z M) (hq : H q = none) (i : IsD K (fz M N (upd H q o)) v z) : Q v (upd H q o) :=
  f z M v _ p (hr.grow (same_new hq)) (.grow hr (same_new hq)) i
def rD2 (K : PySem.W.Frag) (g : D2) : R2 := fun x y H Q => ∃ dx dy M N P, HRel K M N H ∧ IsD K (fz M N H) x dx ∧ IsD K (fz M N H) y dy ∧ g dx dy M P ∧ Fol K M N H P Q
def DOp (X : Cx) (f : Value → Value → Sem Value) (g : D2) : Prop := OpR X f (rD2 X.K g)
def eOp (g : D2) (ta tb : DTE) : DTE := fun ρ M P PX => ta ρ M (fun x M1 => tb ρ M1 (fun y M2 => g x y M2 P) PX) PX
theorem op_imp {g : D2} {K : PySem.W.Frag} {σ : L2.St} {H : Hp} {Q : VK} (h : LE K W (eOp g ta tb) σ H Q) : tOp (rD2 K g) (LE K W ta) (LE K W tb) σ H Q := by
  obtain ⟨ρ, M, N, P, PX, hs, hr, ht, hP, hX⟩ := h
  exact ⟨ρ, M, N, _, PX, hs, hr, ht, fun x M1 v H1 p hr1 af1 iv => ⟨ρ, M1, N, _, PX, hs.mono af1.fr, hr1, p, fun y M2 u H2 p2 hr2 af2 iu =>
    ⟨x, y, M2, N, P, hr2, isD_mono af2.fr iv, iu, p2, fun z M3 w' H3 p3 hr3 af3 iw => hP z M3 w' H3 p3 hr3 ((af1.trans af2).trans af3) iw⟩, hX.step af1⟩, hX⟩
theorem de_op {op : Operator} {g : D2} (ho : DOp X (binaryOp op) g) (ha : DE X W a ta) (hb : DE X W b tb) : DE X W (.BinOp a op b pos) (eOp g ta tb) := ⟨PE.imp (pe_op ho ha.pe hb.pe) fun _ _ _ h => op_imp h⟩
theorem de_cmp {op : CmpOp} {g : D2} (ho : DOp X (compareOp op) g) (ha : DE X W a ta) (hb : DE X W b tb) (hm : behindInMarks op b = false) : DE X W (.Compare a [op] [b] pos) (eOp g ta tb) := ⟨PE.imp (pe_cmpR ho ha.pe hb.pe hm) fun _ _ _ h => op_imp h⟩
/-- one place -/
def Un1 (X : Cx) (f : Value → Sem Value) (g : D1) : Prop := UnR X f (fun x H Q => ∃ dx M N P, HRel X.K M N H ∧ IsD X.K (fz M N H) x dx ∧ g dx M P ∧ Fol X.K M N H P Q)
def eUn (g : D1) (ta : DTE) : DTE := fun ρ M P PX => ta ρ M (fun x M1 => g x M1 P) PX
theorem de_un {op : UnaryOp} {g : D1} (ho : Un1 X (unaryOp op) g) (ha : DE X W a ta) : DE X W (.UnaryOp op a pos) (eUn g ta) := ⟨PE.imp (pe_un ho ha.pe) fun σ H Q ⟨ρ, M, N, P, PX, hs, hr, ht, hP, hX⟩ =>
  ⟨ρ, M, N, _, PX, hs, hr, ht, fun x M1 v H1 p hr1 af1 iv => ⟨x, M1, N, P, hr1, iv, p, fun z M2 u H2 p2 hr2 af2 iu => hP z M2 u H2 p2 hr2 (af1.trans af2) iu⟩, hX⟩⟩

/-! ### reading data -/
def rd (M : MHp) : DV → (PyData → Prop) → Prop
  | .d x, k => k x
  | .r a, k => match M a with | some (.ls ys) => k (.list ys) | _ => False
def Rdd (K : PySem.W.Frag) (M : MHp) (N : Hid) (H : Hp) (v : V) (x : PyData) : Prop :=
  Dp K (fz M N H) v x ∨ ∃ a ys vs, v = .ref a ∧ x = .list ys ∧ H a = some (.lst vs) ∧ DpAll K (fz M N H) vs ys
theorem rd_of {K : PySem.W.Frag} {M : MHp} {N : Hid} {H : Hp} {v : V} {x : DV} {k : PyData → Prop} (hr : HRel K M N H) (hi : IsD K (fz M N H) v x) (h : rd M x k) : ∃ y, Rdd K M N H v y ∧ k y := by
  cases x with
  | d y => exact ⟨y, .inl hi, h⟩
  | r a =>
    have h' : (match M a with | some (.ls ys) => k (.list ys) | _ => False) := h
    cases q : M a with
    | none => rw [q] at h'; exact (show False from h').elim
    | some o =>
      rw [q] at h'
      cases o with
      | ls ys =>
        obtain ⟨o, h1, h2⟩ := hr.obj a _ q
        cases o with
        | lst vs => exact ⟨.list ys, .inr ⟨a, ys, vs, hi, rfl, h1, h2⟩, h'⟩
        | _ => exact (show False from h2).elim
      | _ => exact (show False from h').elim
section
variable {K : PySem.W.Frag} {M : MHp} {N : Hid} {H : Hp} {v : V}
theorem Rdd.dp {x : PyData} (h : Rdd K M N H v x) : Dp K H v x := by
  rcases h with h | ⟨a, ys, vs, rfl, rfl, h1, h2⟩
  · exact dp_mono fz_sub _ _ h
  · exact .lst (.inl (.inl h1)) (dpAll_mono fz_sub _ _ h2)
theorem Rdd.list {ys : List PyData} (h : Rdd K M N H v (.list ys)) : ∃ a vs, v = .ref a ∧ SqL K H a vs ∧ DpAll K (fz M N H) vs ys := by
  rcases h with h | ⟨a, zs, vs, rfl, e, h1, h2⟩
  · cases h with
    | lst h1 h2 => exact ⟨_, _, rfl, Same.seq fz_sub h1, h2⟩
  · cases e
    exact ⟨a, vs, rfl, .inl (.inl h1), h2⟩
theorem same_tup {K : PySem.W.Frag} {F G : Hp} (s : Same F G) {a : Addr} {xs : List V} (h1 : SqT K F a xs) : SqT K G a xs := by
  rcases h1 with (h | ⟨o, h⟩) | h
  · exact .inl (.inl (s _ _ h))
  · exact .inl (.inr ⟨o, s _ _ h⟩)
  · exact .inr h
theorem Rdd.tuple {ys : List PyData} (h : Rdd K M N H v (.tuple ys)) : ∃ a vs, v = .ref a ∧ SqT K H a vs ∧ DpAll K (fz M N H) vs ys ∧ Dp K (fz M N H) v (.tuple ys) := by
  rcases h with h | ⟨a, zs, vs, rfl, e, h1, h2⟩
  · cases id h with
    | tup h1 h2 => exact ⟨_, _, rfl, same_tup fz_sub h1, h2, h⟩
  · cases e
theorem Rdd.int {i : Int} (h : Rdd K M N H v (.int i)) : v = .int i := by
  rcases h with h | ⟨a, zs, vs, rfl, e, h1, h2⟩
  · cases h; rfl
  · cases e
theorem Rdd.str {i : Str} (h : Rdd K M N H v (.str i)) : v = .str i := by
  rcases h with h | ⟨a, zs, vs, rfl, e, h1, h2⟩
  · cases h; rfl
  · cases e
theorem Rdd.bool {i : Bool} (h : Rdd K M N H v (.bool i)) : v = .bl i := by
  rcases h with h | ⟨a, zs, vs, rfl, e, h1, h2⟩
  · cases h; rfl
  · cases e
theorem Rdd.none (h : Rdd K M N H v .none) : v = .non := by
  rcases h with h | ⟨a, zs, vs, rfl, e, h1, h2⟩
  · cases h; rfl
  · cases e
theorem fz_newTup {K : PySem.W.Frag} {M : MHp} {N : Hid} {H : Hp} (hr : HRel K M N H) {q : Addr} (hq : H q = Option.none) {vs : List V} {ds : List PyData} (h : DpAll K (fz M N H) vs ds) : Dp K (fz M N (upd H q (.tup vs))) (.ref q) (.tuple ds) :=
  .tup (.inl (.inl (fz_new hr hq))) (dpAll_mono (Af.grow hr (same_new hq)).fr _ _ h)
theorem fz_newLst {K : PySem.W.Frag} {M : MHp} {N : Hid} {H : Hp} (hr : HRel K M N H) {q : Addr} (hq : H q = Option.none) {vs : List V} {ds : List PyData} (h : DpAll K (fz M N H) vs ds) : Dp K (fz M N (upd H q (.lst vs))) (.ref q) (.list ds) :=
  .lst (.inl (.inl (fz_new hr hq))) (dpAll_mono (Af.grow hr (same_new hq)).fr _ _ h)
end
/-- an operation on data whose answer is new or plain -/
def gD (f : PyData → PyData → (PyData → Prop) → Prop) : D2 := fun x y M P => rd M x fun dx => rd M y fun dy => f dx dy fun z => P (.d z) M
theorem gD_of {f : PyData → PyData → (PyData → Prop) → Prop} {K : PySem.W.Frag} {x y : V} {H : Hp} {Q : VK} (h : rD2 K (gD f) x y H Q) :
    ∃ dx dy M N P, HRel K M N H ∧ Rdd K M N H x dx ∧ Rdd K M N H y dy ∧ f dx dy (fun z => P (.d z) M) ∧ Fol K M N H P Q := by
  obtain ⟨dx, dy, M, N, P, hr, ix, iy, hg, fo⟩ := h
  obtain ⟨px, rx, h1⟩ := rd_of hr ix hg
  obtain ⟨py, ry, h2⟩ := rd_of hr iy h1
  exact ⟨px, py, M, N, P, hr, rx, ry, h2, fo⟩

/-! ### tests -/
def tB (te : DTE) : DTT := fun ρ M P PX => te ρ M (fun x M1 => match x with | .d (.bool k) => P k M1 | _ => False) PX
theorem dt_of {t : TE → TT} (ht : ∀ te : TE, PE X e te → PT X e (t te)) (hq : ∀ te σ H Q, t te σ H Q ↔ te σ H fun x H1 => ∃ k, x = .bl k ∧ Q k H1) (h : DE X W e te) : DT X W e (tB te) := ⟨PT.imp (ht _ h.pe) fun σ H Q ⟨ρ, M, N, P, PX, hs, hr, htt, hP, hX⟩ => by
  refine (hq _ _ _ _).mpr ⟨ρ, M, N, _, PX, hs, hr, htt, fun x M1 v H1 p hr1 af1 iv => ?_, hX⟩
  split at p
  · rename_i k
    cases (show Dp _ _ _ _ from iv)
    exact ⟨k, rfl, hP k M1 H1 p hr1 af1⟩
  · exact p.elim⟩
/-- an expression that gives a bool, as a test -/
theorem dt_val (h : DE X W e te) (he : ∀ whole, isTrue e X.env whole = (do let v ← whole; standAt e.pos; holding [v] (truthy v)) := by intro _; rfl) : DT X W e (tB te) :=
  dt_of (t := L2.tB) (fun _ h => pt_val h he) (fun _ _ _ _ => Iff.rfl) h
theorem dt_cmp {op : CmpOp} {g : D2} (ho : DOp X (compareOp op) g) (ha : DE X W a ta) (hb : DE X W b tb) (hm : behindInMarks op b = false) : DT X W (.Compare a [op] [b] pos) (tB (eOp g ta tb)) := ⟨PT.imp (pt_cmpR ho ha.pe hb.pe hm) fun σ H Q ⟨ρ, M, N, P, PX, hs, hr, htt, hP, hX⟩ => by
  refine op_imp ⟨ρ, M, N, _, PX, hs, hr, htt, fun x M1 v H1 p hr1 af1 iv => ?_, hX⟩
  split at p
  · rename_i k
    cases (show Dp _ _ _ _ from iv)
    exact ⟨k, rfl, hP k M1 H1 p hr1 af1⟩
  · exact p.elim⟩
variable {tA tB' : DTT} {rest : List Expr}
def tAnd (t u : DTT) : DTT := fun ρ M P PX => t ρ M (fun c M1 => if c = true then u ρ M1 P PX else P false M1) PX
def tOr (t u : DTT) : DTT := fun ρ M P PX => t ρ M (fun c M1 => if c = true then P true M1 else u ρ M1 P PX) PX
def tNot (t : DTT) : DTT := fun ρ M P PX => t ρ M (fun c M1 => P (!c) M1) PX
/-- a test whatever its 'whole' is -/
structure DW (X : Cx) (W : WX) (e : Expr) (t : DTT) : Prop where
  pw : PW X e (LT X.K W t)
theorem PW.imp {X : Cx} {e : Expr} {t u : TT} (h : PW X e t) (i : ∀ σ H Q, u σ H Q → t σ H Q) : PW X e u := ⟨fun wh pins s σ H Q I q => h.run wh pins s σ H Q I (i σ H Q q)⟩
theorem DW.dt (h : DW X W e tA) : DT X W e tA := ⟨h.pw.pt⟩
theorem dw_and1 (ha : DT X W a tA) : DW X W (.BoolOp .And [a] pos) tA := ⟨pw_and1 ha.pt⟩
theorem dw_or1 (ha : DT X W a tA) : DW X W (.BoolOp .Or [a] pos) tA := ⟨pw_or1 ha.pt⟩
theorem dw_and (ha : DT X W a tA) (hb : DW X W (.BoolOp .And (b :: rest) pos) tB') : DW X W (.BoolOp .And (a :: b :: rest) pos) (tAnd tA tB') := ⟨PW.imp (pw_and ha.pt hb.pw) fun σ H Q ⟨ρ, M, N, P, PX, hs, hr, htt, hP, hX⟩ => by
  refine ⟨ρ, M, N, _, PX, hs, hr, htt, fun k M1 H1 p hr1 af1 => ?_, hX⟩
  cases k with
  | true => exact ⟨ρ, M1, N, _, PX, hs.mono af1.fr, hr1, p, fun k M2 H2 p2 hr2 af2 => hP k M2 H2 p2 hr2 (af1.trans af2), hX.step af1⟩
  | false => exact hP false M1 H1 p hr1 af1⟩
theorem dw_or (ha : DT X W a tA) (hb : DW X W (.BoolOp .Or (b :: rest) pos) tB') : DW X W (.BoolOp .Or (a :: b :: rest) pos) (tOr tA tB') := ⟨PW.imp (pw_or ha.pt hb.pw) fun σ H Q ⟨ρ, M, N, P, PX, hs, hr, htt, hP, hX⟩ => by
  refine ⟨ρ, M, N, _, PX, hs, hr, htt, fun k M1 H1 p hr1 af1 => ?_, hX⟩
  cases k with
  | true => exact hP true M1 H1 p hr1 af1
  | false => exact ⟨ρ, M1, N, _, PX, hs.mono af1.fr, hr1, p, fun k M2 H2 p2 hr2 af2 => hP k M2 H2 p2 hr2 (af1.trans af2), hX.step af1⟩⟩
theorem dt_not (ha : DT X W a tA) : DT X W (.UnaryOp .Not a pos) (tNot tA) := ⟨PT.imp (pt_not ha.pt) fun σ H Q ⟨ρ, M, N, P, PX, hs, hr, htt, hP, hX⟩ =>
  ⟨ρ, M, N, _, PX, hs, hr, htt, fun k M1 H1 p hr1 af1 => hP _ M1 H1 p hr1 af1, hX⟩⟩
/-- and, or, not as values of bools -/
def eAnd (ta tb : DTE) : DTE := fun ρ M P PX => ta ρ M (fun x M1 => match x with | .d (.bool k) => if k = true then tb ρ M1 P PX else P (.d (.bool false)) M1 | _ => False) PX
def eOr (ta tb : DTE) : DTE := fun ρ M P PX => ta ρ M (fun x M1 => match x with | .d (.bool k) => if k = true then P (.d (.bool true)) M1 else tb ρ M1 P PX | _ => False) PX
def eNot (ta : DTE) : DTE := fun ρ M P PX => ta ρ M (fun x M1 => match x with | .d (.bool k) => P (.d (.bool !k)) M1 | _ => False) PX
theorem de_one {op} (h : DE X W a ta) : DE X W (.BoolOp op [a] pos) ta := ⟨pe_one h.pe⟩
theorem de_and (ha : DE X W a ta) (hb : DE X W (.BoolOp .And (b :: rest) pos) tb) : DE X W (.BoolOp .And (a :: b :: rest) pos) (eAnd ta tb) := ⟨PE.imp (pe_and ha.pe hb.pe) fun σ H Q ⟨ρ, M, N, P, PX, hs, hr, ht, hP, hX⟩ => by
  refine ⟨ρ, M, N, _, PX, hs, hr, ht, fun x M1 v H1 p hr1 af1 iv => ?_, hX⟩
  split at p
  · rename_i k
    cases (show Dp _ _ _ _ from iv)
    refine ⟨k, rfl, ?_⟩
    cases k with
    | true => exact ⟨ρ, M1, N, _, PX, hs.mono af1.fr, hr1, p, fun y M2 u H2 p2 hr2 af2 iu => hP y M2 u H2 p2 hr2 (af1.trans af2) iu, hX.step af1⟩
    | false => exact hP _ M1 _ H1 p hr1 af1 (.bl _)
  · exact p.elim⟩
theorem de_or (ha : DE X W a ta) (hb : DE X W (.BoolOp .Or (b :: rest) pos) tb) : DE X W (.BoolOp .Or (a :: b :: rest) pos) (eOr ta tb) := ⟨PE.imp (pe_or ha.pe hb.pe) fun σ H Q ⟨ρ, M, N, P, PX, hs, hr, ht, hP, hX⟩ => by
  refine ⟨ρ, M, N, _, PX, hs, hr, ht, fun x M1 v H1 p hr1 af1 iv => ?_, hX⟩
  split at p
  · rename_i k
    cases (show Dp _ _ _ _ from iv)
    refine ⟨k, rfl, ?_⟩
    cases k with
    | false => exact ⟨ρ, M1, N, _, PX, hs.mono af1.fr, hr1, p, fun y M2 u H2 p2 hr2 af2 iu => hP y M2 u H2 p2 hr2 (af1.trans af2) iu, hX.step af1⟩
    | true => exact hP _ M1 _ H1 p hr1 af1 (.bl _)
  · exact p.elim⟩
theorem de_not (ha : DE X W a ta) : DE X W (.UnaryOp .Not a pos) (eNot ta) := ⟨PE.imp (pe_not ha.pe) fun σ H Q ⟨ρ, M, N, P, PX, hs, hr, ht, hP, hX⟩ => by
  refine ⟨ρ, M, N, _, PX, hs, hr, ht, fun x M1 v H1 p hr1 af1 iv => ?_, hX⟩
  split at p
  · rename_i k
    cases (show Dp _ _ _ _ from iv)
    exact ⟨k, rfl, hP _ M1 _ H1 p hr1 af1 (.bl _)⟩
  · exact p.elim⟩
/-- a if c else b -/
def eIf (t : DTT) (ta tb : DTE) : DTE := fun ρ M P PX => t ρ M (fun c M1 => if c = true then ta ρ M1 P PX else tb ρ M1 P PX) PX
theorem de_if (hc : DT X W c tA) (ha : DE X W a ta) (hb : DE X W b tb) : DE X W (.IfExp c a b pos) (eIf tA ta tb) := ⟨PE.imp (pe_ifExp hc.pt ha.pe hb.pe) fun σ H Q ⟨ρ, M, N, P, PX, hs, hr, ht, hP, hX⟩ => by
  refine ⟨ρ, M, N, _, PX, hs, hr, ht, fun k M1 H1 p hr1 af1 => ?_, hX⟩
  cases k with
  | true => exact ⟨ρ, M1, N, _, PX, hs.mono af1.fr, hr1, p, fun y M2 u H2 p2 hr2 af2 iu => hP y M2 u H2 p2 hr2 (af1.trans af2) iu, hX.step af1⟩
  | false => exact ⟨ρ, M1, N, _, PX, hs.mono af1.fr, hr1, p, fun y M2 u H2 p2 hr2 af2 iu => hP y M2 u H2 p2 hr2 (af1.trans af2) iu, hX.step af1⟩⟩
/-- a op b op' c -/
def eChain (g g' : D2) (ta tb tc : DTE) : DTE := fun ρ M P PX => ta ρ M (fun x M1 => tb ρ M1 (fun y M2 => g x y M2 fun z M3 => match z with
  | .d (.bool k) => if k = true then tc ρ M3 (fun w M4 => g' y w M4 P) PX else P (.d (.bool false)) M3
  | _ => False) PX) PX
theorem chain_imp {g g' : D2} {K : PySem.W.Frag} {σ : L2.St} {H : Hp} {Q : VK} (h : LE K W (eChain g g' ta tb tc) σ H Q) : tChain (rD2 K g) (rD2 K g') (LE K W ta) (LE K W tb) (LE K W tc) σ H Q := by
  obtain ⟨ρ, M, N, P, PX, hs, hr, ht, hP, hX⟩ := h
  refine ⟨ρ, M, N, _, PX, hs, hr, ht, fun x M1 v H1 p hr1 af1 iv => ⟨ρ, M1, N, _, PX, hs.mono af1.fr, hr1, p, fun y M2 u H2 p2 hr2 af2 iu => ⟨x, y, M2, N, _, hr2, isD_mono af2.fr iv, iu, p2, fun z M3 w' H3 p3 hr3 af3 iw => ?_⟩, hX.step af1⟩, hX⟩
  split at p3
  · rename_i k
    cases (show Dp _ _ _ _ from iw)
    refine ⟨k, rfl, ?_⟩
    have af := (af1.trans af2).trans af3
    cases k with
    | true => exact ⟨ρ, M3, N, _, PX, hs.mono af.fr, hr3, p3, fun w' M4 u' H4 p4 hr4 af4 iu' => ⟨y, w', M4, N, P, hr4, isD_mono (af3.trans af4).fr iu, iu', p4, fun z M5 v5 H5 p5 hr5 af5 i5 => hP z M5 v5 H5 p5 hr5 ((af.trans af4).trans af5) i5⟩, hX.step af⟩
    | false => exact hP _ M3 _ H3 p3 hr3 af (.bl _)
  · exact p3.elim
theorem de_chain {op op' : CmpOp} {g g' : D2} (ho : DOp X (compareOp op) g) (ho' : DOp X (compareOp op') g') (ha : DE X W a ta) (hb : DE X W b tb) (hc : DE X W c tc)
    (hm : lastMarks [op, op'] [b, c] = false := by with_unfolding_all rfl) : DE X W (.Compare a [op, op'] [b, c] pos) (eChain g g' ta tb tc) := ⟨PE.imp (pe_chain ho ho' ha.pe hb.pe hc.pe hm) fun _ _ _ h => chain_imp h⟩
theorem dt_chain {op op' : CmpOp} {g g' : D2} (ho : DOp X (compareOp op) g) (ho' : DOp X (compareOp op') g') (ha : DE X W a ta) (hb : DE X W b tb) (hc : DE X W c tc)
    (hm : lastMarks [op, op'] [b, c] = false := by with_unfolding_all rfl) : DT X W (.Compare a [op, op'] [b, c] pos) (tB (eChain g g' ta tb tc)) := ⟨PT.imp (pt_chain ho ho' ha.pe hb.pe hc.pe hm) fun σ H Q ⟨ρ, M, N, P, PX, hs, hr, htt, hP, hX⟩ => by
  refine chain_imp ⟨ρ, M, N, _, PX, hs, hr, htt, fun x M1 v H1 p hr1 af1 iv => ?_, hX⟩
  split at p
  · rename_i k
    cases (show Dp _ _ _ _ from iv)
    exact ⟨k, rfl, hP k M1 H1 p hr1 af1⟩
  · exact p.elim⟩

/-! ### argument lists and displays -/
def aNil : DTA := fun _ M P _ => P [] M
def aCons (ta : DTE) (tr : DTA) : DTA := fun ρ M P PX => ta ρ M (fun x M1 => tr ρ M1 (fun xs M2 => P (x :: xs) M2) PX) PX
theorem da_nil : DA X W [] aNil := ⟨PA.imp pa_nil fun σ H Q ⟨ρ, M, N, P, PX, hs, hr, ht, hP, hX⟩ => hP _ M _ H ht hr .refl .nil⟩
theorem da_cons {tr : DTA} (ha : DE X W e te) (hr : DA X W es tr) (hst : starEach (e :: es) X.env = (false, eval e X.env) :: starEach es X.env := by rfl) : DA X W (e :: es) (aCons te tr) := ⟨PA.imp (pa_cons ha.pe hr.pa hst) fun σ H Q ⟨ρ, M, N, P, PX, hs, hr, ht, hP, hX⟩ =>
  ⟨ρ, M, N, _, PX, hs, hr, ht, fun x M1 v H1 p hr1 af1 iv => ⟨ρ, M1, N, _, PX, hs.mono af1.fr, hr1, p, fun xs M2 vs H2 p2 hr2 af2 ivs => hP _ M2 _ H2 p2 hr2 (af1.trans af2) (.cons (isD_mono af2.fr iv) ivs), hX.step af1⟩, hX⟩⟩
/-- data of a list of values, where all are data (mutable lists don't count) -/
def allD : List DV → (List PyData → Prop) → Prop
  | [], k => k []
  | .d x :: r, k => allD r fun xs => k (x :: xs)
  | .r _ :: _, _ => False
theorem allD_of {K : PySem.W.Frag} {F : Hp} : ∀ {xs : List DV} {vs : List V} {k : List PyData → Prop}, AreD K F vs xs → allD xs k → ∃ ds, DpAll K F vs ds ∧ k ds
  | [], _, k, h, q => by cases h; exact ⟨[], .nil, q⟩
  | .d x :: r, _, k, h, q => by
    cases h with
    | cons h1 h2 =>
      obtain ⟨ds, q1, q2⟩ := allD_of h2 q
      exact ⟨x :: ds, .cons h1 q1, q2⟩
  | .r _ :: _, _, _, _, q => q.elim
def small (n : Nat) : Prop := n ≤ sizeLine
def eTup (t : DTA) : DTE := fun ρ M P PX => t ρ M (fun xs M1 => allD xs fun ds => ds.length ≤ sizeLine ∧ P (.d (.tuple ds)) M1) PX
/-- a list display that is never changed -/
def eLst (t : DTA) : DTE := fun ρ M P PX => t ρ M (fun xs M1 => allD xs fun ds => ds.length ≤ sizeLine ∧ P (.d (.list ds)) M1) PX
/-- .. that may be changed -/
def eLstM (t : DTA) : DTE := fun ρ M P PX => t ρ M (fun xs M1 => allD xs fun ds => ds.length ≤ sizeLine ∧ ∀ p, M1 p = none → P (.r p) (mu M1 p (.ls ds))) PX
def eLstV (t : DTA) : DTE := fun ρ M P PX => t ρ M (fun xs M1 => xs.length ≤ sizeLine ∧ ∀ p, M1 p = none → P (.r p) (mu M1 p (.lv xs))) PX
variable {t : DTA}
theorem de_tup {x1} (h : DA X W es t) : DE X W (.Tuple es x1 pos) (eTup t) := ⟨PE.imp (pe_tup h.pa) fun σ H Q ⟨ρ, M, N, P, PX, hs, hr, ht, hP, hX⟩ => by
  refine ⟨ρ, M, N, _, PX, hs, hr, ht, fun xs M1 vs H1 p hr1 af1 iv => ?_, hX⟩
  obtain ⟨ds, h1, hz, q⟩ := allD_of iv p
  refine ⟨by rw [dpAll_len h1]; exact hz, fun q' hq => hP _ M1 _ _ q (hr1.grow (same_new hq)) (af1.trans (.grow hr1 (same_new hq))) (fz_newTup hr1 hq h1)⟩⟩
theorem de_lst (h : DA X W es t) : DE X W (.List es pos) (eLst t) := ⟨PE.imp (pe_lst h.pa) fun σ H Q ⟨ρ, M, N, P, PX, hs, hr, ht, hP, hX⟩ => by
  refine ⟨ρ, M, N, _, PX, hs, hr, ht, fun xs M1 vs H1 p hr1 af1 iv => ?_, hX⟩
  obtain ⟨ds, h1, hz, q⟩ := allD_of iv p
  refine ⟨by rw [dpAll_len h1]; exact hz, fun q' hq => hP _ M1 _ _ q (hr1.grow (same_new hq)) (af1.trans (.grow hr1 (same_new hq))) (fz_newLst hr1 hq h1)⟩⟩
theorem de_lstM (h : DA X W es t) : DE X W (.List es pos) (eLstM t) := ⟨PE.imp (pe_lst h.pa) fun σ H Q ⟨ρ, M, N, P, PX, hs, hr, ht, hP, hX⟩ => by
  refine ⟨ρ, M, N, _, PX, hs, hr, ht, fun xs M1 vs H1 p hr1 af1 iv => ?_, hX⟩
  obtain ⟨ds, h1, hz, q⟩ := allD_of iv p
  refine ⟨by rw [dpAll_len h1]; exact hz, fun q' hq => ?_⟩
  obtain ⟨r2, a2⟩ := hr1.new (x := .ls ds) (o := .lst vs) hq h1
  exact hP _ _ _ _ (q q' (hr1.free hq).1) r2 (af1.trans a2) rfl⟩
theorem paired_len {α β : Type} {R : α → β → Prop} : ∀ {xs : List α} {ys : List β}, Paired R xs ys → xs.length = ys.length
  | _, _, .nil => rfl
  | _, _, .cons _ t => by simp [paired_len t]
theorem de_lstV (h : DA X W es t) : DE X W (.List es pos) (eLstV t) := ⟨PE.imp (pe_lst h.pa) fun σ H Q ⟨ρ, M, N, P, PX, hs, hr, ht, hP, hX⟩ => by
  refine ⟨ρ, M, N, _, PX, hs, hr, ht, fun xs M1 vs H1 p hr1 af1 iv => ?_, hX⟩
  obtain ⟨hz, q⟩ := p
  refine ⟨by rw [paired_len iv]; exact hz, fun q' hq => ?_⟩
  obtain ⟨r2, a2⟩ := hr1.new (x := .lv xs) (o := .lst vs) hq iv
  exact hP _ _ _ _ (q q' (hr1.free hq).1) r2 (af1.trans a2) rfl⟩
end

/-! ### statements -/
section
variable {X : Cx} {W : WX} {a b c e : Expr} {st : Stmt} {rest : List Stmt} {te : DTE} {tA : DTT} {t u : DTS} {pos : Pos}
def sNext : DTS := fun E ρ M => E.nx ρ M
def sSeq (t u : DTS) : DTS := fun E ρ M => t { E with nx := u E } ρ M
theorem dss_nil : DSs X W [] sNext := ⟨PSs.imp pss_nil fun D σ H ⟨ρ, M, N, E, hs, hr, ht, hE⟩ => hE.nx ρ M σ H ht hs hr .refl⟩
theorem dss_cons (h1 : DS X W st t) (h2 : DSs X W rest u) : DSs X W (st :: rest) (sSeq t u) := ⟨PSs.imp (pss_cons h1.ps h2.ps) fun D σ H ⟨ρ, M, N, E, hs, hr, ht, hE⟩ =>
  ⟨ρ, M, N, _, hs, hr, ht, hE.next fun ρ' M' σ' H' q s' r' f' => ⟨ρ', M', N, E, s', r', q, hE.step f'⟩⟩⟩
theorem dss_one (h1 : DS X W st t) : DSs X W [st] t := ⟨pss_one h1.ps⟩
def sBreak : DTS := fun E ρ M => E.bk ρ M
def sCont : DTS := fun E ρ M => E.ct ρ M
theorem ds_pass : DS X W (.Pass pos) sNext := ⟨PS.imp ps_pass fun D σ H ⟨ρ, M, N, E, hs, hr, ht, hE⟩ => hE.nx ρ M σ H ht hs hr .refl⟩
theorem ds_break : DS X W (.Break pos) sBreak := ⟨PS.imp ps_break fun D σ H ⟨ρ, M, N, E, hs, hr, ht, hE⟩ => hE.bk ρ M σ H ht hs hr .refl⟩
theorem ds_cont : DS X W (.Continue pos) sCont := ⟨PS.imp ps_continue fun D σ H ⟨ρ, M, N, E, hs, hr, ht, hE⟩ => hE.ct ρ M σ H ht hs hr .refl⟩
def sExpr (te : DTE) : DTS := fun E ρ M => te ρ M (fun _ M1 => E.nx ρ M1) (fun x M1 => E.ex x ρ M1)
theorem ds_expr (he : DE X W e te) (hs : swapsWith e none pos.line X.env = pure false := by rfl) : DS X W (.Expr e pos) (sExpr te) := ⟨PS.imp (ps_expr he.pe hs) fun D σ H ⟨ρ, M, N, E, hs, hr, ht, hE⟩ =>
  ⟨ρ, M, N, _, _, hs, hr, ht, fun x M1 v H1 p hr1 af1 iv => hE.nx ρ M1 σ H1 p (hs.mono af1.fr) hr1 af1, hE.xend hs⟩⟩
def sRet (te : DTE) : DTS := fun E ρ M => te ρ M E.rt (fun x M1 => E.ex x ρ M1)
theorem ds_ret (he : DE X W e te) : DS X W (.Return (some e) pos) (sRet te) := ⟨PS.imp (ps_ret he.pe) fun D σ H ⟨ρ, M, N, E, hs, hr, ht, hE⟩ =>
  ⟨ρ, M, N, _, _, hs, hr, ht, fun x M1 v H1 p hr1 af1 iv => hE.rt x M1 v H1 p hr1 af1 iv, hE.xend hs⟩⟩
def sRetN : DTS := fun E _ M => E.rt (.d .none) M
theorem ds_retN : DS X W (.Return none pos) sRetN := ⟨PS.imp ps_retN fun D σ H ⟨ρ, M, N, E, hs, hr, ht, hE⟩ => hE.rt _ M _ H ht hr .refl .non⟩
def sIf (c : DTT) (t u : DTS) : DTS := fun E ρ M => c ρ M (fun k M1 => if k = true then t E ρ M1 else u E ρ M1) (fun x M1 => E.ex x ρ M1)
theorem ds_if {x y : List Stmt} (hc : DT X W c tA) (ha : DSs X W x t) (hb : DSs X W y u) : DS X W (.If c x y pos) (sIf tA t u) := ⟨PS.imp (ps_if hc.pt ha.ps hb.ps) fun D σ H ⟨ρ, M, N, E, hs, hr, ht, hE⟩ => by
  refine ⟨ρ, M, N, _, _, hs, hr, ht, fun k M1 H1 p hr1 af1 => ?_, hE.xend hs⟩
  cases k with
  | true => exact ⟨ρ, M1, N, E, hs.mono af1.fr, hr1, p, hE.step af1⟩
  | false => exact ⟨ρ, M1, N, E, hs.mono af1.fr, hr1, p, hE.step af1⟩⟩

/-! ### targets -/
abbrev DTG := DV → DEnv → MHp → (DEnv → MHp → Prop) → DX → Prop
abbrev DTGs := List DV → DEnv → MHp → (DEnv → MHp → Prop) → DX → Prop
/-- all slots but those at sl are as they were -/
def But (sl : List Nat) (σ σ' : L2.St) : Prop := σ'.length = σ.length ∧ ∀ j, j ∉ sl → σ'[j]? = σ[j]?
theorem But.refl {sl : List Nat} {σ : L2.St} : But sl σ σ := ⟨rfl, fun _ _ => rfl⟩
theorem But.set {i : Nat} {σ : L2.St} {v : Option V} : But [i] σ (σ.set i v) := ⟨List.length_set, fun j hj => List.getElem?_set_ne fun e => hj (by simp [e])⟩
theorem But.trans {s1 s2 : List Nat} {σ σ1 σ2 : L2.St} (a : But s1 σ σ1) (b : But s2 σ1 σ2) : But (s1 ++ s2) σ σ2 :=
  ⟨b.1.trans a.1, fun j hj => (b.2 j fun h => hj (List.mem_append_right _ h)).trans (a.2 j fun h => hj (List.mem_append_left _ h))⟩
def GEnd (K : PySem.W.Frag) (M : MHp) (N : Hid) (H : Hp) (sl : List Nat) (σ : L2.St) (P : DEnv → MHp → Prop) (Q : L2.St → Hp → Prop) : Prop :=
  ∀ ρ' M' σ' H', P ρ' M' → SRel K (fz M' N H') σ' ρ' → HRel K M' N H' → Af M N H M' H' → But sl σ σ' → Q σ' H'
def LG (K : PySem.W.Frag) (W : WX) (sl : List Nat) (t : DTG) : TG := fun v σ H Q => ∃ x ρ M N P PX, IsD K (fz M N H) v x ∧ SRel K (fz M N H) σ ρ ∧ HRel K M N H ∧ t x ρ M P PX ∧ GEnd K M N H sl σ P Q ∧ XEnd K W σ M N H PX
def LGs (K : PySem.W.Frag) (W : WX) (sl : List Nat) (t : DTGs) : TGs := fun vs σ H Q => ∃ xs ρ M N P PX, AreD K (fz M N H) vs xs ∧ SRel K (fz M N H) σ ρ ∧ HRel K M N H ∧ t xs ρ M P PX ∧ GEnd K M N H sl σ P Q ∧ XEnd K W σ M N H PX
structure DG (X : Cx) (W : WX) (tg : Expr) (sl : List Nat) (t : DTG) : Prop where
  pg : PG X tg (LG X.K W sl t)
/-- no exception comes of the target -/
def NoX (u : DTG) : Prop := ∀ x ρ M P PX PX', u x ρ M P PX → u x ρ M P PX'
def NoXs (u : DTGs) : Prop := ∀ xs ρ M P PX PX', u xs ρ M P PX → u xs ρ M P PX'
structure DGs (X : Cx) (W : WX) (tg : List Expr) (sl : List Nat) (t : DTGs) : Prop where
  pg : PGs X tg (LGs X.K W sl t)
theorem PG.imp {X : Cx} {e : Expr} {t u : TG} (h : PG X e t) (i : ∀ v σ H Q, u v σ H Q → t v σ H Q) : PG X e u := ⟨fun pins s σ H v w Q I r q => h.run pins s σ H v w Q I r (i v σ H Q q)⟩
theorem PGs.imp {X : Cx} {e : List Expr} {t u : TGs} (h : PGs X e t) (i : ∀ v σ H Q, u v σ H Q → t v σ H Q) : PGs X e u := ⟨fun pins s σ H v w Q I r q => h.run pins s σ H v w Q I r (i v σ H Q q)⟩
def gN (i : Nat) : DTG := fun x ρ M P _ => P (ρ.set i (some x)) M
theorem nox_name {i : Nat} : NoX (gN i) := fun _ _ _ _ _ _ h => h
theorem dg_name {i : Nat} {x : Str} (hN : X.N.Nodup) (hi : X.N[i]? = some x := by rfl) (hx : Loc X.env.scope x := by first | exact Or.inl rfl | exact Or.inr rfl) (hf : X.fn x = true ∨ X.env.scope.names.lookup x = some .local := by first | exact .inl rfl | exact .inr rfl | assumption) : DG X W (.Name x pos) [i] (gN i) := ⟨PG.imp (pg_name hN hi hx hf) fun v σ H Q ⟨y, ρ, M, N, P, PX, hv, hs, hr, ht, hP, hX⟩ =>
  hP _ M _ H ht (hs.set hv i) hr .refl .set⟩
def gsNil : DTGs := fun xs ρ M P _ => match xs with | [] => P ρ M | _ => False
def gsCons (t : DTG) (u : DTGs) : DTGs := fun xs ρ M P PX => match xs with | x :: r => t x ρ M (fun ρ1 M1 => u r ρ1 M1 P PX) PX | _ => False
theorem nox_nil : NoXs gsNil := fun xs ρ M P PX PX' h => h
theorem dgs_nil : DGs X W [] [] gsNil := ⟨PGs.imp pgs_nil fun v σ H Q ⟨xs, ρ, M, N, P, PX, hv, hs, hr, ht, hP, hX⟩ => by
  cases hv with
  | nil => exact ⟨rfl, hP ρ M σ H ht hs hr .refl .refl⟩
  | cons _ _ => exact (show False from ht).elim⟩
/-- monotone in what follows -/
def GMono (t : DTG) : Prop := ∀ x ρ M P P' PX PX', (∀ ρ' M', P ρ' M' → P' ρ' M') → t x ρ M P PX → t x ρ M P' PX'
def GsMono (t : DTGs) : Prop := ∀ x ρ M P P' PX PX', (∀ ρ' M', P ρ' M' → P' ρ' M') → t x ρ M P PX → t x ρ M P' PX'
theorem gm_name {i : Nat} : GMono (gN i) := fun _ _ _ _ _ _ _ h q => h _ _ q
theorem gm_nil : GsMono gsNil := fun x _ _ _ _ _ _ h q => by
  cases x with
  | nil => exact h _ _ q
  | cons _ _ => exact q
theorem gm_cons {t : DTG} {u : DTGs} (ht : GMono t) (hu : GsMono u) : GsMono (gsCons t u) := fun xs ρ M P P' PX PX' h q => by
  cases xs with
  | nil => exact q
  | cons x r => exact ht _ _ _ _ _ _ _ (fun ρ1 M1 z => hu _ _ _ _ _ _ _ h z) q
theorem dgs_cons {s1 s2 : List Nat} {e : Expr} {us : List Expr} {t : DTG} {u : DTGs} (h1 : DG X W e s1 t) (m1 : GMono t) (h2 : DGs X W us s2 u) (m2 : GsMono u)
    (hst : (assignEach (e :: us) X.env).map (·.2) = assign e X.env :: (assignEach us X.env).map (·.2) := by rfl) : DGs X W (e :: us) (s1 ++ s2) (gsCons t u) := ⟨PGs.imp (pgs_cons h1.pg h2.pg hst) fun v σ H Q ⟨xs, ρ, M, N, P, PX, hv, hs, hr, ht, hP, hX⟩ => by
  cases hv with
  | nil => exact (show False from ht).elim
  | @cons w x ws r i1 i2 =>
    refine ⟨_, _, rfl, _, ρ, M, N, fun ρ1 M1 => u r ρ1 M1 P fun _ _ => False, fun _ _ => False, i1, hs, hr, m1 _ _ _ _ _ _ _ (fun ρ1 M1 z => m2 _ _ _ _ _ _ _ (fun _ _ y => y) z) ht, fun ρ1 M1 σ1 H1 p s1 r1 a1 b1 => ?_, fun _ _ _ _ z => z.elim⟩
    exact ⟨_, ρ1, M1, N, P, fun _ _ => False, areD_mono a1.fr i2, s1, r1, p, fun ρ2 M2 σ2 H2 p2 s2 r2 a2 b2 => hP ρ2 M2 σ2 H2 p2 s2 r2 (a1.trans a2) (b1.trans b2), fun _ _ _ _ z => z.elim⟩⟩
/-- (a, b, ..) = a tuple of data -/
def gTp (n : Nat) (u : DTGs) : DTG := fun x ρ M P PX => match x with | .d (.tuple ds) => ds.length = n ∧ u (ds.map .d) ρ M P PX | _ => False
theorem gm_tup {n : Nat} {u : DTGs} (hu : GsMono u) : GMono (gTp n u) := fun x ρ M P P' PX PX' h q => by
  unfold gTp at q ⊢
  split at q
  · exact ⟨q.1, hu _ _ _ _ _ _ _ h q.2⟩
  · exact q
theorem areD_map {K : PySem.W.Frag} {F : Hp} : ∀ {vs : List V} {ds : List PyData}, DpAll K F vs ds → AreD K F vs (ds.map .d)
  | _, [], h => by cases h; exact .nil
  | _, _ :: _, h => by
    cases h with
    | cons h1 h2 => exact .cons h1 (areD_map h2)
theorem dg_tup {sl : List Nat} {us : List Expr} {k : Nat} {u : DTGs} {n : Nat} (hc : X.calm = true) (h : DGs X W us sl u) (hn : (assignEach us X.env).length = n := by rfl) (hst : (assignEach us X.env).findIdx? (·.1) = none := by rfl) : DG X W (.Tuple us k pos) sl (gTp n u) := ⟨PG.imp (pg_tup hc h.pg hn hst) fun v σ H Q ⟨y, ρ, M, N, P, PX, hv, hs, hr, ht, hP, hX⟩ => by
  unfold gTp at ht
  split at ht
  · rename_i ds
    cases id (show Dp _ _ _ _ from hv) with
    | tup h1 h2 => exact ⟨_, _, rfl, same_tup fz_sub h1, by rw [dpAll_len h2]; exact ht.1, _, ρ, M, N, P, PX, areD_map h2, hs, hr, ht.2, hP, hX⟩
  · exact ht.elim⟩
def sAsg (te : DTE) (g : DTG) : DTS := fun E ρ M => te ρ M (fun x M1 => g x ρ M1 E.nx (fun x M1 => E.ex x ρ M1)) (fun x M1 => E.ex x ρ M1)
theorem ds_asg {tg : Expr} {g : DTG} {sl : List Nat} (he : DE X W e te) (hg : DG X W tg sl g) (hs : swapsWithSole [tg] e pos.line X.env = pure false := by rfl) (hw : swappedStores [tg] e X.env = pure none := by rfl)
    (h1 : (assignEach [tg] X.env).map (·.2) = [assign tg X.env] := by rfl) : DS X W (.Assign [tg] e pos) (sAsg te g) := ⟨PS.imp (ps_asg he.pe hg.pg hs hw h1) fun D σ H ⟨ρ, M, N, E, hs, hr, ht, hE⟩ =>
  ⟨ρ, M, N, _, _, hs, hr, ht, fun x M1 v H1 p hr1 af1 iv => ⟨x, ρ, M1, N, _, _, iv, hs.mono af1.fr, hr1, p, fun ρ' M' σ' H' q s' r' f' _ => hE.nx ρ' M' σ' H' q s' r' (af1.trans f'), (hE.step af1).xend (hs.mono af1.fr)⟩, hE.xend hs⟩⟩
def sSet (i : Nat) (te : DTE) : DTS := fun E ρ M => te ρ M (fun x M1 => E.nx (ρ.set i (some x)) M1) (fun x M1 => E.ex x ρ M1)
theorem ds_set {i : Nat} {x : Str} {pos' : Pos} (hN : X.N.Nodup) (he : DE X W e te) (hi : X.N[i]? = some x := by rfl) (hx : Loc X.env.scope x := by first | exact Or.inl rfl | exact Or.inr rfl) (hs : swapsWith e (some (.Name x pos')) pos.line X.env = pure false := by rfl)
    (hf : X.fn x = true ∨ X.env.scope.names.lookup x = some .local := by first | exact .inl rfl | exact .inr rfl | assumption) : DS X W (.Assign [.Name x pos'] e pos) (sSet i te) := ⟨PS.imp (ps_set hN hi hx he.pe hs hf) fun D σ H ⟨ρ, M, N, E, hs, hr, ht, hE⟩ =>
  ⟨ρ, M, N, _, _, hs, hr, ht, fun x M1 v H1 p hr1 af1 iv => hE.nx _ M1 _ H1 p ((hs.mono af1.fr).set iv i) hr1 af1, hE.xend hs⟩⟩
/-- a, b = x, y -/
def sPar (i j : Nat) (ta : DTA) : DTS := fun E ρ M => ta ρ M (fun xs M1 => match xs with | [x, y] => E.nx ((ρ.set i (some x)).set j (some y)) M1 | _ => False) (fun x M1 => E.ex x ρ M1)
theorem ds_par {i j : Nat} {x y : Str} {ta : DTA} {px py pt : Pos} {kt k2 pt2} (hc : X.calm = true) (hN : X.N.Nodup) (ha : DA X W [a, b] ta) (hi : X.N[i]? = some x := by rfl) (hj : X.N[j]? = some y := by rfl) (hij : i ≠ j := by decide)
    (hx : X.env.scope.names.lookup x = some .local := by rfl) (hy : X.env.scope.names.lookup y = some .local := by rfl)
    (hw : swappedStores [.Tuple [.Name x px, .Name y py] kt pt] (.Tuple [a, b] k2 pt2) X.env = pure (some [x, y]) := by rfl)
    (hs : swapsWithSole [.Tuple [.Name x px, .Name y py] kt pt] (.Tuple [a, b] k2 pt2) pos.line X.env = pure false := by rfl) :
    DS X W (.Assign [.Tuple [.Name x px, .Name y py] kt pt] (.Tuple [a, b] k2 pt2) pos) (sPar i j ta) := ⟨PS.imp (ps_par hc hN hi hj hij hx hy ha.pa hw hs) fun D σ H ⟨ρ, M, N, E, hs, hr, ht, hE⟩ => by
  refine ⟨ρ, M, N, _, _, hs, hr, ht, fun xs M1 vs H1 p hr1 af1 iv => ?_, hE.xend hs⟩
  split at p
  · cases iv with
    | cons i1 i2 =>
      cases i2 with
      | cons i2 i3 =>
        cases i3
        exact ⟨_, _, rfl, hE.nx _ M1 _ H1 p (((hs.mono af1.fr).set i1 i).set i2 j) hr1 af1⟩
  · exact p.elim⟩

/-! ### loops -/
/-- some weaker state has it -/
def Wks (I : DEnv → MHp → Prop) (ρ : DEnv) (M : MHp) : Prop := ∃ ρ' M', ELe ρ' ρ ∧ MLe M' M ∧ I ρ' M'
theorem Wks.of {I : DEnv → MHp → Prop} {ρ : DEnv} {M : MHp} (h : I ρ M) : Wks I ρ M := ⟨ρ, M, .refl, .refl, h⟩
def sWhile (c : DTT) (tb : DTS) : DTS := fun E ρ M => ∃ I : Nat → DEnv → MHp → Prop, (∃ m, Wks (I m) ρ M) ∧ ∀ m ρ M, I m ρ M →
  c ρ M (fun k M1 => if k = true then tb { E with nx := fun ρ' M' => ∃ m', m' < m ∧ Wks (I m') ρ' M', ct := fun ρ' M' => ∃ m', m' < m ∧ Wks (I m') ρ' M', bk := E.nx } ρ M1 else E.nx ρ M1) (fun x M1 => E.ex x ρ M1)
theorem ds_while {body : List Stmt} {tc : DTT} {tb : DTS} (hp : PassesOwn (model X.prog X.w) X.A X.env X.xe) (hc : DT X W c tc) (hb : DSs X W body tb) : DS X W (.While c body [] pos) (sWhile tc tb) := ⟨PS.imp (ps_while hp hc.pt hb.ps) fun D σ H ⟨ρ, M, N, E, hs, hr, ht, hE⟩ => by
  obtain ⟨I, ⟨m0, ρ0, M0, l0, k0, i0⟩, turn⟩ := ht
  have w0 := hr.le k0
  refine ⟨fun m σ' H' => ∃ ρ' M', SRel X.K (fz M' N H') σ' ρ' ∧ HRel X.K M' N H' ∧ Af M N H M' H' ∧ I m ρ' M', ⟨m0, ρ0, M0, (hs.le l0).mono w0.2.fr, w0.1, w0.2, i0⟩, ?_⟩
  rintro m σ1 H1 ⟨ρ1, M1, s1, r1, a1, i1⟩
  refine ⟨ρ1, M1, N, _, _, s1, r1, turn m ρ1 M1 i1, fun k M2 H2 p r2 a2 => ?_, (hE.step a1).xend s1⟩
  cases k with
  | true =>
    have fin : ∀ ρ' M' σ' H', (∃ m', m' < m ∧ Wks (I m') ρ' M') → SRel X.K (fz M' N H') σ' ρ' → HRel X.K M' N H' → Af M2 N H2 M' H' → ∃ m', m' < m ∧ ∃ ρ'' M'', SRel X.K (fz M'' N H') σ' ρ'' ∧ HRel X.K M'' N H' ∧ Af M N H M'' H' ∧ I m' ρ'' M'' := by
      rintro ρ' M' σ' H' ⟨m', hm, ρ'', M'', l, k, i⟩ s3 r3 a3
      have w := r3.le k
      exact ⟨m', hm, ρ'', M'', (s3.le l).mono w.2.fr, w.1, ((a1.trans a2).trans a3).trans w.2, i⟩
    exact ⟨fun σ' H' => ∃ m', m' < m ∧ ∃ ρ'' M'', SRel X.K (fz M'' N H') σ' ρ'' ∧ HRel X.K M'' N H' ∧ Af M N H M'' H' ∧ I m' ρ'' M'', fun σ' H' ⟨m', hm, q⟩ => ⟨m', hm, q⟩,
      ρ1, M2, N, _, s1.mono a2.fr, r2, p, ⟨fin, ((hE.step a1).step a2).rt, ((hE.step a1).step a2).nx, fin, ((hE.step a1).step a2).ex⟩⟩
  | false => exact hE.nx ρ1 M2 σ1 H2 p (s1.mono a2.fr) r2 (a1.trans a2)⟩

/-- what a for walks: the items, and what must hold of the mutable things while it walks -/
abbrev DTI := DEnv → MHp → (List DV → (MHp → Prop) → MHp → Prop) → DX → Prop
structure ItD (K : PySem.W.Frag) (F0 : Hp) (J : It) (xs : List DV) (C : MHp → Prop) : Prop where
  go : ∀ i M N H, Same F0 (fz M N H) → HRel K M N H → C M → i < xs.length → J.go i H
  stop : ∀ M N H, Same F0 (fz M N H) → HRel K M N H → C M → J.stop xs.length H
  yld : ∀ i M N H v H' x, Same F0 (fz M N H) → HRel K M N H → C M → xs[i]? = some x → J.yld i H v H' → Same H H' ∧ IsD K (fz M N H') v x
def LI (K : PySem.W.Frag) (W : WX) (wi : DTI) : TI := fun σ H R => ∃ ρ M N P PX, SRel K (fz M N H) σ ρ ∧ HRel K M N H ∧ wi ρ M P PX ∧
  (∀ xs C M' J H', P xs C M' → HRel K M' N H' → Af M N H M' H' → ItD K (fz M' N H') J xs C → R J H') ∧ XEnd K W σ M N H PX
structure DI (X : Cx) (W : WX) (tg iter : Expr) (wi : DTI) : Prop where
  pi : PI X tg iter (LI X.K W wi)
theorem PI.imp {X : Cx} {tg e : Expr} {t u : TI} (h : PI X tg e t) (i : ∀ σ H Q, u σ H Q → t σ H Q) : PI X tg e u := ⟨fun pins s σ H Q I q => h.run pins s σ H Q I (i σ H Q q)⟩
/-- I: the invariant by the turn -/
def forI (xs : List DV) (C : MHp → Prop) (g : DTG) (tb : DTS) (E : DEnds) (ρ : DEnv) (M : MHp) : Prop := ∃ I : Nat → DEnv → MHp → Prop, Wks (I 0) ρ M ∧ (∀ i ρ M, i ≤ xs.length → I i ρ M → C M) ∧
  (∀ i ρ M x, xs[i]? = some x → I i ρ M → g x ρ M (fun ρ2 M2 => tb { E with nx := Wks (I (i + 1)), ct := Wks (I (i + 1)), bk := E.nx } ρ2 M2) (fun x M1 => E.ex x ρ M1)) ∧ ∀ ρ M, I xs.length ρ M → E.nx ρ M
def sFor (wi : DTI) (g : DTG) (tb : DTS) : DTS := fun E ρ M => wi ρ M (fun xs C M1 => forI xs C g tb E ρ M1) (fun x M1 => E.ex x ρ M1)
theorem ds_for {tg iter : Expr} {body : List Stmt} {wi : DTI} {g : DTG} {tb : DTS} (hp : PassesOwn (model X.prog X.w) X.A X.env X.xe) (hc : X.calm = true) (hi : DI X W tg iter wi) {sl : List Nat} (hg : DG X W tg sl g) (hb : DSs X W body tb)
    (hs : ∀ x, foldedSetIterable iter X.env x = pure x := by intro _; rfl) : DS X W (.For tg iter body [] pos) (sFor wi g tb) := ⟨PS.imp (ps_for hp hc hi.pi hg.pg hb.ps hs) fun D σ H ⟨ρ, M, N, E, hs, hr, ht, hE⟩ => by
  refine ⟨ρ, M, N, _, _, hs, hr, ht, fun xs C M1 J H1 p r1 a1 T => ?_, hE.xend hs⟩
  obtain ⟨I, ⟨ρ0, M0, l0, k0, i0⟩, hC, turn, done⟩ := p
  have w0 := r1.le k0
  refine ⟨fun i m σ' H' => m = xs.length - i ∧ i ≤ xs.length ∧ ∃ ρ' M', SRel X.K (fz M' N H') σ' ρ' ∧ HRel X.K M' N H' ∧ Af M1 N H1 M' H' ∧ I i ρ' M', ⟨xs.length, by simp, Nat.zero_le _, ρ0, M0, ((hs.mono a1.fr).le l0).mono w0.2.fr, w0.1, w0.2, i0⟩, ?_⟩
  rintro i m σ2 H2 ⟨rfl, hi, ρ2, M2, s2, r2, a2, i2⟩
  by_cases hlt : i < xs.length
  · refine .inr ⟨T.go i M2 N H2 a2.fr r2 (hC i ρ2 M2 hi i2) hlt, fun σ' H' => ∃ ρ' M', SRel X.K (fz M' N H') σ' ρ' ∧ HRel X.K M' N H' ∧ Af M1 N H1 M' H' ∧ I (i + 1) ρ' M', fun σ' H' q => ⟨xs.length - (i + 1), by omega, rfl, hlt, q⟩, fun v H3 y => ?_⟩
    have hx : xs[i]? = some xs[i] := List.getElem?_eq_getElem hlt
    obtain ⟨g3, iv⟩ := T.yld i M2 N H2 v H3 xs[i] a2.fr r2 (hC i ρ2 M2 hi i2) hx y
    have r3 := r2.grow g3
    have a3 := Af.grow r2 g3
    refine ⟨xs[i], ρ2, M2, N, _, _, iv, s2.mono a3.fr, r3, turn i ρ2 M2 xs[i] hx i2, fun ρ4 M4 σ4 H4 p4 s4 r4 a4 _ => ?_, (hE.step (a1.trans (a2.trans a3))).xend (s2.mono a3.fr)⟩
    have af := (a2.trans a3).trans a4
    have fin : ∀ ρ' M' σ' H', Wks (I (i + 1)) ρ' M' → SRel X.K (fz M' N H') σ' ρ' → HRel X.K M' N H' → Af M4 N H4 M' H' → ∃ ρ'' M'', SRel X.K (fz M'' N H') σ' ρ'' ∧ HRel X.K M'' N H' ∧ Af M1 N H1 M'' H' ∧ I (i + 1) ρ'' M'' := by
      rintro ρ' M' σ' H' ⟨ρ'', M'', l, k, i'⟩ s5 r5 a5
      have w := r5.le k
      exact ⟨ρ'', M'', (s5.le l).mono w.2.fr, w.1, (af.trans a5).trans w.2, i'⟩
    exact ⟨ρ4, M4, N, _, s4, r4, p4, ⟨fin, (hE.step (a1.trans af)).rt, (hE.step (a1.trans af)).nx, fin, (hE.step (a1.trans af)).ex⟩⟩
  · have e : i = xs.length := by omega
    subst e
    exact .inl ⟨T.stop M2 N H2 a2.fr r2 (hC _ ρ2 M2 hi i2), hE.nx ρ2 M2 σ2 H2 (done ρ2 M2 i2) s2 r2 (a1.trans a2)⟩⟩
end
end DL

/-! Part 3: comprehensions, calls, defs, attributes, exceptions. -/
namespace DL
open PySem PySem.Spec PyProof.Rows L2

/-! ### comprehensions -/
def wipeD (ρ : DEnv) : List Nat → DEnv
  | [] => ρ
  | v :: vs => (wipeD ρ vs).set v none
theorem wipe_rel {K : PySem.W.Frag} {F : Hp} {σ : L2.St} {ρ : DEnv} (h : SRel K F σ ρ) : ∀ vs, SRel K F (wipe σ vs) (wipeD ρ vs)
  | [] => h
  | v :: vs => (wipe_rel h vs).setNone none v
theorem wipe_at {σ : L2.St} {j : Nat} : ∀ {vs : List Nat}, j ∈ vs → j < σ.length → (wipe σ vs)[j]? = some none
  | v :: vs, h, hl => by
    unfold wipe
    by_cases hj : v = j
    · subst hj
      rw [List.getElem?_set_self (by rw [wipe_length]; exact hl)]
    · rw [List.getElem?_set_ne hj]
      rcases List.mem_cons.mp h with rfl | h
      · exact absurd rfl hj
      · exact wipe_at h hl
theorem wipe_not {σ : L2.St} {j : Nat} : ∀ {vs : List Nat}, j ∉ vs → (wipe σ vs)[j]? = σ[j]?
  | [], _ => rfl
  | v :: vs, h => by
    unfold wipe
    rw [List.getElem?_set_ne (fun e => h (by simp [e]))]
    exact wipe_not fun z => h (List.mem_cons_of_mem _ z)
theorem wipe_but {σ σ' : L2.St} {sl vs : List Nat} (hs : ∀ j ∈ sl, j ∈ vs) (b : But sl (wipe σ vs) σ') : wipe σ' vs = wipe σ vs := by
  apply List.ext_getElem?
  intro j
  by_cases hj : j ∈ vs
  · by_cases hl : j < σ.length
    · rw [wipe_at hj hl, wipe_at hj (by rw [b.1, wipe_length]; exact hl)]
    · rw [List.getElem?_eq_none (by rw [wipe_length, b.1, wipe_length]; omega), List.getElem?_eq_none (by rw [wipe_length]; omega)]
  · rw [wipe_not hj, wipe_not hj, b.2 j (fun h => hj (hs j h)), wipe_not hj]

def hidE (N : Hid) (D : Addr) : Hid := fun a => N a || decide (a = D)
section
variable {K : PySem.W.Frag} {M : MHp} {N : Hid} {H H' : Hp} {D : Addr}
theorem hidE_self : hidE N D D = true := by simp [hidE]
theorem hidE_ne {a : Addr} (h : a ≠ D) : hidE N D a = N a := by simp [hidE, h]
theorem fz_hid : Same (fz M (hidE N D) H) (fz M N H) := fun b o e => by
  unfold fz at e ⊢
  by_cases hb : hidE N D b = true
  · rw [if_pos hb] at e; cases e
  · have hn : N b = false := by
      cases q : N b with
      | false => rfl
      | true => exact absurd (by simp [hidE, q]) hb
    rw [if_neg hb] at e
    rw [if_neg (by rw [hn]; exact Bool.false_ne_true)]
    exact e
theorem fz_upd_hid {o : HO} : fz M (hidE N D) (upd H D o) = fz M (hidE N D) H := by
  funext b
  unfold fz
  by_cases hb : b = D
  · subst hb; rw [if_pos hidE_self, if_pos hidE_self]
  · rw [upd_ne hb]
theorem HRel.hide (h : HRel K M N H) {o : HO} (hD : H D = none) (no : nt2 (some o) = some o := by rfl) : HRel K M (hidE N D) (upd H D o) ∧ Same (fz M N H) (fz M (hidE N D) (upd H D o)) := by
  have s : Same (fz M N H) (fz M (hidE N D) (upd H D o)) := fun b u e => by
    rw [fz_upd_hid]
    have hb : b ≠ D := by
      rintro rfl
      have := fz_sub _ _ e
      rw [hD] at this; cases this
    unfold fz at e ⊢
    rw [hidE_ne hb]
    exact e
  refine ⟨⟨fun a x e => ?_, fun a ha => ?_⟩, s⟩
  · obtain ⟨y, h1, h2⟩ := h.obj a x e
    refine ⟨y, ?_, objD_mono s h2⟩
    rw [upd_ne (ne_of_none h1 hD)]
    exact h1
  · by_cases hb : a = D
    · subst hb
      exact ⟨(h.free hD).1, by rw [upd_same, no]; exact fun z => by cases z⟩
    · rw [hidE_ne hb] at ha
      rw [upd_ne hb]
      exact h.hid a ha
theorem HRel.writeHid (h : HRel K M (hidE N D) H) {o : HO} (no : nt2 (some o) = some o := by rfl) : HRel K M (hidE N D) (upd H D o) := by
  refine ⟨fun a x e => ?_, fun a ha => ⟨(h.hid a ha).1, ?_⟩⟩
  · obtain ⟨y, h1, h2⟩ := h.obj a x e
    have hb : a ≠ D := by
      rintro rfl
      rw [(h.hid a hidE_self).1] at e; cases e
    exact ⟨y, by rw [upd_ne hb]; exact h1, by rw [fz_upd_hid]; exact h2⟩
  · by_cases hb : a = D
    · subst hb; rw [upd_same, no]; exact fun z => by cases z
    · rw [upd_ne hb]; exact (h.hid a ha).2
theorem HRel.show' (h : HRel K M (hidE N D) H) : HRel K M N H :=
  ⟨fun a x e => let ⟨y, h1, h2⟩ := h.obj a x e; ⟨y, h1, objD_mono fz_hid h2⟩, fun a ha => h.hid a (by simp [hidE, ha])⟩
end

/-- the tests of a clause -/
structure DTs (X : Cx) (W : WX) (ifs : List Expr) (t : DTT) : Prop where
  pt : PTs X ifs (LT X.K W t)
def tYes : DTT := fun _ M P _ => P true M
theorem PTs.imp {X : Cx} {e : List Expr} {t u : TT} (h : PTs X e t) (i : ∀ σ H Q, u σ H Q → t σ H Q) : PTs X e u := ⟨fun pins s σ H Q I q => h.run pins s σ H Q I (i σ H Q q)⟩
theorem dts_nil {X : Cx} {W : WX} : DTs X W [] tYes := ⟨PTs.imp pts_nil fun σ H Q ⟨ρ, M, N, P, PX, hs, hr, ht, hP, hX⟩ => hP true M H ht hr .refl⟩
theorem dts_one {X : Cx} {W : WX} {c : Expr} {t : DTT} (h : DT X W c t) : DTs X W [c] t := ⟨pts_one h.pt⟩

/-- what becomes of the made items -/
abbrev Fin' := List DV → MHp → DK → Prop
def finD : Fin' := fun acc M P => allD acc fun ds => P (.d (.list ds)) M
def finM : Fin' := fun acc M P => allD acc fun ds => ∀ p, M p = none → P (.r p) (mu M p (.ls ds))
def finV : Fin' := fun acc M P => ∀ p, M p = none → P (.r p) (mu M p (.lv acc))
structure FinOk (f : Fin') : Prop where
  ok : ∀ {K : PySem.W.Frag} {M : MHp} {N : Hid} {H : Hp} {D : Addr} {vs : List V} {acc : List DV} {P : DK} {Q : VK}, HRel K M (hidE N D) H → N D = false → H D = some (.lst vs) → AreD K (fz M (hidE N D) H) vs acc → f acc M P → Fol K M N H P Q → Q (.ref D) H
theorem fz_hid' {M : MHp} {N : Hid} {H : Hp} {D : Addr} {o : HO} {x : MO} : Same (fz M (hidE N D) H) (fz (mu M D x) N H) := fun b u e => by
  unfold fz at e ⊢
  by_cases hb : hidE N D b = true
  · rw [if_pos hb] at e; cases e
  · have hbD : b ≠ D := by rintro rfl; exact hb hidE_self
    rw [hidE_ne hbD] at hb e
    rw [if_neg hb] at e ⊢
    rw [mu_ne hbD]
    exact e
theorem fin_put {K : PySem.W.Frag} {M : MHp} {N : Hid} {H : Hp} {D : Addr} {vs : List V} {x : MO} {P : DK} {Q : VK} (r : HRel K M (hidE N D) H) (hn : N D = false) (hD : H D = some (.lst vs)) (ho : ObjD K (fz M (hidE N D) H) (.lst vs) x) (p : P (.r D) (mu M D x)) (f : ∀ z M' v, P z M' → HRel K M' N H → Same (fz M (hidE N D) H) (fz M' N H) → IsD K (fz M' N H) v z → Q v H) : Q (.ref D) H := by
  refine f _ _ _ p ⟨fun a y e => ?_, fun a ha => ?_⟩ (fz_hid' (o := .lst vs)) rfl
  · by_cases hb : a = D
    · subst hb
      rw [mu_same] at e; cases e
      exact ⟨_, hD, objD_mono (fz_hid' (o := .lst vs)) ho⟩
    · rw [mu_ne hb] at e
      obtain ⟨z, h1, h2⟩ := r.obj a y e
      exact ⟨z, h1, objD_mono (fz_hid' (o := .lst vs)) h2⟩
  · have hb : a ≠ D := by rintro rfl; rw [hn] at ha; cases ha
    rw [mu_ne hb]
    exact r.hid a (by simp [hidE, ha])

/-- [elt for target in iter if ..]: I by the turn, what is made so far, the mutable things -/
def eLc (fin : Fin') (wi : DTI) (g : DTG) (tt : DTT) (te : DTE) (vs : List Nat) : DTE := fun ρ M P PX => wi ρ M (fun xs C M1 => ∃ I : Nat → List DV → MHp → Prop, (∃ M', MLe M' M1 ∧ I 0 [] M') ∧ (∀ i acc M, i ≤ xs.length → I i acc M → C M) ∧
  (∀ i acc M x, xs[i]? = some x → I i acc M → g x (wipeD ρ vs) M (fun ρ2 M2 => tt ρ2 M2 (fun b M3 => if b = true then te ρ2 M3 (fun y M4 => acc.length < sizeLine ∧ ∃ M', MLe M' M4 ∧ I (i + 1) (acc ++ [y]) M') fun _ _ => False else ∃ M', MLe M' M3 ∧ I (i + 1) acc M') fun _ _ => False) fun _ _ => False) ∧
  ∀ acc M, I xs.length acc M → fin acc M P) PX
abbrev W0 : WX := fun _ _ _ _ => False
/-- a finish, by the state that hides the new list -/
def FinAt (f : Fin') : Prop := ∀ {K : PySem.W.Frag} {M : MHp} {N : Hid} {H : Hp} {D : Addr} {vs : List V} {acc : List DV} {P : DK} {Q : VK}, HRel K M (hidE N D) H → N D = false → M D = none → H D = some (.lst vs) → AreD K (fz M (hidE N D) H) vs acc → f acc M P →
  (∀ z M' v, P z M' → HRel K M' N H → Same (fz M (hidE N D) H) (fz M' N H) → IsD K (fz M' N H) v z → Q v H) → Q (.ref D) H
theorem finD_at : FinAt finD := fun {K M N H D vs acc P Q} r hn hm hD ha p f => by
  obtain ⟨ds, h1, q⟩ := allD_of ha p
  refine f _ _ _ q r.show' fz_hid ?_
  exact .lst (.inl (.inl (by rw [fz_at hn hm, hD]; rfl))) (dpAll_mono fz_hid _ _ h1)
theorem finM_at : FinAt finM := fun {K M N H D vs acc P Q} r hn hm hD ha p f => by
  obtain ⟨ds, h1, q⟩ := allD_of ha p
  exact fin_put r hn hD (x := .ls ds) h1 (q D hm) f
theorem finV_at : FinAt finV := fun {K M N H D vs acc P Q} r hn hm hD ha p f => fin_put r hn hD (x := .lv acc) ha (p D hm) f

theorem lc_imp {K : PySem.W.Frag} {W : WX} {fin : Fin'} (hfin : FinAt fin) {wi : DTI} {g : DTG} {tt : DTT} {te : DTE} {sl vs : List Nat} (hsl : ∀ j ∈ sl, j ∈ vs) {σ : L2.St} {H : Hp} {Q : VK} (h : LE K W (eLc fin wi g tt te vs) σ H Q) :
    tLc (LI K W wi) (LG K W0 sl g) (LT K W0 tt) (LE K W0 te) vs σ H Q := by
  obtain ⟨ρ, M, N, P, PX, hs, hr, ht, hP, hX⟩ := h
  refine ⟨ρ, M, N, _, PX, hs, hr, ht, fun xs C M1 J H1 p r1 a1 T D hD => ?_, hX⟩
  obtain ⟨I, ⟨M0, l0, i0⟩, hC, turn, done⟩ := p
  have w0 := r1.le l0
  have hN := (r1.free hD).2
  obtain ⟨rh, sh⟩ := w0.1.hide (o := .lst []) hD
  -- the state behind i turns
  refine ⟨fun i m H2 => m = xs.length - i ∧ i ≤ xs.length ∧ ∃ acc M2 ws, H2 D = some (.lst ws) ∧ AreD K (fz M2 (hidE N D) H2) ws acc ∧ HRel K M2 (hidE N D) H2 ∧ Same (fz M0 N H1) (fz M2 (hidE N D) H2) ∧ (∀ a, N a = true → H2 a = H1 a) ∧ I i acc M2,
    ⟨xs.length, by simp, Nat.zero_le _, [], M0, [], upd_same, .nil, rh, sh, fun a ha => upd_ne (by rintro rfl; rw [hN] at ha; cases ha), i0⟩, ?_⟩
  rintro i m H2 ⟨rfl, hi, acc, M2, ws, e2, ar2, r2, s2, n2, i2⟩
  have T0 : Same (fz M1 N H1) (fz M2 (hidE N D) H2) := w0.2.fr.trans s2
  by_cases hlt : i < xs.length
  · refine .inr ⟨T.go i M2 _ H2 T0 r2 (hC i acc M2 hi i2) hlt, fun H' => ∃ acc M2 ws, H' D = some (.lst ws) ∧ AreD K (fz M2 (hidE N D) H') ws acc ∧ HRel K M2 (hidE N D) H' ∧ Same (fz M0 N H1) (fz M2 (hidE N D) H') ∧ (∀ a, N a = true → H' a = H1 a) ∧ I (i + 1) acc M2,
      fun H' q => ⟨xs.length - (i + 1), by omega, rfl, hlt, q⟩, fun v H3 y => ?_⟩
    have hx : xs[i]? = some xs[i] := List.getElem?_eq_getElem hlt
    obtain ⟨g3, iv⟩ := T.yld i M2 _ H2 v H3 xs[i] T0 r2 (hC i acc M2 hi i2) hx y
    have r3 := r2.grow g3
    have a3 := Af.grow r2 g3
    have nD : ∀ {M' : MHp} {H' : Hp}, Af M2 (hidE N D) H2 M' H' → ∀ a, N a = true → H' a = H1 a := fun {M' H'} af a ha => (af.hd a (by simp [hidE, ha])).trans (n2 a ha)
    have eD : ∀ {M' : MHp} {H' : Hp}, Af M2 (hidE N D) H2 M' H' → H' D = some (.lst ws) := fun {M' H'} af => (af.hd D hidE_self).trans e2
    refine ⟨xs[i], wipeD ρ vs, M2, hidE N D, _, fun _ _ => False, iv, wipe_rel ((hs.mono (a1.fr.trans (T0.trans a3.fr)))) vs, r3, turn i acc M2 xs[i] hx i2, fun ρ4 M4 σ4 H4 p4 s4 r4 a4 b4 => ⟨wipe_but hsl b4, ?_⟩, fun _ _ _ _ z => z.elim⟩
    refine ⟨ρ4, M4, hidE N D, _, fun _ _ => False, s4, r4, p4, fun b M5 H5 p5 r5 a5 => ?_, fun _ _ _ _ z => z.elim⟩
    cases b with
    | false =>
      obtain ⟨M6, l6, i6⟩ := p5
      have w := r5.le l6
      have af := ((a3.trans a4).trans a5).trans w.2
      exact ⟨acc, M6, ws, eD af, areD_mono af.fr ar2, w.1, s2.trans af.fr, nD af, i6⟩
    | true =>
      refine ⟨ρ4, M5, hidE N D, _, fun _ _ => False, s4.mono a5.fr, r5, p5, fun z M6 u H6 p6 r6 a6 iu => ?_, fun _ _ _ _ z => z.elim⟩
      obtain ⟨hz, M7, l7, i7⟩ := p6
      have w := r6.le l7
      have af := (((a3.trans a4).trans a5).trans a6).trans w.2
      refine ⟨ws, eD af, by rw [paired_len ar2]; exact hz, acc ++ [z], M7, ws ++ [u], upd_same, ?_, w.1.writeHid, ?_, fun a ha => ?_, i7⟩
      · rw [fz_upd_hid]
        have : ∀ {xs : List V} {ys : List DV} {x : V} {y : DV} {F : Hp}, AreD K F xs ys → IsD K F x y → AreD K F (xs ++ [x]) (ys ++ [y]) := by
          intro xs ys x y F h q
          induction h with
          | nil => exact .cons q .nil
          | cons h1 h2 ih => exact .cons h1 ih
        exact this (areD_mono af.fr ar2) (isD_mono w.2.fr iu)
      · rw [fz_upd_hid]
        exact s2.trans af.fr
      · rw [upd_ne (by rintro rfl; rw [hN] at ha; cases ha)]
        exact nD af a ha
  · have e : i = xs.length := by omega
    subst e
    refine .inl ⟨T.stop M2 _ H2 T0 r2 (hC _ acc M2 hi i2), ?_⟩
    refine hfin r2 hN (r2.hid D hidE_self).1 e2 ar2 (done acc M2 i2) fun z M' v pz r' s' iz => hP z M' v H2 pz r' ?_ iz
    exact a1.trans ⟨T0.trans s', fun a ha => n2 a ha⟩

section
variable {X : Cx} {W : WX} {elt tg iter : Expr} {ifs : List Expr} {scope : Scope} {own : List (Str × Nat)} {pos : Pos} {wi : DTI} {g : DTG} {tt : DTT} {te : DTE} {fin : Fin'} {sl : List Nat}
theorem de_lc {vs : List Nat} (hfin : FinAt fin) (hc : X.calm = true) (hN : X.N.Nodup) (hi : DI X W tg iter wi) (ok : BlkOk X.N X.env.scope scope own)
    (hg : ∀ (s : Shared) (H : Hp) (C : Addr) (cl : List (Str × Addr)) (fp : List Addr), DG (X.blk s H scope (compEnvC scope cl C X.env) fp) W0 tg sl g) (hsl : ∀ j ∈ sl, j ∈ own.map (·.2)) (ht : ∀ (s : Shared) (H : Hp) (C : Addr) (cl : List (Str × Addr)) (fp : List Addr), DTs (X.blk s H scope (compEnvC scope cl C X.env) fp) W0 ifs tt)
    (he : ∀ (s : Shared) (H : Hp) (C : Addr) (cl : List (Str × Addr)) (fp : List Addr), DE (X.blk s H scope (compEnvC scope cl C X.env) fp) W0 elt te) (hs : ∀ x, foldedSetIterable iter X.env x = pure x := by intro _; rfl) (hv : own.map (·.2) = vs := by rfl) :
    DE X W (.ListComp elt [⟨tg, iter, ifs, 0⟩] scope pos) (eLc fin wi g tt te vs) := by
  subst hv
  exact ⟨PE.imp (pe_lc hc hN hi.pi ok (fun s H C cl fp => (hg s H C cl fp).pg) (fun s H C cl fp => (ht s H C cl fp).pt) (fun s H C cl fp => (he s H C cl fp).pe) hs) fun σ H Q h => lc_imp hfin hsl h⟩
theorem ds_setLc {vs : List Nat} {i : Nat} {y : Str} {py : Pos} {spos : Pos} (hfin : FinAt fin) (hc : X.calm = true) (hN : X.N.Nodup) (hi : DI X W tg iter wi) (ok : BlkOk X.N X.env.scope scope own)
    (hg : ∀ (s : Shared) (H : Hp) (C : Addr) (cl : List (Str × Addr)) (fp : List Addr), DG (X.blk s H scope (compEnvC scope cl C X.env) fp) W0 tg sl g) (hsl : ∀ j ∈ sl, j ∈ own.map (·.2)) (ht : ∀ (s : Shared) (H : Hp) (C : Addr) (cl : List (Str × Addr)) (fp : List Addr), DTs (X.blk s H scope (compEnvC scope cl C X.env) fp) W0 ifs tt)
    (he : ∀ (s : Shared) (H : Hp) (C : Addr) (cl : List (Str × Addr)) (fp : List Addr), DE (X.blk s H scope (compEnvC scope cl C X.env) fp) W0 elt te)
    (hsw : swapsWith (.ListComp elt [⟨tg, iter, ifs, 0⟩] scope pos) (some (.Name y py)) spos.line X.env = pure true) (hy : X.N[i]? = some y := by rfl) (hyl : X.env.scope.names.lookup y = some .local := by rfl) (hs : ∀ x, foldedSetIterable iter X.env x = pure x := by intro _; rfl) (hv : own.map (·.2) = vs := by rfl) :
    DS X W (.Assign [.Name y py] (.ListComp elt [⟨tg, iter, ifs, 0⟩] scope pos) spos) (sSet i (eLc fin wi g tt te vs)) := by
  subst hv
  exact ⟨PS.imp (ps_setLc hc hN hy hyl hsw hi.pi ok (fun s H C cl fp => (hg s H C cl fp).pg) (fun s H C cl fp => (ht s H C cl fp).pt) (fun s H C cl fp => (he s H C cl fp).pe) hs) fun D σ H ⟨ρ, M, N, E, hs, hr, ht, hE⟩ =>
    lc_imp (W := W) hfin hsl ⟨ρ, M, N, _, _, hs, hr, ht, fun x M1 v H1 p hr1 af1 iv => hE.nx _ M1 _ H1 p ((hs.mono af1.fr).set iv i) hr1 af1, hE.xend hs⟩⟩
end

/-! ### defs and calls -/
/-- what a def promises, over values of ours -/
abbrev DSp := List DV → MHp → DK → DX → Prop
def liftSp (K : PySem.W.Frag) (sp : DSp) : Sp := fun vs H Q E => ∃ xs M N P PX, AreD K (fz M N H) vs xs ∧ HRel K M N H ∧ sp xs M P PX ∧ Fol K M N H P Q ∧
  ∀ x M' d H', PX x M' → HRel K M' N H' → Af M N H M' H' → ExD K (fz M' N H') x d → E x.cls d H'
abbrev DFn (P : Program) (w : World) (K : PySem.W.Frag) (mg : Str → Option Value) (base : Heap) (k : Nat) (f : Addr) (fd : FuncData) (ps : List Str) (sp : DSp) : Prop := FnOk P w K mg base (L2.CX P w) k f fd ps (liftSp K sp)
/-- a weaker end -/
def WkV (P : DK) : DK := fun x M => ∃ M', MLe M' M ∧ (P x M' ∨ ∃ p ys, x = .r p ∧ M p = some (.ls ys) ∧ M' p = none ∧ P (.d (.list ys)) M')
theorem WkV.of {P : DK} {x : DV} {M M' : MHp} (l : MLe M' M) (h : P x M') : WkV P x M := ⟨M', l, .inl h⟩
theorem WkV.here {P : DK} {x : DV} {M : MHp} (h : P x M) : WkV P x M := ⟨M, .refl, .inl h⟩
theorem WkV.list {P : DK} {p : Addr} {ys : List PyData} {M M' : MHp} (l : MLe M' M) (e : M p = some (.ls ys)) (n : M' p = none) (h : P (.d (.list ys)) M') : WkV P (.r p) M := ⟨M', l, .inr ⟨p, ys, rfl, e, n, h⟩⟩
theorem fol_wk {K : PySem.W.Frag} {M : MHp} {N : Hid} {H : Hp} {P : DK} {Q : VK} (f : Fol K M N H P Q) : Fol K M N H (WkV P) Q := by
  rintro x M1 v H1 ⟨M2, l, h⟩ r a i
  have w := r.le l
  rcases h with h | ⟨p, ys, rfl, e, n, h⟩
  · exact f x M2 v H1 h w.1 (a.trans w.2) (isD_mono w.2.fr i)
  · obtain ⟨o, h1, h2⟩ := r.obj p _ e
    cases o with
    | lst vs =>
      have i' : v = .ref p := i
      subst i'
      refine f _ M2 _ H1 h w.1 (a.trans w.2) (.lst (.inl (.inl ?_)) (dpAll_mono w.2.fr _ _ h2))
      rw [fz_at (r.notHid e) n, h1]
      rfl
    | _ => exact (show False from h2).elim
def startD (N : List Str) (xs : List DV) : DEnv := xs.map some ++ List.replicate (N.length - xs.length) none
theorem start_rel {K : PySem.W.Frag} {F : Hp} {vs : List V} {xs : List DV} (h : AreD K F vs xs) (N : List Str) : SRel K F (start N vs) (startD N xs) := by
  have hl := paired_len h
  refine ⟨by simp [L2.start, startD, hl], fun i x e => ?_⟩
  unfold startD at e
  unfold L2.start
  by_cases hi : i < xs.length
  · rw [List.getElem?_append_left (by simpa using hi), List.getElem?_map] at e
    rw [List.getElem?_append_left (by simpa [hl] using hi), List.getElem?_map]
    have : ∀ {vs : List V} {xs : List DV} {i : Nat}, AreD K F vs xs → xs[i]?.map some = some (some x) → ∃ v, vs[i]?.map some = some (some v) ∧ IsD K F v x := by
      intro vs xs i h e
      induction h generalizing i with
      | nil => simp at e
      | cons h1 h2 ih =>
        cases i with
        | zero => simp at e; subst e; exact ⟨_, rfl, h1⟩
        | succ i => exact ih (i := i) (by simpa using e)
    exact this h e
  · rw [List.getElem?_append_right (by simpa using hi)] at e
    obtain ⟨_, e'⟩ := List.getElem?_eq_some_iff.mp e
    rw [List.getElem_replicate] at e'
    cases e'
section
variable {P : Program} {w : World} {K : PySem.W.Frag} {mg : Str → Option Value} {base : Heap}
/-- the context of a def's body -/
abbrev cxD (P : Program) (w : World) (K : PySem.W.Frag) (mg : Str → Option Value) (base : Heap) (N : List Str) (qual : Str) (st : Stmt) (f : Addr) (cdv : Value) (A : Around) (outer : List Env) (s : Shared) (H : Hp) (E : XK) : Cx :=
  cxOf (L2.CX P w) P w K mg base N qual (defScope st) f cdv A outer s H E
abbrev wxD (E : XK) : WX := fun c d _ H => E c d H
/-- the body's ends -/
abbrev endD (P : DK) (PX : DX) : DEnds := { nx := fun _ M => WkV P (.d .none) M, rt := WkV P, ex := fun x _ M => PX x M }
theorem okD {x qual : Str} {st : Stmt} {f : Addr} {fd : FuncData} {N ps : List Str} {k : Nat} {sp : DSp} {t : DTS} (F : Fun K x qual st f fd) (S : FnScope N ps (defScope st)) (len : ∀ xs M P PX, sp xs M P PX → xs.length = ps.length)
    (hbody : ∀ (cdv : Value) (A : Around) (outer : List Env) (s : Shared) (H : Hp) (E : XK), Room k (A.deeper (envOfC qual (defScope st) s.heap.objs.size f cdv)) →
      Takes (cxD P w K mg base N qual st f cdv A outer s H E) (wxD E) → PassesOwn (model P w) (A.deeper (envOfC qual (defScope st) s.heap.objs.size f cdv)) (envOfC qual (defScope st) s.heap.objs.size f cdv) (cxD P w K mg base N qual st f cdv A outer s H E).xe →
      DSs (cxD P w K mg base N qual st f cdv A outer s H E) (wxD E) (defBody st) t)
    (hread : ∀ xs M Q PX, sp xs M Q PX → t (endD Q PX) (startD N xs) M) : DFn P w K mg base (k + 1) f fd ps sp := by
  refine F.okX S (fun vs H Q E ⟨xs, M, N', P', PX, ha, hr, hsp, _⟩ => by rw [paired_len ha]; exact len _ _ _ _ hsp) fun cdv A outer s H vs Q E hr hsp => ?_
  obtain ⟨xs, M, N', P', PX, ha, hrel, hsp, hf, hx⟩ := hsp
  refine ⟨_, (hbody cdv A outer s H E hr (takes_of rfl rfl rfl rfl) (passes_of rfl)).ps, startD N xs, M, N', endD P' PX, start_rel ha N, hrel, hread xs M P' PX hsp, ?_⟩
  exact ⟨fun ρ' M' σ' H' q _ r a => fol_wk hf _ M' .non H' q r a .non, fun x M' v H' q r a i => fol_wk hf x M' v H' q r a i, fun _ _ _ _ z => z.elim, fun _ _ _ _ z => z.elim, fun x ρ' M' d σ' H' q _ r a e => hx x M' d H' q r a e⟩
end
/-- f(e, ..) -/
def eCall (sp : DSp) (ta : DTA) : DTE := fun ρ M P PX => ta ρ M (fun xs M1 => sp xs M1 P PX) PX
section
variable {X : Cx} {W : WX} {k : Nat} {f C : Addr} {fd : FuncData} {ps : List Str} {sp : DSp} {x m : Str} {p pos apos : Pos} {e o : Expr} {es : List Expr} {ta : DTA} {to : DTE}
theorem call_imp {σ : L2.St} {H : Hp} {Q : VK} {K : PySem.W.Frag} (h : LE K W (eCall sp ta) σ H Q) : tCallS (liftSp K sp) (WE W) (LA K W ta) σ H Q := by
  obtain ⟨ρ, M, N, P, PX, hs, hr, ht, hP, hX⟩ := h
  exact ⟨ρ, M, N, _, PX, hs, hr, ht, fun xs M1 vs H1 p r1 a1 iv => ⟨xs, M1, N, P, PX, iv, r1, p, fun z M2 v H2 pz r2 a2 iz => hP z M2 v H2 pz r2 (a1.trans a2) iz, hX.step a1⟩, hX⟩
theorem de_call (F : DFn X.prog X.w X.K X.mg X.base k f fd ps sp) (hr : Room k X.A) (tk : Takes X W) (hg : Gl X x) (hm : X.mg x = some (.ref f)) (hk : PySem.W.keepIn X.K (.ref f) = true) (hb : Binds X.K fd ps [])
    (ha : DA X W (e :: es) ta) (hdb : (x == ("__debug__" : Str)) = false := by decide) (he : starEach (e :: es) X.env = (false, eval e X.env) :: starEach es X.env := by rfl) (hpl : (backTo pos (starEach es X.env)).any (·.1) = false := by rfl) :
    DE X W (.Call (.Name x p) (e :: es) [] pos) (eCall sp ta) := ⟨PE.imp (pe_callS F hr hg hm hk hb (fun σ => passAt tk σ) ha.pa hdb he hpl) fun _ _ _ h => call_imp h⟩
end

/-! ### built-ins -/
/-- a known value called with values -/
def DCall (X : Cx) (f : Value) (g : DN) : Prop := CallR X f (fun vs H Q => ∃ xs M N P, HRel X.K M N H ∧ AreD X.K (fz M N H) vs xs ∧ g xs M P ∧ Fol X.K M N H P Q)
def eCB (g : DN) (ta : DTA) : DTE := fun ρ M P PX => ta ρ M (fun xs M1 => g xs M1 P) PX
section
variable {X : Cx} {W : WX} {g : DN} {x : Str} {p pos : Pos} {e : Expr} {es : List Expr} {ta : DTA} {id T : String}
theorem cb_imp {σ : L2.St} {H : Hp} {Q : VK} {K : PySem.W.Frag} (h : LE K W (eCB g ta) σ H Q) : tCB (fun vs H Q => ∃ xs M N P, HRel K M N H ∧ AreD K (fz M N H) vs xs ∧ g xs M P ∧ Fol K M N H P Q) (LA K W ta) σ H Q := by
  obtain ⟨ρ, M, N, P, PX, hs, hr, ht, hP, hX⟩ := h
  exact ⟨ρ, M, N, _, PX, hs, hr, ht, fun xs M1 vs H1 p r1 a1 iv => ⟨xs, M1, N, P, r1, iv, p, fun z M2 v H2 pz r2 a2 iz => hP z M2 v H2 pz r2 (a1.trans a2) iz⟩, hX⟩
theorem de_callB (hc : DCall X (.builtin id) g) (hg : Gl X x) (hm : X.mg x = none) (hv : bootBuiltins x = some (.builtin id)) (ha : DA X W (e :: es) ta) (hn : x ≠ "__name__" := by decide) (hdb : (x == ("__debug__" : Str)) = false := by decide)
    (he : starEach (e :: es) X.env = (false, eval e X.env) :: starEach es X.env := by rfl) (hpl : (backTo pos (starEach es X.env)).any (·.1) = false := by rfl) : DE X W (.Call (.Name x p) (e :: es) [] pos) (eCB g ta) :=
  ⟨PE.imp (pe_callB hc hg hm hv ha.pa hn hdb he hpl) fun _ _ _ h => cb_imp h⟩
theorem de_callTy (hc : DCall X (.type T) g) (hg : Gl X x) (hm : X.mg x = none) (hv : bootBuiltins x = some (.type T)) (ha : DA X W (e :: es) ta) (hn : x ≠ "__name__" := by decide) (hdb : (x == ("__debug__" : Str)) = false := by decide)
    (he : starEach (e :: es) X.env = (false, eval e X.env) :: starEach es X.env := by rfl) (hpl : (backTo pos (starEach es X.env)).any (·.1) = false := by rfl) : DE X W (.Call (.Name x p) (e :: es) [] pos) (eCB g ta) :=
  ⟨PE.imp (pe_callTy hc hg hm hv ha.pa hn hdb he hpl) fun _ _ _ h => cb_imp h⟩
end
end DL

/-! Part 4: operators, subscripts, slices, built-ins. -/
namespace DL
open PySem PySem.Spec PyProof.Rows L2

section
variable {X : Cx} {W : WX} {a b c e : Expr} {es : List Expr} {ta tb tc te : DTE} {pos : Pos}

/-! ### arithmetic -/
def MulOk (i j : Int) : Prop := CMul i j ∨ CMulW i j
def DivOk (j : Int) : Prop := 0 < j ∧ j.natAbs.log2 < 9000
theorem divOk_small {j : Int} (h0 : 0 < j) (h : j < 2 ^ 64) : DivOk j := ⟨h0, (wide_div (i := 0) (b := 64) h0 (by omega) (by decide) (by decide)).2⟩
theorem mulOk_left {i j : Int} (h0 : -(2 ^ 64) < i) (h1 : i < 2 ^ 64) : MulOk i j := .inl (.inl ⟨h0, h1⟩)
theorem mulOk_right {i j : Int} (h0 : -(2 ^ 64) < j) (h1 : j < 2 ^ 64) : MulOk i j := .inl (.inr ⟨h0, h1⟩)
def addD : PyData → PyData → (PyData → Prop) → Prop
  | .int i, .int j, k => k (.int (i + j))
  | .str i, .str j, k => i.length + j.length ≤ sizeLine ∧ k (.str (i ++ j))
  | .tuple x, .tuple y, k => x.length + y.length ≤ sizeLine ∧ k (.tuple (x ++ y))
  | .list x, .list y, k => x.length + y.length ≤ sizeLine ∧ k (.list (x ++ y))
  | _, _, _ => False
def subD : PyData → PyData → (PyData → Prop) → Prop
  | .int i, .int j, k => k (.int (i - j))
  | _, _, _ => False
def mulD : PyData → PyData → (PyData → Prop) → Prop
  | .int i, .int j, k => MulOk i j ∧ k (.int (i * j))
  | _, _, _ => False
def fdivD : PyData → PyData → (PyData → Prop) → Prop
  | .int i, .int j, k => DivOk j ∧ k (.int (i / j))
  | _, _, _ => False
def modD : PyData → PyData → (PyData → Prop) → Prop
  | .int i, .int j, k => 0 < j ∧ k (.int (i % j))
  | _, _, _ => False
def powD : PyData → PyData → (PyData → Prop) → Prop
  | .int i, .int j, k => CPow i j ∧ k (.int (i ^ j.toNat))
  | _, _, _ => False
/-- a rule for ints alone -/
theorem dop_int {f : Value → Value → Sem Value} {g : PyData → PyData → (PyData → Prop) → Prop} {C : Int → Int → Prop} {h : Int → Int → V} {h' : Int → Int → PyData}
    (ho : OpR X f (rI C h)) (hg : ∀ dx dy k, g dx dy k → ∃ i j, dx = .int i ∧ dy = .int j ∧ C i j ∧ k (h' i j)) (hh : ∀ i j (F : Hp), Dp X.K F (h i j) (h' i j)) : DOp X f (gD g) := by
  intro pins s σ H x y v u Q I rx ry hq
  obtain ⟨dx, dy, M, N, P, hr, r1, r2, hf, fo⟩ := gD_of hq
  obtain ⟨i, j, rfl, rfl, hc, hk⟩ := hg _ _ _ hf
  exact ho pins s σ H x y v u Q I rx ry ⟨i, j, r1.int, r2.int, hc, fo.same hr hk (hh i j _)⟩
theorem op_rI {f : Value → Value → Sem Value} {h : Int → Int → V} (ho : OpR X f (rI0 h)) : OpR X f (rI (fun _ _ => True) h) := fun pins s σ H x y v u Q I rx ry ⟨i, j, e1, e2, _, q⟩ => ho pins s σ H x y v u Q I rx ry ⟨i, j, e1, e2, q⟩
theorem dop_sub : DOp X (binaryOp .Sub) (gD subD) := dop_int (op_rI op_sub) (h' := fun i j => .int (i - j)) (fun dx dy k h => by
  cases dx <;> first | (cases dy <;> first | exact ⟨_, _, rfl, rfl, trivial, h⟩ | exact h.elim) | exact h.elim) fun _ _ _ => .int _
theorem op_mulA : OpR X (binaryOp .Mult) (rI MulOk fun i j => .int (i * j)) := fun pins s σ H x y v u Q I rx ry ⟨i, j, e1, e2, hc, q⟩ => by
  rcases hc with hc | hc
  · exact op_mul pins s σ H x y v u Q I rx ry ⟨i, j, e1, e2, hc, q⟩
  · exact op_mulW pins s σ H x y v u Q I rx ry ⟨i, j, e1, e2, hc, q⟩
theorem dop_fdiv : DOp X (binaryOp .FloorDiv) (gD fdivD) := dop_int op_fdivW (h' := fun i j => .int (i / j)) (fun dx dy k h => by
  cases dx <;> first | (cases dy <;> first | exact ⟨_, _, rfl, rfl, h.1, h.2⟩ | exact h.elim) | exact h.elim) fun _ _ _ => .int _
theorem dop_mod : DOp X (binaryOp .Mod) (gD modD) := dop_int op_mod (h' := fun i j => .int (i % j)) (fun dx dy k h => by
  cases dx <;> first | (cases dy <;> first | exact ⟨_, _, rfl, rfl, h.1, h.2⟩ | exact h.elim) | exact h.elim) fun _ _ _ => .int _
theorem dop_pow : DOp X (binaryOp .Pow) (gD powD) := dop_int op_pow (h' := fun i j => .int (i ^ j.toNat)) (fun dx dy k h => by
  cases dx <;> first | (cases dy <;> first | exact ⟨_, _, rfl, rfl, h.1, h.2⟩ | exact h.elim) | exact h.elim) fun _ _ _ => .int _
/-- list + list, however they are known -/
theorem add_sql {pins : List (Addr × Obj)} {s : Shared} {σ : L2.St} {H : Hp} {Q : VK} {p q : Addr} {xs ys : List V} (I : Inv X pins σ H s) (hx : SqL X.K H p xs) (hy : SqL X.K H q ys) (hz : xs.length + ys.length ≤ sizeLine)
    (h : ∀ r, H r = none → Q (.ref r) (upd H r (.lst (xs ++ ys)))) : wpAny (model X.prog X.w) X.A (binaryOp .Add (.ref p) (.ref q)) (EP X pins σ Q) X.xe s := by
  obtain ⟨its, r1, p1, _⟩ := I.list hx
  obtain ⟨its2, r2, p2, _⟩ := I.list hy
  obtain ⟨⟨cls, dd, data, sl⟩, n, ho, hc, hdn, hd⟩ := p1
  obtain ⟨⟨cls2, dd2, data2, sl2⟩, n2, ho2, hc2, hdn2, hd2⟩ := p2
  simp only at hc hd hc2 hd2
  subst hc hd hc2 hd2
  have e : its.toArray ++ its2.toArray = (its ++ its2).toArray := by simp
  have l1 := r1.length
  have l2 := r2.length
  refine concat_meets ⟨_, ho, rfl⟩ ⟨_, ho2, rfl⟩ noFill_list_add seq_list_add PySem.F.slot_list_add PySem.F.entry_list_add (PySem.F.args_list_add_2 _ _) (list_addW p q its.toArray its2.toArray n n2 dd dd2 sl sl2 (by rw [List.size_toArray, List.size_toArray]; omega)) ⟨ho, ho2, ?_⟩
  rw [e]
  exact ⟨.ref _, _, I.lnew (t' := s.toks) (r1.append r2) (by rw [List.length_append]; omega), rfl, h _ I.fresh⟩
theorem dop_add : DOp X (binaryOp .Add) (gD addD) := by
  intro pins s σ H x y v u Q I rx ry hq
  obtain ⟨dx, dy, M, N, P, hr, r1, r2, hf, fo⟩ := gD_of hq
  unfold addD at hf
  split at hf
  · exact op_add pins s σ H x y v u Q I rx ry ⟨_, _, r1.int, r2.int, fo.same hr hf (show Dp _ _ _ _ from .int _)⟩
  · exact op_add_str pins s σ H x y v u Q I rx ry ⟨_, _, r1.str, r2.str, hf.1, fo.same hr hf.2 (show Dp _ _ _ _ from .str _)⟩
  · rename_i xs ys
    obtain ⟨p, vs, rfl, h1, h2, d1⟩ := r1.tuple
    obtain ⟨q, ws, rfl, h3, h4, d2⟩ := r2.tuple
    have l1 := dpAll_len h2
    have l2 := dpAll_len h4
    refine op_catA pins s σ H _ _ v u Q I rx ry ⟨p, q, vs, ws, rfl, rfl, h1, h3, by omega, fun z => ?_, fun _ z => ?_, fun _ _ r hr' => ?_⟩
    · subst z
      have : xs = [] := List.eq_nil_of_length_eq_zero l1.symm
      subst this
      exact fo.same hr hf.2 d2
    · subst z
      have : ys = [] := List.eq_nil_of_length_eq_zero l2.symm
      subst this
      refine fo.same hr hf.2 ?_
      rw [List.append_nil]
      exact d1
    · exact fo.new hr hf.2 hr' (fz_newTup hr hr' (dpAll_app h2 h4))
  · obtain ⟨p, vs, rfl, h1, h2⟩ := r1.list
    obtain ⟨q, ws, rfl, h3, h4⟩ := r2.list
    have l1 := dpAll_len h2
    have l2 := dpAll_len h4
    cases rx
    cases ry
    exact add_sql I h1 h3 (by omega) fun r hr' => fo.new hr hf.2 hr' (fz_newLst hr hr' (dpAll_app h2 h4))
  · exact hf.elim
def negD : D1 := fun x M P => match x with | .d (.int i) => P (.d (.int (-i))) M | _ => False
theorem dun_neg : Un1 X (unaryOp .USub) negD := by
  intro pins s σ H x v Q I rx h
  obtain ⟨dx, M, N, P, hr, ix, hg, fo⟩ := h
  unfold negD at hg
  split at hg
  · cases (show Dp _ _ _ _ from ix)
    exact un_neg pins s σ H _ v Q I rx ⟨_, rfl, fo.same hr hg (show Dp _ _ _ _ from .int _)⟩
  · exact hg.elim

/-! ### comparisons -/
def eqD : PyData → PyData → (PyData → Prop) → Prop := fun x y k => SeqAt.shaped x = true ∧ SeqAt.shaped y = true ∧ k (.bool (PyData.eqv x y))
def neD : PyData → PyData → (PyData → Prop) → Prop := fun x y k => SeqAt.shaped x = true ∧ SeqAt.shaped y = true ∧ k (.bool (!PyData.eqv x y))
theorem dop_eq (hu : X.A.units + 64 < cLine) : DOp X (compareOp .Eq) (gD eqD) := by
  intro pins s σ H x y v u Q I rx ry hq
  obtain ⟨dx, dy, M, N, P, hr, r1, r2, hf, fo⟩ := gD_of hq
  exact op_eqD hu pins s σ H x y v u Q I rx ry ⟨dx, dy, r1.dp, r2.dp, hf.1, hf.2.1, fo.same hr hf.2.2 (show Dp _ _ _ _ from .bl _)⟩
theorem dop_ne (hu : X.A.units + 64 < cLine) : DOp X (compareOp .NotEq) (gD neD) := by
  intro pins s σ H x y v u Q I rx ry hq
  obtain ⟨dx, dy, M, N, P, hr, r1, r2, hf, fo⟩ := gD_of hq
  exact op_neD hu pins s σ H x y v u Q I rx ry ⟨dx, dy, r1.dp, r2.dp, hf.1, hf.2.1, fo.same hr hf.2.2 (show Dp _ _ _ _ from .bl _)⟩
def StrLt (x y : Str) : Bool := decide (x.cps.toList < y.cps.toList)
/-- alike data, not too deep -/
def CmpOk (x y : PyData) : Prop := PySem.W.alike x y = true ∧ x ≠ .none ∧ min x.depth y.depth ≤ 60
def ltD : PyData → PyData → (PyData → Prop) → Prop := fun x y k => CmpOk x y ∧ k (.bool (PySem.W.dataLt x y))
def leD : PyData → PyData → (PyData → Prop) → Prop := fun x y k => CmpOk x y ∧ k (.bool (!PySem.W.dataLt y x))
def gtD : PyData → PyData → (PyData → Prop) → Prop := fun x y k => CmpOk x y ∧ k (.bool (PySem.W.dataLt y x))
def geD : PyData → PyData → (PyData → Prop) → Prop := fun x y k => CmpOk x y ∧ k (.bool (!PySem.W.dataLt x y))
theorem cmp_run {op : CmpOp} {f : PyData → PyData → Bool} (hu : X.A.units + 64 < cLine)
    (hc : ∀ (da db : PyData) (A : Around) (s : Shared) (a b : Value) (as bs : List Addr), Reads s.heap a da as → Reads s.heap b db bs → PySem.W.alike da db = true → da ≠ .none → A.units + min da.depth db.depth < cLine → ∀ (prog : Program) (w : World) (E : Value → Shared → Prop) (Q : Value → Shared → Prop), Q (.bool (f da db)) s → wpAny (model prog w) A (compareOp op a b) Q E s) :
    DOp X (compareOp op) (gD fun x y k => CmpOk x y ∧ k (.bool (f x y))) := by
  intro pins s σ H x y v u Q I rx ry hq
  obtain ⟨dx, dy, M, N, P, hr, r1, r2, hf, fo⟩ := gD_of hq
  obtain ⟨as, q1⟩ := Dp.reads I _ _ _ r1.dp rx
  obtain ⟨bs, q2⟩ := Dp.reads I _ _ _ r2.dp ry
  have hd := hf.1.2.2
  exact hc _ _ X.A s v u as bs q1 q2 hf.1.1 hf.1.2.1 (by omega) X.prog X.w X.xe _ ⟨.bl _, H, I, rfl, fo.same hr hf.2 (show Dp _ _ _ _ from .bl _)⟩
theorem dop_lt (hu : X.A.units + 64 < cLine) : DOp X (compareOp .Lt) (gD ltD) := cmp_run hu PySem.W.rcLt_alike
theorem dop_le (hu : X.A.units + 64 < cLine) : DOp X (compareOp .LtE) (gD leD) := cmp_run (f := fun x y => !PySem.W.dataLt y x) hu PySem.W.rcLe_alike
theorem dop_gt (hu : X.A.units + 64 < cLine) : DOp X (compareOp .Gt) (gD gtD) := cmp_run (f := fun x y => PySem.W.dataLt y x) hu PySem.W.rcGt_alike
theorem dop_ge (hu : X.A.units + 64 < cLine) : DOp X (compareOp .GtE) (gD geD) := cmp_run (f := fun x y => !PySem.W.dataLt x y) hu PySem.W.rcGe_alike
/-- is None -/
def isN (neg : Bool) : D2 := fun x y M P => match y with | .d .none => (match x with | .d .none => P (.d (.bool !neg)) M | _ => P (.d (.bool neg)) M) | _ => False
theorem isD_non {K : PySem.W.Frag} {F : Hp} {v : V} {x : DV} (h : IsD K F v x) : decide (v = .non) = (match x with | .d .none => true | _ => false) := by
  cases x with
  | d x =>
    cases x with
    | none => cases (show Dp _ _ _ _ from h); rfl
    | dict _ => cases (show Dp _ _ _ _ from h)
    | _ => cases (show Dp _ _ _ _ from h); simp
  | r a =>
    have : v = .ref a := h
    subst this
    simp
theorem dop_is : DOp X (compareOp .Is) (isN false) := by
  intro pins s σ H x y v u Q I rx ry h
  obtain ⟨dx, dy, M, N, P, hr, ix, iy, hg, fo⟩ := h
  unfold isN at hg
  split at hg
  · cases (show Dp _ _ _ _ from iy)
    have e := isD_non ix
    refine op_isN pins s σ H x _ v u Q I rx ry ⟨rfl, ?_⟩
    rw [e]
    split at hg
    · exact fo.same hr hg (show Dp _ _ _ _ from .bl _)
    · rename_i hne
      refine fo.same hr hg ?_
      split
      · exact absurd rfl (hne)
      · exact (show Dp _ _ _ _ from .bl _)
  · exact hg.elim
theorem dop_isnot : DOp X (compareOp .IsNot) (isN true) := by
  intro pins s σ H x y v u Q I rx ry h
  obtain ⟨dx, dy, M, N, P, hr, ix, iy, hg, fo⟩ := h
  unfold isN at hg
  split at hg
  · cases (show Dp _ _ _ _ from iy)
    have e := isD_non ix
    refine op_notN pins s σ H x _ v u Q I rx ry ⟨rfl, ?_⟩
    rw [e]
    split at hg
    · exact fo.same hr hg (show Dp _ _ _ _ from .bl _)
    · rename_i hne
      refine fo.same hr hg ?_
      split
      · exact absurd rfl (hne)
      · exact (show Dp _ _ _ _ from .bl _)
  · exact hg.elim

/-! ### subscripts -/
def ixD : PyData → PyData → (PyData → Prop) → Prop
  | .list xs, .int i, k => ∃ y, atI xs i = some y ∧ k y
  | .tuple xs, .int i, k => ∃ y, atI xs i = some y ∧ k y
  | .str z, .int i, k => z.length ≤ sizeLine ∧ ∃ c, atI z.cps.toList i = some c ∧ k (.str ⟨#[c]⟩)
  | _, _, _ => False
theorem atI_dp {K : PySem.W.Frag} {F : Hp} {vs : List V} {ds : List PyData} {i : Int} {y : PyData} (h : DpAll K F vs ds) (e : atI ds i = some y) : ∃ v, atI vs i = some v ∧ Dp K F v y := by
  unfold atI at e ⊢
  rw [dpAll_len h]
  cases q : ixN ds.length i with
  | none => rw [q] at e; cases e
  | some j =>
    rw [q] at e
    exact dpAll_get h e
/-- a[b] of data -/
theorem de_ix (ha : DE X W a ta) (hb : DE X W b tb) (hs : PlainIx b) : DE X W (.Subscript a b pos) (eOp (gD ixD) ta tb) := by
  have hx : IxR X (rD2 X.K (gD ixD)) := by
    intro value slice pins s σ H x y v u Q I rx ry hq hsub
    obtain ⟨dx, dy, M, N, P, hr, r1, r2, hf, fo⟩ := gD_of hq
    unfold ixD at hf
    split at hf
    · obtain ⟨z, hz, q⟩ := hf
      obtain ⟨p, vs, rfl, h1, h2⟩ := r1.list
      obtain ⟨w', hw, hd⟩ := atI_dp h2 hz
      exact ix_list value slice pins s σ H _ _ v u Q I rx ry ⟨p, vs, _, w', rfl, r2.int, h1, hw, fo.same hr q hd⟩ hsub
    · obtain ⟨z, hz, q⟩ := hf
      obtain ⟨p, vs, rfl, h1, h2, _⟩ := r1.tuple
      obtain ⟨w', hw, hd⟩ := atI_dp h2 hz
      exact ix_tup value slice pins s σ H _ _ v u Q I rx ry ⟨p, vs, _, w', rfl, r2.int, h1, hw, fo.same hr q hd⟩ hsub
    · obtain ⟨hl, c, hz, q⟩ := hf
      exact ix_str value slice pins s σ H _ _ v u Q I rx ry ⟨_, _, c, r1.str, r2.int, hl, hz, fo.same hr q (show Dp _ _ _ _ from .str _)⟩ hsub
    · exact hf.elim
  exact ⟨PE.imp (pe_ix hx ha.pe hb.pe hs) fun _ _ _ h => op_imp h⟩
/-- parts of a slice -/
abbrev DTO := DEnv → MHp → (Option Int → MHp → Prop) → DX → Prop
def LO (K : PySem.W.Frag) (W : WX) (t : DTO) : TO := fun σ H Q => ∃ ρ M N P PX, SRel K (fz M N H) σ ρ ∧ HRel K M N H ∧ t ρ M P PX ∧ (∀ o M' H', P o M' → HRel K M' N H' → Af M N H M' H' → Q o H') ∧ XEnd K W σ M N H PX
structure DO (X : Cx) (W : WX) (e : Option Expr) (t : DTO) : Prop where
  po : PO X e (LO X.K W t)
def oNone : DTO := fun _ M P _ => P none M
def oSome (te : DTE) : DTO := fun ρ M P PX => te ρ M (fun x M1 => match x with | .d (.int i) => P (some i) M1 | _ => False) PX
theorem PO.imp {X : Cx} {e : Option Expr} {t u : TO} (h : PO X e t) (i : ∀ σ H Q, u σ H Q → t σ H Q) : PO X e u := ⟨fun pins s σ H Q I q => h.run pins s σ H Q I (i σ H Q q)⟩
theorem do_none : DO X W none oNone := ⟨PO.imp po_none fun σ H Q ⟨ρ, M, N, P, PX, hs, hr, ht, hP, hX⟩ => hP _ M H ht hr .refl⟩
theorem do_some (h : DE X W e te) : DO X W (some e) (oSome te) := ⟨PO.imp (po_some h.pe) fun σ H Q ⟨ρ, M, N, P, PX, hs, hr, ht, hP, hX⟩ => by
  refine ⟨ρ, M, N, _, PX, hs, hr, ht, fun x M1 v H1 p hr1 af1 iv => ?_, hX⟩
  split at p
  · cases (show Dp _ _ _ _ from iv)
    exact ⟨_, rfl, hP _ M1 H1 p hr1 af1⟩
  · exact p.elim⟩
def cutG {α : Type} (xs : List α) (lo hi : Option Int) : List α := (xs.drop (HT.sIx xs.length 0 lo)).take (HT.sIx xs.length xs.length hi - HT.sIx xs.length 0 lo)
theorem cut_dp {K : PySem.W.Frag} {F : Hp} {vs : List V} {ds : List PyData} {lo hi : Option Int} (h : DpAll K F vs ds) : DpAll K F (cutV vs lo hi) (cutG ds lo hi) := by
  unfold cutV cutG
  rw [dpAll_len h]
  exact dpAll_take _ (dpAll_drop _ h)
def cutSt (z : Str) (lo hi : Option Int) : Str := cutS z lo hi
def slD : PyData → Option Int → Option Int → (PyData → Prop) → Prop
  | .list xs, lo, hi, k => k (.list (cutG xs lo hi))
  | .tuple xs, lo, hi, k => k (.tuple (cutG xs lo hi))
  | .str z, lo, hi, k => z.length ≤ sizeLine ∧ k (.str (cutSt z lo hi))
  | _, _, _, _ => False
def eSl (te : DTE) (tl th : DTO) : DTE := fun ρ M P PX => te ρ M (fun x M1 => tl ρ M1 (fun l M2 => th ρ M2 (fun h M3 => rd M3 x fun d => slD d l h fun z => P (.d z) M3) PX) PX) PX
theorem de_slice {lo hi : Option Expr} {tl th : DTO} {p2 : Pos} (he : DE X W e te) (hl : DO X W lo tl) (hh : DO X W hi th) : DE X W (.Subscript e (.Slice lo hi none p2) pos) (eSl te tl th) := by
  have hx : SlR X (fun x lo hi H Q => ∃ dx M N P, HRel X.K M N H ∧ IsD X.K (fz M N H) x dx ∧ (rd M dx fun d => slD d lo hi fun z => P (.d z) M) ∧ Fol X.K M N H P Q) := by
    intro pins s σ H x v vl vu lo hi sl Q I rx hs pl pu h
    obtain ⟨dx, M, N, P, hr, ix, hg, fo⟩ := h
    obtain ⟨d, r1, hf⟩ := rd_of hr ix hg
    unfold slD at hf
    split at hf
    · obtain ⟨p, vs, rfl, h1, h2⟩ := r1.list
      exact sl_list pins s σ H _ v vl vu _ _ sl Q I rx hs pl pu ⟨p, vs, rfl, h1, fun r hr' => fo.new hr hf hr' (fz_newLst hr hr' (cut_dp h2))⟩
    · rename_i xs
      obtain ⟨p, vs, rfl, h1, h2, d1⟩ := r1.tuple
      have l1 := dpAll_len h2
      refine sl_tupA pins s σ H _ v vl vu _ _ sl Q I rx hs pl pu ⟨p, vs, rfl, h1, fun z => ?_, fun _ r hr' => fo.new hr hf hr' (fz_newTup hr hr' (cut_dp h2))⟩
      refine fo.same hr hf ?_
      have e : ∀ lo hi, HT.sIx vs.length 0 lo = 0 ∧ HT.sIx vs.length vs.length hi = vs.length → cutG xs lo hi = xs := by
        intro lo hi z
        unfold cutG
        rw [← l1, z.1, z.2, List.drop_zero, Nat.sub_zero, l1, List.take_length]
      rw [e _ _ z]
      exact d1
    · exact sl_str pins s σ H _ v vl vu _ _ sl Q I rx hs pl pu ⟨_, r1.str, hf.1, fo.same hr hf.2 (show Dp _ _ _ _ from .str _)⟩
    · exact hf.elim
  exact ⟨PE.imp (pe_slice hx he.pe hl.po hh.po) fun σ H Q ⟨ρ, M, N, P, PX, hs, hr, ht, hP, hX⟩ =>
    ⟨ρ, M, N, _, PX, hs, hr, ht, fun x M1 v H1 p hr1 af1 iv => ⟨ρ, M1, N, _, PX, hs.mono af1.fr, hr1, p, fun l M2 H2 p2 hr2 af2 => ⟨ρ, M2, N, _, PX, hs.mono (af1.trans af2).fr, hr2, p2, fun u M3 H3 p3 hr3 af3 =>
      ⟨x, M3, N, P, hr3, isD_mono (af2.trans af3).fr iv, p3, fun z M4 w H4 pz r4 a4 iz => hP z M4 w H4 pz r4 (((af1.trans af2).trans af3).trans a4) iz⟩, (hX.step af1).step af2⟩, hX.step af1⟩, hX⟩⟩

end
end DL

/-! Part 5: in, built-ins, methods, what is walked. -/
namespace DL
open PySem PySem.Spec PyProof.Rows L2

section
variable {X : Cx} {W : WX} {a b c e o : Expr} {es : List Expr} {ta tb tc te to : DTE} {pos : Pos}

/-! ### in -/
def negB (n : Bool) (b : Bool) : Bool := if n = true then !b else b
def memD (neg : Bool) : PyData → PyData → (PyData → Prop) → Prop
  | x, .list ys, k => SeqAt.shaped x = true ∧ SeqAt.shaped (.list ys) = true ∧ k (.bool (negB neg (ys.any fun z => PyData.eqv z x)))
  | x, .tuple ys, k => SeqAt.shaped x = true ∧ SeqAt.shaped (.tuple ys) = true ∧ k (.bool (negB neg (ys.any fun z => PyData.eqv z x)))
  | .str s, .str z, k => ∃ c, s = ⟨#[c]⟩ ∧ k (.bool (negB neg (decide (c ∈ z.cps.toList))))
  | _, _, _ => False
def hasK (kvs : List (Key × DV)) (k : Key) : Bool := kvs.any fun p => decide (p.1 = k)
def asKey : DV → Option Key
  | .d (.int i) => some (.inl i)
  | .d (.str x) => some (.inr x)
  | _ => none
def inD (neg : Bool) : D2 := fun x y M P => match y with
  | .r a => match M a with
    | some (.dk kvs) => match asKey x with | some k => P (.d (.bool (negB neg (hasK kvs k)))) M | none => False
    | some (.ls ys) => rd M x fun dx => memD neg dx (.list ys) fun z => P (.d z) M
    | _ => False
  | .d dy => rd M x fun dx => memD neg dx dy fun z => P (.d z) M
theorem mem_run (hu : X.A.units + 65 < cLine) {neg : Bool} {op : CmpOp} (hop : op = if neg = true then .NotIn else .In) {pins : List (Addr × Obj)} {s : Shared} {σ : L2.St} {H : Hp} {x y : V} {v u : Value} {Q : VK} {M : MHp} {N : Hid} {dx dy : PyData} {P : DK}
    (I : Inv X pins σ H s) (rx : RelV x v) (ry : RelV y u) (hr : HRel X.K M N H) (r1 : Rdd X.K M N H x dx) (r2 : Rdd X.K M N H y dy) (hf : memD neg dx dy fun z => P (.d z) M) (fo : Fol X.K M N H P Q) :
    wpAny (model X.prog X.w) X.A (compareOp op v u) (EP X pins σ Q) X.xe s := by
  have fin : ∀ {b : Bool}, P (.d (.bool (negB neg b))) M → EP X pins σ Q (.bool (negB neg b)) s := fun {b} p => ⟨.bl _, H, I, rfl, fo.same hr p (show Dp _ _ _ _ from .bl _)⟩
  obtain ⟨as, q1⟩ := Dp.reads I _ _ _ r1.dp rx
  obtain ⟨bs, q2⟩ := Dp.reads I _ _ _ r2.dp ry
  unfold memD at hf
  split at hf
  · subst hop
    cases neg with
    | false => exact SeqAt.in_list_reads q2 q1 (by have := SeqAt.canLay_of_shaped hf.2.1; simpa [PyData.canLay0] using this) (SeqAt.canLay_of_shaped hf.1) (room_in_shaped hf.1 hu) (fin hf.2.2)
    | true => exact SeqAt.notIn_list_reads q2 q1 (by have := SeqAt.canLay_of_shaped hf.2.1; simpa [PyData.canLay0] using this) (SeqAt.canLay_of_shaped hf.1) (room_in_shaped hf.1 hu) (fin hf.2.2)
  · subst hop
    cases neg with
    | false => exact SeqAt.in_tuple_reads q2 q1 (by have := SeqAt.canLay_of_shaped hf.2.1; simpa [PyData.canLay0] using this) (SeqAt.canLay_of_shaped hf.1) (room_in_shaped hf.1 hu) (fin hf.2.2)
    | true => exact SeqAt.notIn_tuple_reads q2 q1 (by have := SeqAt.canLay_of_shaped hf.2.1; simpa [PyData.canLay0] using this) (SeqAt.canLay_of_shaped hf.1) (room_in_shaped hf.1 hu) (fin hf.2.2)
  · obtain ⟨c, rfl, q⟩ := hf
    subst hop
    cases neg with
    | false => exact op_in_sign pins s σ H x y v u Q I rx ry ⟨c, _, r1.str, r2.str, fo.same hr q (show Dp _ _ _ _ from .bl _)⟩
    | true => exact op_notIn_sign pins s σ H x y v u Q I rx ry ⟨c, _, r1.str, r2.str, fo.same hr q (show Dp _ _ _ _ from .bl _)⟩
  · exact hf.elim
end

/-! ### built-ins -/
section
variable {X : Cx} {W : WX}
theorem are1 {K : PySem.W.Frag} {F : Hp} {vs : List V} {x : DV} (h : AreD K F vs [x]) : ∃ v, vs = [v] ∧ IsD K F v x := by
  cases h with
  | cons h1 h2 => cases h2; exact ⟨_, rfl, h1⟩
theorem are2 {K : PySem.W.Frag} {F : Hp} {vs : List V} {x y : DV} (h : AreD K F vs [x, y]) : ∃ v u, vs = [v, u] ∧ IsD K F v x ∧ IsD K F u y := by
  cases h with
  | cons h1 h2 =>
    cases h2 with
    | cons h2 h3 => cases h3; exact ⟨_, _, rfl, h1, h2⟩
/-- one argument, read as data -/
def g1 (f : PyData → (PyData → Prop) → Prop) : DN := fun xs M P => match xs with | [x] => rd M x fun d => f d fun z => P (.d z) M | _ => False
theorem g1_of {f : PyData → (PyData → Prop) → Prop} {K : PySem.W.Frag} {M : MHp} {N : Hid} {H : Hp} {xs : List DV} {vs : List V} {P : DK} (hr : HRel K M N H) (ha : AreD K (fz M N H) vs xs) (h : g1 f xs M P) : ∃ v d, vs = [v] ∧ Rdd K M N H v d ∧ f d fun z => P (.d z) M := by
  unfold g1 at h
  split at h
  · obtain ⟨v, rfl, i⟩ := are1 ha
    obtain ⟨d, r, q⟩ := rd_of hr i h
    exact ⟨v, d, rfl, r, q⟩
  · exact h.elim
def lenD : PyData → (PyData → Prop) → Prop
  | .list xs, k => k (.int xs.length)
  | .tuple xs, k => k (.int xs.length)
  | .str x, k => x.length ≤ sizeLine ∧ k (.int x.length)
  | _, _ => False
/-- len: of data, of mutable things -/
def gLen : DN := fun xs M P => match xs with
  | [.r a] => match M a with
    | some (.ls ys) => P (.d (.int ys.length)) M
    | some (.lv ys) => P (.d (.int ys.length)) M
    | _ => False
  | [.d d] => lenD d fun z => P (.d z) M
  | _ => False
theorem dc_len : DCall X (.builtin "len") gLen := by
  intro pins s σ H vs us Q I r h
  obtain ⟨xs, M, N, P, hr, ha, hg, fo⟩ := h
  unfold gLen at hg
  split at hg
  · rename_i a
    obtain ⟨v, rfl, i⟩ := are1 ha
    have i' : v = .ref a := i
    subst i'
    split at hg
    · rename_i ys q
      obtain ⟨o, h1, h2⟩ := hr.obj a _ q
      cases o with
      | lst ws => exact call_len pins s σ H _ us Q I r ⟨_, _, rfl, .inl ⟨ws, .inl (.inl h1), rfl⟩, fo.same hr hg (by rw [← dpAll_len (show DpAll _ _ _ _ from h2)]; exact (show Dp _ _ _ _ from .int _))⟩
      | _ => exact (show False from h2).elim
    · rename_i ys q
      obtain ⟨o, h1, h2⟩ := hr.obj a _ q
      cases o with
      | lst ws => exact call_len pins s σ H _ us Q I r ⟨_, _, rfl, .inl ⟨ws, .inl (.inl h1), rfl⟩, fo.same hr hg (by rw [← paired_len (show AreD _ _ _ _ from h2)]; exact (show Dp _ _ _ _ from .int _))⟩
      | _ => exact (show False from h2).elim
    · exact hg.elim
  · rename_i d
    obtain ⟨v, rfl, i⟩ := are1 ha
    have r1 : Rdd X.K M N H v d := .inl i
    unfold lenD at hg
    split at hg
    · obtain ⟨p, ws, rfl, h1, h2⟩ := r1.list
      exact call_len pins s σ H _ us Q I r ⟨_, _, rfl, .inl ⟨ws, h1, rfl⟩, fo.same hr hg (by rw [← dpAll_len h2]; exact (show Dp _ _ _ _ from .int _))⟩
    · obtain ⟨p, ws, rfl, h1, h2, _⟩ := r1.tuple
      exact call_len pins s σ H _ us Q I r ⟨_, _, rfl, .inr ⟨ws, h1, rfl⟩, fo.same hr hg (by rw [← dpAll_len h2]; exact (show Dp _ _ _ _ from .int _))⟩
    · cases r1.str
      exact call_len pins s σ H _ us Q I r ⟨_, _, rfl, ⟨hg.1, rfl⟩, fo.same hr hg.2 (show Dp _ _ _ _ from .int _)⟩
    · exact hg.elim
  · exact hg.elim
def intD : PyData → (PyData → Prop) → Prop
  | .int i, k => k (.int i)
  | .bool b, k => k (.int (if b then 1 else 0))
  | _, _ => False
theorem dc_int : DCall X (.type "int") (g1 intD) := by
  intro pins s σ H vs us Q I r h
  obtain ⟨xs, M, N, P, hr, ha, hg, fo⟩ := h
  obtain ⟨v, d, rfl, r1, q⟩ := g1_of hr ha hg
  unfold intD at q
  split at q
  · cases r1.int
    exact call_int1 pins s σ H _ us Q I r (.inl ⟨_, rfl, fo.same hr q (show Dp _ _ _ _ from .int _)⟩)
  · cases r1.bool
    exact call_int1 pins s σ H _ us Q I r (.inr ⟨_, rfl, fo.same hr q (show Dp _ _ _ _ from .int _)⟩)
  · exact q.elim
def absD : PyData → (PyData → Prop) → Prop
  | .int i, k => k (.int (if i < 0 then -i else i))
  | _, _ => False
theorem dc_abs : DCall X (.builtin "abs") (g1 absD) := by
  intro pins s σ H vs us Q I r h
  obtain ⟨xs, M, N, P, hr, ha, hg, fo⟩ := h
  obtain ⟨v, d, rfl, r1, q⟩ := g1_of hr ha hg
  unfold absD at q
  split at q
  · cases r1.int
    exact call_abs pins s σ H _ us Q I r ⟨_, rfl, fo.same hr q (show Dp _ _ _ _ from .int _)⟩
  · exact q.elim
def tupleD : PyData → (PyData → Prop) → Prop
  | .list xs, k => k (.tuple xs)
  | .tuple xs, k => k (.tuple xs)
  | _, _ => False
theorem dc_tuple : DCall X (.type "tuple") (g1 tupleD) := by
  intro pins s σ H vs us Q I r h
  obtain ⟨xs, M, N, P, hr, ha, hg, fo⟩ := h
  obtain ⟨v, d, rfl, r1, q⟩ := g1_of hr ha hg
  unfold tupleD at q
  split at q
  · obtain ⟨p, ws, rfl, h1, h2⟩ := r1.list
    exact call_tuple_of pins s σ H _ us Q I r ⟨p, ws, rfl, .inl ⟨h1, fun l hl => fo.new hr q hl (fz_newTup hr hl h2)⟩⟩
  · obtain ⟨p, ws, rfl, h1, h2, d1⟩ := r1.tuple
    exact call_tuple_of pins s σ H _ us Q I r ⟨p, ws, rfl, .inr ⟨h1, fo.same hr q d1⟩⟩
  · exact q.elim
def seqOf : PyData → (List PyData → Prop) → Prop
  | .list xs, k => k xs
  | .tuple xs, k => k xs
  | _, _ => False
theorem seq_rd {K : PySem.W.Frag} {M : MHp} {N : Hid} {H : Hp} {v : V} {d : PyData} {k : List PyData → Prop} (r1 : Rdd K M N H v d) (q : seqOf d k) : ∃ p ws ds, v = .ref p ∧ (SqL K H p ws ∨ SqT K H p ws) ∧ DpAll K (fz M N H) ws ds ∧ k ds := by
  unfold seqOf at q
  split at q
  · obtain ⟨p, ws, rfl, h1, h2⟩ := r1.list
    exact ⟨p, ws, _, rfl, .inl h1, h2, q⟩
  · obtain ⟨p, ws, rfl, h1, h2, d1⟩ := r1.tuple
    exact ⟨p, ws, _, rfl, .inr h1, h2, q⟩
  · exact q.elim
/-- list(x), not changed; changed -/
def listD (d : PyData) (k : PyData → Prop) : Prop := seqOf d fun xs => k (.list xs)
def gListM : DN := fun xs M P => match xs with | [x] => rd M x fun d => seqOf d fun ys => ∀ p, M p = none → P (.r p) (mu M p (.ls ys)) | _ => False
theorem dc_list : DCall X (.type "list") (g1 listD) := by
  intro pins s σ H vs us Q I r h
  obtain ⟨xs, M, N, P, hr, ha, hg, fo⟩ := h
  obtain ⟨v, d, rfl, r1, q⟩ := g1_of hr ha hg
  obtain ⟨p, ws, ds, rfl, h1, h2, q⟩ := seq_rd r1 q
  exact call_list_of pins s σ H _ us Q I r ⟨p, ws, rfl, h1, fun l hl => fo.new hr q hl (fz_newLst hr hl h2)⟩
theorem dc_listM : DCall X (.type "list") gListM := by
  intro pins s σ H vs us Q I r h
  obtain ⟨xs, M, N, P, hr, ha, hg, fo⟩ := h
  unfold gListM at hg
  split at hg
  · obtain ⟨v, rfl, i⟩ := are1 ha
    obtain ⟨d, r1, q⟩ := rd_of hr i hg
    obtain ⟨p, ws, ds, rfl, h1, h2, q⟩ := seq_rd r1 q
    refine call_list_of pins s σ H _ us Q I r ⟨p, ws, rfl, h1, fun l hl => ?_⟩
    obtain ⟨r2, a2⟩ := hr.new (x := .ls ds) (o := .lst ws) hl h2
    exact fo _ _ _ _ (q l (hr.free hl).1) r2 a2 rfl
  · exact hg.elim
theorem dp_bools {K : PySem.W.Frag} {F : Hp} : ∀ {bs : List Bool} {vs : List V}, DpAll K F vs (bs.map .bool) → vs = bs.map .bl
  | [], _, h => by cases h; rfl
  | b :: bs, _, h => by
    cases h with
    | cons h1 h2 =>
      cases h1
      rw [dp_bools h2]
      rfl
theorem dp_ints {K : PySem.W.Frag} {F : Hp} : ∀ {bs : List Int} {vs : List V}, DpAll K F vs (bs.map .int) → vs = bs.map .int
  | [], _, h => by cases h; rfl
  | b :: bs, _, h => by
    cases h with
    | cons h1 h2 =>
      cases h1
      rw [dp_ints h2]
      rfl
def allDb : PyData → (PyData → Prop) → Prop
  | .list xs, k => ∃ bs : List Bool, xs = bs.map .bool ∧ k (.bool (bs.all id))
  | _, _ => False
def anyDb : PyData → (PyData → Prop) → Prop
  | .list xs, k => ∃ bs : List Bool, xs = bs.map .bool ∧ k (.bool (bs.any id))
  | _, _ => False
theorem dc_all (hc : X.calm = true) : DCall X (.builtin "all") (g1 allDb) := by
  intro pins s σ H vs us Q I r h
  obtain ⟨xs, M, N, P, hr, ha, hg, fo⟩ := h
  obtain ⟨v, d, rfl, r1, q⟩ := g1_of hr ha hg
  unfold allDb at q
  split at q
  · obtain ⟨p, ws, rfl, h1, h2⟩ := r1.list
    obtain ⟨bs, rfl, q⟩ := q
    cases dp_bools h2
    exact cr_all hc pins s σ H _ us Q I r ⟨p, bs, rfl, h1, fo.same hr q (show Dp _ _ _ _ from .bl _)⟩
  · exact q.elim
theorem dc_any (hc : X.calm = true) : DCall X (.builtin "any") (g1 anyDb) := by
  intro pins s σ H vs us Q I r h
  obtain ⟨xs, M, N, P, hr, ha, hg, fo⟩ := h
  obtain ⟨v, d, rfl, r1, q⟩ := g1_of hr ha hg
  unfold anyDb at q
  split at q
  · obtain ⟨p, ws, rfl, h1, h2⟩ := r1.list
    obtain ⟨bs, rfl, q⟩ := q
    cases dp_bools h2
    exact cr_any hc pins s σ H _ us Q I r ⟨p, bs, rfl, h1, fo.same hr q (show Dp _ _ _ _ from .bl _)⟩
  · exact q.elim
def sumD : PyData → (PyData → Prop) → Prop
  | .list xs, k => ∃ ns : List Int, xs = ns.map .int ∧ k (.int ns.sum)
  | _, _ => False
theorem dc_sum (hc : X.calm = true) : DCall X (.builtin "sum") (g1 sumD) := by
  intro pins s σ H vs us Q I r h
  obtain ⟨xs, M, N, P, hr, ha, hg, fo⟩ := h
  obtain ⟨v, d, rfl, r1, q⟩ := g1_of hr ha hg
  unfold sumD at q
  split at q
  · obtain ⟨p, ws, rfl, h1, h2⟩ := r1.list
    obtain ⟨bs, rfl, q⟩ := q
    cases dp_ints h2
    exact cr_sum hc pins s σ H _ us Q I r ⟨p, bs, rfl, h1, fo.same hr q (show Dp _ _ _ _ from .int _)⟩
  · exact q.elim
def maxD : PyData → (PyData → Prop) → Prop
  | .list xs, k => ∃ ns : List Int, xs = ns.map .int ∧ 0 < ns.length ∧ ∀ m, m ∈ ns → (∀ y, y ∈ ns → y ≤ m) → k (.int m)
  | _, _ => False
def minD : PyData → (PyData → Prop) → Prop
  | .list xs, k => ∃ ns : List Int, xs = ns.map .int ∧ 0 < ns.length ∧ ∀ m, m ∈ ns → (∀ y, y ∈ ns → m ≤ y) → k (.int m)
  | _, _ => False
theorem dc_max (hc : X.calm = true) : DCall X (.builtin "max") (g1 maxD) := by
  intro pins s σ H vs us Q I r h
  obtain ⟨xs, M, N, P, hr, ha, hg, fo⟩ := h
  obtain ⟨v, d, rfl, r1, q⟩ := g1_of hr ha hg
  unfold maxD at q
  split at q
  · obtain ⟨p, ws, rfl, h1, h2⟩ := r1.list
    obtain ⟨bs, rfl, hl, q⟩ := q
    cases dp_ints h2
    exact cr_max hc pins s σ H _ us Q I r ⟨p, bs, rfl, h1, hl, fun m hm hle => fo.same hr (q m hm hle) (show Dp _ _ _ _ from .int _)⟩
  · exact q.elim
theorem dc_min (hc : X.calm = true) : DCall X (.builtin "min") (g1 minD) := by
  intro pins s σ H vs us Q I r h
  obtain ⟨xs, M, N, P, hr, ha, hg, fo⟩ := h
  obtain ⟨v, d, rfl, r1, q⟩ := g1_of hr ha hg
  unfold minD at q
  split at q
  · obtain ⟨p, ws, rfl, h1, h2⟩ := r1.list
    obtain ⟨bs, rfl, hl, q⟩ := q
    cases dp_ints h2
    exact cr_min hc pins s σ H _ us Q I r ⟨p, bs, rfl, h1, hl, fun m hm hle => fo.same hr (q m hm hle) (show Dp _ _ _ _ from .int _)⟩
  · exact q.elim
/-- two ints -/
def g2I (f : Int → Int → PyData) : DN := fun xs M P => match xs with | [.d (.int i), .d (.int j)] => P (.d (f i j)) M | _ => False
theorem dc_max2 (hc : X.calm = true) : DCall X (.builtin "max") (g2I fun i j => .int (if j > i then j else i)) := by
  intro pins s σ H vs us Q I r h
  obtain ⟨xs, M, N, P, hr, ha, hg, fo⟩ := h
  unfold g2I at hg
  split at hg
  · obtain ⟨v, u, rfl, i1, i2⟩ := are2 ha
    cases (show Dp _ _ _ _ from i1)
    cases (show Dp _ _ _ _ from i2)
    exact call_max2 hc pins s σ H _ us Q I r ⟨_, _, rfl, fo.same hr hg (show Dp _ _ _ _ from .int _)⟩
  · exact hg.elim
theorem dc_min2 (hc : X.calm = true) : DCall X (.builtin "min") (g2I fun i j => .int (if j < i then j else i)) := by
  intro pins s σ H vs us Q I r h
  obtain ⟨xs, M, N, P, hr, ha, hg, fo⟩ := h
  unfold g2I at hg
  split at hg
  · obtain ⟨v, u, rfl, i1, i2⟩ := are2 ha
    cases (show Dp _ _ _ _ from i1)
    cases (show Dp _ _ _ _ from i2)
    exact call_min2 hc pins s σ H _ us Q I r ⟨_, _, rfl, fo.same hr hg (show Dp _ _ _ _ from .int _)⟩
  · exact hg.elim
end

/-! ### methods of mutable lists, stores by place -/
section
variable {X : Cx} {W : WX} {e o i : Expr} {es : List Expr} {te to ti : DTE} {ta : DTA} {pos apos cpos : Pos} {name : Str} {T id : String}
/-- a method of a built-in type: receiver and arguments -/
abbrev DM := DV → List DV → MHp → DK → Prop
def eBm (Ty : DV → MHp → Prop) (g : DM) (to : DTE) (ta : DTA) : DTE := fun ρ M P PX => to ρ M (fun x M1 => Ty x M1 ∧ ta ρ M1 (fun xs M2 => g x xs M2 P) PX) PX
/-- it is a list, for a method's look-up -/
def isLst (x : DV) (M : MHp) : Prop := match x with
  | .r a => match M a with | some (.ls _) => True | some (.lv _) => True | _ => False
  | .d (.list _) => True
  | _ => False
def isDct (x : DV) (M : MHp) : Prop := match x with
  | .r a => match M a with | some (.dk _) => True | _ => False
  | _ => False
def isStr (x : DV) (_ : MHp) : Prop := match x with
  | .d (.str _) => True
  | _ => False
def TyOk (Ty : DV → MHp → Prop) (T : String) : Prop := ∀ {K : PySem.W.Frag} {M : MHp} {N : Hid} {H : Hp} {v : V} {x : DV}, HRel K M N H → IsD K (fz M N H) v x → Ty x M → tyV K T v H
theorem ty_lst : TyOk isLst "list" := fun {K M N H v x} hr hi h => by
  unfold isLst at h
  split at h
  · rename_i a
    have hi' : v = .ref a := hi
    subst hi'
    split at h
    · rename_i q
      obtain ⟨o, h1, h2⟩ := hr.obj a _ q
      cases o with
      | lst ws => exact .inl ⟨rfl, ws, .inl (.inl h1)⟩
      | _ => exact (show False from h2).elim
    · rename_i q
      obtain ⟨o, h1, h2⟩ := hr.obj a _ q
      cases o with
      | lst ws => exact .inl ⟨rfl, ws, .inl (.inl h1)⟩
      | _ => exact (show False from h2).elim
    · exact h.elim
  · cases (show Dp _ _ _ _ from hi) with
    | lst h1 h2 => exact .inl ⟨rfl, _, Same.seq fz_sub h1⟩
  · exact h.elim
theorem ty_str : TyOk isStr "str" := fun {K M N H v x} hr hi h => by
  unfold isStr at h
  split at h
  · cases (show Dp _ _ _ _ from hi)
    rfl
  · exact h.elim
theorem ty_dct : TyOk isDct "dict" := fun {K M N H v x} hr hi h => by
  unfold isDct at h
  split at h
  · rename_i a
    have hi' : v = .ref a := hi
    subst hi'
    split at h
    · rename_i q
      obtain ⟨o, h1, h2⟩ := hr.obj a _ q
      cases o with
      | dK kvs => exact .inr (.inr (.inl ⟨rfl, .inl ⟨kvs, h1⟩⟩))
      | _ => exact (show False from h2).elim
    · exact h.elim
  · exact h.elim
def DMt (X : Cx) (id : String) (g : DM) : Prop := MtR X id (fun v vs H Q => ∃ x xs M N P, HRel X.K M N H ∧ IsD X.K (fz M N H) v x ∧ AreD X.K (fz M N H) vs xs ∧ g x xs M P ∧ Fol X.K M N H P Q)
theorem de_bm {Ty : DV → MHp → Prop} {g : DM} (hT : TyOk Ty T) (pa : PlainAttrs T) (slot : Slot T name id) (hty : typeOf (.builtin id) = pure (.type "method_descriptor")) (hm : DMt X id g) (ho : DE X W o to) (ha : DA X W (e :: es) ta)
    (hbase : attributeBase o name X.env (eval o X.env) = eval o X.env := by rfl)
    (hfew : ((backTo cpos (starEach (e :: es) X.env)).all (fun x => !x.1) && (backToKw cpos (keywordEach [] X.env)).all (fun x => x.1.isSome)
      && decide ((e :: es).length + ([] : List Keyword).length + (if ([] : List Keyword).isEmpty then 0 else 1) < 30)) = true := by rfl)
    (hline : (apos.endLine == cpos.line) = true := by rfl) (hs : starEach (e :: es) X.env = (false, eval e X.env) :: starEach es X.env := by rfl) (hplain : (backTo cpos (starEach es X.env)).any (·.1) = false := by rfl) :
    DE X W (.Call (.Attribute o name apos) (e :: es) [] cpos) (eBm Ty g to ta) :=
  ⟨PE.imp (pe_bm pa slot hty hm ho.pe ha.pa hbase hfew hline hs hplain) fun σ H Q ⟨ρ, M, N, P, PX, hs, hr, ht, hP, hX⟩ =>
    ⟨ρ, M, N, _, PX, hs, hr, ht, fun x M1 v H1 p hr1 af1 iv => ⟨hT hr1 iv p.1, ρ, M1, N, _, PX, hs.mono af1.fr, hr1, p.2, fun xs M2 vs H2 p2 hr2 af2 ivs =>
      ⟨x, xs, M2, N, P, hr2, isD_mono af2.fr iv, ivs, p2, fun z M3 w H3 pz r3 a3 iz => hP z M3 w H3 pz r3 ((af1.trans af2).trans a3) iz⟩, hX.step af1⟩, hX⟩⟩
theorem de_bm0 {Ty : DV → MHp → Prop} {g : DM} (hT : TyOk Ty T) (pa : PlainAttrs T) (slot : Slot T name id) (hty : typeOf (.builtin id) = pure (.type "method_descriptor")) (hm : DMt X id g) (ho : DE X W o to)
    (hbase : attributeBase o name X.env (eval o X.env) = eval o X.env := by rfl) (hline : (apos.endLine == cpos.line) = true := by rfl) :
    DE X W (.Call (.Attribute o name apos) [] [] cpos) (eBm Ty g to aNil) :=
  ⟨PE.imp (pe_bm0 pa slot hty hm ho.pe hbase hline) fun σ H Q ⟨ρ, M, N, P, PX, hs, hr, ht, hP, hX⟩ =>
    ⟨ρ, M, N, _, PX, hs, hr, ht, fun x M1 v H1 p hr1 af1 iv => ⟨hT hr1 iv p.1, x, [], M1, N, P, hr1, iv, .nil, p.2, fun z M3 w H3 pz r3 a3 iz => hP z M3 w H3 pz r3 (af1.trans a3) iz⟩, hX⟩⟩
/-- xs.append(e) -/
def gAppend : DM := fun x xs M P => match x, xs with
  | .r a, [y] => match M a with
    | some (.ls ys) => (match y with | .d d => ys.length < sizeLine ∧ P (.d .none) (mu M a (.ls (ys ++ [d]))) | _ => False)
    | some (.lv ys) => ys.length < sizeLine ∧ P (.d .none) (mu M a (.lv (ys ++ [y])))
    | _ => False
  | _, _ => False
theorem areD_app {K : PySem.W.Frag} {F : Hp} {xs : List V} {ys : List DV} {x : V} {y : DV} (h : AreD K F xs ys) (q : IsD K F x y) : AreD K F (xs ++ [x]) (ys ++ [y]) := by
  induction h with
  | nil => exact .cons q .nil
  | cons h1 h2 ih => exact .cons h1 ih
theorem dm_append : DMt X "list.append" gAppend := by
  intro pins s σ H v vs w us Q I rx rv h
  obtain ⟨x, xs, M, N, P, hr, ix, ixs, hg, fo⟩ := h
  unfold gAppend at hg
  split at hg
  · rename_i a y
    obtain ⟨u, rfl, iy⟩ := are1 ixs
    have i' : v = .ref a := ix
    subst i'
    split at hg
    · rename_i ys q
      obtain ⟨o, h1, h2⟩ := hr.obj a _ q
      cases y with
      | r _ => exact (show False from hg).elim
      | d d =>
      cases o with
      | lst ws =>
        have hz := dpAll_len (show DpAll _ _ _ _ from h2)
        obtain ⟨r2, a2⟩ := hr.write (x := .ls (ys ++ [d])) (o := .lst (ws ++ [u])) q (dpAll_app h2 (.cons iy .nil))
        exact mt_append pins s σ H _ _ w us Q I rx rv ⟨a, ws, u, rfl, rfl, h1, by rw [hz]; exact hg.1, fo _ _ _ _ hg.2 r2 a2 (show Dp _ _ _ _ from .non)⟩
      | _ => exact (show False from h2).elim
    · rename_i ys q
      obtain ⟨o, h1, h2⟩ := hr.obj a _ q
      cases o with
      | lst ws =>
        have hz := paired_len (show AreD _ _ _ _ from h2)
        obtain ⟨r2, a2⟩ := hr.write (x := .lv (ys ++ [y])) (o := .lst (ws ++ [u])) q (areD_app h2 iy)
        exact mt_append pins s σ H _ _ w us Q I rx rv ⟨a, ws, u, rfl, rfl, h1, by rw [hz]; exact hg.1, fo _ _ _ _ hg.2 r2 a2 (show Dp _ _ _ _ from .non)⟩
      | _ => exact (show False from h2).elim
    · exact hg.elim
  · exact hg.elim
/-- o[i] = e, o a mutable list of data -/
def gSetL (to ti : DTE) : DTG := fun x ρ M P PX => to ρ M (fun y M1 => ti ρ M1 (fun k M2 => match y, k, x with
  | .r a, .d (.int n), .d d => match M2 a with
    | some (.ls ys) => ∃ j, ixN ys.length n = some j ∧ P ρ (mu M2 a (.ls (ys.set j d)))
    | _ => False
  | _, _, _ => False) PX) PX
theorem dg_setL (ho : DE X W o to) (hi : DE X W i ti)
    (ha : ∀ v, assign (.Subscript o i pos) X.env v = (do
      let ov ← holding [v] (eval o X.env)
      let iv ← holding [v, ov] (eval i X.env)
      standAt pos
      holding [v, ov, iv] (setItem ov iv v)
      release [v, ov, iv] []) := by intro _; rfl) : DG X W (.Subscript o i pos) [] (gSetL to ti) :=
  ⟨PG.imp (pg_sub ho.pe hi.pe set_list ha) fun v σ H Q ⟨x, ρ, M, N, P, PX, iv, hs, hr, ht, hP, hX⟩ =>
    ⟨ρ, M, N, _, PX, hs, hr, ht, fun y M1 u H1 p hr1 af1 iu => ⟨ρ, M1, N, _, PX, hs.mono af1.fr, hr1, p, fun k M2 z H2 p2 hr2 af2 iz => by
      split at p2
      · rename_i a n d
        split at p2
        · rename_i ys q
          obtain ⟨j, hj, pz⟩ := p2
          have iu' : u = .ref a := iu
          subst iu'
          cases (show Dp _ _ _ _ from iz)
          obtain ⟨oo, h1, h2⟩ := hr2.obj a _ q
          cases oo with
          | lst ws =>
            have hz := dpAll_len (show DpAll _ _ _ _ from h2)
            have af := af1.trans af2
            obtain ⟨r3, a3⟩ := hr2.write (x := .ls (ys.set j d)) (o := .lst (ws.set j v)) q (dpAll_set (dp_mono af.fr _ _ iv) j h2)
            exact ⟨a, ws, n, j, rfl, rfl, h1, by rw [hz]; exact hj, hP _ _ _ _ pz (hs.mono (af.trans a3).fr) r3 (af.trans a3) .refl⟩
          | _ => exact (show False from h2).elim
        · exact p2.elim
      · exact p2.elim, hX.step af1⟩, hX⟩⟩
end

/-! ### what is walked -/
section
variable {X : Cx} {W : WX} {e tg : Expr} {es : List Expr} {te : DTE} {ta : DTA} {pos : Pos}
/-- lists, tuples, texts -/
def walkD : PyData → (List DV → Prop) → Prop
  | .list xs, k => k (xs.map .d)
  | .tuple xs, k => k (xs.map .d)
  | .str x, k => k (x.cps.toList.map fun c => .d (.str ⟨#[c]⟩))
  | _, _ => False
def iSeq (te : DTE) : DTI := fun ρ M P PX => te ρ M (fun x M1 => match x with
  | .r a => match M1 a with
    | some (.ls ys) => P (ys.map .d) (fun M' => M' a = some (.ls ys)) M1
    | some (.lv ys) => P ys (fun M' => M' a = some (.lv ys)) M1
    | _ => False
  | .d d => walkD d fun xs => P xs (fun _ => True) M1) PX
/-- a list, a tuple or a text that is walked -/
theorem pi_any {te : TE} (h : PE X e te) : PI X tg e (fun σ H R => te σ H fun x H1 => (∃ a, x = .ref a ∧ (∃ xs, SqL X.K H1 a xs) ∧ R (Itl X.K a) H1) ∨ (∃ a, x = .ref a ∧ (∃ xs, SqT X.K H1 a xs) ∧ R (Itt X.K a) H1) ∨ ∃ z, x = .str z ∧ R (Its z) H1) := by
  refine ⟨fun pins s σ H R I hq => ?_⟩
  refine thn (h.run pins s σ H _ I hq) fun v s1 ⟨x, H1, I1, r1, q1⟩ => ?_
  have vpe : ∀ (v : Value), True := fun _ => trivial
  rcases q1 with ⟨a, rfl, ⟨xs, hx⟩, q⟩ | ⟨a, rfl, ⟨xs, hx⟩, q⟩ | ⟨z, rfl, q⟩
  · cases r1
    obtain ⟨its, rv, p, hz⟩ := I1.list hx
    refine wpAny_pyIter_list p.isList ?_
    refine ⟨s1.heap.objs.size, [s1.heap.objs.size], _, _, H1, rfl, I1.kept (t' := s1.toks) fun b o e => Heap.get?_push_of_some _ e, turn_list a _, ⟨_, Heap.get?_push_size _ rfl, rfl, rfl⟩, fun b hb => ?_, q⟩
    have e : b = s1.heap.objs.size := by simpa using hb
    subst e
    exact I1.fpOk (Nat.le_refl _) (I1.hok.fresh (Nat.le_refl _))
  · cases r1
    obtain ⟨its, rv, p, hz⟩ := I1.tuple hx
    refine wpAny_pyIter_tuple (show s1.heap.IsTuple a its.toArray from p) ?_
    refine ⟨s1.heap.objs.size, [s1.heap.objs.size], _, _, H1, rfl, I1.kept (t' := s1.toks) fun b o e => Heap.get?_push_of_some _ e, turn_tuple a _, ⟨_, Heap.get?_push_size _ rfl, rfl, rfl⟩, fun b hb => ?_, q⟩
    have e : b = s1.heap.objs.size := by simpa using hb
    subst e
    exact I1.fpOk (Nat.le_refl _) (I1.hok.fresh (Nat.le_refl _))
  · obtain ⟨t, rfl⟩ := r1
    cases ha : z.cps.all (· < 128)
    · exact wpAny_pyIter_wide ha (pi_one (tk := s1.toks) I1 _ (turn_str _ z t "str_iterator" (.inr rfl)) ⟨_, Heap.get?_push_size _ rfl, rfl, rfl⟩ q)
    · exact wpAny_pyIter_ascii ha (pi_one (tk := s1.toks) I1 _ (turn_str _ z t "str_ascii_iterator" (.inl rfl)) ⟨_, Heap.get?_push_size _ rfl, rfl, rfl⟩ q)
theorem sql_inj {K : PySem.W.Frag} {F H : Hp} (s : Same F H) {a : Addr} {xs ys : List V} (h1 : Rd F a (.lst xs)) (h2 : Rd H a (.lst ys)) : xs = ys := by
  rcases h1 with h1 | ⟨o, h1⟩
  · rcases h2 with h2 | ⟨o', h2⟩
    · have := s _ _ h1
      rw [h2] at this; cases this; rfl
    · have := s _ _ h1
      rw [h2] at this; cases this
  · rcases h2 with h2 | ⟨o', h2⟩
    · have := s _ _ h1
      rw [h2] at this; cases this
    · have := s _ _ h1
      rw [h2] at this; cases this; rfl
theorem it_lst {K : PySem.W.Frag} {F0 : Hp} {a : Addr} {vs : List V} {ds : List PyData} (hq : SqL K F0 a vs) (hd : DpAll K F0 vs ds) : ItD K F0 (Itl K a) (ds.map .d) (fun _ => True) where
  go := fun i M N H s hr _ hi => ⟨vs, vs[i]'(by rw [dpAll_len hd]; simpa using hi), Same.seq (s.trans fz_sub) hq, List.getElem?_eq_getElem _⟩
  stop := fun M N H s hr _ => ⟨vs, Same.seq (s.trans fz_sub) hq, by rw [dpAll_len hd]; simp⟩
  yld := fun i M N H v H' x s hr _ hx y => by
    obtain ⟨rfl, y⟩ := y
    have e := y vs (Same.seq (s.trans fz_sub) hq)
    obtain ⟨d, e1, e2⟩ := dpAll_get' hd e
    rw [List.getElem?_map, e1] at hx
    cases hx
    exact ⟨Same.refl _, dp_mono s _ _ e2⟩
theorem it_tup {K : PySem.W.Frag} {F0 : Hp} {a : Addr} {vs : List V} {ds : List PyData} (hq : SqT K F0 a vs) (hd : DpAll K F0 vs ds) : ItD K F0 (Itt K a) (ds.map .d) (fun _ => True) where
  go := fun i M N H s hr _ hi => ⟨vs, vs[i]'(by rw [dpAll_len hd]; simpa using hi), same_tup (s.trans fz_sub) hq, List.getElem?_eq_getElem _⟩
  stop := fun M N H s hr _ => ⟨vs, same_tup (s.trans fz_sub) hq, by rw [dpAll_len hd]; simp⟩
  yld := fun i M N H v H' x s hr _ hx y => by
    obtain ⟨rfl, y⟩ := y
    have e := y vs (same_tup (s.trans fz_sub) hq)
    obtain ⟨d, e1, e2⟩ := dpAll_get' hd e
    rw [List.getElem?_map, e1] at hx
    cases hx
    exact ⟨Same.refl _, dp_mono s _ _ e2⟩
theorem it_str {K : PySem.W.Frag} {F0 : Hp} {z : Str} : ItD K F0 (Its z) (z.cps.toList.map fun c => .d (.str ⟨#[c]⟩)) (fun _ => True) where
  go := fun i M N H s hr _ hi => by
    show i < z.cps.size
    simpa using hi
  stop := fun M N H s hr _ => by
    show z.cps.size ≤ _
    simp
  yld := fun i M N H v H' x s hr _ hx y => by
    obtain ⟨rfl, c, hc, rfl⟩ := y
    rw [List.getElem?_map, Array.getElem?_toList, hc] at hx
    cases hx
    exact ⟨Same.refl _, (show Dp _ _ _ _ from .str _)⟩
theorem it_ls {K : PySem.W.Frag} {F0 : Hp} {a : Addr} {ds : List PyData} : ItD K F0 (Itl K a) (ds.map .d) (fun M => M a = some (.ls ds)) where
  go := fun i M N H s hr hC hi => by
    obtain ⟨o, h1, h2⟩ := hr.obj a _ hC
    cases o with
    | lst ws => exact ⟨ws, ws[i]'(by rw [dpAll_len (show DpAll _ _ _ _ from h2)]; simpa using hi), .inl (.inl h1), List.getElem?_eq_getElem _⟩
    | _ => exact (show False from h2).elim
  stop := fun M N H s hr hC => by
    obtain ⟨o, h1, h2⟩ := hr.obj a _ hC
    cases o with
    | lst ws => exact ⟨ws, .inl (.inl h1), by rw [dpAll_len (show DpAll _ _ _ _ from h2)]; simp⟩
    | _ => exact (show False from h2).elim
  yld := fun i M N H v H' x s hr hC hx y => by
    obtain ⟨rfl, y⟩ := y
    obtain ⟨o, h1, h2⟩ := hr.obj a _ hC
    cases o with
    | lst ws =>
      have e := y ws (.inl (.inl h1))
      obtain ⟨d, e1, e2⟩ := dpAll_get' (show DpAll _ _ _ _ from h2) e
      rw [List.getElem?_map, e1] at hx
      cases hx
      exact ⟨Same.refl _, e2⟩
    | _ => exact (show False from h2).elim
theorem areD_get {K : PySem.W.Frag} {F : Hp} : ∀ {vs : List V} {ds : List DV} {i : Nat} {v : V}, AreD K F vs ds → vs[i]? = some v → ∃ d, ds[i]? = some d ∧ IsD K F v d
  | _, _, i, v, .nil, e => by simp at e
  | _, _, 0, v, .cons h1 h2, e => by simp at e; subst e; exact ⟨_, rfl, h1⟩
  | _, _, i + 1, v, .cons h1 h2, e => by
    obtain ⟨d, q1, q2⟩ := areD_get (i := i) h2 (by simpa using e)
    exact ⟨d, by simpa using q1, q2⟩
theorem it_lv {K : PySem.W.Frag} {F0 : Hp} {a : Addr} {ds : List DV} : ItD K F0 (Itl K a) ds (fun M => M a = some (.lv ds)) where
  go := fun i M N H s hr hC hi => by
    obtain ⟨o, h1, h2⟩ := hr.obj a _ hC
    cases o with
    | lst ws => exact ⟨ws, ws[i]'(by rw [paired_len (show AreD _ _ _ _ from h2)]; exact hi), .inl (.inl h1), List.getElem?_eq_getElem _⟩
    | _ => exact (show False from h2).elim
  stop := fun M N H s hr hC => by
    obtain ⟨o, h1, h2⟩ := hr.obj a _ hC
    cases o with
    | lst ws => exact ⟨ws, .inl (.inl h1), by rw [paired_len (show AreD _ _ _ _ from h2)]; exact Nat.le_refl _⟩
    | _ => exact (show False from h2).elim
  yld := fun i M N H v H' x s hr hC hx y => by
    obtain ⟨rfl, y⟩ := y
    obtain ⟨o, h1, h2⟩ := hr.obj a _ hC
    cases o with
    | lst ws =>
      have e := y ws (.inl (.inl h1))
      obtain ⟨d, e1, e2⟩ := areD_get (show AreD _ _ _ _ from h2) e
      rw [hx] at e1
      cases e1
      exact ⟨Same.refl _, e2⟩
    | _ => exact (show False from h2).elim
theorem di_seq (h : DE X W e te) : DI X W tg e (iSeq te) := ⟨PI.imp (pi_any h.pe) fun σ H R ⟨ρ, M, N, P, PX, hs, hr, ht, hP, hX⟩ => by
  refine ⟨ρ, M, N, _, PX, hs, hr, ht, fun x M1 v H1 p hr1 af1 iv => ?_, hX⟩
  split at p
  · rename_i a
    have iv' : v = .ref a := iv
    subst iv'
    split at p
    · rename_i ys q
      obtain ⟨o, h1, h2⟩ := hr1.obj a _ q
      cases o with
      | lst ws => exact .inl ⟨a, rfl, ⟨ws, .inl (.inl h1)⟩, hP _ _ M1 _ H1 p hr1 af1 it_ls⟩
      | _ => exact (show False from h2).elim
    · rename_i ys q
      obtain ⟨o, h1, h2⟩ := hr1.obj a _ q
      cases o with
      | lst ws => exact .inl ⟨a, rfl, ⟨ws, .inl (.inl h1)⟩, hP _ _ M1 _ H1 p hr1 af1 it_lv⟩
      | _ => exact (show False from h2).elim
    · exact p.elim
  · rename_i d
    unfold walkD at p
    split at p
    · cases (show Dp _ _ _ _ from iv) with
      | lst h1 h2 => exact .inl ⟨_, rfl, ⟨_, Same.seq fz_sub h1⟩, hP _ _ M1 _ H1 p hr1 af1 (it_lst h1 h2)⟩
    · cases (show Dp _ _ _ _ from iv) with
      | tup h1 h2 => exact .inr (.inl ⟨_, rfl, ⟨_, same_tup fz_sub h1⟩, hP _ _ M1 _ H1 p hr1 af1 (it_tup h1 h2)⟩)
    · cases (show Dp _ _ _ _ from iv)
      exact .inr (.inr ⟨_, rfl, hP _ _ M1 _ H1 p hr1 af1 it_str⟩)
    · exact p.elim⟩
/-- range(lo, lo + n) -/
def rangeD (lo : Int) (n : Nat) : List DV := (List.range n).map fun i => .d (.int (lo + (i : Nat)))
theorem rangeD_len {lo : Int} {n : Nat} : (rangeD lo n).length = n := by simp [rangeD]
theorem it_rng {K : PySem.W.Frag} {F0 : Hp} {lo : Int} {n : Nat} : ItD K F0 (Itr lo n) (rangeD lo n) (fun _ => True) where
  go := fun i M N H s hr _ hi => by
    show i < n
    rw [rangeD_len] at hi; exact hi
  stop := fun M N H s hr _ => by
    show n ≤ _
    rw [rangeD_len]
    exact Nat.le_refl _
  yld := fun i M N H v H' x s hr _ hx y => by
    obtain ⟨rfl, rfl⟩ := y
    unfold rangeD at hx
    rw [List.getElem?_map] at hx
    have : (List.range n)[i]? = some i ∨ (List.range n)[i]? = none := by
      by_cases h : i < n
      · exact .inl (List.getElem?_range h)
      · exact .inr (List.getElem?_eq_none (by simpa using h))
    rcases this with q | q
    · rw [q] at hx; cases hx
      exact ⟨Same.refl _, (show Dp _ _ _ _ from .int _)⟩
    · rw [q] at hx; cases hx
def iRange1 (ta : DTA) : DTI := fun ρ M P PX => ta ρ M (fun xs M1 => match xs with
  | [.d (.int j)] => -(2 ^ 62) ≤ j ∧ j < 2 ^ 62 ∧ P (rangeD 0 j.toNat) (fun _ => True) M1
  | _ => False) PX
def iRange2 (ta : DTA) : DTI := fun ρ M P PX => ta ρ M (fun xs M1 => match xs with
  | [.d (.int i), .d (.int j)] => (-(2 ^ 62) ≤ i ∧ i < 2 ^ 62 ∧ -(2 ^ 62) ≤ j ∧ j < 2 ^ 62) ∧ P (rangeD i (j - i).toNat) (fun _ => True) M1
  | _ => False) PX
theorem di_range1 {a : Expr} {p : Pos} (hm : X.mg "range" = none) (ha : DA X W [a] ta) (hg : Gl X "range" := by rfl) (hs : starEach [a] X.env = [(false, eval a X.env)] := by rfl) : DI X W tg (.Call (.Name "range" p) [a] [] pos) (iRange1 ta) :=
  ⟨PI.imp (pi_range1 hg hm ha.pa hs) fun σ H R ⟨ρ, M, N, P, PX, hs, hr, ht, hP, hX⟩ => by
    refine ⟨ρ, M, N, _, PX, hs, hr, ht, fun xs M1 vs H1 p hr1 af1 iv => ?_, hX⟩
    split at p
    · obtain ⟨v, rfl, i⟩ := are1 iv
      cases (show Dp _ _ _ _ from i)
      exact ⟨_, rfl, p.1, p.2.1, hP _ _ M1 _ H1 p.2.2 hr1 af1 it_rng⟩
    · exact p.elim⟩
theorem di_range2 {a b : Expr} {p : Pos} (hm : X.mg "range" = none) (ha : DA X W [a, b] ta) (hg : Gl X "range" := by rfl) (hs : starEach [a, b] X.env = [(false, eval a X.env), (false, eval b X.env)] := by rfl) (hs2 : starEach [b] X.env = [(false, eval b X.env)] := by rfl) : DI X W tg (.Call (.Name "range" p) [a, b] [] pos) (iRange2 ta) :=
  ⟨PI.imp (pi_range2 hg hm ha.pa hs hs2) fun σ H R ⟨ρ, M, N, P, PX, hs, hr, ht, hP, hX⟩ => by
    refine ⟨ρ, M, N, _, PX, hs, hr, ht, fun xs M1 vs H1 p hr1 af1 iv => ?_, hX⟩
    split at p
    · obtain ⟨v, u, rfl, i, j⟩ := are2 iv
      cases (show Dp _ _ _ _ from i)
      cases (show Dp _ _ _ _ from j)
      exact ⟨_, _, rfl, p.1, hP _ _ M1 _ H1 p.2 hr1 af1 it_rng⟩
    · exact p.elim⟩
end
end DL

/-! Part 6: errors, isinstance. -/
namespace DL
open PySem PySem.Spec PyProof.Rows L2

section
variable {X : Cx} {W : WX} {e : Expr} {te : DTE} {pos : Pos}
/-! ### raise X('..') -/
/-- an own error class without own __init__ -/
structure ErrC (K : PySem.W.Frag) (mg : Str → Option Value) (x : Str) (C : Addr) : Prop where
  ex : PySem.W.excIn K C [.type "ValueError", .type "Exception", .type "BaseException", .type "object"] "ValueError.__new__" = true
  mg : mg x = some (.ref C)
  kp : PySem.W.keepIn K (.ref C) = true
  sb : PySem.W.subIn K (.ref C) (.type "BaseException") = some true
  ty : PySem.W.typeIn K (.ref C) = some (.type "type")
def sRaise (cls : Value) : DTS := fun E ρ M => E.ex { cls := cls } ρ M
theorem ds_raise {x m : Str} {j : Nat} {p p2 p3 : Pos} {C : Addr} (T : ErrC X.K X.mg x C) (hc : X.calm = true) (tk : Takes X W) (hg : Gl X x := by rfl) (hdb : (x == ("__debug__" : Str)) = false := by decide) :
    DS X W (.Raise (some (.Call (.Name x p) [.Constant (.str m) j p2] [] p3)) none pos) (sRaise (.ref C)) :=
  ⟨PS.imp (ps_raise hc tk (pmk_own PySem.F.excBase_ValueError T.ex T.mg T.kp (raises_own T.sb T.ty) hg hdb)) fun D σ H ⟨ρ, M, N, E, hs, hr, ht, hE⟩ => hE.ex _ ρ M none σ H ht hs hr .refl rfl⟩

/-! ### try: body / except X as n: suite -/
/-- what stands for an exception in hand -/
def XOk (K : PySem.W.Frag) (F : Hp) (x : XD) (cls : Value) (d : Option Addr) : Prop := x.cls = cls ∧ ExD K F x d
/-- the readings of suites: by the exception's address and what it is -/
abbrev DSu := Addr → XD → DTS
/-- a suite's reading, where the exception is known -/
def LSu (K : PySem.W.Frag) (a : Addr) (cls : Value) (d : Option Addr) (ts : DSu) : TS := fun D σ H => ∃ x ρ M N E, x.cls = cls ∧ ExD K (fz M N H) x d ∧ H a = none ∧ SRel K (fz M N H) σ ρ ∧ HRel K M N H ∧ ts a x E ρ M ∧ EndsOk K W0 M N H E D
structure DSusp (X : Cx) (st : List Stmt) (ts : DSu) : Prop where
  run : ∀ (a : Addr) (oe : Obj) (cls : Value) (d : Option Addr) (pn : List (Addr × Obj)), Zc cls d oe → (∃ vs, oe.data = .fields vs) → PSs (X.suite a ((a, oe) :: pn)) st (LSu X.K a cls d ts)
/-- body; the class that the clause names (with what it takes); suite -/
def sTryAs (ml : List (Value × Bool)) (i : Nat) (tb : DTS) (ts : DSu) : DTS := fun E ρ M => tb { E with ex := fun x ρ1 M1 => ∃ b, (x.cls, b) ∈ ml ∧ (if b = true then ∀ a, M1 a = none →
    ts a x { nx := fun ρ2 M2 => E.nx (ρ2.set i none) M2, rt := E.rt, bk := fun ρ2 M2 => E.bk (ρ2.set i none) M2, ct := fun ρ2 M2 => E.ct (ρ2.set i none) M2 } (ρ1.set i (some (.r a))) M1 else E.ex x ρ1 M1) } ρ M
def sTry (ml : List (Value × Bool)) (tb : DTS) (ts : DSu) : DTS := fun E ρ M => tb { E with ex := fun x ρ1 M1 => ∃ b, (x.cls, b) ∈ ml ∧ (if b = true then ∀ a, M1 a = none →
    ts a x { nx := E.nx, rt := E.rt, bk := E.bk, ct := E.ct } ρ1 M1 else E.ex x ρ1 M1) } ρ M
theorem takes0' {X : Cx} : Takes X W0 := fun _ _ x => by
  obtain ⟨_, _, _, _, _, _, _, _, _, _, _, _, _, _, _, _, z⟩ := x
  exact z.elim
/-- the body's own wish about exceptions, where the clause stands -/
theorem ds_tryAs {x n : Str} {c : Value} {i : Nat} {body suite : List Stmt} {b₀ : Stmt} {np pos' : Pos} {tb : DTS} {ts : DSu} {ml : List (Value × Bool)} (hN : X.N.Nodup) (hc : Names X x c) (tk : Takes X W) (hml : ∀ p ∈ ml, PySem.W.exmOne X.K p.1 c = some p.2)
    (hb : ∀ (W' : WX) (pn : List (Addr × Obj)) (xe : Value → Shared → Prop), Takes (X.tr pn xe) W' → PassesOwn (model X.prog X.w) X.A X.env xe → DSs (X.tr pn xe) W' body tb)
    (hsu : DSusp X (b₀ :: suite) ts) (hs : X.stack = X.env :: X.outer := by rfl) (hf : X.env.frame = some X.env.locals := by rfl) (hi : X.N[i]? = some n := by rfl) (hln : X.env.kindOf n = some .local := by rfl) :
    DS X W (.Try body [.ExceptHandler (some (.Name x np)) (some n) (b₀ :: suite) pos'] [] [] pos) (sTryAs ml i tb ts) := by
  refine ⟨PS.imp (ps_try_as hs hf hN hi hln hc tk (tb := fun W' => LS X.K W' tb) (fun W' pn xe tk' hp => (hb W' pn xe tk' hp).ps) (fun a oe cls d pn hz hf' => hsu.run a oe cls d pn hz hf')) fun D σ H ⟨ρ, M, N, E, hs, hr, ht, hE⟩ => ?_⟩
  refine ⟨ρ, M, N, _, hs, hr, ht, ⟨hE.nx, hE.rt, hE.bk, hE.ct, fun x ρ' M' d σ' H' q s' r' f' ed => ?_⟩⟩
  obtain ⟨b, hb1, q⟩ := q
  refine ⟨b, hml _ hb1, fun e a ha => ?_, fun e => ?_⟩
  · subst e
    have q := q a (r'.free ha).1
    refine ⟨x, ρ'.set i (some (.r a)), M', N, _, rfl, ed, ha, s'.set (x := .r a) rfl i, r', q, ⟨fun ρ2 M2 σ2 H2 p s2 r2 a2 => ?_, fun y M2 v H2 p r2 a2 iv => hE.rt y M2 v H2 p r2 (f'.trans a2) iv, fun ρ2 M2 σ2 H2 p s2 r2 a2 => ?_, fun ρ2 M2 σ2 H2 p s2 r2 a2 => ?_, fun _ _ _ _ _ _ z => z.elim⟩⟩
    · exact hE.nx _ M2 _ H2 p (s2.setNone none i) r2 (f'.trans a2)
    · exact hE.bk _ M2 _ H2 p (s2.setNone none i) r2 (f'.trans a2)
    · exact hE.ct _ M2 _ H2 p (s2.setNone none i) r2 (f'.trans a2)
  · subst e
    exact hE.ex x ρ' M' d σ' H' q s' r' f' ed
theorem ds_try {x : Str} {c : Value} {body suite : List Stmt} {b₀ : Stmt} {np pos' : Pos} {tb : DTS} {ts : DSu} {ml : List (Value × Bool)} (hc : Names X x c) (tk : Takes X W) (hml : ∀ p ∈ ml, PySem.W.exmOne X.K p.1 c = some p.2)
    (hb : ∀ (W' : WX) (pn : List (Addr × Obj)) (xe : Value → Shared → Prop), Takes (X.tr pn xe) W' → PassesOwn (model X.prog X.w) X.A X.env xe → DSs (X.tr pn xe) W' body tb)
    (hsu : DSusp X (b₀ :: suite) ts) (hs : X.stack = X.env :: X.outer := by rfl) (hf : X.env.frame = some X.env.locals := by rfl) :
    DS X W (.Try body [.ExceptHandler (some (.Name x np)) none (b₀ :: suite) pos'] [] [] pos) (sTry ml tb ts) := by
  refine ⟨PS.imp (ps_try_only hs hf hc tk (tb := fun W' => LS X.K W' tb) (fun W' pn xe tk' hp => (hb W' pn xe tk' hp).ps) (fun a oe cls d pn hz hf' => hsu.run a oe cls d pn hz hf')) fun D σ H ⟨ρ, M, N, E, hs, hr, ht, hE⟩ => ?_⟩
  refine ⟨ρ, M, N, _, hs, hr, ht, ⟨hE.nx, hE.rt, hE.bk, hE.ct, fun x ρ' M' d σ' H' q s' r' f' ed => ?_⟩⟩
  obtain ⟨b, hb1, q⟩ := q
  refine ⟨b, hml _ hb1, fun e a ha => ?_, fun e => ?_⟩
  · subst e
    have q := q a (r'.free ha).1
    exact ⟨x, ρ', M', N, _, rfl, ed, ha, s', r', q, ⟨fun ρ2 M2 σ2 H2 p s2 r2 a2 => hE.nx ρ2 M2 σ2 H2 p s2 r2 (f'.trans a2), fun y M2 v H2 p r2 a2 iv => hE.rt y M2 v H2 p r2 (f'.trans a2) iv, fun ρ2 M2 σ2 H2 p s2 r2 a2 => hE.bk ρ2 M2 σ2 H2 p s2 r2 (f'.trans a2), fun ρ2 M2 σ2 H2 p s2 r2 a2 => hE.ct ρ2 M2 σ2 H2 p s2 r2 (f'.trans a2), fun _ _ _ _ _ _ z => z.elim⟩⟩
  · subst e
    exact hE.ex x ρ' M' d σ' H' q s' r' f' ed
/-- a suite that does not look at the exception -/
theorem dsu_plain {st : List Stmt} {t : DTS} (h : ∀ (a : Addr) (oe : Obj) (pn : List (Addr × Obj)), DSs (X.suite a ((a, oe) :: pn)) W0 st t) : DSusp X st (fun _ _ => t) :=
  ⟨fun a oe cls d pn hz hf => PSs.imp (h a oe pn).ps fun D σ H ⟨x, ρ, M, N, E, _, _, _, hs, hr, ht, hE⟩ => ⟨ρ, M, N, E, hs, hr, ht, hE⟩⟩

/-! ### expressions of a suite that look at the exception -/
/-- an expression within a suite: the exception at a is x -/
abbrev DSE := Addr → XD → DTE
def LSe (K : PySem.W.Frag) (a : Addr) (cls : Value) (d : Option Addr) (t : DSE) : TE := fun σ H Q => ∃ x ρ M N P PX, x.cls = cls ∧ ExD K (fz M N H) x d ∧ SRel K (fz M N H) σ ρ ∧ HRel K M N H ∧ t a x ρ M P PX ∧
  (∀ y M' v H', P y M' → HRel K M' N H' → Af M N H M' H' → IsD K (fz M' N H') v y → Q v H') ∧ XEnd K W0 σ M N H PX
structure DXE (X : Cx) (e : Expr) (t : DSE) : Prop where
  run : ∀ (a : Addr) (oe : Obj) (cls : Value) (d : Option Addr) (pn : List (Addr × Obj)), Zc cls d oe → (∃ vs, oe.data = .fields vs) → PE (X.suite a ((a, oe) :: pn)) e (LSe X.K a cls d t)
/-- isinstance(e, C), e the exception -/
def xIs (ml : List (Value × Bool)) (i : Nat) : DSE := fun a x ρ M P _ => ρ[i]? = some (some (.r a)) ∧ x.fs = none ∧ ∃ b, (x.cls, b) ∈ ml ∧ P (.d (.bool b)) M
theorem dx_is {n cn : Str} {i : Nat} {C : Addr} {ml : List (Value × Bool)} {p0 p1 p2 : Pos} (hm : X.mg "isinstance" = none) (hC : X.mg cn = some (.ref C)) (hml : ∀ p ∈ ml, ∃ D, p.1 = .ref D ∧ ExcC X.K D ∧ PySem.W.kitOne X.K (.ref D) (.ref C) = some p.2)
    (hN : X.N[i]? = some n := by rfl) (hv : Vis X.env.scope n := by first | exact Or.inl rfl | exact Or.inr (Or.inl rfl)) (hg : Gl X "isinstance" := by rfl) (hgc : Gl X cn := by rfl) (hd : (n == ("__debug__" : Str)) = false := by decide) (hcd : (n == ("__classdict__" : Str)) = false := by decide) (hdc : (cn == ("__debug__" : Str)) = false := by decide)
    (he : starEach [.Name n p1, .Name cn p2] X.env = (false, eval (.Name n p1) X.env) :: starEach [.Name cn p2] X.env := by rfl) (he2 : starEach [.Name cn p2] X.env = (false, eval (.Name cn p2) X.env) :: starEach [] X.env := by rfl) (hpl : (backTo pos (starEach [.Name cn p2] X.env)).any (·.1) = false := by rfl) :
    DXE X (.Call (.Name "isinstance" p0) [.Name n p1, .Name cn p2] [] pos) (xIs ml i) := by
  refine ⟨fun a oe cls d pn hz hf => ⟨fun pins s σ H Q I h => ?_⟩⟩
  obtain ⟨x, ρ, M, N, P, PX, hx, hed, hs, hr, ht, hP, hX⟩ := h
  obtain ⟨hi, hfs, b, hb, p⟩ := ht
  obtain ⟨D, eD, T, hk⟩ := hml _ hb
  have hd' : d = none := by
    unfold ExD at hed
    rw [hfs] at hed
    exact hed
  subst hd'
  have hcls : cls = .ref D := hx.symm.trans eD
  subst hcls
  obtain ⟨v, ev, iv⟩ := hs.2 i _ hi
  have iv' : v = .ref a := iv
  subst iv'
  have PAs : PA (X.suite a ((a, oe) :: pn)) [.Name n p1, .Name cn p2] (tCons (tVar i) (tCons (tC (.ref C)) tNil)) :=
    pa_cons (pe_var (X := X.suite a ((a, oe) :: pn)) hN hv hd hcd) (pa_cons (pe_glob (X := X.suite a ((a, oe) :: pn)) (v := .ref C) hgc hC rfl hdc) pa_nil he2) he
  refine (pe_callB (call_isE T hz hf) hg hm (by decide +kernel) PAs (by decide) (by decide) he hpl).run pins s σ H Q I ?_
  refine ⟨.ref a, ev, ?_⟩
  refine ⟨.ref C, .ref C, b, rfl, fun u ru => ru, hk, ?_⟩
  exact hP _ M _ H p hr .refl (show Dp _ _ _ _ from .bl _)
/-- other expressions of a suite -/
theorem dx_plain {e : Expr} {t : DTE} (h : ∀ (a : Addr) (oe : Obj) (pn : List (Addr × Obj)), DE (X.suite a ((a, oe) :: pn)) W0 e t) : DXE X e (fun _ _ => t) :=
  ⟨fun a oe cls d pn hz hf => PE.imp (h a oe pn).pe fun σ H Q ⟨x, ρ, M, N, P, PX, _, _, hs, hr, ht, hP, hX⟩ => ⟨ρ, M, N, P, PX, hs, hr, ht, hP, hX⟩⟩
/-- a suite: return e -/
def xRet (t : DSE) : DSu := fun a x E ρ M => t a x ρ M E.rt (fun _ _ => False)
theorem dsu_ret {e : Expr} {t : DSE} {pos : Pos} (h : DXE X e t) : DSusp X [.Return (some e) pos] (xRet t) :=
  ⟨fun a oe cls d pn hz hf => PSs.imp (pss_one (ps_ret (h.run a oe cls d pn hz hf))) fun D σ H ⟨x, ρ, M, N, E, hx, hed, _, hs, hr, ht, hE⟩ =>
    ⟨x, ρ, M, N, E.rt, fun _ _ => False, hx, hed, hs, hr, ht, hE.rt, fun _ _ _ _ z => z.elim⟩⟩

/-! ### isinstance of data -/
def tyOf : PyData → String
  | .none => "NoneType"
  | .bool _ => "bool"
  | .int _ => "int"
  | .str _ => "str"
  | .list _ => "list"
  | .tuple _ => "tuple"
  | .dict _ => "dict"
theorem tyx_of {K : PySem.W.Frag} {H : Hp} {v : V} {x : PyData} (h : Dp K H v x) : TyX K H v (.type (tyOf x)) := by
  cases h with
  | non => exact .base .non
  | bl b => exact .base (.bl b)
  | int i => exact .base (.int i)
  | str z => exact .base (.str z)
  | lst h1 h2 =>
    rcases h1 with (h | ⟨o, h⟩) | ⟨o, its, n, hk, hc, _⟩
    · exact .base (.lst h)
    · exact .base (.frz h)
    · exact .kList hk hc
  | tup h1 h2 =>
    rcases h1 with (h | ⟨o, h⟩) | ⟨o, its, n, hk, hc, _⟩
    · exact .base (.tup h)
    · exact .fTuple h
    · exact .kTuple hk hc
/-- isinstance(e, T), T a built-in type by its name -/
def isB (T : String) (x : PyData) : Bool := (kitB (tyOf x) T).getD false
def eIsi (T : String) (te : DTE) : DTE := fun ρ M P PX => te ρ M (fun x M1 => match x with
  | .d d => kitB (tyOf d) T = some (isB T d) ∧ P (.d (.bool (isB T d))) M1
  | _ => False) PX
theorem de_isi {T : String} {cn : Str} {p0 p2 : Pos} (h : DE X W e te) (hm : X.mg "isinstance" = none) (hc : X.mg cn = none) (hv : bootBuiltins cn = some (.type T)) (hg : Gl X "isinstance" := by rfl) (hgc : Gl X cn := by rfl) (hn : cn ≠ "__name__" := by decide) (hdc : (cn == ("__debug__" : Str)) = false := by decide)
    (he : starEach [e, .Name cn p2] X.env = (false, eval e X.env) :: starEach [.Name cn p2] X.env := by rfl) (he2 : starEach [.Name cn p2] X.env = (false, eval (.Name cn p2) X.env) :: starEach [] X.env := by rfl) (hpl : (backTo pos (starEach [.Name cn p2] X.env)).any (·.1) = false := by rfl) :
    DE X W (.Call (.Name "isinstance" p0) [e, .Name cn p2] [] pos) (eIsi T te) := by
  have PAs : PA X [e, .Name cn p2] (tCons (LE X.K W te) (tCons (tC (.ty T)) tNil)) := pa_cons h.pe (pa_cons (pe_bltn (v := .ty T) hgc hc hv rfl hn hdc) pa_nil he2) he
  refine ⟨PE.imp (pe_callB call_isi hg hm (by decide +kernel) PAs (by decide) (by decide) he hpl) fun σ H Q ⟨ρ, M, N, P, PX, hs, hr, ht, hP, hX⟩ => ?_⟩
  refine ⟨ρ, M, N, _, PX, hs, hr, ht, fun x M1 v H1 p hr1 af1 iv => ?_, hX⟩
  split at p
  · rename_i d
    refine ⟨v, .ty T, .type (tyOf d), .type T, isB T d, rfl, .ty T, tyx_of (dp_mono fz_sub _ _ iv), kit_ty p.1, ?_⟩
    exact hP _ M1 _ H1 p.2 hr1 af1 (show Dp _ _ _ _ from .bl _)
  · exact p.elim

/-! ### math.gcd -/
def gcdG : DN := g2I fun a b => .int ((Nat.gcd a.natAbs b.natAbs : Nat) : Int)
theorem dc_gcd : DCall X (.builtin "math.gcd") gcdG := by
  intro pins s σ H vs us Q I r h
  obtain ⟨xs, M, N, P, hr, ha, hg, fo⟩ := h
  unfold gcdG g2I at hg
  split at hg
  · obtain ⟨v, u, rfl, i1, i2⟩ := are2 ha
    cases (show Dp _ _ _ _ from i1)
    cases (show Dp _ _ _ _ from i2)
    exact cr_gcd pins s σ H _ us Q I r ⟨_, _, rfl, fo.same hr hg (show Dp _ _ _ _ from .int _)⟩
  · exact hg.elim
theorem de_callBf {g : DN} {x : Str} {p : Pos} {es : List Expr} {ta : DTA} {id : String} (hc : DCall X (.builtin id) g) (hm : X.mg x = some (.builtin id)) (ha : DA X W (e :: es) ta) (hg : Gl X x := by rfl) (hdb : (x == ("__debug__" : Str)) = false := by decide)
    (he : starEach (e :: es) X.env = (false, eval e X.env) :: starEach es X.env := by rfl) (hpl : (backTo pos (starEach es X.env)).any (·.1) = false := by rfl) : DE X W (.Call (.Name x p) (e :: es) [] pos) (eCB g ta) :=
  ⟨PE.imp (pe_callBfun hc hg hm ha.pa hdb he hpl) fun _ _ _ h => cb_imp h⟩
end
end DL

/-! Part 7: what the printed derivations name besides. -/
namespace DL
open PySem PySem.Spec PyProof.Rows L2

section
variable {X : Cx} {W : WX} {a b c e : Expr} {es : List Expr} {ta tb tc te : DTE} {pos : Pos}
theorem room5 {A : Around} {k : Nat} (hr : Room k A) : A.units + 65 < cLine := by have := hr.un; omega
/-! ### products -/
def repL {α : Type} (k : Int) (xs : List α) : List α := (List.replicate k.toNat xs).flatten
theorem dop_mul : DOp X (binaryOp .Mult) (gD mulD) := dop_int op_mulA (h' := fun i j => .int (i * j)) (fun dx dy k h => by
  cases dx <;> first | (cases dy <;> first | exact ⟨_, _, rfl, rfl, h.1, h.2⟩ | exact h.elim) | exact h.elim) fun _ _ _ => .int _
theorem dpAll_rep {K : PySem.W.Frag} {F : Hp} {vs : List V} {ds : List PyData} (h : DpAll K F vs ds) : ∀ n : Nat, DpAll K F (List.replicate n vs).flatten (List.replicate n ds).flatten
  | 0 => .nil
  | n + 1 => by
    rw [List.replicate_succ, List.replicate_succ, List.flatten_cons, List.flatten_cons]
    exact dpAll_app h (dpAll_rep h n)
/-- [..] * n of a display that is mutable, n an int: a new mutable list -/
def gMulM : D2 := fun x y M P => match x, y with
  | .r a, .d (.int k) => match M a with
    | some (.ls ys) => (-(2 ^ 63) ≤ k ∧ k < 2 ^ 63 ∧ ys.length * k.toNat ≤ sizeLine) ∧ ∀ p, M p = none → P (.r p) (mu M p (.ls (repL k ys)))
    | _ => False
  | _, _ => False
theorem dop_mulM : DOp X (binaryOp .Mult) gMulM := by
  intro pins s σ H x y v u Q I rx ry h
  obtain ⟨dx, dy, M, N, P, hr, ix, iy, hg, fo⟩ := h
  unfold gMulM at hg
  split at hg
  · rename_i a k
    have ix' : x = .ref a := ix
    subst ix'
    cases (show Dp _ _ _ _ from iy)
    split at hg
    · rename_i ys q
      obtain ⟨o, h1, h2⟩ := hr.obj a _ q
      cases o with
      | lst ws =>
        have hz := dpAll_len (show DpAll _ _ _ _ from h2)
        refine op_rep pins s σ H _ _ v u Q I rx ry ⟨a, k, ws, rfl, rfl, h1, hg.1.1, hg.1.2.1, by rw [hz]; exact hg.1.2.2, fun p hp => ?_⟩
        obtain ⟨r2, a2⟩ := hr.new (x := .ls (repL k ys)) (o := .lst (List.replicate k.toNat ws).flatten) hp (dpAll_rep h2 _)
        exact fo _ _ _ _ (hg.2 p (hr.free hp).1) r2 a2 rfl
      | _ => exact (show False from h2).elim
    · exact hg.elim
  · exact hg.elim

/-! ### in, not in -/
theorem dop_mem (hu : X.A.units + 65 < cLine) {neg : Bool} {op : CmpOp} (hop : op = if neg = true then .NotIn else .In)
    (hd : ∀ (pins : List (Addr × Obj)) (s : Shared) (σ : L2.St) (H : Hp) (x : V) (a : Addr) (v : Value) (Q : VK) (kvs : List (Key × V)) (k : Key), Inv X pins σ H s → RelV x v → x = kV k → H a = some (.dK kvs) →
      Q (.bl (negB neg (kvs.any fun p => decide (p.1 = k)))) H → wpAny (model X.prog X.w) X.A (compareOp op v (.ref a)) (EP X pins σ Q) X.xe s) : DOp X (compareOp op) (inD neg) := by
  intro pins s σ H x y v u Q I rx ry h
  obtain ⟨dx, dy, M, N, P, hr, ix, iy, hg, fo⟩ := h
  unfold inD at hg
  split at hg
  · rename_i a
    have iy' : y = .ref a := iy
    subst iy'
    cases ry
    split at hg
    · rename_i kvs q
      obtain ⟨o, h1, h2⟩ := hr.obj a _ q
      cases o with
      | dK ws =>
        split at hg
        · rename_i k hk
          have hx : x = kV k := by
            cases dx with
            | r _ => cases hk
            | d z =>
              cases z with
              | int i => cases hk; cases (show Dp _ _ _ _ from ix); rfl
              | str i => cases hk; cases (show Dp _ _ _ _ from ix); rfl
              | _ => cases hk
          refine hd pins s σ H x a v Q ws k I rx hx h1 ?_
          have e : (ws.any fun p => decide (p.1 = k)) = hasK kvs k := by
            have : ∀ {ws : List (Key × V)} {kvs : List (Key × DV)}, Paired (fun (p : Key × V) (q : Key × DV) => p.1 = q.1 ∧ IsD X.K (fz M N H) p.2 q.2) ws kvs → (ws.any fun p => decide (p.1 = k)) = kvs.any fun p => decide (p.1 = k) := by
              intro ws kvs h
              induction h with
              | nil => rfl
              | cons h1 h2 ih => rw [List.any_cons, List.any_cons, ih, h1.1]
            exact this h2
          rw [e]
          exact fo.same hr hg (show Dp _ _ _ _ from .bl _)
        · exact hg.elim
      | _ => exact (show False from h2).elim
    · rename_i ys q
      obtain ⟨px, r1, h1⟩ := rd_of hr ix hg
      obtain ⟨o, h2, h3⟩ := hr.obj a _ q
      cases o with
      | lst ws => exact mem_run hu hop I rx (show RelV (V.ref a) (Value.ref a) from rfl) hr r1 (.inr ⟨a, ys, ws, rfl, rfl, h2, h3⟩) h1 fo
      | _ => exact (show False from h3).elim
    · exact hg.elim
  · obtain ⟨px, r1, h1⟩ := rd_of hr ix hg
    exact mem_run hu hop I rx ry hr r1 (.inl iy) h1 fo
end
theorem find_any {κ α : Type} [DecidableEq κ] : ∀ (kvs : List (κ × α)) (k : κ), (kvs.find? fun p => decide (p.1 = k)).isSome = kvs.any fun p => decide (p.1 = k)
  | [], _ => rfl
  | p :: r, k => by
    rw [List.find?_cons, List.any_cons, ← find_any r k]
    cases decide (p.1 = k) <;> rfl
theorem valV_any {kvs : List (Key × V)} {k : Key} : (valV kvs k).isSome = kvs.any fun p => decide (p.1 = k) := by
  unfold valV
  rw [Option.isSome_map]
  exact find_any kvs k
section
variable {X : Cx}
theorem dop_in (hu : X.A.units + 65 < cLine) : DOp X (compareOp .In) (inD false) := dop_mem hu (neg := false) rfl fun pins s σ H x a v Q kvs k I rx hx e q => by
  subst hx
  exact d_in (by omega) I (DGet.k e) rx fun s' I' => ⟨.bl _, H, I', rfl, by rw [valV_any]; exact q⟩
theorem dop_notin (hu : X.A.units + 65 < cLine) : DOp X (compareOp .NotIn) (inD true) := dop_mem hu (neg := true) rfl fun pins s σ H x a v Q kvs k I rx hx e q => by
  subst hx
  exact d_notIn (by omega) I (DGet.k e) rx fun s' I' => ⟨.bl _, H, I', rfl, by rw [valV_any]; exact q⟩
end
section
variable {X : Cx} {W : WX} {a b c e : Expr} {es : List Expr} {ta tb tc te : DTE} {pos : Pos}
/-! ### truth -/
def truD (M : MHp) : DV → (Bool → Prop) → Prop
  | .d .none, k => k false
  | .d (.bool b), k => k b
  | .d (.int i), k => k (i != 0)
  | .d (.str s), k => s.length ≤ sizeLine ∧ k ((s.length : Int) != 0)
  | .d (.list xs), k => k (!xs.isEmpty)
  | .d (.tuple xs), k => k (!xs.isEmpty)
  | .r a, k => match M a with
    | some (.ls ys) => k (!ys.isEmpty)
    | some (.lv ys) => k (!ys.isEmpty)
    | some (.dk kvs) => k (!kvs.isEmpty)
    | _ => False
  | _, _ => False
theorem empty_all {K : PySem.W.Frag} {F : Hp} {vs : List V} {ds : List PyData} (h : DpAll K F vs ds) : (!vs.isEmpty) = !ds.isEmpty := by
  cases ds with
  | nil => cases h; rfl
  | cons d ds => cases h; rfl
theorem empty_pair {α β : Type} {R : α → β → Prop} {vs : List α} {ds : List β} (h : Paired R vs ds) : (!vs.isEmpty) = !ds.isEmpty := by
  cases h <;> rfl
theorem tru_of {K : PySem.W.Frag} {M : MHp} {N : Hid} {H : Hp} {v : V} {x : DV} {k : Bool → Prop} (hr : HRel K M N H) (i : IsD K (fz M N H) v x) (h : truD M x k) : ∃ b, TruV K v H b ∧ k b := by
  cases x with
  | d x =>
    cases x with
    | none => cases (show Dp _ _ _ _ from i); exact ⟨false, rfl, h⟩
    | bool b => cases (show Dp _ _ _ _ from i); exact ⟨b, rfl, h⟩
    | int z => cases (show Dp _ _ _ _ from i); exact ⟨_, rfl, h⟩
    | str z => cases (show Dp _ _ _ _ from i); exact ⟨_, ⟨h.1, rfl⟩, h.2⟩
    | list xs =>
      cases (show Dp _ _ _ _ from i) with
      | lst h1 h2 => exact ⟨_, .inl ⟨_, Same.seq fz_sub h1, rfl⟩, by rw [empty_all h2]; exact h⟩
    | tuple xs =>
      cases (show Dp _ _ _ _ from i) with
      | tup h1 h2 => exact ⟨_, .inr (.inl ⟨_, same_tup fz_sub h1, rfl⟩), by rw [empty_all h2]; exact h⟩
    | dict _ => exact (show False from h).elim
  | r a =>
    have i' : v = .ref a := i
    subst i'
    have h' : (match M a with | some (.ls ys) => k (!ys.isEmpty) | some (.lv ys) => k (!ys.isEmpty) | some (.dk kvs) => k (!kvs.isEmpty) | _ => False) := h
    cases q : M a with
    | none => rw [q] at h'; exact (show False from h').elim
    | some o =>
      rw [q] at h'
      obtain ⟨o2, h1, h2⟩ := hr.obj a _ q
      cases o with
      | ls ys =>
        cases o2 with
        | lst ws => exact ⟨_, .inl ⟨ws, .inl (.inl h1), rfl⟩, by rw [empty_all (show DpAll _ _ _ _ from h2)]; exact h'⟩
        | _ => exact (show False from h2).elim
      | lv ys =>
        cases o2 with
        | lst ws => exact ⟨_, .inl ⟨ws, .inl (.inl h1), rfl⟩, by rw [empty_pair (show AreD _ _ _ _ from h2)]; exact h'⟩
        | _ => exact (show False from h2).elim
      | dk ys =>
        cases o2 with
        | dK ws => exact ⟨_, .inr (.inr ⟨ws, h1, rfl⟩), by rw [empty_pair (show Paired _ _ _ from h2)]; exact h'⟩
        | _ => exact (show False from h2).elim
      | _ => exact (show False from h').elim
def tTru (te : DTE) : DTT := fun ρ M P PX => te ρ M (fun x M1 => truD M1 x fun b => P b M1) PX
theorem dt_tru (h : DE X W e te) (he : ∀ whole, isTrue e X.env whole = (do let v ← whole; standAt e.pos; holding [v] (truthy v))) : DT X W e (tTru te) := ⟨PT.imp (pt_truth h.pe he) fun σ H Q ⟨ρ, M, N, P, PX, hs, hr, ht, hP, hX⟩ =>
  ⟨ρ, M, N, _, PX, hs, hr, ht, fun x M1 v H1 p hr1 af1 iv => let ⟨b, h1, h2⟩ := tru_of hr1 iv p; ⟨b, h1, hP b M1 H1 h2 hr1 af1⟩, hX⟩⟩
/-- not t, as a value -/
def eNotT (t : DTT) : DTE := fun ρ M P PX => t ρ M (fun b M1 => P (.d (.bool !b)) M1) PX

theorem de_notT (h : DE X W a ta) : DE X W (.UnaryOp .Not a pos) (eNotT (tTru ta)) := ⟨PE.imp (L2.pe_notT h.pe) fun σ H Q ⟨ρ, M, N, P, PX, hs, hr, ht, hP, hX⟩ =>
  ⟨ρ, M, N, _, PX, hs, hr, ht, fun x M1 v H1 p hr1 af1 iv => let ⟨b, h1, h2⟩ := tru_of hr1 iv p; ⟨b, h1, hP _ M1 _ H1 h2 hr1 af1 (show Dp _ _ _ _ from .bl _)⟩, hX⟩⟩
abbrev max2G : DN := g2I fun i j => .int (if j > i then j else i)
abbrev min2G : DN := g2I fun i j => .int (if j < i then j else i)

theorem de_globD {x : Str} {o : Addr} {y : PyData} (hg : Gl X x) (hm : X.mg x = some (.ref o)) (hd : ∀ F : Hp, Dp X.K F (.ref o) y) (hdb : (x == ("__debug__" : Str)) = false := by decide) : DE X W (.Name x pos) (eC y) := de_glob (v := .ref o) hg hm rfl hd hdb
/-! ### defs by their names -/
/-- a def as it stands, callable by its name -/
def Cal (P : Program) (w : World) (K : PySem.W.Frag) (mg : Str → Option Value) (base : Heap) (k : Nat) (x : Str) (ps : List Str) (sp : DSp) : Prop :=
  ∃ f fd, DFn P w K mg base k f fd ps sp ∧ PySem.W.keepIn K (.ref f) = true ∧ Binds K fd ps [] ∧ mg x = some (.ref f)
theorem de_calC {k : Nat} {x : Str} {ps : List Str} {sp : DSp} {ta : DTA} {p : Pos} (c : Cal X.prog X.w X.K X.mg X.base k x ps sp) (hr : Room k X.A) (tk : Takes X W) (ha : DA X W (e :: es) ta) (hg : Gl X x := by rfl)
    (hdb : (x == ("__debug__" : Str)) = false := by decide) (he : starEach (e :: es) X.env = (false, eval e X.env) :: starEach es X.env := by rfl) (hpl : (backTo pos (starEach es X.env)).any (·.1) = false := by rfl) :
    DE X W (.Call (.Name x p) (e :: es) [] pos) (eCall sp ta) := by
  obtain ⟨f, fd, F, hk, hb, hm⟩ := c
  exact de_call F hr tk hg hm hk hb ha hdb he hpl
end

/-! ### the law's end -/
theorem sql_fz {K : PySem.W.Frag} {M : MHp} {N : Hid} {H : Hp} {a : Addr} {vs : List V} (hn : N a = false) (hm : M a = none) (h : SqL K H a vs) : SqL K (fz M N H) a vs := by
  have e := fz_at (H := H) hn hm
  rcases h with (h | ⟨o, h⟩) | h
  · exact .inl (.inl (by rw [e, h]; rfl))
  · exact .inl (.inr ⟨o, by rw [e, h]; rfl⟩)
  · exact .inr h
theorem lookup_memA {β : Type} : ∀ {l : List (Addr × β)} {a : Addr} {b : β}, l.lookup a = some b → (a, b) ∈ l
  | [], _, _, h => by cases h
  | (c, d) :: l, a, b, h => by
    rw [List.lookup_cons] at h
    by_cases e : a = c
    · subst e
      rw [beq_self_eq_true] at h
      cases h
      exact List.mem_cons_self ..
    · rw [show (a == c) = false from beq_eq_false_iff_ne.mpr e] at h
      exact List.mem_cons_of_mem _ (lookup_memA h)
/-- the tables of code, as they are known -/
def tabM (T : List (Addr × Str)) : MHp := fun a => (T.lookup a).map .tb
theorem law_startT {K : PySem.W.Frag} {H : Hp} {a : Addr} {ns : List Int} {sp : DSp} {T : List (Addr × Str)} (hT : ∀ p ∈ T, H p.1 = some (.tbl #[])) (hS : SqL K H a (ns.map V.int)) (h : ∀ (P : DK) (PX : DX), (∀ M, P (.d (.bool true)) M) → sp [.d (.list (ns.map .int))] (tabM T) P PX) :
    liftSp K sp [.ref a] H (fun v _ => v = .bl true) fun _ _ _ => False := by
  have atT : ∀ b o, tabM T b = some o → ∃ q, o = .tb q ∧ H b = some (.tbl #[]) := fun b o e => by
    unfold tabM at e
    obtain ⟨q, e1, e2⟩ := Option.map_eq_some_iff.mp e
    exact ⟨q, e2.symm, hT (b, q) (lookup_memA e1)⟩
  have hr0 : HRel K (tabM T) (fun _ => false) H := ⟨fun b o z => by
    obtain ⟨q, rfl, e⟩ := atT b o z
    exact ⟨_, e, (True.intro : True), fun pos cv z => by cases (show (none : Option Value) = some cv from z)⟩, fun b z => (by cases z)⟩
  refine ⟨[.d (.list (ns.map .int))], tabM T, fun _ => false, fun x _ => x = .d (.bool true), fun _ _ => False, .cons ?_ .nil, hr0, h _ _ fun _ => rfl, ?_, fun _ _ _ _ z => z.elim⟩
  · have all : ∀ ns : List Int, DpAll K (fz (tabM T) (fun _ => false) H) (ns.map V.int) (ns.map PyData.int) := fun ns => by
      induction ns with
      | nil => exact .nil
      | cons n r ih => exact .cons (.int n) ih
    refine .lst ?_ (all ns)
    cases q : tabM T a with
    | none => exact sql_fz rfl q hS
    | some o =>
      obtain ⟨_, _, e⟩ := atT a o q
      rcases hS with (h | ⟨o, h⟩) | h
      · rw [e] at h; cases h
      · rw [e] at h; cases h
      · exact .inr h
  · rintro z M' v H' rfl _ _ i
    cases (show Dp _ _ _ _ from i)
    rfl
theorem law_start {K : PySem.W.Frag} {H : Hp} {a : Addr} {ns : List Int} {sp : DSp} (hS : SqL K H a (ns.map V.int)) (h : ∀ (P : DK) (PX : DX), (∀ M, P (.d (.bool true)) M) → sp [.d (.list (ns.map .int))] (fun _ => none) P PX) :
    liftSp K sp [.ref a] H (fun v _ => v = .bl true) fun _ _ _ => False :=
  law_startT (T := []) (fun p hp => by cases hp) hS h
theorem cx_false {P : Program} {w : World} {H : Hp} {s : Shared} {e : Value} {s' : Shared} (h : L2.CX P w [] H s (fun _ _ _ => False) e s') : False := by
  obtain ⟨_, _, _, _, _, _, _, _, _, _, _, _, z⟩ := h
  exact z
/-- a tuple of the written part, by its object -/
theorem dp_k {K : PySem.W.Frag} {F : Hp} {v : V} {x : PyData} (h : Dp K (fun _ => none) v x) : Dp K F v x := dp_mono (fun _ _ z => by cases z) _ _ h
end DL

/-! Part 8: rules by which a reading is walked. -/
namespace DL
open PySem PySem.Spec PyProof.Rows L2

/-- a choice that waits -/
def Br (k : Bool) (a b : Prop) : Prop := if k = true then a else b
section
variable {a b : Prop} {k : Bool}
theorem x_brT (h : a) : Br true a b := h
theorem x_brF (h : b) : Br false a b := h
theorem x_brN (h : Br k b a) : Br (!k) a b := by cases k <;> exact h
theorem x_br (h1 : k = true → a) (h2 : k = false → b) : Br k a b := by cases k; exact h2 rfl; exact h1 rfl
theorem x_brD {p : Prop} [d : Decidable p] (h1 : p → a) (h2 : ¬ p → b) : Br (decide p) a b := x_br (fun e => h1 (of_decide_eq_true e)) fun e => h2 (of_decide_eq_false e)
theorem x_brY {p : Prop} [d : Decidable p] (h : p) (h1 : a) : Br (decide p) a b := x_brD (fun _ => h1) fun n => absurd h n
theorem x_brZ {p : Prop} [d : Decidable p] (h : ¬ p) (h1 : b) : Br (decide p) a b := x_brD (fun n => absurd n h) fun _ => h1
theorem x_brAnd {j : Bool} (h : Br k (Br j a b) b) : Br (k && j) a b := by cases k <;> exact h
theorem x_brOr {j : Bool} (h : Br k a (Br j a b)) : Br (k || j) a b := by cases k <;> exact h
end
/-- isinstance of data -/
def asIs (T : String) (x : PyData) (K : Bool → Prop) : Prop := kitB (tyOf x) T = some (isB T x) ∧ K (isB T x)
theorem asIs_of {T : String} {x : PyData} {K : Bool → Prop} {b : Bool} (h : kitB (tyOf x) T = some b) (q : K b) : asIs T x K := by
  have e : isB T x = b := by unfold isB; rw [h]; rfl
  unfold asIs
  rw [e]
  exact ⟨h, q⟩
theorem x_is_int_int {v : Int} {K : Bool → Prop} (q : K true) : asIs "int" (.int v) K := asIs_of (show kitB "int" "int" = some true by decide +kernel) q
theorem x_is_int_bool {v : Int} {K : Bool → Prop} (q : K false) : asIs "bool" (.int v) K := asIs_of (show kitB "int" "bool" = some false by decide +kernel) q
theorem x_is_int_str {v : Int} {K : Bool → Prop} (q : K false) : asIs "str" (.int v) K := asIs_of (show kitB "int" "str" = some false by decide +kernel) q
theorem x_is_int_list {v : Int} {K : Bool → Prop} (q : K false) : asIs "list" (.int v) K := asIs_of (show kitB "int" "list" = some false by decide +kernel) q
theorem x_is_int_tuple {v : Int} {K : Bool → Prop} (q : K false) : asIs "tuple" (.int v) K := asIs_of (show kitB "int" "tuple" = some false by decide +kernel) q
theorem x_is_bool_int {v : Bool} {K : Bool → Prop} (q : K true) : asIs "int" (.bool v) K := asIs_of (show kitB "bool" "int" = some true by decide +kernel) q
theorem x_is_bool_bool {v : Bool} {K : Bool → Prop} (q : K true) : asIs "bool" (.bool v) K := asIs_of (show kitB "bool" "bool" = some true by decide +kernel) q
theorem x_is_bool_str {v : Bool} {K : Bool → Prop} (q : K false) : asIs "str" (.bool v) K := asIs_of (show kitB "bool" "str" = some false by decide +kernel) q
theorem x_is_bool_list {v : Bool} {K : Bool → Prop} (q : K false) : asIs "list" (.bool v) K := asIs_of (show kitB "bool" "list" = some false by decide +kernel) q
theorem x_is_bool_tuple {v : Bool} {K : Bool → Prop} (q : K false) : asIs "tuple" (.bool v) K := asIs_of (show kitB "bool" "tuple" = some false by decide +kernel) q
theorem x_is_str_int {v : Str} {K : Bool → Prop} (q : K false) : asIs "int" (.str v) K := asIs_of (show kitB "str" "int" = some false by decide +kernel) q
theorem x_is_str_bool {v : Str} {K : Bool → Prop} (q : K false) : asIs "bool" (.str v) K := asIs_of (show kitB "str" "bool" = some false by decide +kernel) q
theorem x_is_str_str {v : Str} {K : Bool → Prop} (q : K true) : asIs "str" (.str v) K := asIs_of (show kitB "str" "str" = some true by decide +kernel) q
theorem x_is_str_list {v : Str} {K : Bool → Prop} (q : K false) : asIs "list" (.str v) K := asIs_of (show kitB "str" "list" = some false by decide +kernel) q
theorem x_is_str_tuple {v : Str} {K : Bool → Prop} (q : K false) : asIs "tuple" (.str v) K := asIs_of (show kitB "str" "tuple" = some false by decide +kernel) q
theorem x_is_list_int {v : List PyData} {K : Bool → Prop} (q : K false) : asIs "int" (.list v) K := asIs_of (show kitB "list" "int" = some false by decide +kernel) q
theorem x_is_list_bool {v : List PyData} {K : Bool → Prop} (q : K false) : asIs "bool" (.list v) K := asIs_of (show kitB "list" "bool" = some false by decide +kernel) q
theorem x_is_list_str {v : List PyData} {K : Bool → Prop} (q : K false) : asIs "str" (.list v) K := asIs_of (show kitB "list" "str" = some false by decide +kernel) q
theorem x_is_list_list {v : List PyData} {K : Bool → Prop} (q : K true) : asIs "list" (.list v) K := asIs_of (show kitB "list" "list" = some true by decide +kernel) q
theorem x_is_list_tuple {v : List PyData} {K : Bool → Prop} (q : K false) : asIs "tuple" (.list v) K := asIs_of (show kitB "list" "tuple" = some false by decide +kernel) q
theorem x_is_tuple_int {v : List PyData} {K : Bool → Prop} (q : K false) : asIs "int" (.tuple v) K := asIs_of (show kitB "tuple" "int" = some false by decide +kernel) q
theorem x_is_tuple_bool {v : List PyData} {K : Bool → Prop} (q : K false) : asIs "bool" (.tuple v) K := asIs_of (show kitB "tuple" "bool" = some false by decide +kernel) q
theorem x_is_tuple_str {v : List PyData} {K : Bool → Prop} (q : K false) : asIs "str" (.tuple v) K := asIs_of (show kitB "tuple" "str" = some false by decide +kernel) q
theorem x_is_tuple_list {v : List PyData} {K : Bool → Prop} (q : K false) : asIs "list" (.tuple v) K := asIs_of (show kitB "tuple" "list" = some false by decide +kernel) q
theorem x_is_tuple_tuple {v : List PyData} {K : Bool → Prop} (q : K true) : asIs "tuple" (.tuple v) K := asIs_of (show kitB "tuple" "tuple" = some true by decide +kernel) q
theorem x_is_NoneType_int  {K : Bool → Prop} (q : K false) : asIs "int" .none K := asIs_of (show kitB "NoneType" "int" = some false by decide +kernel) q
theorem x_is_NoneType_bool  {K : Bool → Prop} (q : K false) : asIs "bool" .none K := asIs_of (show kitB "NoneType" "bool" = some false by decide +kernel) q
theorem x_is_NoneType_str  {K : Bool → Prop} (q : K false) : asIs "str" .none K := asIs_of (show kitB "NoneType" "str" = some false by decide +kernel) q
theorem x_is_NoneType_list  {K : Bool → Prop} (q : K false) : asIs "list" .none K := asIs_of (show kitB "NoneType" "list" = some false by decide +kernel) q
theorem x_is_NoneType_tuple  {K : Bool → Prop} (q : K false) : asIs "tuple" .none K := asIs_of (show kitB "NoneType" "tuple" = some false by decide +kernel) q
/-- readings by shape -/
def asB (x : DV) (K : Bool → Prop) : Prop := match x with | .d (.bool k) => K k | _ => False
def asI (x : DV) (K : Int → Prop) : Prop := match x with | .d (.int k) => K k | _ => False
def asD (x : DV) (K : PyData → Prop) : Prop := match x with | .d k => K k | _ => False
def as2 (xs : List DV) (K : DV → DV → Prop) : Prop := match xs with | [x, y] => K x y | _ => False
def asI1 (xs : List DV) (K : Int → Prop) : Prop := match xs with | [.d (.int j)] => K j | _ => False
def asI2 (xs : List DV) (K : Int → Int → Prop) : Prop := match xs with | [.d (.int i), .d (.int j)] => K i j | _ => False
def asSq (x : DV) (M1 : MHp) (K : List DV → (MHp → Prop) → MHp → Prop) : Prop := match x with
  | .r a => match M1 a with
    | some (.ls ys) => K (ys.map .d) (fun M' => M' a = some (.ls ys)) M1
    | some (.lv ys) => K ys (fun M' => M' a = some (.lv ys)) M1
    | _ => False
  | .d d => walkD d fun xs => K xs (fun _ => True) M1
theorem x_asB {b : Bool} {K : Bool → Prop} (h : K b) : asB (.d (.bool b)) K := h
theorem x_asI {b : Int} {K : Int → Prop} (h : K b) : asI (.d (.int b)) K := h
theorem x_asD {b : PyData} {K : PyData → Prop} (h : K b) : asD (.d b) K := h
theorem x_as2 {x y : DV} {K : DV → DV → Prop} (h : K x y) : as2 [x, y] K := h
theorem x_asI1 {i : Int} {K : Int → Prop} (h : K i) : asI1 [.d (.int i)] K := h
theorem x_asI2 {i j : Int} {K : Int → Int → Prop} (h : K i j) : asI2 [.d (.int i), .d (.int j)] K := h
theorem x_asSqD {d : PyData} {M1 : MHp} {K : List DV → (MHp → Prop) → MHp → Prop} (h : walkD d fun xs => K xs (fun _ => True) M1) : asSq (.d d) M1 K := h
theorem x_asSqM {a : Addr} {ys : List PyData} {M1 : MHp} {K : List DV → (MHp → Prop) → MHp → Prop} (e : M1 a = some (.ls ys)) (h : K (ys.map .d) (fun M' => M' a = some (.ls ys)) M1) : asSq (.r a) M1 K := by unfold asSq; simp only [e]; exact h
theorem x_asSqV {a : Addr} {ys : List DV} {M1 : MHp} {K : List DV → (MHp → Prop) → MHp → Prop} (e : M1 a = some (.lv ys)) (h : K ys (fun M' => M' a = some (.lv ys)) M1) : asSq (.r a) M1 K := by unfold asSq; simp only [e]; exact h
section
variable {i j : Nat} {n m : Int} {x y : DV} {ρ : DEnv} {M : MHp} {P : DK} {PX : DX} {ta tb tc te : DTE} {tA tB0 : DTT} {t u : DTS} {E : DEnds} {d e : PyData} {k : PyData → Prop} {a : Addr} {ys zs : List PyData} {PT' : Bool → MHp → Prop} {PA' : List DV → MHp → Prop}
theorem x_var (h : ρ[i]? = some (some x)) (q : P x M) : eVar i ρ M P PX := by unfold eVar; rw [h]; exact q
theorem x_c (q : P (.d d) M) : eC d ρ M P PX := q
theorem x_op {g : D2} (q : ta ρ M (fun x M1 => tb ρ M1 (fun y M2 => g x y M2 P) PX) PX) : eOp g ta tb ρ M P PX := q
theorem x_un {g : D1} (q : ta ρ M (fun x M1 => g x M1 P) PX) : eUn g ta ρ M P PX := q
theorem x_gD {f : PyData → PyData → (PyData → Prop) → Prop} (q : rd M x fun dx => rd M y fun dy => f dx dy fun z => P (.d z) M) : gD f x y M P := q
theorem x_rd (q : k d) : rd M (.d d) k := q
theorem x_rdM (h : M a = some (.ls ys)) (q : k (.list ys)) : rd M (.r a) k := by unfold rd; simp only [h]; exact q
theorem x_addI (q : k (.int (n + m))) : addD (.int n) (.int m) k := q
theorem x_addL (h : ys.length + zs.length ≤ sizeLine) (q : k (.list (ys ++ zs))) : addD (.list ys) (.list zs) k := ⟨h, q⟩
theorem x_addT (h : ys.length + zs.length ≤ sizeLine) (q : k (.tuple (ys ++ zs))) : addD (.tuple ys) (.tuple zs) k := ⟨h, q⟩
theorem x_addS {y z : Str} (h : y.length + z.length ≤ sizeLine) (q : k (.str (y ++ z))) : addD (.str y) (.str z) k := ⟨h, q⟩
theorem x_sub (q : k (.int (n - m))) : subD (.int n) (.int m) k := q
theorem x_mul (h : MulOk n m) (q : k (.int (n * m))) : mulD (.int n) (.int m) k := ⟨h, q⟩
theorem x_fdiv (h : DivOk m) (q : k (.int (n / m))) : fdivD (.int n) (.int m) k := ⟨h, q⟩
theorem x_mod (h : 0 < m) (q : k (.int (n % m))) : modD (.int n) (.int m) k := ⟨h, q⟩
theorem x_pow (h : CPow n m) (q : k (.int (n ^ m.toNat))) : powD (.int n) (.int m) k := ⟨h, q⟩
theorem x_neg (q : P (.d (.int (-n))) M) : negD (.d (.int n)) M P := q
theorem x_eqI (q : k (.bool (decide (n = m)))) : eqD (.int n) (.int m) k := ⟨rfl, rfl, by
  have e : PyData.eqv (.int n) (.int m) = decide (n = m) := by
    show (n == m) = decide (n = m)
    rfl
  rw [e]; exact q⟩
theorem x_neI (q : k (.bool (decide (n ≠ m)))) : neD (.int n) (.int m) k := ⟨rfl, rfl, by
  have e : (!PyData.eqv (.int n) (.int m)) = decide (n ≠ m) := by
    show (!(n == m)) = decide (n ≠ m)
    rw [decide_not]
    rfl
  rw [e]; exact q⟩
theorem x_eq (h1 : SeqAt.shaped d = true) (h2 : SeqAt.shaped e = true) (q : k (.bool (PyData.eqv d e))) : eqD d e k := ⟨h1, h2, q⟩
theorem x_ne (h1 : SeqAt.shaped d = true) (h2 : SeqAt.shaped e = true) (q : k (.bool (!PyData.eqv d e))) : neD d e k := ⟨h1, h2, q⟩
theorem cmpOk_int : CmpOk (.int n) (.int m) := ⟨rfl, nofun, Nat.zero_le _⟩
theorem x_ltI (q : k (.bool (decide (n < m)))) : ltD (.int n) (.int m) k := ⟨cmpOk_int, by rw [PySem.W.dataLt_int]; exact q⟩
theorem x_leI (q : k (.bool (decide (n ≤ m)))) : leD (.int n) (.int m) k := ⟨cmpOk_int, by rw [PySem.W.dataLt_int, PySem.W.not_lt_int]; exact q⟩
theorem x_gtI (q : k (.bool (decide (m < n)))) : gtD (.int n) (.int m) k := ⟨cmpOk_int, by rw [PySem.W.dataLt_int]; exact q⟩
theorem x_geI (q : k (.bool (decide (m ≤ n)))) : geD (.int n) (.int m) k := ⟨cmpOk_int, by rw [PySem.W.dataLt_int, PySem.W.not_lt_int]; exact q⟩
theorem x_ixL (h : atI ys n = some d) (q : k d) : ixD (.list ys) (.int n) k := ⟨d, h, q⟩
theorem x_ixT (h : atI ys n = some d) (q : k d) : ixD (.tuple ys) (.int n) k := ⟨d, h, q⟩
theorem x_isNN {neg : Bool} (q : P (.d (.bool !neg)) M) : isN neg (.d .none) (.d .none) M P := q
theorem x_isN {neg : Bool} (h : x ≠ .d .none) (q : P (.d (.bool neg)) M) : isN neg x (.d .none) M P := by
  cases x with
  | r a => exact q
  | d x => cases x <;> first | exact q | exact absurd rfl h
theorem x_tB (q : te ρ M (fun x M1 => asB x fun k => PT' k M1) PX) : DL.tB te ρ M PT' PX := q
theorem x_tTru (q : te ρ M (fun x M1 => truD M1 x fun b => PT' b M1) PX) : tTru te ρ M PT' PX := q
theorem x_truI {K : Bool → Prop} (q : K (decide (n ≠ 0))) : truD M (.d (.int n)) K := by
  have e : (n != 0) = decide (n ≠ 0) := by rw [decide_not]; rfl
  show K (n != 0)
  rw [e]; exact q
theorem x_truB {K : Bool → Prop} {b : Bool} (q : K b) : truD M (.d (.bool b)) K := q
theorem x_truN {K : Bool → Prop} (q : K false) : truD M (.d .none) K := q
theorem x_truL {K : Bool → Prop} (q : K (!ys.isEmpty)) : truD M (.d (.list ys)) K := q
theorem x_truT {K : Bool → Prop} (q : K (!ys.isEmpty)) : truD M (.d (.tuple ys)) K := q
theorem x_tAnd (q : tA ρ M (fun c M1 => Br c (tB0 ρ M1 PT' PX) (PT' false M1)) PX) : tAnd tA tB0 ρ M PT' PX := q
theorem x_tOr (q : tA ρ M (fun c M1 => Br c (PT' true M1) (tB0 ρ M1 PT' PX)) PX) : tOr tA tB0 ρ M PT' PX := q
theorem x_tNot (q : tA ρ M (fun c M1 => PT' (!c) M1) PX) : tNot tA ρ M PT' PX := q
theorem x_eAnd (q : ta ρ M (fun x M1 => asB x fun k => Br k (tb ρ M1 P PX) (P (.d (.bool false)) M1)) PX) : eAnd ta tb ρ M P PX := q
theorem x_eOr (q : ta ρ M (fun x M1 => asB x fun k => Br k (P (.d (.bool true)) M1) (tb ρ M1 P PX)) PX) : eOr ta tb ρ M P PX := q
theorem x_eNotT (q : tA ρ M (fun b M1 => P (.d (.bool !b)) M1) PX) : eNotT tA ρ M P PX := q
theorem x_eIf (q : tA ρ M (fun c M1 => Br c (ta ρ M1 P PX) (tb ρ M1 P PX)) PX) : eIf tA ta tb ρ M P PX := q
theorem x_chain {g g' : D2} (q : ta ρ M (fun x M1 => tb ρ M1 (fun y M2 => g x y M2 fun z M3 => asB z fun k => Br k (tc ρ M3 (fun w M4 => g' y w M4 P) PX) (P (.d (.bool false)) M3)) PX) PX) : eChain g g' ta tb tc ρ M P PX := q
theorem x_aNil (q : PA' [] M) : aNil ρ M PA' PX := q
theorem x_aCons {tr : DTA} (q : te ρ M (fun x M1 => tr ρ M1 (fun xs M2 => PA' (x :: xs) M2) PX) PX) : aCons te tr ρ M PA' PX := q
theorem x_tup {ta : DTA} (q : ta ρ M (fun xs M1 => allD xs fun ds => ds.length ≤ sizeLine ∧ P (.d (.tuple ds)) M1) PX) : eTup ta ρ M P PX := q
theorem x_lst {ta : DTA} (q : ta ρ M (fun xs M1 => allD xs fun ds => ds.length ≤ sizeLine ∧ P (.d (.list ds)) M1) PX) : eLst ta ρ M P PX := q
theorem x_lstM {ta : DTA} (q : ta ρ M (fun xs M1 => allD xs fun ds => ds.length ≤ sizeLine ∧ ∀ p, M1 p = none → P (.r p) (mu M1 p (.ls ds))) PX) : eLstM ta ρ M P PX := q
theorem x_lstV {ta : DTA} (q : ta ρ M (fun xs M1 => xs.length ≤ sizeLine ∧ ∀ p, M1 p = none → P (.r p) (mu M1 p (.lv xs))) PX) : eLstV ta ρ M P PX := q
theorem x_allN {K : List PyData → Prop} (q : K []) : allD [] K := q
theorem x_allC {K : List PyData → Prop} {r : List DV} (q : allD r fun xs => K (d :: xs)) : allD (.d d :: r) K := q
theorem x_call {sp : DSp} {ta : DTA} (q : ta ρ M (fun xs M1 => sp xs M1 P PX) PX) : eCall sp ta ρ M P PX := q
theorem x_cb {g : DN} {ta : DTA} (q : ta ρ M (fun xs M1 => g xs M1 P) PX) : eCB g ta ρ M P PX := q
theorem x_g1 {f : PyData → (PyData → Prop) → Prop} (q : rd M x fun d => f d fun z => P (.d z) M) : g1 f [x] M P := q
theorem x_lenL (q : k (.int ys.length)) : lenD (.list ys) k := q
theorem x_lenT (q : k (.int ys.length)) : lenD (.tuple ys) k := q
theorem x_gLenD (q : lenD d fun z => P (.d z) M) : gLen [.d d] M P := q
theorem x_gLenM (h : M a = some (.ls ys)) (q : P (.d (.int ys.length)) M) : gLen [.r a] M P := by unfold gLen; simp only [h]; exact q
theorem x_gLenV {ys : List DV} (h : M a = some (.lv ys)) (q : P (.d (.int ys.length)) M) : gLen [.r a] M P := by unfold gLen; simp only [h]; exact q
theorem x_int (q : k (.int n)) : intD (.int n) k := q
theorem x_intB {b : Bool} (q : k (.int (if b then 1 else 0))) : intD (.bool b) k := q
theorem x_abs (q : k (.int (if n < 0 then -n else n))) : absD (.int n) k := q
theorem x_tupL (q : k (.tuple ys)) : tupleD (.list ys) k := q
theorem x_tupT (q : k (.tuple ys)) : tupleD (.tuple ys) k := q
theorem x_listD (q : seqOf d fun xs => k (.list xs)) : listD d k := q
theorem x_seqL {K : List PyData → Prop} (q : K ys) : seqOf (.list ys) K := q
theorem x_seqT {K : List PyData → Prop} (q : K ys) : seqOf (.tuple ys) K := q
theorem x_all {bs : List Bool} (h : ys = bs.map .bool) (q : k (.bool (bs.all id))) : allDb (.list ys) k := ⟨bs, h, q⟩
theorem x_any {bs : List Bool} (h : ys = bs.map .bool) (q : k (.bool (bs.any id))) : anyDb (.list ys) k := ⟨bs, h, q⟩
theorem x_sum {ns : List Int} (h : ys = ns.map .int) (q : k (.int ns.sum)) : sumD (.list ys) k := ⟨ns, h, q⟩
theorem x_g2 {f : Int → Int → PyData} (q : P (.d (f n m)) M) : g2I f [.d (.int n), .d (.int m)] M P := q
theorem x_gcd (q : P (.d (.int ((Nat.gcd n.natAbs m.natAbs : Nat) : Int))) M) : gcdG [.d (.int n), .d (.int m)] M P := q
theorem x_isi {T : String} (q : te ρ M (fun x M1 => asD x fun d => asIs T d fun b => P (.d (.bool b)) M1) PX) : eIsi T te ρ M P PX := q
theorem x_bm {Ty : DV → MHp → Prop} {g : DM} {ta : DTA} (q : te ρ M (fun x M1 => Ty x M1 ∧ ta ρ M1 (fun xs M2 => g x xs M2 P) PX) PX) : eBm Ty g te ta ρ M P PX := q
theorem x_append (h : M a = some (.ls ys)) (hl : ys.length < sizeLine) (q : P (.d .none) (mu M a (.ls (ys ++ [d])))) : gAppend (.r a) [.d d] M P := by unfold gAppend; simp only [h]; exact ⟨hl, q⟩
theorem x_appendV {ys : List DV} (h : M a = some (.lv ys)) (hl : ys.length < sizeLine) (q : P (.d .none) (mu M a (.lv (ys ++ [y])))) : gAppend (.r a) [y] M P := by unfold gAppend; simp only [h]; exact ⟨hl, q⟩
theorem x_isLst {xs : List PyData} (h : M a = some (.ls xs)) : isLst (.r a) M := by unfold isLst; simp only [h]
theorem x_isLstV {xs : List DV} (h : M a = some (.lv xs)) : isLst (.r a) M := by unfold isLst; simp only [h]
theorem x_sl {tl th : DTO} (q : te ρ M (fun x M1 => tl ρ M1 (fun l M2 => th ρ M2 (fun h M3 => rd M3 x fun d => slD d l h fun z => P (.d z) M3) PX) PX) PX) : eSl te tl th ρ M P PX := q
theorem x_oN {PO' : Option Int → MHp → Prop} (q : PO' none M) : oNone ρ M PO' PX := q
theorem x_oS {PO' : Option Int → MHp → Prop} (q : te ρ M (fun x M1 => asI x fun i => PO' (some i) M1) PX) : oSome te ρ M PO' PX := q
theorem x_slL {lo hi : Option Int} (q : k (.list (cutG ys lo hi))) : slD (.list ys) lo hi k := q
theorem x_slT {lo hi : Option Int} (q : k (.tuple (cutG ys lo hi))) : slD (.tuple ys) lo hi k := q
theorem x_mulM (h : M a = some (.ls ys)) (hl : -(2 ^ 63) ≤ n ∧ n < 2 ^ 63 ∧ ys.length * n.toNat ≤ sizeLine) (q : ∀ p, M p = none → P (.r p) (mu M p (.ls (repL n ys)))) : gMulM (.r a) (.d (.int n)) M P := by unfold gMulM; simp only [h]; exact ⟨hl, q⟩
/-! ### statements -/
theorem x_next (q : E.nx ρ M) : sNext E ρ M := q
theorem x_seq (q : t { E with nx := u E } ρ M) : sSeq t u E ρ M := q
theorem x_break (q : E.bk ρ M) : sBreak E ρ M := q
theorem x_cont (q : E.ct ρ M) : sCont E ρ M := q
theorem x_expr (q : te ρ M (fun _ M1 => E.nx ρ M1) (fun x M1 => E.ex x ρ M1)) : sExpr te E ρ M := q
theorem x_ret (q : te ρ M E.rt (fun x M1 => E.ex x ρ M1)) : sRet te E ρ M := q
theorem x_retN (q : E.rt (.d .none) M) : sRetN E ρ M := q
theorem x_if (q : tA ρ M (fun k M1 => Br k (t E ρ M1) (u E ρ M1)) (fun x M1 => E.ex x ρ M1)) : sIf tA t u E ρ M := q
theorem x_set (q : te ρ M (fun x M1 => E.nx (ρ.set i (some x)) M1) (fun x M1 => E.ex x ρ M1)) : sSet i te E ρ M := q
theorem x_par {ta : DTA} (q : ta ρ M (fun xs M1 => as2 xs fun x y => E.nx ((ρ.set i (some x)).set j (some y)) M1) (fun x M1 => E.ex x ρ M1)) : sPar i j ta E ρ M := q
theorem x_asg {g : DTG} (q : te ρ M (fun x M1 => g x ρ M1 E.nx (fun x M1 => E.ex x ρ M1)) (fun x M1 => E.ex x ρ M1)) : sAsg te g E ρ M := q
theorem x_for {wi : DTI} {g : DTG} (q : wi ρ M (fun xs C M1 => forI xs C g t E ρ M1) (fun x M1 => E.ex x ρ M1)) : sFor wi g t E ρ M := q
theorem x_raise {cls : Value} (q : E.ex { cls := cls } ρ M) : sRaise cls E ρ M := q
theorem x_gName {PG' : DEnv → MHp → Prop} (q : PG' (ρ.set i (some x)) M) : gN i x ρ M PG' PX := q
theorem x_gTp {PG' : DEnv → MHp → Prop} {n : Nat} {u : DTGs} (h : ys.length = n) (q : u (ys.map .d) ρ M PG' PX) : gTp n u (.d (.tuple ys)) ρ M PG' PX := ⟨h, q⟩
theorem x_gsN {PG' : DEnv → MHp → Prop} (q : PG' ρ M) : gsNil [] ρ M PG' PX := q
theorem x_gsC {PG' : DEnv → MHp → Prop} {t : DTG} {u : DTGs} {r : List DV} (q : t x ρ M (fun ρ1 M1 => u r ρ1 M1 PG' PX) PX) : gsCons t u (x :: r) ρ M PG' PX := q
/-- o[i] = e -/
def setLK (y k x : DV) (M2 : MHp) (PG' : MHp → Prop) : Prop := match y, k, x with
  | .r a, .d (.int n), .d d => match M2 a with
    | some (.ls ys) => ∃ j, ixN ys.length n = some j ∧ PG' (mu M2 a (.ls (ys.set j d)))
    | _ => False
  | _, _, _ => False
theorem x_gSetL {PG' : DEnv → MHp → Prop} (q : ta ρ M (fun y M1 => tb ρ M1 (fun k M2 => setLK y k x M2 (fun M3 => PG' ρ M3)) PX) PX) : gSetL ta tb x ρ M PG' PX := q
theorem x_setLK {PG' : MHp → Prop} (h : M a = some (.ls ys)) (hj : ixN ys.length n = some j) (q : PG' (mu M a (.ls (ys.set j d)))) : setLK (.r a) (.d (.int n)) (.d d) M PG' := by unfold setLK; simp only [h]; exact ⟨j, hj, q⟩
theorem x_tryAs {ml : List (Value × Bool)} {ts : DSu} (q : t { E with ex := fun x ρ1 M1 => ∃ b, (x.cls, b) ∈ ml ∧ (if b = true then ∀ a, M1 a = none →
    ts a x { nx := fun ρ2 M2 => E.nx (ρ2.set i none) M2, rt := E.rt, bk := fun ρ2 M2 => E.bk (ρ2.set i none) M2, ct := fun ρ2 M2 => E.ct (ρ2.set i none) M2 } (ρ1.set i (some (.r a))) M1 else E.ex x ρ1 M1) } ρ M) : sTryAs ml i t ts E ρ M := q
theorem x_try {ml : List (Value × Bool)} {ts : DSu} (q : t { E with ex := fun x ρ1 M1 => ∃ b, (x.cls, b) ∈ ml ∧ (if b = true then ∀ a, M1 a = none →
    ts a x { nx := E.nx, rt := E.rt, bk := E.bk, ct := E.ct } ρ1 M1 else E.ex x ρ1 M1) } ρ M) : sTry ml t ts E ρ M := q
theorem x_ex1 {ml : List (Value × Bool)} {c : Value} {A B : Prop} (h : (c, true) ∈ ml) (q : A) : ∃ b, (c, b) ∈ ml ∧ (if b = true then A else B) := ⟨true, h, by rw [if_pos rfl]; exact q⟩
theorem x_ex0 {ml : List (Value × Bool)} {c : Value} {A B : Prop} (h : (c, false) ∈ ml) (q : B) : ∃ b, (c, b) ∈ ml ∧ (if b = true then A else B) := ⟨false, h, by rw [if_neg Bool.false_ne_true]; exact q⟩
theorem x_xRet {ts : DSE} {a : Addr} {x : XD} (q : ts a x ρ M E.rt (fun _ _ => False)) : xRet ts a x E ρ M := q
/-! ### what is walked -/
theorem x_iSeqM {PI' : List DV → (MHp → Prop) → MHp → Prop} (q : te ρ M (fun x M1 => asSq x M1 PI') PX) : iSeq te ρ M PI' PX := q
theorem x_walkL {K : List DV → Prop} (q : K (ys.map .d)) : walkD (.list ys) K := q
theorem x_walkT {K : List DV → Prop} (q : K (ys.map .d)) : walkD (.tuple ys) K := q
theorem x_r1 {PI' : List DV → (MHp → Prop) → MHp → Prop} {ta : DTA} (q : ta ρ M (fun xs M1 => asI1 xs fun j => -(2 ^ 62) ≤ j ∧ j < 2 ^ 62 ∧ PI' (rangeD 0 j.toNat) (fun _ => True) M1) PX) : iRange1 ta ρ M PI' PX := q
theorem x_r2 {PI' : List DV → (MHp → Prop) → MHp → Prop} {ta : DTA} (q : ta ρ M (fun xs M1 => asI2 xs fun i j => (-(2 ^ 62) ≤ i ∧ i < 2 ^ 62 ∧ -(2 ^ 62) ≤ j ∧ j < 2 ^ 62) ∧ PI' (rangeD i (j - i).toNat) (fun _ => True) M1) PX) : iRange2 ta ρ M PI' PX := q
end
def AllM {α : Type} (p : α → Prop) : List α → Prop
  | [] => True
  | x :: r => p x ∧ AllM p r
theorem allM_of {α : Type} {p : α → Prop} : ∀ {l : List α}, AllM p l → ∀ x ∈ l, p x
  | _ :: _, h, x, hx => by
    rcases List.mem_cons.mp hx with e | e
    · exact e ▸ h.1
    · exact allM_of h.2 x e
/-! ### the draws of a law -/
def DSt (st : List PyData) : Prop := ∃ (ns : List Int) (pos rest seed : Int), st = [.list (ns.map .int), .int pos, .int rest, .int seed] ∧ 0 ≤ pos ∧ 0 ≤ rest ∧ 0 ≤ seed ∧ seed < 2147483647
/-- a is where draws are taken -/
def Drw (M : MHp) (a : Addr) : Prop := ∃ st, M a = some (.ls st) ∧ DSt st
def sp_law_begin : DSp := fun xs M P _ => ∃ ns : List Int, xs = [.d (.list (ns.map .int))] ∧ ∀ p st, M p = none → DSt st → P (.r p) (mu M p (.ls st))
def sp_law_take : DSp := fun xs M P _ => ∃ a m st, xs = [.r a, .d (.int m)] ∧ M a = some (.ls st) ∧ DSt st ∧ DivOk m ∧ ∀ n st', DSt st' → 0 ≤ n → n < m → P (.d (.int n)) (mu M a (.ls st'))
theorem mu_at {M : MHp} {a b : Addr} {o : MO} {x : Option MO} (h : b ≠ a) (q : M b = x) : mu M a o b = x := by rw [mu_ne h]; exact q
theorem ne_of_mn {M : MHp} {a b : Addr} {o : MO} (h : M a = some o) (q : M b = none) : a ≠ b := by rintro rfl; rw [h] at q; cases q
theorem atI_map {α β : Type} (f : α → β) (xs : List α) (i : Int) : atI (xs.map f) i = (atI xs i).map f := by
  unfold atI
  rw [List.length_map]
  cases ixN xs.length i with
  | none => rfl
  | some j => simp
theorem ixN_nn {n : Nat} {i : Int} (h0 : 0 ≤ i) (h1 : i < n) : ixN n i = some i.toNat := by
  unfold ixN
  rw [if_pos h0, if_pos h1]
theorem atI_nn {α : Type} {xs : List α} {i : Int} {y : α} (h0 : 0 ≤ i) (h : xs[i.toNat]? = some y) : atI xs i = some y := by
  obtain ⟨h1, _⟩ := List.getElem?_eq_some_iff.mp h
  unfold atI
  rw [ixN_nn h0 (by omega)]
  exact h
theorem getL {xs : List PyData} {i : Nat} {x : DV} (h : (xs.map DV.d)[i]? = some x) : ∃ d, xs[i]? = some d ∧ x = .d d := by
  rw [List.getElem?_map] at h
  obtain ⟨d, h1, h2⟩ := Option.map_eq_some_iff.mp h
  exact ⟨d, h1, h2.symm⟩
theorem getI {xs : List Int} {i : Nat} {x : DV} (h : ((xs.map PyData.int).map DV.d)[i]? = some x) : ∃ n, xs[i]? = some n ∧ x = .d (.int n) := by
  obtain ⟨d, h1, rfl⟩ := getL h
  rw [List.getElem?_map] at h1
  obtain ⟨n, h1, h2⟩ := Option.map_eq_some_iff.mp h1
  exact ⟨n, h1, by rw [← h2]⟩
theorem getR {lo : Int} {n i : Nat} {x : DV} (h : (rangeD lo n)[i]? = some x) : i < n ∧ x = .d (.int (lo + (i : Nat))) := by
  have hl : i < n := by
    obtain ⟨h1, _⟩ := List.getElem?_eq_some_iff.mp h
    rw [rangeD_len] at h1
    exact h1
  refine ⟨hl, ?_⟩
  unfold rangeD at h
  rw [List.getElem?_map, List.getElem?_range hl] at h
  cases h
  rfl
theorem atI_int {ns : List Int} {i : Int} (h0 : 0 ≤ i) (h : i < ns.length) : ∃ x, atI (ns.map PyData.int) i = some (.int x) := by
  have hl : i.toNat < ns.length := by omega
  exact ⟨_, atI_nn h0 (by rw [List.getElem?_map, List.getElem?_eq_getElem hl]; rfl)⟩
theorem take_succ_of {α : Type} {l : List α} {i : Nat} {x : α} (h : l[i]? = some x) : l.take (i + 1) = l.take i ++ [x] := by
  rw [List.take_add_one, h]
  rfl
theorem eqv_self {x : PyData} (h : SeqAt.shaped x = true) : PyData.eqv x x = true := SeqAt.eqv_refl x (SeqAt.canLay_of_shaped h)
theorem x_eqS {d : PyData} {k : PyData → Prop} (h1 : SeqAt.shaped d = true) (q : k (.bool true)) : eqD d d k := ⟨h1, h1, by rw [eqv_self h1]; exact q⟩
/-! ### constants of a module -/
def flatV : Value → Option PyData
  | .int i _ => some (.int i)
  | .str x _ => some (.str x)
  | .bool b => some (.bool b)
  | .none => some .none
  | _ => none
theorem dp_flat1 {K : PySem.W.Frag} {F : Hp} {v : Value} {d : PyData} (h : flatV v = some d) : ∃ u, RelV u v ∧ Dp K F u d := by
  cases v with
  | int i t => cases h; exact ⟨.int i, ⟨t, rfl⟩, .int i⟩
  | str x t => cases h; exact ⟨.str x, ⟨t, rfl⟩, .str x⟩
  | bool b => cases h; exact ⟨.bl b, rfl, .bl b⟩
  | none => cases h; exact ⟨.non, rfl, .non⟩
  | _ => cases h
theorem dp_flat {K : PySem.W.Frag} {F : Hp} : ∀ {vs : List Value} {ds : List PyData}, vs.map flatV = ds.map some → ∃ us, Vals us vs ∧ DpAll K F us ds
  | [], [], _ => ⟨[], .nil, .nil⟩
  | [], _ :: _, h => by cases h
  | _ :: _, [], h => by cases h
  | v :: vs, d :: ds, h => by
    rw [List.map_cons, List.map_cons] at h
    obtain ⟨h1, h2⟩ := List.cons.inj h
    obtain ⟨u, r, q⟩ := dp_flat1 (K := K) (F := F) h1
    obtain ⟨us, rs, qs⟩ := dp_flat (K := K) (F := F) h2
    exact ⟨u :: us, .cons r rs, .cons q qs⟩
theorem dp_ktup {K : PySem.W.Frag} {g : Addr} {o : Obj} {its : Array Value} {n : Nat} {ds : List PyData} (l : K.lookup g = some o) (hc : o.cls = .type "tuple") (hd : o.data = .seq its n) (hs : its.size ≤ sizeLine) (hf : its.toList.map flatV = ds.map some) (F : Hp) : Dp K F (.ref g) (.tuple ds) := by
  obtain ⟨us, rs, qs⟩ := dp_flat (K := K) (F := F) hf
  exact .tup (.inr ⟨o, its, n, l, hc, hd, hs, rs⟩) qs
theorem kit_ref {K : PySem.W.Frag} {C : Addr} {t : Value} {b : Bool} (hdct : PySem.W.hasDictIn K C = true) (ht : PySem.W.typeIn K (.ref C) = some (.type "type")) (h4 : PySem.W.subIn K t (.ref C) = some b) (hb : b = true ∨ (t == Value.ref C) = false) : PySem.W.kitOne K t (.ref C) = some b := by
  obtain ⟨cd, hc, _⟩ := PySem.W.any_some hdct
  have e2 : ((PySem.W.clsIn K C).isSome && PySem.W.typeIn K (.ref C) == some (.type "type")) = true := by rw [hc, ht] <;> rfl
  show (if (t == Value.ref C) = true then some true else (if ((PySem.W.clsIn K C).isSome && PySem.W.typeIn K (.ref C) == some (.type "type")) = true then PySem.W.subIn K t (.ref C) else none)) = some b
  rw [if_pos e2]
  by_cases q : (t == Value.ref C) = true
  · rw [if_pos q]
    rcases hb with hb | hb
    · rw [hb]
    · rw [hb] at q; cases q
  · rw [if_neg q]
    exact h4
theorem mn_of {M : MHp} {a b : Addr} {o : MO} (h : mu M a o b = none) : M b = none := by
  unfold mu at h
  split at h
  · cases h
  · exact h
theorem MLe.put {M0 M1 : MHp} {a : Addr} {o : MO} (h : MLe M0 M1) (n : M0 a = none) : MLe M0 (DL.mu M1 a o) := fun b u e => by
  rw [mu_ne (by rintro rfl; rw [n] at e; cases e)]
  exact h b u e
end DL

/-! Part 9: sorted, sets. -/
namespace DL
open PySem PySem.Spec PyProof.Rows L2

/-! ### sorted -/
def sortL (xs : List PyData) : List PyData := xs.mergeSort (PySem.W.dataLe false id)
def SortOk (xs : List PyData) : Prop := PySem.W.AllAlike xs ∧ PySem.W.Sortable xs ∧ ∀ d ∈ xs, d.depth ≤ 60
def sortD : PyData → (PyData → Prop) → Prop
  | .list xs, k => SortOk xs ∧ k (.list (sortL xs))
  | .tuple xs, k => SortOk xs ∧ k (.list (sortL xs))
  | _, _ => False
theorem each_zip {K : PySem.W.Frag} {F : Hp} : ∀ {ws : List V} {ds : List PyData} {us : List Value}, DpAll K F ws ds → Vals ws us → PySem.W.EachIs (fun v (b : PyData × V) => RelV b.2 v) us (ds.zip ws) ∧ ∀ b ∈ ds.zip ws, Dp K F b.2 b.1
  | _, [], _, h, r => by
    cases h
    cases r
    exact ⟨.nil, fun b hb => by cases hb⟩
  | _, d :: ds, _, h, r => by
    cases h with
    | cons h1 h2 =>
      cases r with
      | cons r1 r2 =>
        obtain ⟨a, b⟩ := each_zip h2 r2
        refine ⟨.cons r1 a, fun c hc => ?_⟩
        rcases List.mem_cons.mp hc with e | hc
        · rw [e]; exact h1
        · exact b c hc
theorem dpAll_of {K : PySem.W.Frag} {F : Hp} : ∀ {bs : List (PyData × V)}, (∀ b ∈ bs, Dp K F b.2 b.1) → DpAll K F (bs.map (·.2)) (bs.map (·.1))
  | [], _ => .nil
  | b :: bs, h => .cons (h b (by simp)) (dpAll_of fun c hc => h c (List.mem_cons_of_mem _ hc))
theorem vals_of_each : ∀ {bs : List (PyData × V)} {out : List Value}, PySem.W.EachIs (fun v (b : PyData × V) => RelV b.2 v) out bs → Vals (bs.map (·.2)) out
  | [], _, h => by cases h; exact .nil
  | b :: bs, _, h => by
    cases h with
    | cons h1 h2 => exact .cons h1 (vals_of_each h2)
section
open PySem.Calls PySem.W
variable {prog : Program} {w : World} {A : Around} {E : Value → Shared → Prop} {s : Shared} {β : Type}
theorem collect_tup {l : Addr} {vs : List Value} {Q : List Value → Shared → Prop} (hl : IsTup s.heap l vs.toArray)
    (h : Q vs { s with heap := (s.heap.push (seqObj "list" #[] 0)).update s.heap.objs.size (Obj.mapSeq (· ++ vs.toArray)) }) (hsz : vs.length ≤ sizeLine) :
    wpAny (model prog w) A (collect (.ref l)) Q E s := by
  obtain ⟨o, ho, hc, n, hd⟩ := id hl
  unfold collect
  refine wpAny_bind (wpAny_runValue (codeAny_builtin entry_proto_collect' ?_))
  show wpAny _ _ (do again (.builtin "list.__iadd__" ⟨[← newList [], .ref l], []⟩)) _ _ s
  refine wpAny_bind (wpAny_newList (wpAny_pure ⟨Code.quiet_builtin _ (by decide +kernel), codeAny_builtin entry_list_iadd' ?_⟩))
  show wpAny _ _ (Builtin.List.listExtendWith (.ref s.heap.objs.size) (.ref l) (.ref s.heap.objs.size)) _ _ { s with heap := s.heap.push (seqObj "list" #[] 0) }
  unfold Builtin.List.listExtendWith
  have ho' : (s.heap.push (seqObj "list" #[] 0)).get? l = some o := Heap.get?_push_of_some _ ho
  refine wpAny_bind (wpAny_typeOf (T := "tuple") ⟨o, ho', hc⟩ ?_)
  have ht : (Value.type "tuple" == Value.type "tuple") = true := by rfl
  rw [if_pos (by rw [ht]; simp)]
  refine wpAny_bind (listItems_at ho' hd ?_)
  refine wpAny_bind (listItems_at (xs := #[]) (n := 0) (Heap.get?_push_size _ rfl) rfl ?_)
  rw [if_neg (by simp)]
  refine wpAny_bind (listUpdate_at (xs := #[]) (n := 0) (Heap.get?_push_size _ rfl) rfl ?_ (Nat.zero_le _) (by show (#[] ++ vs.toArray).size ≤ sizeLine + 1; simp only [Array.size_append, List.size_toArray, List.length_nil]; omega))
  refine wpAny_pure ?_
  show wpAny (model prog w) A (do
      let o ← load s.heap.objs.size
      match o.data with
      | .seq xs _ => pure xs.toList
      | _ => unsupported "internal:collect") Q E { s with heap := (s.heap.push (seqObj "list" #[] 0)).update s.heap.objs.size (Obj.mapSeq (· ++ vs.toArray)) }
  refine wpAny_bind (wpAny_load (get?_update_seq (Heap.get?_push_size _ rfl) _) ?_)
  show wpAny _ _ (pure ((#[] : Array Value) ++ vs.toArray).toList) Q E _
  rw [show ((#[] : Array Value) ++ vs.toArray).toList = vs by simp]
  exact wpAny_pure h
theorem sortedT_of_sort {l : Addr} {vs : List Value} {kw : List (Str × Value)} {Q : Value → Shared → Prop} (hl : IsTup s.heap l vs.toArray) (hL : vs.length ≤ sizeLine) (ha1 : argsOk "sorted" ⟨[.ref l], kw⟩) (ha2 : ∀ x, argsOk "list.sort" ⟨[.ref x], kw⟩)
    (body : ∀ E' : Value → Shared → Prop, wpAny (model prog w) A.in1.in1 (Builtin.«list.sort» ⟨[.ref (s.heap.objs.size + 1)], kw⟩) (fun f s' => f = .done (.ret .none) ∧ Q (.ref (s.heap.objs.size + 1)) s') E' { s with heap := copyHeap s.heap vs }) :
    wpAny (model prog w) A (call (.builtin "sorted") [.ref l] kw) Q E s := by
  refine call_function_entry_kw kind_sorted plain_sorted entry_sorted ha1 ?_
  unfold Builtin.«sorted»
  refine wpAny_bind (m := checkCount "sorted" 1 1 _) (wpAny_pure ?_)
  refine wpAny_bind (collect_tup hl ?_ hL)
  refine wpAny_bind (wpAny_newList ?_ hL)
  have hsz : ((s.heap.push (seqObj "list" #[] 0)).update s.heap.objs.size (Obj.mapSeq (· ++ vs.toArray))).objs.size = s.heap.objs.size + 1 := by
    rw [Heap.size_update, size_push']
  show wpAny _ _ _ _ _ { s with heap := copyHeap s.heap vs }
  rw [hsz]
  refine wpAny_bind (wpAny_holding (wpAny_call_entry_kw slot_list_sort ⟨_, copyHeap_at s.heap vs, rfl⟩ entry_list_sort ?body (ha2 _)))
  case body =>
    show wpAny (model prog w) A.in1.in1 (Builtin.«list.sort» ⟨[.ref (s.heap.objs.size + 1)], kw⟩) _ _ _
    refine wpAny_mono (body _) (fun f s' hf => ?_) fun _ _ e => e
    obtain ⟨rfl, hq⟩ := hf
    exact ⟨_, rfl, wpAny_pure ⟨_, rfl, hq⟩⟩
theorem sorted_dataT {vs : List Value} {bs : List β} {enc : β → PyData} {R : Value → β → Prop} {l : Addr} {Q : Value → Shared → Prop} (hl : IsTup s.heap l vs.toArray) (e : EachIs R vs bs) (er : EachIs (fun v b => ∃ as, Reads s.heap v (enc b) as) vs bs) (hal : AllAlike (bs.map enc)) (hk : Sortable (bs.map enc)) (hL : bs.length ≤ sizeLine)
    (hu : ∀ b, b ∈ bs → A.units + 2 + (enc b).depth < cLine) (h : ∀ out, out.length = bs.length → EachIs R out (bs.mergeSort (dataLe false enc)) → Q (.ref (s.heap.objs.size + 1)) { s with heap := sortedAll s.heap vs (List.toArray out) }) :
    wpAny (model prog w) A (call (.builtin "sorted") [.ref l]) Q E s := by
  have er' : EachIs (fun v b => ∃ as, Reads (sortingHeap (copyHeap s.heap vs) (s.heap.objs.size + 1) vs) v (enc b) as) vs bs := er.mono fun _ _ ⟨as, r⟩ => ⟨as, PyProof.Rows.Reads.keeps (fun _ _ => sorting_copy_old) r⟩
  have hL' : vs.length ≤ sizeLine := by rw [e.length]; exact hL
  exact sortedT_of_sort hl hL' (args_sorted1 _) (fun _ => args_list_sort _) fun _ => list_sort_vals (s := { s with heap := copyHeap s.heap vs }) (copyHeap_at s.heap vs)
    (SortsAt.data (s := { s with heap := sortingHeap (copyHeap s.heap vs) (s.heap.objs.size + 1) vs }) (each_map (R := fun v d => ∃ as, Reads (sortingHeap (copyHeap s.heap vs) (s.heap.objs.size + 1) vs) v d as) enc er') hal hk (bound_map hu)) hL'
    ⟨rfl, h _ (by rw [sortVals_length false rfl]; exact e.length) (sortVals_data false e er' hal)⟩
end
theorem sort_run {X : Cx} (hu : X.A.units + 64 < cLine) {pins : List (Addr × Obj)} {s : Shared} {σ : L2.St} {H : Hp} {p : Addr} {ws : List V} {F : Hp} {ds : List PyData} {Q : VK} (I : Inv X pins σ H s) (h1 : SqL X.K H p ws) (hF : Same F H) (h2 : DpAll X.K F ws ds) (ok : SortOk ds)
    (h : ∀ q ws', H q = none → DpAll X.K F ws' (sortL ds) → Q (.ref q) (upd H q (.lst ws'))) : wpAny (model X.prog X.w) X.A (call (.builtin "sorted") [.ref p]) (EP X pins σ Q) X.xe s := by
  obtain ⟨its, rv, hl, hz⟩ := I.list h1
  obtain ⟨e1, e2⟩ := each_zip h2 rv
  have hlen := dpAll_len h2
  have m1 : (ds.zip ws).map Prod.fst = ds := List.map_fst_zip (by omega)
  have er : PySem.W.EachIs (fun v (b : PyData × V) => ∃ as, Reads s.heap v b.1 as) its (ds.zip ws) := by
    have : ∀ {us : List Value} {bs : List (PyData × V)}, PySem.W.EachIs (fun v (b : PyData × V) => RelV b.2 v) us bs → (∀ b ∈ bs, Dp X.K F b.2 b.1) → PySem.W.EachIs (fun v (b : PyData × V) => ∃ as, Reads s.heap v b.1 as) us bs := by
      intro us bs h
      induction h with
      | nil => intro _; exact .nil
      | cons h1 h2 ih =>
        intro q
        exact .cons (Dp.reads I _ _ _ (dp_mono hF _ _ (q _ (by simp))) h1) (ih fun b hb => q b (List.mem_cons_of_mem _ hb))
    exact this e1 e2
  refine PySem.W.sorted_data (R := fun v (b : PyData × V) => RelV b.2 v) (enc := Prod.fst) hl.isList e1 er (by rw [m1]; exact ok.1) (by rw [m1]; exact ok.2.1) (by rw [List.length_zip]; omega) (fun b hb => ?_) fun out ho eo => ?_
  · have : b.1 ∈ ds := by
      rw [← m1]
      exact List.mem_map.mpr ⟨b, hb, rfl⟩
    have := ok.2.2 _ this
    omega
  · obtain ⟨ep, he'⟩ := PyProof.Rows.sortedAll_at s.heap its (List.toArray out)
    have hv := vals_of_each eo
    have hp := List.mergeSort_perm (ds.zip ws) (PySem.W.dataLe false Prod.fst)
    have m2 : ((ds.zip ws).mergeSort (PySem.W.dataLe false Prod.fst)).map Prod.fst = sortL ds := by
      have : sortL ds = ((ds.zip ws).map Prod.fst).mergeSort (PySem.W.dataLe false id) := by rw [m1]; rfl
      rw [this]
      exact List.map_mergeSort fun _ _ _ _ => rfl
    have hd : DpAll X.K F (((ds.zip ws).mergeSort (PySem.W.dataLe false Prod.fst)).map (·.2)) (sortL ds) := by
      rw [← m2]
      exact dpAll_of fun b hb => e2 b (hp.mem_iff.mp hb)
    have hn : (((ds.zip ws).mergeSort (PySem.W.dataLe false Prod.fst)).map (·.2)).length ≤ sizeLine := by
      rw [List.length_map, hp.length_eq, List.length_zip]
      omega
    exact ⟨.ref _, _, I.laid (o := .lst (((ds.zip ws).mergeSort (PySem.W.dataLe false Prod.fst)).map (·.2))) (t' := s.toks) (fun _ _ => PyProof.Rows.sortedAll_old) (Nat.le_succ _) ⟨hn, out, ep, hv, he'⟩, rfl, h _ _ (I.hok.fresh (Nat.le_succ _)) hd⟩
theorem sort_runT {X : Cx} (hu : X.A.units + 64 < cLine) {pins : List (Addr × Obj)} {s : Shared} {σ : L2.St} {H : Hp} {p : Addr} {ws : List V} {F : Hp} {ds : List PyData} {Q : VK} (I : Inv X pins σ H s) (h1 : SqT X.K H p ws) (hF : Same F H) (h2 : DpAll X.K F ws ds) (ok : SortOk ds)
    (h : ∀ q ws', H q = none → DpAll X.K F ws' (sortL ds) → Q (.ref q) (upd H q (.lst ws'))) : wpAny (model X.prog X.w) X.A (call (.builtin "sorted") [.ref p]) (EP X pins σ Q) X.xe s := by
  obtain ⟨its, rv, hl, hz⟩ := I.tuple h1
  obtain ⟨e1, e2⟩ := each_zip h2 rv
  have hlen := dpAll_len h2
  have m1 : (ds.zip ws).map Prod.fst = ds := List.map_fst_zip (by omega)
  have er : PySem.W.EachIs (fun v (b : PyData × V) => ∃ as, Reads s.heap v b.1 as) its (ds.zip ws) := by
    have : ∀ {us : List Value} {bs : List (PyData × V)}, PySem.W.EachIs (fun v (b : PyData × V) => RelV b.2 v) us bs → (∀ b ∈ bs, Dp X.K F b.2 b.1) → PySem.W.EachIs (fun v (b : PyData × V) => ∃ as, Reads s.heap v b.1 as) us bs := by
      intro us bs h
      induction h with
      | nil => intro _; exact .nil
      | cons h1 h2 ih =>
        intro q
        exact .cons (Dp.reads I _ _ _ (dp_mono hF _ _ (q _ (by simp))) h1) (ih fun b hb => q b (List.mem_cons_of_mem _ hb))
    exact this e1 e2
  refine sorted_dataT (R := fun v (b : PyData × V) => RelV b.2 v) (enc := Prod.fst) hl e1 er (by rw [m1]; exact ok.1) (by rw [m1]; exact ok.2.1) (by rw [List.length_zip]; omega) (fun b hb => ?_) fun out ho eo => ?_
  · have : b.1 ∈ ds := by
      rw [← m1]
      exact List.mem_map.mpr ⟨b, hb, rfl⟩
    have := ok.2.2 _ this
    omega
  · obtain ⟨ep, he'⟩ := PyProof.Rows.sortedAll_at s.heap its (List.toArray out)
    have hv := vals_of_each eo
    have hp := List.mergeSort_perm (ds.zip ws) (PySem.W.dataLe false Prod.fst)
    have m2 : ((ds.zip ws).mergeSort (PySem.W.dataLe false Prod.fst)).map Prod.fst = sortL ds := by
      have : sortL ds = ((ds.zip ws).map Prod.fst).mergeSort (PySem.W.dataLe false id) := by rw [m1]; rfl
      rw [this]
      exact List.map_mergeSort fun _ _ _ _ => rfl
    have hd : DpAll X.K F (((ds.zip ws).mergeSort (PySem.W.dataLe false Prod.fst)).map (·.2)) (sortL ds) := by
      rw [← m2]
      exact dpAll_of fun b hb => e2 b (hp.mem_iff.mp hb)
    have hn : (((ds.zip ws).mergeSort (PySem.W.dataLe false Prod.fst)).map (·.2)).length ≤ sizeLine := by
      rw [List.length_map, hp.length_eq, List.length_zip]
      omega
    exact ⟨.ref _, _, I.laid (o := .lst (((ds.zip ws).mergeSort (PySem.W.dataLe false Prod.fst)).map (·.2))) (t' := s.toks) (fun _ _ => PyProof.Rows.sortedAll_old) (Nat.le_succ _) ⟨hn, out, ep, hv, he'⟩, rfl, h _ _ (I.hok.fresh (Nat.le_succ _)) hd⟩
theorem dc_sorted {X : Cx} (hu : X.A.units + 64 < cLine) : DCall X (.builtin "sorted") (g1 sortD) := by
  intro pins s σ H vs us Q I r h
  obtain ⟨xs, M, N, P, hr, ha, hg, fo⟩ := h
  obtain ⟨v, d, rfl, r1, q⟩ := g1_of hr ha hg
  unfold sortD at q
  split at q
  · obtain ⟨p, ws, rfl, h1, h2⟩ := r1.list
    rw [Vals.ref1 r]
    exact sort_run hu I h1 fz_sub h2 q.1 fun l ws' hl hd => fo.new hr q.2 hl (fz_newLst hr hl hd)
  · obtain ⟨p, ws, rfl, h1, h2, _⟩ := r1.tuple
    rw [Vals.ref1 r]
    exact sort_runT hu I h1 fz_sub h2 q.1 fun l ws' hl hd => fo.new hr q.2 hl (fz_newLst hr hl hd)
  · exact q.elim
def sortDM : PyData → (List PyData → Prop) → Prop
  | .list ys, k => SortOk ys ∧ k (sortL ys)
  | .tuple ys, k => SortOk ys ∧ k (sortL ys)
  | _, _ => False
def gSortM : DN := fun xs M P => match xs with | [x] => rd M x fun d => sortDM d fun ys => ∀ p, M p = none → P (.r p) (mu M p (.ls ys)) | _ => False
theorem dc_sortedM {X : Cx} (hu : X.A.units + 64 < cLine) : DCall X (.builtin "sorted") gSortM := by
  intro pins s σ H vs us Q I r h
  obtain ⟨xs, M, N, P, hr, ha, hg, fo⟩ := h
  unfold gSortM at hg
  split at hg
  · obtain ⟨v, rfl, i⟩ := are1 ha
    obtain ⟨d, r1, q⟩ := rd_of hr i hg
    unfold sortDM at q
    split at q
    · obtain ⟨p, ws, rfl, h1, h2⟩ := r1.list
      rw [Vals.ref1 r]
      refine sort_run hu I h1 fz_sub h2 q.1 fun l ws' hl hd => ?_
      obtain ⟨r2, a2⟩ := hr.new (x := .ls (sortL _)) (o := .lst ws') hl hd
      exact fo _ _ _ _ (q.2 l (hr.free hl).1) r2 a2 rfl
    · obtain ⟨p, ws, rfl, h1, h2, _⟩ := r1.tuple
      rw [Vals.ref1 r]
      refine sort_runT hu I h1 fz_sub h2 q.1 fun l ws' hl hd => ?_
      obtain ⟨r2, a2⟩ := hr.new (x := .ls (sortL _)) (o := .lst ws') hl hd
      exact fo _ _ _ _ (q.2 l (hr.free hl).1) r2 a2 rfl
    · exact q.elim
  · exact hg.elim
/-- of ints -/
def sortI (ns : List Int) : List Int := ns.mergeSort fun a b => decide (a ≤ b)
theorem sortL_int (ns : List Int) : sortL (ns.map .int) = (sortI ns).map .int := by
  unfold sortL sortI
  refine (List.map_mergeSort fun a _ b _ => ?_).symm
  have := congrFun (congrFun (PySem.W.dataLe_int (β := Int) id) a) b
  exact this.symm
theorem sortI_perm (ns : List Int) : (sortI ns).Perm ns := List.mergeSort_perm _ _
theorem sortI_le (ns : List Int) : (sortI ns).Pairwise (· ≤ ·) := by
  have h := List.pairwise_mergeSort (le := fun a b : Int => decide (a ≤ b)) (by simp; omega) (by simp; omega) ns
  exact h.imp fun h => by simpa using h
theorem sortOk_int (ns : List Int) : SortOk (ns.map .int) := ⟨PySem.W.AllAlike.of fun _ _ => rfl, PySem.W.Sortable.others fun _ => ⟨nofun, nofun⟩, fun d hd => by
  obtain ⟨n, _, rfl⟩ := List.mem_map.mp hd
  exact Nat.zero_le _⟩

/-! ### set(list of ints) -/
section
variable {P : Program} {w : World} {A : Around} {E : Value → Shared → Prop} {s : Shared}
abbrev newSet (w : World) : Obj := { cls := .type "set", dict := none, data := .set #[] 0 (.fresh 0 0 (!w.params.followText "set-order")) }
/-- set(a list): what the set is at the end is the loop's word -/
theorem set_of_list {l : Addr} {items : Array Value} {G : Heap → Prop} {Q : Value → Shared → Prop} (hh : A.handled = none) (hl : s.heap.IsList l items)
    (loop : ∀ (A' : Around) (I : Addr) (h2 : Heap) (R : Result → Shared → Prop), A'.in1.handled = none → A'.units ≤ A.units + 2 → I = s.heap.objs.size + 1 → (∀ b o, s.heap.get? b = some o → h2.get? b = some o) → h2.get? s.heap.objs.size = some (newSet w) → h2.IsListIter I l 0 → h2.IsList l items →
      (∀ h3 tk3, (∀ b o, b ≠ s.heap.objs.size → b ≠ I → h2.get? b = some o → h3.get? b = some o) → G h3 → R (.ok (.ret .none)) { s with heap := h3, toks := tk3 }) →
      codeAny (model P w) A' (.builtin "set.update.loop" ⟨[.ref s.heap.objs.size, .ref I], []⟩) R { s with heap := h2 })
    (h : ∀ (h' : Heap) (tk : Nat), G h' → (∀ b o, s.heap.get? b = some o → h'.get? b = some o) → Q (.ref s.heap.objs.size) { s with heap := h', toks := tk }) :
    wpAny (model P w) A (call (.type "set") [.ref l]) Q E s := by
  obtain ⟨c, tl, hmro⟩ := F.called_set.mro; have hmade := F.called_set.made; have hsub := F.called_set.sub
  refine wpAny_call (codeAny_of_tree ?_); show wpAny _ _ (callAny (.type "set") _) _ _ _
  refine wpAny_pure ⟨Code.quiet_builtin _ (by decide +kernel), codeAny_builtin F.entry_type_call ?_⟩; rw [Around.under_plain (weight_type_call_type "set" [.ref l] []) rfl]
  have h1 := F.called_set.notType; have h2 := F.called_set.canCreate
  have hct := F.typeCall_set_1 (.ref l); repeat (any_goals (first | assumption | wp_step))
  refine codeAny_mono (code_set_led1 (.ref l) (E := E) (Q₁ := fun obj s₁ => obj = .ref s.heap.objs.size ∧ s₁ = { s with heap := s.heap.push (newSet w) }) ⟨rfl, rfl⟩) fun r s₁ hr => ?_
  cases r with
  | error e => exact hr
  | ok fl =>
    cases fl with
    | ret obj =>
      obtain ⟨rfl, rfl⟩ := hr
      have hS : (s.heap.push (newSet w)).get? s.heap.objs.size = some (newSet w) := Heap.get?_push_size _ rfl
      have hT : Shared.TypeIs { s with heap := s.heap.push (newSet w) } (.ref s.heap.objs.size) "set" := ⟨_, hS, rfl⟩
      have hli := F.called_set.init.lookup; have hbi := F.called_set.init.bind (.ref s.heap.objs.size)
      repeat (any_goals (first | assumption | wp_step))
      refine codeAny_mono (codeAny_call_builtin (R := wants (fun r s₂ => r = .none ∧ ∃ h' tk, s₂ = { s with heap := h', toks := tk } ∧ G h' ∧ (∀ b o, s.heap.get? b = some o → h'.get? b = some o)) E) F.called_set.init.plain F.entry_set_init (check_set_init_1 hT ?_)) fun r₂ s₂ hr₂ => ?_
      · obtain ⟨ol, hol, hcl, nl, hdl⟩ := hl; obtain ⟨ocls, odict, odata, oslots⟩ := ol
        simp only at hcl hdl
        subst hcl; subst hdl
        have hol' : (s.heap.push (newSet w)).get? l = some { cls := .type "list", dict := odict, data := .seq items nl, slots := oslots } := Heap.get?_push_of_some _ hol
        have hsls := F.sub_list_set; have hslf := F.sub_list_frozenset
        have hne : (Value.type "list" == Value.type "dict") = false := by decide
        have hl1 : (s.heap.push (newSet w)).IsList l items := ⟨_, hol', rfl, nl, rfl⟩
        unfold Builtin.«set.__init__» noKeywords Builtin.Frozenset.updateFrom
        generalize hPI : pyIter = PI
        wp_walk
        subst hPI
        refine wpAny_pyIter_list hl1 ?_; refine wpAny_bind (wpAny_runValue ?_)
        have hz : (s.heap.push (newSet w)).objs.size = s.heap.objs.size + 1 := Heap.size_push ..
        refine loop _ (s.heap.push (newSet w)).objs.size _ _ (by simp [hh]) (by simp [Around.in1]) hz (fun b o e => Heap.get?_push_of_some _ (Heap.get?_push_of_some _ e)) (Heap.get?_push_of_some _ hS) ⟨_, Heap.get?_push_size _ rfl, rfl, rfl⟩ (hl1.push _) fun h3 tk3 k3 g3 => ?_
        show wpAny _ _ _ _ _ _
        refine wpAny_pure ?_; show wpAny _ _ (ret Value.none) _ _ _
        refine wpAny_pure ⟨rfl, h3, tk3, rfl, g3, fun b o e => ?_⟩
        have hb0 : b < s.heap.objs.size := Heap.lt_size e
        exact k3 b o (Nat.ne_of_lt hb0) (by rw [hz]; exact Nat.ne_of_lt (Nat.lt_succ_of_lt hb0)) (Heap.get?_push_of_some _ (Heap.get?_push_of_some _ e))
      · cases r₂ with
        | error e => exact hr₂
        | ok fl₂ =>
          cases fl₂ with
          | ret r =>
            obtain ⟨rfl, h', tk, rfl, g', hk'⟩ := hr₂
            repeat (any_goals (first | assumption | wp_step))
            exact h _ _ g' hk'
          | _ => exact hr₂.elim
    | _ => exact hr.elim
/-- set(a list of ints) -/
theorem set_ints {l : Addr} {items : Array Value} (ns : List Int) {Q : Value → Shared → Prop} (hh : A.handled = none) (hl : s.heap.IsList l items) (hi : IntsAre items.toList ns) (hb : ns.length + 1 < scanBound)
    (h : ∀ (h' : Heap) (tk c : Nat), SetR w h' s.heap.objs.size (fun j => decide (j ∈ ns)) c → c ≤ ns.length → (∀ b o, s.heap.get? b = some o → h'.get? b = some o) → Q (.ref s.heap.objs.size) { s with heap := h', toks := tk }) :
    wpAny (model P w) A (call (.type "set") [.ref l]) Q E s := by
  have hisz : items.size = ns.length := by have q := IntsAre.length hi; rw [Array.length_toList] at q; exact q
  have hlS : l < s.heap.objs.size := by obtain ⟨o, ho, _⟩ := hl; exact Heap.lt_size ho
  refine set_of_list (G := fun h' => ∃ c, c ≤ ns.length ∧ SetR w h' s.heap.objs.size (fun j => decide (j ∈ ns)) c) hh hl (fun A' I h2 R hA hu hI k hS hit hl2 hR => ?_) fun h' tk ⟨c, hc, g⟩ k => h h' tk c g hc k
  have hne : l ≠ I := by rw [hI]; exact Nat.ne_of_lt (Nat.lt_succ_of_lt hlS)
  have hSf : s.heap.objs.size ∉ [I, l] := by
    simp only [List.mem_cons, List.not_mem_nil, or_false, not_or]
    exact ⟨by rw [hI]; exact Nat.ne_of_lt (Nat.lt_succ_self _), Nat.ne_of_gt hlS⟩
  have hval : ∀ (i : Nat) (v : Value), items[i]? = some v → ∃ k t, ns[i]? = some k ∧ v = .int k t := fun i v hv => by
    have hi' : i < ns.length := by rw [← hisz]; exact (Array.getElem?_eq_some_iff.mp hv).1
    obtain ⟨t, e⟩ := PyProof.Rows.IntsAre.int_at hi i v (by rw [Array.getElem?_toList]; exact hv)
    refine ⟨ns[i], t, List.getElem?_eq_getElem hi', ?_⟩
    rw [e, List.getD_eq_getElem?_getD, List.getElem?_eq_getElem hi'] <;> rfl
  refine set_update_ints ((Walks.list hA _ l hne items).toS) s.heap.objs.size hSf ns hisz hb hval (items.size - 0) 0 _ (by omega) (Nat.zero_le _) ⟨hit, hl2⟩ ⟨0, Nat.le_refl 0, setR_new_at hS⟩ fun s' c' hm hc' hS' => ?_
  obtain ⟨h3, g3, d3, tk3, os3⟩ := s'
  have eg : g3 = s.gens := hm.gens; have ed : d3 = s.drawn := hm.drawn; have eo : os3 = s.os := hm.os
  subst eg; subst ed; subst eo
  exact hR h3 tk3 (fun b o n1 n2 e => hm.heap b o (by simp only [List.mem_cons, List.not_mem_nil, or_false, not_or]; exact ⟨n1, n2⟩) e) ⟨c', by rw [← hisz]; exact hc', hS'⟩
/-- sorted(a set of ints) -/
theorem sorted_ints {a : Addr} {S : Int → Bool} {n : Nat} {Q : Value → Shared → Prop} (R : SetR w s.heap a S n) (hh : A.handled = none) (hu : A.units + 64 < cLine)
    (hQ : ∀ s' p (out : Array Value) (c : Nat) (ns : List Int), (∀ b o, s.heap.get? b = some o → s'.heap.get? b = some o) → s'.gens = s.gens → s'.os = s.os → s.heap.objs.size ≤ p →
      s'.heap.get? p = some (seqObj "list" out c) → IntsAre out.toList ns → ns.Pairwise (· < ·) → (∀ k, k ∈ ns ↔ S k = true) → ns.length = n → n < scanBound → Q (.ref p) s') :
    wpAny (model P w) A (call (.builtin "sorted") [.ref a]) Q E s := by
  obtain ⟨o, es, ep, t, ho, hex, hd, g, nd, hm, hb, hf, hn, hr, hl⟩ := R
  refine Calls.call_function_entry kind_sorted plain_sorted entry_sorted (args_sorted1 _) ?_; unfold Builtin.«sorted»
  refine wpAny_bind (m := checkCount "sorted" 1 1 _) (wpAny_pure ?_); refine wpAny_bind (collect_set (A := A.in1) hh ⟨o, ho, hex.1, hd⟩ hf hb hr hl fun s1 vs k1 hz g1 o1 pm => ?_)
  have hvl : vs.length = n := by rw [pm.length_eq, List.length_map, Array.length_toList]; exact hn
  have hI : IntsAre vs (vs.map Builtin.Re.reRawOf) := ints_of vs fun v hv => by
    obtain ⟨e, he, q⟩ := List.mem_map.mp (pm.mem_iff.mp hv); obtain ⟨k, tk, h1, _⟩ := g e he
    exact ⟨k, tk, by rw [← q]; exact h1⟩
  have pk : (vs.map Builtin.Re.reRawOf).Perm (es.toList.map keyOf) := by
    have q := pm.map Builtin.Re.reRawOf; rw [List.map_map] at q
    exact q
  generalize hks : vs.map Builtin.Re.reRawOf = ks at hI pk
  have hsz : vs.length ≤ sizeLine := by rw [hvl, sizeLine_eq, ← hn]; unfold scanBound at hb; omega
  refine wpAny_bind (wpAny_newList ?_ hsz); have hoL : (s1.heap.push (seqObj "list" vs.toArray 0)).get? s1.heap.objs.size = some (seqObj "list" vs.toArray 0) := Heap.get?_push_size _ rfl
  have each : ∀ {us : List Value} {ms : List Int}, IntsAre us ms → PySem.W.EachIs (fun v (k : Int) => ∃ t, v = Value.int k t) us ms := by
    intro us ms h
    induction h with
    | nil => exact .nil
    | cons n t _ ih => exact .cons ⟨t, rfl⟩ ih
  have back : ∀ {ms : List Int} {us : List Value}, PySem.W.EachIs (fun v (k : Int) => ∃ t, v = Value.int k t) us ms → IntsAre us ms := by
    intro ms us h
    induction h with
    | nil => exact .nil
    | cons h1 _ ih => obtain ⟨t, rfl⟩ := h1; exact .cons _ t ih
  have e1 := each hI
  refine wpAny_bind (wpAny_holding (PySem.W.list_sort_data (R := fun v (k : Int) => ∃ t, v = Value.int k t) (enc := .int) hoL e1 (e1.mono fun v k ⟨t, e⟩ => ⟨[], by rw [e]; exact .int _ _, by simp⟩) (PySem.W.AllAlike.of fun _ _ => rfl) (PySem.W.Sortable.others fun _ => ⟨nofun, nofun⟩) (by rw [← e1.length]; exact hsz) (fun b _ => ?_) fun out ho2 eo => ?_))
  · show A.in1.units + 1 + 0 < cLine
    have : A.in1.units = A.units + 1 := rfl
    omega
  · obtain ⟨c, hc⟩ := sortedHeap_at (vs := vs) (out := out.toArray) hoL
    have a1 := back eo
    have a2 := List.mergeSort_perm ks (PySem.W.dataLe false PyData.int)
    have pn := a2.trans pk
    have a3 : (ks.mergeSort (PySem.W.dataLe false PyData.int)).Pairwise (· ≤ ·) := by
      have e : PySem.W.dataLe false PyData.int = fun a b : Int => decide (a ≤ b) := PySem.W.dataLe_int (β := Int) id
      rw [e]
      exact sortI_le ks
    refine wpAny_pure ⟨_, rfl, hQ _ s1.heap.objs.size out.toArray c _ (fun b u e => ?_) g1 o1 hz hc a1 (lt_of_le_nodup _ a3 (pn.nodup_iff.mpr nd)) (fun k => by rw [pn.mem_iff, ← hm k]) ?_ (by rw [← hn]; exact hb)⟩
    · have q := k1 b u e; have hlt := Heap.lt_size q
      show (sortedHeap (s1.heap.push (seqObj "list" vs.toArray 0)) s1.heap.objs.size vs out.toArray).get? b = some u
      rw [sortedHeap_old (Nat.ne_of_lt hlt) (by rw [size_push']; exact Nat.lt_succ_of_lt hlt)]; exact Heap.get?_push_of_some _ q
    · rw [pn.length_eq, List.length_map, Array.length_toList]; exact hn
end
/-! ### sorted(set(e)), len(set(e)) -/
def setSort : PyData → (List PyData → Prop) → Prop
  | .list xs, k => ∃ ns : List Int, xs = ns.map .int ∧ ns.length + 1 < scanBound ∧ ∀ ms : List Int, ms.Pairwise (· < ·) → (∀ x, x ∈ ms ↔ x ∈ ns) → k (ms.map .int)
  | _, _ => False
def setLen : PyData → (Int → Prop) → Prop
  | .list xs, k => ∃ ns : List Int, xs = ns.map .int ∧ ns.length + 1 < scanBound ∧ ∀ ms : List Int, ms.Pairwise (· < ·) → (∀ x, x ∈ ms ↔ x ∈ ns) → k ms.length
  | _, _ => False
def eSortedSet (te : DTE) : DTE := fun ρ M P PX => te ρ M (fun x M1 => rd M1 x fun d => setSort d fun ds => P (.d (.list ds)) M1) PX
def eSortedSetM (te : DTE) : DTE := fun ρ M P PX => te ρ M (fun x M1 => rd M1 x fun d => setSort d fun ds => ∀ p, M1 p = none → P (.r p) (mu M1 p (.ls ds))) PX
def eLenSet (te : DTE) : DTE := fun ρ M P PX => te ρ M (fun x M1 => rd M1 x fun d => setLen d fun n => P (.d (.int n)) M1) PX
section
variable {X : Cx} {W : WX} {a : Expr} {te : DTE} {p p2 q pos : Pos}
theorem sset_run (hc : X.calm = true) (hu : X.A.units + 64 < cLine) (hg : Gl X "sorted") (hm : X.mg "sorted" = none) (hg2 : Gl X "set") (hm2 : X.mg "set" = none) (ha : DE X W a te)
    (na : starEach [a] X.env = (false, eval a X.env) :: starEach [] X.env := by rfl) {pins : List (Addr × Obj)} {s : Shared} {σ : L2.St} {H : Hp} {Q : VK} (I : Inv X pins σ H s)
    (h : LE X.K W te σ H fun x H1 => ∃ l vs, x = .ref l ∧ SqL X.K H1 l vs ∧ ∃ ns : List Int, vs = ns.map V.int ∧ ns.length + 1 < scanBound ∧ ∀ (ms : List Int) r, ms.Pairwise (· < ·) → (∀ x, x ∈ ms ↔ x ∈ ns) → H1 r = none → Q (.ref r) (upd H1 r (.lst (ms.map V.int)))) :
    wpAny (model X.prog X.w) X.A (eval (.Call (.Name "sorted" p) [.Call (.Name "set" p2) [a] [] q] [] pos) X.env) (EP X pins σ Q) X.xe s := by
  refine Call_ (ld_blt I hg hm PyProof.Rows.boot_sorted ?_); refine PyProof.Rows.callWith_builtin1 (PyProof.Rows.args_cons ?_ rfl) rfl rfl
  refine Call_ (ld_blt I hg2 hm2 PyProof.Rows.boot_set ?_); refine PyProof.Rows.callWith_type1 (PyProof.Rows.args_cons (thn (ha.pe.run pins s σ H _ I h) fun v s1 ⟨x, H1, I1, r1, q1⟩ => PyProof.Rows.args_nil ?_) na) na rfl
  obtain ⟨l, vs, rfl, hq, ns, rfl, hb, q1⟩ := q1
  cases r1
  obtain ⟨its, rv, pl, hz⟩ := I1.list hq
  have hd := I1.ok.hd hc
  refine set_ints ns hd pl.isList (by simpa using ints_of_vals rv) hb fun h' tk c R hcn k => ?_
  refine PyProof.Rows.args_nil ?_
  refine sorted_ints (s := { s1 with heap := h', toks := tk }) R hd hu fun s' pa out c' ms k2 g2 o2 hp hgt hio pw hmem hln hnb => ?_
  have k3 : ∀ b o, s1.heap.get? b = some o → s'.heap.get? b = some o := fun b o e => k2 b o (k b o e)
  have hlt : s1.heap.objs.size < h'.objs.size := R.lt
  have hp1 : s1.heap.objs.size ≤ pa := Nat.le_trans (Nat.le_of_lt hlt) hp
  have hn : H1 pa = none := I1.hok.fresh hp1
  have hlen : (ms.map V.int).length ≤ sizeLine := by rw [List.length_map, sizeLine_eq]; unfold scanBound at hnb; omega
  have vi : ∀ {us : List Value} {ms : List Int}, IntsAre us ms → Vals (ms.map V.int) us := by
    intro us ms h
    induction h with
    | nil => exact .nil
    | cons n t _ ih => exact .cons ⟨t, rfl⟩ ih
  have J : Inv X pins σ (upd H1 pa (.lst (ms.map V.int))) { s1 with heap := s'.heap, gens := s'.gens, drawn := s'.drawn, toks := s'.toks } :=
    I1.call (ch := []) (Un.laid k3 hp1 hn) (I1.hok.laid k3 hp1 ⟨hlen, out.toList, c', vi hio, hgt⟩) (by rw [g2]; exact I1.bare) (fun _ z => nomatch z)
  have e : s' = { s1 with heap := s'.heap, gens := s'.gens, drawn := s'.drawn, toks := s'.toks } := by
    cases s'; cases s1; cases o2; rfl
  rw [e]
  exact ⟨.ref pa, _, J, rfl, q1 ms pa pw (fun x => by rw [hmem x, decide_eq_true_eq]) hn⟩
theorem dp_int_list {K : PySem.W.Frag} {F : Hp} (ms : List Int) : DpAll K F (ms.map V.int) (ms.map PyData.int) := by
  induction ms with
  | nil => exact .nil
  | cons n r ih => exact .cons (.int n) ih
theorem de_sortedSet (hc : X.calm = true) (hu : X.A.units + 64 < cLine) (ha : DE X W a te) (hm : X.mg "sorted" = none) (hm2 : X.mg "set" = none) (hg : Gl X "sorted" := by rfl) (hg2 : Gl X "set" := by rfl)
    (na : starEach [a] X.env = (false, eval a X.env) :: starEach [] X.env := by rfl) : DE X W (.Call (.Name "sorted" p) [.Call (.Name "set" p2) [a] [] q] [] pos) (eSortedSet te) :=
  ⟨⟨fun pins s σ H Q I h => by
    obtain ⟨ρ, M, N, P, PX, hs, hr, ht, hP, hX⟩ := h
    refine sset_run hc hu hg hm hg2 hm2 ha na I ⟨ρ, M, N, _, PX, hs, hr, ht, fun x M1 v H1 p hr1 af1 iv => ?_, hX⟩
    obtain ⟨d, r1, qq⟩ := rd_of hr1 iv p
    unfold setSort at qq
    split at qq
    · obtain ⟨l, ws, rfl, h1, h2⟩ := r1.list
      obtain ⟨ns, rfl, hb, qq⟩ := qq
      exact ⟨l, ws, rfl, h1, ns, dp_ints h2, hb, fun ms r pw hmem hn => hP _ M1 _ _ (qq ms pw hmem) (hr1.grow (same_new hn)) (af1.trans (.grow hr1 (same_new hn))) (fz_newLst hr1 hn (dp_int_list ms))⟩
    · exact qq.elim⟩⟩
theorem de_sortedSetM (hc : X.calm = true) (hu : X.A.units + 64 < cLine) (ha : DE X W a te) (hm : X.mg "sorted" = none) (hm2 : X.mg "set" = none) (hg : Gl X "sorted" := by rfl) (hg2 : Gl X "set" := by rfl)
    (na : starEach [a] X.env = (false, eval a X.env) :: starEach [] X.env := by rfl) : DE X W (.Call (.Name "sorted" p) [.Call (.Name "set" p2) [a] [] q] [] pos) (eSortedSetM te) :=
  ⟨⟨fun pins s σ H Q I h => by
    obtain ⟨ρ, M, N, P, PX, hs, hr, ht, hP, hX⟩ := h
    refine sset_run hc hu hg hm hg2 hm2 ha na I ⟨ρ, M, N, _, PX, hs, hr, ht, fun x M1 v H1 p hr1 af1 iv => ?_, hX⟩
    obtain ⟨d, r1, qq⟩ := rd_of hr1 iv p
    unfold setSort at qq
    split at qq
    · obtain ⟨l, ws, rfl, h1, h2⟩ := r1.list
      obtain ⟨ns, rfl, hb, qq⟩ := qq
      refine ⟨l, ws, rfl, h1, ns, dp_ints h2, hb, fun ms r pw hmem hn => ?_⟩
      obtain ⟨r2, a2⟩ := hr1.new (x := .ls (ms.map .int)) (o := .lst (ms.map V.int)) hn (dp_int_list ms)
      exact hP _ _ _ _ (qq ms pw hmem r (hr1.free hn).1) r2 (af1.trans a2) rfl
    · exact qq.elim⟩⟩
end
/-! rules by which they are walked -/
section
variable {ρ : DEnv} {M : MHp} {P : DK} {PX : DX} {te : DTE}
theorem x_sset (q : te ρ M (fun x M1 => rd M1 x fun d => setSort d fun ds => P (.d (.list ds)) M1) PX) : eSortedSet te ρ M P PX := q
theorem x_ssetM (q : te ρ M (fun x M1 => rd M1 x fun d => setSort d fun ds => ∀ p, M1 p = none → P (.r p) (mu M1 p (.ls ds))) PX) : eSortedSetM te ρ M P PX := q
theorem x_setI {ns : List Int} {k : List PyData → Prop} (hb : ns.length + 1 < scanBound) (q : ∀ ms : List Int, ms.Pairwise (· < ·) → (∀ x, x ∈ ms ↔ x ∈ ns) → k (ms.map .int)) : setSort (.list (ns.map .int)) k := ⟨ns, rfl, hb, q⟩
end
/-! ### comprehensions, walked -/
/-- what is left of a comprehension when its list is known -/
def lcI (fin : Fin') (xs : List DV) (C : MHp → Prop) (g : DTG) (tt : DTT) (te : DTE) (vs : List Nat) (ρ : DEnv) (M1 : MHp) (P : DK) : Prop := ∃ I : Nat → List DV → MHp → Prop, (∃ M', MLe M' M1 ∧ I 0 [] M') ∧ (∀ i acc M, i ≤ xs.length → I i acc M → C M) ∧
  (∀ i acc M x, xs[i]? = some x → I i acc M → g x (wipeD ρ vs) M (fun ρ2 M2 => tt ρ2 M2 (fun b M3 => if b = true then te ρ2 M3 (fun y M4 => acc.length < sizeLine ∧ ∃ M', MLe M' M4 ∧ I (i + 1) (acc ++ [y]) M') fun _ _ => False else ∃ M', MLe M' M3 ∧ I (i + 1) acc M') fun _ _ => False) fun _ _ => False) ∧
  ∀ acc M, I xs.length acc M → fin acc M P
section
variable {ρ : DEnv} {M : MHp} {P : DK} {PX : DX} {te : DTE} {fin : Fin'} {wi : DTI} {g : DTG} {tt : DTT} {vs : List Nat} {xs : List DV} {C : MHp → Prop}
theorem x_lc (q : wi ρ M (fun xs C M1 => lcI fin xs C g tt te vs ρ M1 P) PX) : eLc fin wi g tt te vs ρ M P PX := q
theorem x_yes {PT' : Bool → MHp → Prop} (q : PT' true M) : tYes ρ M PT' PX := q
theorem allD_map {ds : List PyData} {k : List PyData → Prop} (q : k ds) : allD (ds.map .d) k := by
  induction ds generalizing k with
  | nil => exact q
  | cons d r ih => exact ih q
/-- the state stays as it is: item by item what comes of it (none: left out) -/
theorem lc_opt (fs : List (Option PyData)) (hl : fs.length = xs.length) (hz : fs.length ≤ sizeLine) (hC : C M)
    (hb : ∀ (i : Nat) (x : DV) (o : Option PyData), xs[i]? = some x → fs[i]? = some o → ∀ (KT : DK) (KF : MHp → Prop), (∀ d, o = some d → KT (.d d) M) → (o = none → KF M) → g x (wipeD ρ vs) M (fun ρ2 M2 => tt ρ2 M2 (fun b M3 => Br b (te ρ2 M3 KT fun _ _ => False) (KF M3)) fun _ _ => False) fun _ _ => False)
    (q : fin ((fs.filterMap id).map .d) M P) : lcI fin xs C g tt te vs ρ M P := by
  refine ⟨fun i acc M' => M = M' ∧ acc = ((fs.take i).filterMap id).map .d, ⟨M, .refl, rfl, rfl⟩, ?_, ?_, ?_⟩
  · rintro _ _ _ _ ⟨rfl, _⟩
    exact hC
  · rintro i _ _ x hx ⟨rfl, rfl⟩
    have hi : i < fs.length := by rw [hl]; exact (List.getElem?_eq_some_iff.mp hx).1
    have ho : fs[i]? = some fs[i] := List.getElem?_eq_getElem hi
    have hs := take_succ_of ho
    refine hb i x fs[i] hx ho _ _ (fun d hd => ?_) (fun hd => ?_)
    · have hlt : (((fs.take i).filterMap id).map DV.d).length < sizeLine := by
        rw [List.length_map]
        have := List.length_filterMap_le id (fs.take i)
        rw [List.length_take] at this
        omega
      exact ⟨hlt, M, .refl, rfl, by show _ = ((fs.take (i + 1)).filterMap id).map DV.d; rw [hs, List.filterMap_append, hd]; simp⟩
    · exact ⟨M, .refl, rfl, by show _ = ((fs.take (i + 1)).filterMap id).map DV.d; rw [hs, List.filterMap_append, hd]; simp⟩
  · rintro acc _ ⟨rfl, rfl⟩
    rw [← hl, List.take_length]
    exact q
theorem fm_some {α β : Type} (f : α → β) : ∀ l : List α, (l.map fun x => some (f x)).filterMap id = l.map f
  | [] => rfl
  | x :: r => by
    rw [List.map_cons, List.filterMap_cons]
    exact congrArg _ (fm_some f r)
theorem fm_if {α : Type} (c : α → Bool) : ∀ l : List α, (l.map fun x => if c x = true then some x else none).filterMap id = l.filter c
  | [] => rfl
  | x :: r => by
    rw [List.map_cons, List.filterMap_cons, List.filter_cons]
    cases h : c x
    · exact fm_if c r
    · exact congrArg (x :: ·) (fm_if c r)
/-- each item gives one: no test -/
theorem lc_map (ds : List PyData) (hl : ds.length = xs.length) (hz : ds.length ≤ sizeLine) (hC : C M)
    (hb : ∀ (i : Nat) (x : DV) (d : PyData), xs[i]? = some x → ds[i]? = some d → ∀ KT : DK, KT (.d d) M → g x (wipeD ρ vs) M (fun ρ2 M2 => te ρ2 M2 KT fun _ _ => False) fun _ _ => False)
    (q : fin (ds.map .d) M P) : lcI fin xs C g tYes te vs ρ M P := by
  refine lc_opt (ds.map some) (by rw [List.length_map]; exact hl) (by rw [List.length_map]; exact hz) hC (fun i x o hx ho KT KF h1 h2 => ?_) (by rw [show ds.map some = ds.map (fun x => some (id x)) from rfl, fm_some, List.map_id]; exact q)
  rw [List.getElem?_map] at ho
  obtain ⟨d, hd, rfl⟩ := Option.map_eq_some_iff.mp ho
  exact hb i x d hx hd KT (h1 d rfl)
theorem finD_of {ds : List PyData} (q : P (.d (.list ds)) M) : finD (ds.map .d) M P := allD_map q
theorem finM_of {ds : List PyData} (q : ∀ p, M p = none → P (.r p) (mu M p (.ls ds))) : finM (ds.map .d) M P := allD_map q
end
/-! ### ints in lists -/
theorem canLay_ints : ∀ ns : List Int, PyData.canLayAll0 (ns.map .int) = true
  | [] => rfl
  | n :: r => by
    rw [List.map_cons]
    show (PyData.canLay0 (.int n) && PyData.canLayAll0 (r.map .int)) = true
    rw [canLay_ints r]
    rfl
theorem shaped_tupI (ns : List Int) : SeqAt.shaped (.tuple (ns.map .int)) = true := by
  unfold SeqAt.shaped
  rw [PyData.depth, PySem.W.depth_ints]
  show (PyData.canLayAll0 (ns.map .int) && _) = true
  rw [canLay_ints]
  rfl
theorem shaped_lstI (ns : List Int) : SeqAt.shaped (.list (ns.map .int)) = true := by
  unfold SeqAt.shaped
  rw [PyData.depth, PySem.W.depth_ints]
  show (PyData.canLayAll0 (ns.map .int) && _) = true
  rw [canLay_ints]
  rfl
theorem any_int (ns : List Int) (n : Int) : ((ns.map PyData.int).any fun z => PyData.eqv z (.int n)) = decide (n ∈ ns) := by
  induction ns with
  | nil => rfl
  | cons m r ih =>
    rw [List.map_cons, List.any_cons, ih]
    show ((m == n) || decide (n ∈ r)) = _
    by_cases h : n = m
    · subst h; simp
    · have h' : ¬ m = n := fun e => h e.symm
      simp [h, h']
theorem x_inTI {M : MHp} {P : DK} {ns : List Int} {n : Int} (q : P (.d (.bool (decide (n ∈ ns)))) M) : inD false (.d (.int n)) (.d (.tuple (ns.map .int))) M P := by
  refine ⟨rfl, shaped_tupI ns, ?_⟩
  rw [any_int]
  exact q
theorem x_ninTI {M : MHp} {P : DK} {ns : List Int} {n : Int} (q : P (.d (.bool (!decide (n ∈ ns)))) M) : inD true (.d (.int n)) (.d (.tuple (ns.map .int))) M P := by
  refine ⟨rfl, shaped_tupI ns, ?_⟩
  rw [any_int]
  exact q
end DL

/-! Part 10: choices and sums within a suite, turned lists, texts of numbers, ranges in tuples. -/
namespace DL
open PySem PySem.Spec PyProof.Rows L2

section
variable {X : Cx} {a b c : Expr} {ta tb tc : DSE} {pos : Pos}
/-- x if c else y, within a suite -/
def xIf (t ta tb : DSE) : DSE := fun ad x ρ M P PX => t ad x ρ M (fun y M1 => asB y fun k => Br k (ta ad x ρ M1 P PX) (tb ad x ρ M1 P PX)) PX
theorem dx_if (hc : DXE X c tc) (ha : DXE X a ta) (hb : DXE X b tb) (he : ∀ (ad : Addr) (oe : Obj) (pn : List (Addr × Obj)) whole, isTrue c (X.suite ad ((ad, oe) :: pn)).env whole = (do let v ← whole; standAt c.pos; holding [v] (truthy v)) := by intro _ _ _ _; rfl) :
    DXE X (.IfExp c a b pos) (xIf tc ta tb) := ⟨fun ad oe cls d pn hz hf => PE.imp (pe_ifExp (pt_val (hc.run ad oe cls d pn hz hf) (he ad oe pn)) (ha.run ad oe cls d pn hz hf) (hb.run ad oe cls d pn hz hf)) fun σ H Q ⟨x, ρ, M, N, P, PX, hx, hed, hs, hr, ht, hP, hX⟩ => by
  refine ⟨x, ρ, M, N, _, PX, hx, hed, hs, hr, ht, fun y M1 v H1 p hr1 af1 iv => ?_, hX⟩
  unfold asB at p
  split at p
  · rename_i k
    cases (show Dp _ _ _ _ from iv)
    refine ⟨k, rfl, ?_⟩
    cases k with
    | true => exact ⟨x, ρ, M1, N, _, PX, hx, exD_mono af1.fr hed, hs.mono af1.fr, hr1, p, fun z M2 w H2 q hr2 af2 iw => hP z M2 w H2 q hr2 (af1.trans af2) iw, hX.step af1⟩
    | false => exact ⟨x, ρ, M1, N, _, PX, hx, exD_mono af1.fr hed, hs.mono af1.fr, hr1, p, fun z M2 w H2 q hr2 af2 iw => hP z M2 w H2 q hr2 (af1.trans af2) iw, hX.step af1⟩
  · exact p.elim⟩
/-- an operation, within a suite -/
def xOp (g : D2) (ta tb : DSE) : DSE := fun ad x ρ M P PX => ta ad x ρ M (fun u M1 => tb ad x ρ M1 (fun v M2 => g u v M2 P) PX) PX
def xAdd (ta tb : DSE) : DSE := xOp (gD addD) ta tb
theorem dx_op {op : Operator} {g : D2} (ho : ∀ (ad : Addr) (oe : Obj) (pn : List (Addr × Obj)), DOp (X.suite ad ((ad, oe) :: pn)) (binaryOp op) g) (ha : DXE X a ta) (hb : DXE X b tb) : DXE X (.BinOp a op b pos) (xOp g ta tb) :=
  ⟨fun ad oe cls d pn hz hf => PE.imp (pe_op (ho ad oe pn) (ha.run ad oe cls d pn hz hf) (hb.run ad oe cls d pn hz hf)) fun σ H Q ⟨x, ρ, M, N, P, PX, hx, hed, hs, hr, ht, hP, hX⟩ =>
    ⟨x, ρ, M, N, _, PX, hx, hed, hs, hr, ht, fun u M1 v H1 p hr1 af1 iv => ⟨x, ρ, M1, N, _, PX, hx, exD_mono af1.fr hed, hs.mono af1.fr, hr1, p, fun y M2 w H2 p2 hr2 af2 iw =>
      ⟨u, y, M2, N, P, hr2, isD_mono af2.fr iv, iw, p2, fun z M3 w' H3 p3 hr3 af3 iw' => hP z M3 w' H3 p3 hr3 ((af1.trans af2).trans af3) iw'⟩, hX.step af1⟩, hX⟩⟩
theorem dx_add (ha : DXE X a ta) (hb : DXE X b tb) : DXE X (.BinOp a .Add b pos) (xAdd ta tb) := dx_op (fun _ _ _ => dop_add) ha hb
end
section
variable {X : Cx} {W : WX} {e : Expr} {te : DTE} {ta : DTA} {pos : Pos}
/-! ### str -/
def strD : PyData → (PyData → Prop) → Prop
  | .int i, k => i.natAbs.log2 < 1920 ∧ k (.str (toString i))
  | .str a, k => k (.str a)
  | _, _ => False
theorem dc_str : DCall X (.type "str") (g1 strD) := by
  intro pins s σ H vs us Q I r h
  obtain ⟨xs, M, N, P, hr, ha, hg, fo⟩ := h
  obtain ⟨v, d, rfl, r1, q⟩ := g1_of hr ha hg
  unfold strD at q
  split at q
  · cases r1.int
    exact call_str_int pins s σ H _ us Q I r ⟨_, rfl, q.1, fo.same hr q.2 (show Dp _ _ _ _ from .str _)⟩
  · cases r1.str
    exact SkE.call_str_str pins s σ H _ us Q I r ⟨_, rfl, fo.same hr q (show Dp _ _ _ _ from .str _)⟩
  · exact q.elim
/-! ### xs[::-1] of a list -/
def revD : PyData → (PyData → Prop) → Prop
  | .list xs, k => k (.list xs.reverse)
  | .tuple xs, k => k (.tuple xs.reverse)
  | _, _ => False
def eRev (te : DTE) : DTE := fun ρ M P PX => te ρ M (fun x M1 => rd M1 x fun d => revD d fun z => P (.d z) M1) PX
end
/-! ### t[::-1] of a tuple -/
section
variable {prog : Program} {w : World} {A : Around} {E : Value → Shared → Prop} {s : Shared}
theorem applied_rev {sl : Addr} {vl vu vs : Value} {n : Nat} {Q : Int × Int × Nat → Shared → Prop} (hs : s.heap.IsSliceOf sl vl vu vs) (pl : IsPart vl none) (pu : IsPart vu none) (ps : IsPart vs (some (-1)))
    (h : Q ((n : Int) - 1, -1, n) s) : wpAny (model prog w) A (Builtin.Slice.sliceApplied (.ref sl) (pure (n : Int))) Q E s := by
  obtain ⟨os, hos, hcs, hds⟩ := id hs; unfold Builtin.Slice.sliceApplied Builtin.Slice.sliceFields
  refine wpAny_bind (wpAny_bind (wpAny_field hos hds (x := vl) rfl (wpAny_bind (wpAny_field hos hds (x := vu) rfl (wpAny_bind (wpAny_field hos hds (x := vs) rfl (wpAny_pure ?_)))))))
  refine wpAny_bind (HT.slicePart_ ps ?_); show wpAny _ _ (if ((-1 : Int) == 0) = true then _ else _) _ _ s
  rw [if_neg (by decide)]; refine wpAny_bind (HT.slicePart_ pl (wpAny_bind (HT.slicePart_ pu (wpAny_bind (wpAny_pure ?_)))))
  show wpAny _ _ (match Builtin.Slice.sliceAdjust none none (-1) (n : Int) with | (lo, hi) => pure (lo, (-1 : Int), Builtin.Slice.slicePlaces lo hi (-1))) _ _ s
  have e1 : Builtin.Slice.sliceAdjust none none (-1) (n : Int) = ((n : Int) - 1, -1) := by
    unfold Builtin.Slice.sliceAdjust
    simp
  rw [e1]
  show wpAny _ _ (pure ((n : Int) - 1, (-1 : Int), Builtin.Slice.slicePlaces ((n : Int) - 1) (-1) (-1))) _ _ s
  have e2 : Builtin.Slice.slicePlaces ((n : Int) - 1) (-1) (-1) = n := by
    unfold Builtin.Slice.slicePlaces
    simp
    try omega
  rw [e2]; exact wpAny_pure h
theorem rev_pick (xs : Array Value) : ((List.range xs.size).filterMap fun (m : Nat) => xs[((xs.size : Int) - 1 + (m : Int) * -1).toNat]?).toArray = xs.toList.reverse.toArray := by
  have h := PySem.W.krv_pick xs
  rw [← PySem.W.krv_all xs, ← List.filterMap_reverse, ← PySem.W.krv_range, List.filterMap_map]
  have : ∀ l : List Nat, (∀ m ∈ l, m < xs.size) → (l.filterMap fun (m : Nat) => xs[((xs.size : Int) - 1 + (m : Int) * -1).toNat]?) = l.filterMap ((fun x => xs[x]?) ∘ fun k => xs.size - 1 - k) := by
    intro l
    induction l with
    | nil => intro _; rfl
    | cons m l ih =>
      intro hm
      have h1 := hm m (by simp)
      have e : ((xs.size : Int) - 1 + (m : Int) * -1).toNat = xs.size - 1 - m := by omega
      rw [List.filterMap_cons, List.filterMap_cons, ih fun k hk => hm k (List.mem_cons_of_mem _ hk), e]
      rfl
  rw [this _ fun m hm => List.mem_range.mp hm]
theorem getItem_tuple_rev {t sl : Addr} {items : Array Value} {vl vu vs : Value} {Q : Value → Shared → Prop} (ht : IsTup s.heap t items) (hs : s.heap.IsSliceOf sl vl vu vs) (pl : IsPart vl none) (pu : IsPart vu none) (ps : IsPart vs (some (-1)))
    (h : Q (.ref s.heap.objs.size) { s with heap := s.heap.push { cls := .type "tuple", data := .seq items.toList.reverse.toArray } }) (hsz : items.size ≤ sizeLine) : wpAny (model prog w) A (getItem (.ref t) (.ref sl)) Q E s := by
  have hok : sizeOk (.seq items.toList.reverse.toArray) := by
    show items.toList.reverse.toArray.size ≤ sizeLine
    rw [List.size_toArray, List.length_reverse, Array.length_toList]; exact hsz
  obtain ⟨os, hos, hcs, hds⟩ := id hs; have hTs : s.TypeIs (.ref sl) "slice" := ⟨os, hos, hcs⟩
  unfold getItem; try with_reducible refine wpAny_holding ?_
  first | refine wpAny_bind (wpAny_pure ?_) | skip
  refine wpAny_bind (wpAny_sequenceKey ht.typeIs (by decide) ?_); refine wpAny_bind (wpAny_callSpecial?_slot (name := Str.ofString "__getitem__") ht.typeIs PyProof.Rows.slot_tuple_getitem (wpAny_call_entry PyProof.Rows.slot_tuple_getitem ht.typeIs entry_tuple_getitem ?_ (args_tuple_getitem _ _)))
  show wpAny _ _ (Builtin.Tuple.tupleItemsOf (.ref t) >>= _) _ _ s; refine wpAny_bind (tupleItemsOf_ ht ?_)
  refine wpAny_bind (wpAny_typeOf hTs ?_); rw [if_pos (by decide)]; refine wpAny_bind (applied_rev hs pl pu ps ?_)
  have hno : ¬ ((((items.size : Int) - 1) == 0 && (-1 : Int) == 1 && items.size == items.size) = true) := by
    intro q; rw [Bool.and_eq_true, Bool.and_eq_true] at q; exact absurd q.1.2 (by decide)
  show wpAny _ _ (if (((items.size : Int) - 1) == 0 && (-1 : Int) == 1 && items.size == items.size) = true then _ else _) _ _ s
  rw [if_neg hno, rev_pick]; first
    | exact wpAny_bind (m := Builtin.Tuple.tupleExact _) (wpAny_newObj_type (wpAny_pure ⟨_, rfl, wpAny_pure h⟩) hok)
    | exact wpAny_bind (m := Builtin.Tuple.tupleExact _) (wpAny_newObj_type (wpAny_bind (wpAny_pure (wpAny_pure ⟨_, rfl, wpAny_pure h⟩))) hok)
    | exact wpAny_bind (wpAny_bind (m := Builtin.Tuple.tupleExact _) (wpAny_newObj_type (wpAny_pure (wpAny_pure ⟨_, rfl, wpAny_pure h⟩)) hok))
    | exact wpAny_bind (wpAny_bind (m := Builtin.Tuple.tupleExact _) (wpAny_newObj_type (wpAny_pure ⟨_, rfl, wpAny_pure h⟩) hok))
end
section
variable {X : Cx} {W : WX} {e : Expr} {te : DTE} {pos : Pos}
def tRevT (K : PySem.W.Frag) (te : TE) : TE := fun σ H Q => te σ H fun x H1 => ∃ a xs, x = .ref a ∧ ((SqL K H1 a xs ∧ ∀ p, H1 p = none → Q (.ref p) (upd H1 p (.lst xs.reverse))) ∨ (SqT K H1 a xs ∧ ∀ p, H1 p = none → Q (.ref p) (upd H1 p (.tup xs.reverse))))
theorem pe_revT {te : TE} {k : Nat} {p1 p2 p3 : Pos} (he : PE X e te) : PE X (.Subscript e (.Slice none none (some (.UnaryOp .USub (.Constant (.int 1) k p1) p2)) p3) pos) (tRevT X.K te) := by
  refine ⟨fun pins s σ H Q I h => ?_⟩; refine Subscript_ (thn (he.run pins s σ H _ I h) fun v s1 ⟨x, H1, I1, r1, q1⟩ => ?_)
  obtain ⟨a, xs, ex, hq⟩ := q1
  subst ex; cases r1
  have hst : PO X (some (.UnaryOp .USub (.Constant (.int 1) k p1) p2)) (tPart (tUn (rU fun i => .int (-i)) (tC (.int 1)))) := po_some (pe_un un_neg pe_int); refine wpAny_Slice (thn (po_none.run pins s1 σ H1 (fun o H2 => o = none ∧ H2 = H1) I1 ⟨rfl, rfl⟩) fun vl s2 ⟨l, H2, I2, pl, el, e2⟩ => ?_)
  subst el e2; refine thn (po_none.run pins s2 σ H2 (fun o H3 => o = none ∧ H3 = H2) I2 ⟨rfl, rfl⟩) fun vu s3 ⟨u, H3, I3, pu, eu, e3⟩ => ?_
  subst eu e3; refine thn (hst.run pins s3 σ H3 (fun o H4 => o = some (-1) ∧ H4 = H3) I3 ⟨1, rfl, -1, rfl, rfl, rfl⟩) fun vs s4 ⟨o, H4, I4, ps, eo, e4⟩ => ?_
  subst eo e4; have I5 : Inv X pins σ H4 { s4 with heap := s4.heap.push { cls := .type "slice", data := .fields #[vl, vu, vs] } } := I4.kept (t' := s4.toks) fun b ob q => Heap.get?_push_of_some _ q
  show wpAny (model X.prog X.w) X.A (subscriptTail e (.Slice none none (some (.UnaryOp .USub (.Constant (.int 1) k p1) p2)) p3) (.ref a) (.ref s4.heap.objs.size)) (EP X pins σ Q) X.xe { s4 with heap := s4.heap.push { cls := .type "slice", data := .fields #[vl, vu, vs] } }
  rcases hq with ⟨hx, q⟩ | ⟨hx, q⟩
  · obtain ⟨its, r, ht, hz⟩ := I5.list hx
    have hlen := r.length
    refine tail_any (ops := [.ref a, .ref s4.heap.objs.size]) ht.isList.typeIs (PySem.slot_list_getitem.lookup) ?_ (by with_unfolding_all rfl); refine wpAny_getItem_list_slice ht.isList (Heap.IsSliceOf.new _ vl vu vs) pl pu ps (by decide) ?_ (by rw [List.size_toArray]; omega)
    rw [PySem.W.krv_pick]; refine ⟨.ref _, _, I5.laid (t' := s4.toks) (o := .lst xs.reverse) (fun b ob q => Heap.get?_push_of_some _ q) (Nat.le_refl _) ?_, rfl, q _ (I5.hok.fresh (Nat.le_refl _))⟩
    exact ⟨by rw [List.length_reverse]; exact hz, its.reverse, 0, r.reverse, Heap.get?_push_size _ rfl⟩
  · obtain ⟨its, r, ht, hz⟩ := I5.tuple hx
    refine tail_any (ops := [.ref a, .ref s4.heap.objs.size]) ht.typeIs (PyProof.Rows.slot_tuple_getitem.lookup) ?_ (by with_unfolding_all rfl)
    refine getItem_tuple_rev ht (Heap.IsSliceOf.new _ vl vu vs) pl pu ps ?_ (by rw [List.size_toArray, ← r.length]; exact hz)
    refine ⟨.ref _, _, I5.laid (t' := s4.toks) (o := .tup xs.reverse) (fun b ob q => Heap.get?_push_of_some _ q) (Nat.le_refl _) ?_, rfl, q _ (I5.hok.fresh (Nat.le_refl _))⟩
    exact ⟨by rw [List.length_reverse]; exact hz, _, r.reverse, IsTup.new _ _⟩
theorem de_rev {k : Nat} {p1 p2 p3 : Pos} (he : DE X W e te) : DE X W (.Subscript e (.Slice none none (some (.UnaryOp .USub (.Constant (.int 1) k p1) p2)) p3) pos) (eRev te) :=
  ⟨PE.imp (pe_revT he.pe) fun σ H Q ⟨ρ, M, N, P, PX, hs, hr, ht, hP, hX⟩ =>
    ⟨ρ, M, N, _, PX, hs, hr, ht, fun x M1 v H1 p hr1 af1 iv => by
      obtain ⟨d, r1, q⟩ := rd_of hr1 iv p
      unfold revD at q
      split at q
      · obtain ⟨l, ws, rfl, h1, h2⟩ := r1.list
        exact ⟨l, ws, rfl, .inl ⟨h1, fun r hn => hP _ M1 _ _ q (hr1.grow (same_new hn)) (af1.trans (.grow hr1 (same_new hn))) (fz_newLst hr1 hn (dpAll_rev h2))⟩⟩
      · obtain ⟨l, ws, rfl, h1, h2, _⟩ := r1.tuple
        exact ⟨l, ws, rfl, .inr ⟨h1, fun r hn => hP _ M1 _ _ q (hr1.grow (same_new hn)) (af1.trans (.grow hr1 (same_new hn))) (fz_newTup hr1 hn (dpAll_rev h2))⟩⟩
      · exact q.elim, hX⟩⟩
end
/-! ### tuple(range(..)), list(range(..)) -/
def rgD (a b : Int) : List PyData := (List.range (b - a).toNat).map fun i => .int (a + (i : Nat))
theorem rg_dp {K : PySem.W.Frag} {F : Hp} (a b : Int) : DpAll K F (rgV a b) (rgD a b) := by
  unfold rgV rgD
  generalize List.range (b - a).toNat = l
  induction l with
  | nil => exact .nil
  | cons i l ih => exact .cons (.int _) ih
/-- the bounds -/
abbrev DTR := DEnv → MHp → (Int → Int → MHp → Prop) → DX → Prop
def rRg1 (te : DTE) : DTR := fun ρ M P PX => te ρ M (fun x M1 => asI x fun j => P 0 j M1) PX
def rRg2 (ta tb : DTE) : DTR := fun ρ M P PX => ta ρ M (fun x M1 => tb ρ M1 (fun y M2 => asI x fun i => asI y fun j => P i j M2) PX) PX
def LR (K : PySem.W.Frag) (W : WX) (t : DTR) : L2.St → Hp → (Int → Int → Hp → Prop) → Prop := fun σ H Q => ∃ ρ M N P PX, SRel K (fz M N H) σ ρ ∧ HRel K M N H ∧ t ρ M P PX ∧ (∀ i j M' H', P i j M' → HRel K M' N H' → Af M N H M' H' → Q i j H') ∧ XEnd K W σ M N H PX
section
variable {X : Cx} {W : WX} {a b : Expr} {ta tb : DTE} {tr : DTR} {p p2 pos pos2 : Pos}
structure DR (X : Cx) (W : WX) (e : Expr) (t : DTR) : Prop where
  pr : PRg X e (LR X.K W t)
theorem dr_1 (hm : X.mg "range" = none) (ha : DE X W a ta) (hg : Gl X "range" := by rfl) (na : starEach [a] X.env = (false, eval a X.env) :: starEach [] X.env := by rfl) : DR X W (.Call (.Name "range" p) [a] [] pos) (rRg1 ta) :=
  ⟨fun pins s σ H Q I ⟨ρ, M, N, P, PX, hs, hr, ht, hP, hX⟩ => prg_1 hg hm ha.pe na pins s σ H Q I ⟨ρ, M, N, _, PX, hs, hr, ht, fun x M1 v H1 q hr1 af1 iv => by
    unfold asI at q
    split at q
    · cases (show Dp _ _ _ _ from iv)
      exact ⟨_, rfl, hP _ _ M1 H1 q hr1 af1⟩
    · exact q.elim, hX⟩⟩
theorem dr_2 (hm : X.mg "range" = none) (ha : DE X W a ta) (hb : DE X W b tb) (hg : Gl X "range" := by rfl) (na : starEach [a, b] X.env = (false, eval a X.env) :: starEach [b] X.env := by rfl) (nb : starEach [b] X.env = (false, eval b X.env) :: starEach [] X.env := by rfl)
    (hp : (backTo pos (starEach [b] X.env)).any (·.1) = false := by rfl) : DR X W (.Call (.Name "range" p) [a, b] [] pos) (rRg2 ta tb) :=
  ⟨fun pins s σ H Q I ⟨ρ, M, N, P, PX, hs, hr, ht, hP, hX⟩ => prg_2 hg hm ha.pe hb.pe na nb hp pins s σ H Q I ⟨ρ, M, N, _, PX, hs, hr, ht, fun x M1 v H1 q hr1 af1 iv => ⟨ρ, M1, N, _, PX, hs.mono af1.fr, hr1, q, fun y M2 w H2 q2 hr2 af2 iw => by
    unfold asI at q2
    split at q2
    · cases (show Dp _ _ _ _ from iv)
      split at q2
      · cases (show Dp _ _ _ _ from iw)
        exact ⟨_, _, rfl, rfl, hP _ _ M2 H2 q2 hr2 (af1.trans af2)⟩
      · exact q2.elim
    · exact q2.elim, hX.step af1⟩, hX⟩⟩
def eTupRg (tr : DTR) : DTE := fun ρ M P PX => tr ρ M (fun i j M1 => RgOk i j ∧ P (.d (.tuple (rgD i j))) M1) PX
def eLstRg (tr : DTR) : DTE := fun ρ M P PX => tr ρ M (fun i j M1 => RgOk i j ∧ P (.d (.list (rgD i j))) M1) PX
def eLstRgM (tr : DTR) : DTE := fun ρ M P PX => tr ρ M (fun i j M1 => RgOk i j ∧ ∀ p, M1 p = none → P (.r p) (mu M1 p (.ls (rgD i j)))) PX
theorem de_tupRg {e : Expr} (hc : X.calm = true) (hm : X.mg "tuple" = none) (hr : DR X W e tr) (hg : Gl X "tuple" := by rfl) (na : starEach [e] X.env = (false, eval e X.env) :: starEach [] X.env := by rfl) : DE X W (.Call (.Name "tuple" p) [e] [] pos) (eTupRg tr) :=
  ⟨PE.imp (pe_tupRg hc hg hm hr.pr na) fun σ H Q ⟨ρ, M, N, P, PX, hs, hr, ht, hP, hX⟩ => ⟨ρ, M, N, _, PX, hs, hr, ht, fun i j M1 H1 q hr1 af1 => ⟨q.1, fun l hl => hP _ M1 _ _ q.2 (hr1.grow (same_new hl)) (af1.trans (.grow hr1 (same_new hl))) (fz_newTup hr1 hl (rg_dp i j))⟩, hX⟩⟩
theorem de_lstRg {e : Expr} (hc : X.calm = true) (hm : X.mg "list" = none) (hr : DR X W e tr) (hg : Gl X "list" := by rfl) (na : starEach [e] X.env = (false, eval e X.env) :: starEach [] X.env := by rfl) : DE X W (.Call (.Name "list" p) [e] [] pos) (eLstRg tr) :=
  ⟨PE.imp (pe_listRg hc hg hm hr.pr na) fun σ H Q ⟨ρ, M, N, P, PX, hs, hr, ht, hP, hX⟩ => ⟨ρ, M, N, _, PX, hs, hr, ht, fun i j M1 H1 q hr1 af1 => ⟨q.1, fun l hl => hP _ M1 _ _ q.2 (hr1.grow (same_new hl)) (af1.trans (.grow hr1 (same_new hl))) (fz_newLst hr1 hl (rg_dp i j))⟩, hX⟩⟩
theorem de_lstRgM {e : Expr} (hc : X.calm = true) (hm : X.mg "list" = none) (hr : DR X W e tr) (hg : Gl X "list" := by rfl) (na : starEach [e] X.env = (false, eval e X.env) :: starEach [] X.env := by rfl) : DE X W (.Call (.Name "list" p) [e] [] pos) (eLstRgM tr) :=
  ⟨PE.imp (pe_listRg hc hg hm hr.pr na) fun σ H Q ⟨ρ, M, N, P, PX, hs, hr, ht, hP, hX⟩ => ⟨ρ, M, N, _, PX, hs, hr, ht, fun i j M1 H1 q hr1 af1 => ⟨q.1, fun l hl => by
    obtain ⟨r2, a2⟩ := hr1.new (x := .ls (rgD i j)) (o := .lst (rgV i j)) hl (rg_dp i j)
    exact hP _ _ _ _ (q.2 l (hr1.free hl).1) r2 (af1.trans a2) rfl⟩, hX⟩⟩
end
/-! ### a text, many times -/
def repS (x : Str) (n : Int) : Str := ⟨(List.replicate n.toNat x.cps).foldl (· ++ ·) #[]⟩
def mulSD : PyData → PyData → (PyData → Prop) → Prop
  | .str x, .int n, k => 2 ≤ n ∧ n ≤ 1000 ∧ 1 ≤ x.length ∧ x.length ≤ 1000 ∧ (repS x n).length ≤ sizeLine ∧ k (.str (repS x n))
  | _, _, _ => False
theorem dop_mulS {X : Cx} : DOp X (binaryOp .Mult) (gD mulSD) := by
  intro pins s σ H x y v u Q I rx ry hq
  obtain ⟨dx, dy, M, N, P, hr, r1, r2, hf, fo⟩ := gD_of hq
  unfold mulSD at hf
  split at hf
  · rename_i z n
    obtain ⟨a1, a2, a3, a4, a5, q⟩ := hf
    cases r1.str; cases r2.int
    obtain ⟨t, rfl⟩ := rx
    obtain ⟨t', rfl⟩ := ry
    have hno : ¬ n < 1 := by omega
    have hz : (n == 1 || z.length == 0) = false := by
      rw [Bool.or_eq_false_iff]
      exact ⟨beq_eq_false_iff_ne.mpr (by omega), beq_eq_false_iff_ne.mpr (by omega)⟩
    refine PySem.P.mul_str (by rw [decide_eq_false (by omega), decide_eq_false (by omega)]; rfl) (fun _ _ => ?_) (fun _ _ => ?_) ?_
    · have : n ≤ (2 ^ 63 - 1) / 1000 := by omega
      have h2 : (1000 : Int) ≤ (2 ^ 63 - 1) / n := (Int.le_ediv_iff_mul_le (by omega)).mpr (by omega)
      omega
    · show decide (z.length * n.toNat > sizeLine) = false
      have h3 : z.length * n.toNat ≤ 1000 * 1000 := Nat.mul_le_mul a4 (by omega)
      rw [sizeLine_eq]
      exact decide_eq_false (by omega)
    · rw [if_neg hno, if_neg (by rw [hz]; exact Bool.false_ne_true)]
      exact ⟨a5, .str (repS z n), H, I.tok _, ⟨_, rfl⟩, fo.same hr q (show Dp _ _ _ _ from .str _)⟩
  · exact hf.elim
/-! rules by which they are walked -/
section
variable {ρ : DEnv} {M : MHp} {P : DK} {PX : DX} {te ta tb : DTE} {k : PyData → Prop} {ys : List PyData} {n m : Int} {ad : Addr} {x : XD} {tr : DTR} {PR : Int → Int → MHp → Prop}
theorem x_rev (q : te ρ M (fun x M1 => rd M1 x fun d => revD d fun z => P (.d z) M1) PX) : eRev te ρ M P PX := q
theorem x_revL (q : k (.list ys.reverse)) : revD (.list ys) k := q
theorem x_revT (q : k (.tuple ys.reverse)) : revD (.tuple ys) k := q
theorem x_strI (h : n.natAbs.log2 < 1920) (q : k (.str (toString n))) : strD (.int n) k := ⟨h, q⟩
theorem x_strS {z : Str} (q : k (.str z)) : strD (.str z) k := q
theorem x_xIf {t ta tb : DSE} (q : t ad x ρ M (fun y M1 => asB y fun k => Br k (ta ad x ρ M1 P PX) (tb ad x ρ M1 P PX)) PX) : xIf t ta tb ad x ρ M P PX := q
theorem x_xAdd {ta tb : DSE} (q : ta ad x ρ M (fun u M1 => tb ad x ρ M1 (fun v M2 => gD addD u v M2 P) PX) PX) : xAdd ta tb ad x ρ M P PX := q
theorem x_tupRg (q : tr ρ M (fun i j M1 => RgOk i j ∧ P (.d (.tuple (rgD i j))) M1) PX) : eTupRg tr ρ M P PX := q
theorem x_lstRg (q : tr ρ M (fun i j M1 => RgOk i j ∧ P (.d (.list (rgD i j))) M1) PX) : eLstRg tr ρ M P PX := q
theorem x_lstRgM (q : tr ρ M (fun i j M1 => RgOk i j ∧ ∀ p, M1 p = none → P (.r p) (mu M1 p (.ls (rgD i j)))) PX) : eLstRgM tr ρ M P PX := q
theorem x_rRg1 (q : te ρ M (fun x M1 => asI x fun j => PR 0 j M1) PX) : rRg1 te ρ M PR PX := q
theorem x_rRg2 (q : ta ρ M (fun x M1 => tb ρ M1 (fun y M2 => asI x fun i => asI y fun j => PR i j M2) PX) PX) : rRg2 ta tb ρ M PR PX := q
end
end DL

/-! Part 11: rules for texts, walked. -/
namespace DL
open PySem PySem.Spec PyProof.Rows L2
section
variable {M : MHp} {P : DK} {k : PyData → Prop} {x y z : Str} {n : Int} {c : Nat}
theorem shaped_str (h : PyData.strOk x = true) : SeqAt.shaped (.str x) = true := by
  unfold SeqAt.shaped
  rw [PyData.depth]
  show (PyData.strOk x && _) = true
  rw [h]
  rfl
theorem beq_str : (x == y) = decide (x = y) := by
  by_cases h : x = y
  · subst h; simp
  · simp [h]
theorem x_eqStr (h1 : PyData.strOk x = true) (h2 : PyData.strOk y = true) (q : k (.bool (decide (x = y)))) : eqD (.str x) (.str y) k := ⟨shaped_str h1, shaped_str h2, by
  have e : PyData.eqv (.str x) (.str y) = decide (x = y) := beq_str
  rw [e]; exact q⟩
theorem x_neStr (h1 : PyData.strOk x = true) (h2 : PyData.strOk y = true) (q : k (.bool (decide (x ≠ y)))) : neD (.str x) (.str y) k := ⟨shaped_str h1, shaped_str h2, by
  have e : (!PyData.eqv (.str x) (.str y)) = decide (x ≠ y) := by
    rw [decide_not]
    exact congrArg _ beq_str
  rw [e]; exact q⟩
theorem x_lenS (h : x.length ≤ sizeLine) (q : k (.int x.length)) : lenD (.str x) k := ⟨h, q⟩
theorem x_ixS (hl : x.length ≤ sizeLine) (h : atI x.cps.toList n = some c) (q : k (.str ⟨#[c]⟩)) : ixD (.str x) (.int n) k := ⟨hl, c, h, q⟩
theorem x_inS (q : P (.d (.bool (decide (c ∈ y.cps.toList)))) M) : inD false (.d (.str ⟨#[c]⟩)) (.d (.str y)) M P := ⟨c, rfl, q⟩
theorem x_ninS (q : P (.d (.bool (!decide (c ∈ y.cps.toList)))) M) : inD true (.d (.str ⟨#[c]⟩)) (.d (.str y)) M P := ⟨c, rfl, q⟩
theorem x_walkS {K : List DV → Prop} (q : K (x.cps.toList.map fun c => .d (.str ⟨#[c]⟩))) : walkD (.str x) K := q
theorem x_slS {lo hi : Option Int} (h : x.length ≤ sizeLine) (q : k (.str (cutSt x lo hi))) : slD (.str x) lo hi k := ⟨h, q⟩
theorem x_mulS (h : 2 ≤ n ∧ n ≤ 1000 ∧ 1 ≤ x.length ∧ x.length ≤ 1000 ∧ (repS x n).length ≤ sizeLine) (q : k (.str (repS x n))) : mulSD (.str x) (.int n) k := ⟨h.1, h.2.1, h.2.2.1, h.2.2.2.1, h.2.2.2.2, q⟩
/-- all([c(x) for x in ..]) over what a list of data is made of -/
theorem bools_map {α : Type} (l : List α) (f : α → Bool) : (l.map fun a => PyData.bool (f a)) = (l.map f).map .bool := by rw [List.map_map]; rfl
theorem all_id {α : Type} (l : List α) (f : α → Bool) : (l.map f).all id = l.all f := by rw [List.all_map]; rfl
theorem any_id {α : Type} (l : List α) (f : α → Bool) : (l.map f).any id = l.any f := by rw [List.any_map]; rfl
theorem x_allM {α : Type} {l : List α} {f : α → Bool} (q : k (.bool (l.all f))) : allDb (.list (l.map fun a => .bool (f a))) k := ⟨l.map f, bools_map l f, by rw [all_id]; exact q⟩
theorem x_anyM {α : Type} {l : List α} {f : α → Bool} (q : k (.bool (l.any f))) : anyDb (.list (l.map fun a => .bool (f a))) k := ⟨l.map f, bools_map l f, by rw [any_id]; exact q⟩
end
/-- over the items of a list of things, each gives one -/
theorem lc_of {ρ : DEnv} {M : MHp} {P : DK} {te : DTE} {fin : Fin'} {g : DTG} {vs : List Nat} {C : MHp → Prop} {α : Type} {l : List α} {e : α → DV} (f : α → PyData) (hz : l.length ≤ sizeLine) (hC : C M)
    (hb : ∀ a ∈ l, ∀ KT : DK, KT (.d (f a)) M → g (e a) (wipeD ρ vs) M (fun ρ2 M2 => te ρ2 M2 KT fun _ _ => False) fun _ _ => False)
    (q : fin ((l.map f).map .d) M P) : lcI fin (l.map e) C g tYes te vs ρ M P := by
  refine lc_map (l.map f) (by simp) (by rw [List.length_map]; exact hz) hC (fun i x d hx hd KT hK => ?_) q
  rw [List.getElem?_map] at hx hd
  obtain ⟨a, ha, rfl⟩ := Option.map_eq_some_iff.mp hx
  rw [ha] at hd
  cases hd
  exact hb a (List.mem_of_getElem? ha) KT hK
section
variable {ρ : DEnv} {M : MHp} {PX : DX} {PG' : DEnv → MHp → Prop} {u : DTGs} {a b c d e : PyData}
theorem x_gTp1 (q : u [.d a] ρ M PG' PX) : gTp 1 u (.d (.tuple [a])) ρ M PG' PX := ⟨rfl, q⟩
theorem x_gTp2 (q : u [.d a, .d b] ρ M PG' PX) : gTp 2 u (.d (.tuple [a, b])) ρ M PG' PX := ⟨rfl, q⟩
theorem x_gTp3 (q : u [.d a, .d b, .d c] ρ M PG' PX) : gTp 3 u (.d (.tuple [a, b, c])) ρ M PG' PX := ⟨rfl, q⟩
theorem x_gTp4 (q : u [.d a, .d b, .d c, .d d] ρ M PG' PX) : gTp 4 u (.d (.tuple [a, b, c, d])) ρ M PG' PX := ⟨rfl, q⟩
theorem x_gTp5 (q : u [.d a, .d b, .d c, .d d, .d e] ρ M PG' PX) : gTp 5 u (.d (.tuple [a, b, c, d, e])) ρ M PG' PX := ⟨rfl, q⟩
end
/-! ### rows of ints -/
theorem dataLt_tpI (a b : List Int) : PySem.W.dataLt (.tuple (a.map .int)) (.tuple (b.map .int)) = decide (a < b) := by
  rw [PySem.W.dataLt_tuple]
  exact PySem.W.dataLt_ints a b
def sortR (R : List (List Int)) : List (List Int) := R.mergeSort fun a b => decide (a ≤ b)
theorem sortL_rows (R : List (List Int)) : sortL (R.map fun r => .tuple (r.map .int)) = (sortR R).map fun r => .tuple (r.map .int) := by
  unfold sortL sortR
  refine (List.map_mergeSort fun a _ b _ => ?_).symm
  show _ = !PySem.W.dataLt (.tuple (b.map .int)) (.tuple (a.map .int))
  rw [dataLt_tpI]
  by_cases h : b < a
  · have h' : ¬ a ≤ b := fun r => List.not_lt.mpr r h
    simp [h, h']
  · have h' : a ≤ b := List.not_lt.mp h
    simp [h, h']
end DL

/-! Part 12: slices by take and drop, ranges of ints, order of rows and names. -/
namespace DL
open PySem PySem.Spec PyProof.Rows L2

theorem cut_take {α : Type} {xs : List α} {n : Int} (h0 : 0 ≤ n) : cutG xs none (some n) = xs.take n.toNat := by
  unfold cutG
  rw [HT.sIx_none, show HT.sIx xs.length xs.length (some n) = min n.toNat xs.length from if_neg (by omega), List.drop_zero, Nat.sub_zero]
  rcases Nat.le_total n.toNat xs.length with g | g
  · rw [Nat.min_eq_left g]
  · rw [Nat.min_eq_right g, List.take_length, List.take_of_length_le g]
theorem cut_drop {α : Type} {xs : List α} {n : Int} (h0 : 0 ≤ n) : cutG xs (some n) none = xs.drop n.toNat := by
  unfold cutG
  rw [HT.sIx_none, show HT.sIx xs.length 0 (some n) = min n.toNat xs.length from if_neg (by omega)]
  rcases Nat.le_total n.toNat xs.length with g | g
  · rw [Nat.min_eq_left g, List.take_of_length_le (by rw [List.length_drop]; omega)]
  · rw [Nat.min_eq_right g, List.drop_length, List.drop_of_length_le g, List.take_nil]
theorem cut_m1 {α : Type} {xs : List α} : cutG xs none (some (-1)) = xs.dropLast := by
  unfold cutG
  have e : HT.sIx xs.length xs.length (some (-1)) = xs.length - 1 := by
    show (if (-1 : Int) < 0 then (-1 + (xs.length : Int)).toNat else min (-1 : Int).toNat xs.length) = _
    rw [if_pos (by decide)]
    omega
  rw [HT.sIx_none, e, List.drop_zero, List.dropLast_eq_take]
  rfl
theorem cut_len {α : Type} {xs : List α} {lo hi : Option Int} : (cutG xs lo hi).length ≤ xs.length := by
  unfold cutG
  rw [List.length_take, List.length_drop]
  omega
theorem at_last {xs : List PyData} {x : PyData} : atI (xs ++ [x]) (-1) = some x := by
  have e : ixN (xs ++ [x]).length (-1) = some xs.length := by
    unfold ixN
    rw [if_neg (by decide), List.length_append]
    simp
    omega
  unfold atI
  rw [e]
  simp
theorem last_of {α : Type} {l : List α} (h : 0 < l.length) : ∃ i x, l = i ++ [x] := by
  cases e : l.reverse with
  | nil => rw [List.reverse_eq_nil_iff] at e; subst e; simp at h
  | cons a b => exact ⟨b.reverse, a, by rw [← List.reverse_reverse l, e, List.reverse_cons]⟩
theorem x_neSelf {d : PyData} {k : PyData → Prop} (h1 : SeqAt.shaped d = true) (q : k (.bool false)) : neD d d k := ⟨h1, h1, by rw [eqv_self h1]; exact q⟩
/-- a .. b - 1 -/
def rI (a b : Int) : List Int := (List.range (b - a).toNat).map fun i => a + (i : Nat)
theorem rgD_eq (a b : Int) : rgD a b = (rI a b).map .int := by unfold rgD rI; rw [List.map_map]; rfl
end DL

/-! Part 13: suites of an except clause, statement by statement. -/
namespace DL
open PySem PySem.Spec PyProof.Rows L2

def LSv (K : PySem.W.Frag) (a : Addr) (cls : Value) (d : Option Addr) (ts : DSu) : TS := fun D σ H => ∃ x ρ M N E, x.cls = cls ∧ ExD K (fz M N H) x d ∧ SRel K (fz M N H) σ ρ ∧ HRel K M N H ∧ ts a x E ρ M ∧ EndsOk K W0 M N H E D
structure DSusq (X : Cx) (st : List Stmt) (ts : DSu) : Prop where
  run : ∀ (a : Addr) (oe : Obj) (cls : Value) (d : Option Addr) (pn : List (Addr × Obj)), Zc cls d oe → (∃ vs, oe.data = .fields vs) → PSs (X.suite a ((a, oe) :: pn)) st (LSv X.K a cls d ts)
section
variable {X : Cx} {e : Expr} {t : DSE} {rest st : List Stmt} {ts : DSu} {pos : Pos}
theorem dsu_of (h : DSusq X st ts) : DSusp X st ts := ⟨fun a oe cls d pn hz hf => PSs.imp (h.run a oe cls d pn hz hf) fun D σ H ⟨x, ρ, M, N, E, hx, hed, _, hs, hr, ht, hE⟩ => ⟨x, ρ, M, N, E, hx, hed, hs, hr, ht, hE⟩⟩
theorem dsq_plain {t : DTS} (h : ∀ (a : Addr) (oe : Obj) (pn : List (Addr × Obj)), DSs (X.suite a ((a, oe) :: pn)) W0 st t) : DSusq X st (fun _ _ => t) :=
  ⟨fun a oe cls d pn hz hf => PSs.imp (h a oe pn).ps fun D σ H ⟨x, ρ, M, N, E, _, _, hs, hr, ht, hE⟩ => ⟨ρ, M, N, E, hs, hr, ht, hE⟩⟩
theorem dsq_ret (h : DXE X e t) : DSusq X [.Return (some e) pos] (xRet t) :=
  ⟨fun a oe cls d pn hz hf => PSs.imp (pss_one (ps_ret (h.run a oe cls d pn hz hf))) fun D σ H ⟨x, ρ, M, N, E, hx, hed, hs, hr, ht, hE⟩ =>
    ⟨x, ρ, M, N, E.rt, fun _ _ => False, hx, hed, hs, hr, ht, hE.rt, fun _ _ _ _ z => z.elim⟩⟩
/-- v = e, the rest of the suite -/
def xSet (i : Nat) (t : DSE) (ts : DSu) : DSu := fun a x E ρ M => t a x ρ M (fun v M1 => ts a x E (ρ.set i (some v)) M1) (fun _ _ => False)
theorem dsq_set {i : Nat} {n : Str} {pos' : Pos} (hN : X.N.Nodup) (h : DXE X e t) (hr : DSusq X rest ts) (hi : X.N[i]? = some n := by rfl) (hx : Loc X.env.scope n := by first | exact Or.inl rfl | exact Or.inr rfl)
    (hs : ∀ (a : Addr) (oe : Obj) (pn : List (Addr × Obj)), swapsWith e (some (.Name n pos')) pos.line (X.suite a ((a, oe) :: pn)).env = pure false := by intro _ _ _; rfl)
    (hf : X.fn n = true ∨ X.env.scope.names.lookup n = some .local := by first | exact .inl rfl | exact .inr rfl | assumption) : DSusq X (.Assign [.Name n pos'] e pos :: rest) (xSet i t ts) :=
  ⟨fun a oe cls d pn hz hf' => PSs.imp (pss_cons (ps_set (X := X.suite a ((a, oe) :: pn)) hN hi hx (h.run a oe cls d pn hz hf') (hs a oe pn) hf) (hr.run a oe cls d pn hz hf')) fun D σ H ⟨x, ρ, M, N, E, hx, hed, hs, hr, ht, hE⟩ =>
    ⟨x, ρ, M, N, (fun v M1 => ts a x E (ρ.set i (some v)) M1), fun _ _ => False, hx, hed, hs, hr, ht, fun y M' v H' p hr' af iv => ⟨x, ρ.set i (some y), M', N, E, hx, exD_mono af.fr hed, (hs.mono af.fr).set iv i, hr', p, hE.step af⟩, fun _ _ _ _ z => z.elim⟩⟩
theorem x_xSet {i : Nat} {a : Addr} {x : XD} {E : DEnds} {ρ : DEnv} {M : MHp} (q : t a x ρ M (fun v M1 => ts a x E (ρ.set i (some v)) M1) (fun _ _ => False)) : xSet i t ts a x E ρ M := q
end
end DL

/-! Part 14: dicts whose keys are ints and texts. -/
namespace DL
open PySem PySem.Spec PyProof.Rows L2

def keyData : Key → PyData
  | .inl i => .int i
  | .inr x => .str x
def valD (kvs : List (Key × DV)) (k : Key) : Option DV := (kvs.find? fun p => decide (p.1 = k)).map (·.2)
def putD (kvs : List (Key × DV)) (k : Key) (v : DV) : List (Key × DV) :=
  if (kvs.any fun kv => decide (kv.1 = k)) = true then kvs.map (fun kv => if kv.1 = k then (kv.1, v) else kv) else kvs ++ [(k, v)]
abbrev PKV (K : PySem.W.Frag) (F : Hp) : List (Key × V) → List (Key × DV) → Prop := Paired fun (p : Key × V) (q : Key × DV) => p.1 = q.1 ∧ IsD K F p.2 q.2
theorem isKey {K : PySem.W.Frag} {F : Hp} {v : V} {x : DV} {k : Key} (q : IsD K F v x) (h : asKey x = some k) : v = kV k := by
  cases x with
  | r _ => cases h
  | d z =>
    cases z with
    | int i => cases h; cases (show Dp _ _ _ _ from q); rfl
    | str i => cases h; cases (show Dp _ _ _ _ from q); rfl
    | _ => cases h
theorem pk_val {K : PySem.W.Frag} {F : Hp} {ws : List (Key × V)} {kvs : List (Key × DV)} (h : PKV K F ws kvs) (k : Key) : (valV ws k = none ∧ valD kvs k = none) ∨ ∃ v x, valV ws k = some v ∧ valD kvs k = some x ∧ IsD K F v x := by
  induction h with
  | nil => exact .inl ⟨rfl, rfl⟩
  | @cons p q ws kvs h1 h2 ih =>
    obtain ⟨e, i⟩ := h1
    by_cases hk : p.1 = k
    · refine .inr ⟨p.2, q.2, valV_pos hk, ?_, i⟩
      unfold valD
      rw [List.find?_cons, decide_eq_true (e ▸ hk : q.1 = k)]
      rfl
    · have e2 : valD (q :: kvs) k = valD kvs k := by
        unfold valD
        rw [List.find?_cons, decide_eq_false (fun z => hk (e.trans z) : ¬ q.1 = k)]
      rw [valV_neg hk, e2]
      exact ih
theorem pk_any {K : PySem.W.Frag} {F : Hp} {ws : List (Key × V)} {kvs : List (Key × DV)} (h : PKV K F ws kvs) (k : Key) : (ws.any fun p => decide (p.1 = k)) = kvs.any fun p => decide (p.1 = k) := by
  induction h with
  | nil => rfl
  | cons h1 h2 ih => rw [List.any_cons, List.any_cons, ih, h1.1]
theorem pk_repl {K : PySem.W.Frag} {F : Hp} {ws : List (Key × V)} {kvs : List (Key × DV)} {v : V} {x : DV} (h : PKV K F ws kvs) (k : Key) (i : IsD K F v x) : PKV K F (ws.map fun kv => if kv.1 = k then (kv.1, v) else kv) (kvs.map fun kv => if kv.1 = k then (kv.1, x) else kv) := by
  induction h with
  | nil => exact .nil
  | @cons p q ws kvs h1 h2 ih =>
    rw [List.map_cons, List.map_cons]
    refine .cons ?_ ih
    by_cases hk : p.1 = k
    · rw [if_pos hk, if_pos (h1.1 ▸ hk : q.1 = k)]
      exact ⟨h1.1, i⟩
    · rw [if_neg hk, if_neg (fun z => hk (h1.1.trans z) : ¬ q.1 = k)]
      exact h1
theorem pk_snoc {K : PySem.W.Frag} {F : Hp} {ws : List (Key × V)} {kvs : List (Key × DV)} {v : V} {x : DV} (h : PKV K F ws kvs) (k : Key) (i : IsD K F v x) : PKV K F (ws ++ [(k, v)]) (kvs ++ [(k, x)]) := by
  induction h with
  | nil => exact .cons ⟨rfl, i⟩ .nil
  | cons h1 h2 ih => exact .cons h1 ih
theorem pk_put {K : PySem.W.Frag} {F : Hp} {ws : List (Key × V)} {kvs : List (Key × DV)} {v : V} {x : DV} (h : PKV K F ws kvs) (k : Key) (i : IsD K F v x) : PKV K F (putK ws k v) (putD kvs k x) := by
  unfold putK putD
  rw [pk_any h k]
  split
  · exact pk_repl h k i
  · exact pk_snoc h k i
theorem pk_mono {K : PySem.W.Frag} {F G : Hp} (s : Same F G) {ws : List (Key × V)} {kvs : List (Key × DV)} (h : PKV K F ws kvs) : PKV K G ws kvs := Paired.mapP h fun _ _ z => ⟨z.1, isD_mono s z.2⟩
section
variable {K : PySem.W.Frag} {M : MHp} {N : Hid} {H : Hp}
theorem dk_at (hr : HRel K M N H) {a : Addr} {kvs : List (Key × DV)} (e : M a = some (.dk kvs)) : ∃ ws, H a = some (.dK ws) ∧ PKV K (fz M N H) ws kvs := by
  obtain ⟨o, h1, h2⟩ := hr.obj a _ e
  cases o with
  | dK ws => exact ⟨ws, h1, h2⟩
  | _ => exact (show False from h2).elim
end
section
variable {X : Cx} {W : WX} {e o i f value : Expr} {es : List Expr} {te to ti tx tv : DTE} {ta : DTA} {pos pos' apos cpos : Pos}
/-- {} -/
def eDkM : DTE := fun _ M P _ => ∀ p, M p = none → P (.r p) (mu M p (.dk []))
theorem de_dkM : DE X W (.Dict [] [] pos) eDkM := ⟨PE.imp pe_dnewK fun σ H Q ⟨ρ, M, N, P, PX, hs, hr, ht, hP, hX⟩ => fun p hp => by
  obtain ⟨r2, a2⟩ := hr.new (x := .dk []) (o := .dK []) hp .nil
  exact hP _ _ _ _ (ht p (hr.free hp).1) r2 a2 rfl⟩
/-- d[k] -/
def gGetK : D2 := fun x y M P => match x, asKey y with
  | .r a, some k => match M a with
    | some (.dk kvs) => ∃ v, valD kvs k = some v ∧ P v M
    | _ => False
  | _, _ => False
theorem de_getK (hu : X.A.units + 1 < cLine) (ho : DE X W o to) (hi : DE X W i ti) (hs : NoSl i) : DE X W (.Subscript o i pos) (eOp gGetK to ti) :=
  ⟨PE.imp (pe_dget hu ho.pe hi.pe hs) fun σ H Q ⟨ρ, M, N, P, PX, hs, hr, ht, hP, hX⟩ => ⟨ρ, M, N, _, PX, hs, hr, ht, fun x M1 v H1 p hr1 af1 iv => ⟨ρ, M1, N, _, PX, hs.mono af1.fr, hr1, p, fun y M2 u H2 p2 hr2 af2 iu => by
    unfold gGetK at p2
    split at p2
    · rename_i a k hk
      split at p2
      · rename_i kvs q
        obtain ⟨w, hw, pw⟩ := p2
        obtain ⟨ws, h1, h2⟩ := dk_at hr2 q
        rcases pk_val h2 k with z | ⟨v', x', z1, z2, z3⟩
        · rw [z.2] at hw; cases hw
        · rw [z2] at hw
          cases hw
          refine ⟨a, v', iv, ?_, hP _ M2 _ H2 pw hr2 (af1.trans af2) z3⟩
          rw [isKey iu hk, ← z1]
          exact DGet.k h1
      · exact p2.elim
    · exact p2.elim, hX.step af1⟩, hX⟩⟩
/-- d[k] = v -/
def putDK (x y v : DV) (M : MHp) (K : MHp → Prop) : Prop := match x, asKey y with
  | .r a, some k => match M a with
    | some (.dk kvs) => kvs.length < sizeLine ∧ K (mu M a (.dk (putD kvs k v)))
    | _ => False
  | _, _ => False
def sPutK (to ti tv : DTE) : DTS := fun E ρ M => tv ρ M (fun v M1 => to ρ M1 (fun x M2 => ti ρ M2 (fun y M3 => putDK x y v M3 fun M4 => E.nx ρ M4) fun x M1 => E.ex x ρ M1) fun x M1 => E.ex x ρ M1) fun x M1 => E.ex x ρ M1
theorem ds_putK (hu : X.A.units + 1 < cLine) (ho : DE X W o to) (hi : DE X W i ti) (hv : DE X W value tv) (hs : swapsWith value (some (.Subscript o i pos')) pos.line X.env = pure false := by rfl) : DS X W (.Assign [.Subscript o i pos'] value pos) (sPutK to ti tv) :=
  ⟨PS.imp (ps_dput hu ho.pe hi.pe hv.pe hs) fun D σ H ⟨ρ, M, N, E, hs, hr, ht, hE⟩ => ⟨ρ, M, N, _, _, hs, hr, ht, fun v M1 u H1 p1 hr1 af1 iv => ⟨ρ, M1, N, _, _, hs.mono af1.fr, hr1, p1, fun x M2 w H2 p2 hr2 af2 iw =>
    ⟨ρ, M2, N, _, _, (hs.mono af1.fr).mono af2.fr, hr2, p2, fun y M3 z H3 p3 hr3 af3 iz => by
      unfold putDK at p3
      split at p3
      · rename_i a k hk
        split at p3
        · rename_i kvs q
          obtain ⟨hl, p3⟩ := p3
          obtain ⟨ws, h1, h2⟩ := dk_at hr3 q
          have afs := (af1.trans af2).trans af3
          obtain ⟨r4, a4⟩ := hr3.write (x := .dk (putD kvs k v)) (o := .dK (putK ws k u)) q (pk_put h2 k (isD_mono (af2.trans af3).fr iv))
          refine ⟨a, _, iw, ?_, hE.nx _ _ _ _ p3 (hs.mono (afs.trans a4).fr) r4 (afs.trans a4)⟩
          rw [isKey iz hk]
          exact DPut.k h1 (by rw [paired_len h2]; exact hl)
        · exact p3.elim
      · exact p3.elim, ((hE.step af1).step af2).xend ((hs.mono af1.fr).mono af2.fr)⟩, (hE.step af1).xend (hs.mono af1.fr)⟩, hE.xend hs⟩⟩
/-- d.get(k, x) -/
def isDk (x : DV) (M : MHp) : Prop := match x with
  | .r a => match M a with | some (.dk _) => True | _ => False
  | _ => False
def getDK (x y z : DV) (M : MHp) (P : DK) : Prop := match x, asKey y with
  | .r a, some k => match M a with
    | some (.dk kvs) => P ((valD kvs k).getD z) M
    | _ => False
  | _, _ => False
def eGet2 (to ti tx : DTE) : DTE := fun ρ M P PX => to ρ M (fun x M1 => isDk x M1 ∧ ti ρ M1 (fun y M2 => tx ρ M2 (fun z M3 => getDK x y z M3 P) PX) PX) PX
theorem isDk_of {K : PySem.W.Frag} {M : MHp} {N : Hid} {H : Hp} {x : DV} {v : V} (hr : HRel K M N H) (i : IsD K (fz M N H) v x) (h : isDk x M) : ∃ a, v = .ref a ∧ L2.IsD H a := by
  unfold isDk at h
  split at h
  · rename_i a
    split at h
    · rename_i kvs q
      obtain ⟨ws, h1, h2⟩ := dk_at hr q
      exact ⟨a, i, .inl ⟨ws, .inl h1⟩⟩
    · exact h.elim
  · exact h.elim
theorem de_get2 (hu : X.A.units + 1 < cLine) (ho : DE X W o to) (he : DE X W e ti) (hf : DE X W f tx) (m : M2 X o "get" apos e f cpos) : DE X W (.Call (.Attribute o "get" apos) [e, f] [] cpos) (eGet2 to ti tx) :=
  ⟨PE.imp (pe_dget2 hu ho.pe he.pe hf.pe m) fun σ H Q ⟨ρ, M, N, P, PX, hs, hr, ht, hP, hX⟩ => ⟨ρ, M, N, _, PX, hs, hr, ht, fun x M1 v H1 p hr1 af1 iv => by
    obtain ⟨a, ea, da⟩ := isDk_of hr1 iv p.1
    refine ⟨a, ea, da, ρ, M1, N, _, PX, hs.mono af1.fr, hr1, p.2, fun y M2 u H2 p2 hr2 af2 iu => ⟨ρ, M2, N, _, PX, (hs.mono af1.fr).mono af2.fr, hr2, p2, fun z M3 w H3 p3 hr3 af3 iw => ?_, (hX.step af1).step af2⟩, hX.step af1⟩
    unfold getDK at p3
    split at p3
    · rename_i a' k hk
      split at p3
      · rename_i kvs q
        obtain ⟨ws, h1, h2⟩ := dk_at hr3 q
        cases (iv : v = .ref a').symm.trans ea
        refine ⟨valV ws k, ?_, ?_⟩
        · rw [isKey iu hk]
          exact DGet.k h1
        · refine hP _ M3 _ H3 p3 hr3 ((af1.trans af2).trans af3) ?_
          rcases pk_val h2 k with z | ⟨v', x', z1, z2, z3⟩
          · rw [z.1, z.2]; exact iw
          · rw [z1, z2]; exact z3
      · exact p3.elim
    · exact p3.elim, hX⟩⟩
end
end DL

/-! Part 15: instances of own classes, their fields and methods. -/
namespace DL
open PySem PySem.Spec PyProof.Rows L2

/-! ### methods and new instances, where exceptions may come out -/
section
variable {X : Cx} {CX : CXT} {k : Nat} {f C : Addr} {fd : FuncData} {ps : List Str} {sp : Sp} {E : L2.St → XK} {x m : Str} {p pos apos : Pos} {e o : Expr} {es : List Expr} {ta : TE} {t : TA}
def tMethS (C : Addr) (m : Str) (sp : Sp) (E : L2.St → XK) (ta : TE) (t : TA) : TE := fun σ H Q => ta σ H fun x H1 => ∃ a dx fs, x = .ref a ∧ H1 a = some (.ins C dx fs) ∧ fs.lookup m = none ∧ t σ H1 fun vs H2 => sp (x :: vs) H2 Q (E σ)
theorem pe_methT {pl : Sem Bool} (he : PE X o ta) (c : Cls X.K C) (hm : Meth X.K C m f) (F : FnOk X.prog X.w X.K X.mg X.base CX k f fd ps sp) (hr : Room k X.A) (hb : Binds X.K fd ps []) (hx : ∀ σ, PassesAt CX X σ (E σ)) (ha : PA X (e :: es) t)
    (hst : starEach (e :: es) X.env = (false, eval e X.env) :: starEach es X.env) (hpl : (backTo pos (starEach es X.env)).any (·.1) = false)
    (ht : eval (.Call (.Attribute o m apos) (e :: es) [] pos) X.env = (do
      let ov ← eval o X.env
      standAt apos.atName
      let (f, first) ← holding [ov] (getMethod ov m pl)
      callWith pos f first (backTo pos (starEach (e :: es) X.env)) (backToKw pos (keywordEach [] X.env)))) :
    PE X (.Call (.Attribute o m apos) (e :: es) [] pos) (tMethS C m sp E ta t) := by
  refine ⟨fun pins s σ H Q I h => ?_⟩
  refine PySem.W.methodCall_KW (pl := pl) (thn (he.run pins s σ H _ I h) fun u s1 ⟨x, H1, I1, rx, a, dx, fs, ex, ea, l, q⟩ => ?_) ht
  subst ex
  obtain rfl : u = Value.ref a := rx
  refine getmeth_ok I1 ea c hm l ?_
  refine PySem.W.callWith_K (first := [.ref a]) (h₀ := X.base) I.ok.mod.kin hm.kp (thn (ha.run pos pins s1 σ H1 _ I1 q) fun us s2 ⟨vs, H2, I2, r, q2⟩ => ⟨I2.kIn, ?_⟩) hst hpl
  exact run_fnS (us := .ref a :: us) (vs := .ref a :: vs) F hr hb (hx σ) I2 (.cons rfl r) q2
theorem pe_methT0 {pl : Sem Bool} (he : PE X o ta) (c : Cls X.K C) (hm : Meth X.K C m f) (F : FnOk X.prog X.w X.K X.mg X.base CX k f fd ps sp) (hr : Room k X.A) (hb : Binds X.K fd ps []) (hx : ∀ σ, PassesAt CX X σ (E σ))
    (ht : eval (.Call (.Attribute o m apos) [] [] pos) X.env = (do
      let ov ← eval o X.env
      standAt apos.atName
      let (f, first) ← holding [ov] (getMethod ov m pl)
      callWith pos f first (backTo pos (starEach [] X.env)) (backToKw pos (keywordEach [] X.env)))) :
    PE X (.Call (.Attribute o m apos) [] [] pos) (tMethS C m sp E ta tNil) := by
  refine ⟨fun pins s σ H Q I h => ?_⟩
  refine PySem.W.methodCall_KW (pl := pl) (thn (he.run pins s σ H _ I h) fun u s1 ⟨x, H1, I1, rx, a, dx, fs, ex, ea, l, q⟩ => ?_) ht
  subst ex
  obtain rfl : u = Value.ref a := rx
  refine getmeth_ok I1 ea c hm l ?_
  exact PySem.W.callWith_K0 (first := [.ref a]) I1.kIn hm.kp (run_fnS (us := [.ref a]) (vs := [.ref a]) F hr hb (hx σ) I1 (.cons rfl .nil) q)
theorem run_makeT {pins : List (Addr × Obj)} {σ : L2.St} {H : Hp} {s : Shared} {Q : VK} {us : List Value} {vs : List V} {E : XK} (M : Mk X.K C f) (F : FnOk X.prog X.w X.K X.mg X.base CX k f fd ps sp) (hr : Room (k + 1) X.A) (hb : Binds X.K fd ps [])
    (hx : PassesAt CX X σ E) (I : Inv X pins σ H s) (r : Vals vs us)
    (h : ∀ x dx, H x = none → H dx = none → dx ≠ x → sp (.ref x :: vs) (upd (upd H dx (.own x)) x (.ins C dx [])) (fun v H2 => v = .non ∧ Q (.ref x) H2) E) :
    wpAny (model X.prog X.w) X.A (call (.ref C) us) (EP X pins σ Q) X.xe s := by
  have hq := h (s.heap.objs.size + 1) s.heap.objs.size (I.hok.fresh (Nat.le_succ _)) (I.hok.fresh (Nat.le_refl _)) (Nat.ne_of_lt (Nat.lt_succ_self _))
  have I2 := Inv.made (C := C) I
  have r2 : Vals (V.ref (s.heap.objs.size + 1) :: vs) (Value.ref (s.heap.objs.size + 1) :: us) := .cons rfl r
  have hl : (Value.ref (s.heap.objs.size + 1) :: us).length = ps.length := by
    have e := r2.length
    rw [F.len _ _ _ _ hq] at e
    exact e.symm
  have b := hb _ (Value.ref (s.heap.objs.size + 1) :: us) I2.kIn (by rw [List.append_nil]; exact hl)
  rw [List.append_nil] at b
  refine wpAny_call (make_map (f := f) I.kIn M.makes M.init (beq_iff_eq.mp M.fn) (codeAny_mono (F.run _ X.stack _ _ ⟨Value.ref (s.heap.objs.size + 1) :: us, []⟩ (Value.ref (s.heap.objs.size + 1) :: us) _ _ E (hr.make C us [])
    (I2.env0.make C us []) b r2 hq) fun r s' hq' => ?_))
  cases r with
  | error e => exact hx pins _ _ e s' I2 hq'
  | ok fl =>
    cases fl with
    | ret u =>
      obtain ⟨v, H', I3, rv, ev, q3⟩ := I2.after hq'
      subst ev
      exact ⟨rv, ⟨V.ref (s.heap.objs.size + 1), H', I3, rfl, q3⟩⟩
    | next => exact False.elim hq'
    | brk => exact False.elim hq'
    | cont => exact False.elim hq'
def tMakeS (C : Addr) (sp : Sp) (E : L2.St → XK) (t : TA) : TE := fun σ H Q => t σ H fun vs H1 => ∀ x dx, H1 x = none → H1 dx = none → dx ≠ x →
  sp (.ref x :: vs) (upd (upd H1 dx (.own x)) x (.ins C dx [])) (fun v H2 => v = .non ∧ Q (.ref x) H2) (E σ)
theorem pe_makeT (M : Mk X.K C f) (F : FnOk X.prog X.w X.K X.mg X.base CX k f fd ps sp) (hr : Room (k + 1) X.A) (hg : Gl X x) (hm : X.mg x = some (.ref C)) (hb : Binds X.K fd ps []) (hx : ∀ σ, PassesAt CX X σ (E σ))
    (ha : PA X (e :: es) t) (hdb : (x == ("__debug__" : Str)) = false) (he : starEach (e :: es) X.env = (false, eval e X.env) :: starEach es X.env) (hpl : (backTo pos (starEach es X.env)).any (·.1) = false) :
    PE X (.Call (.Name x p) (e :: es) [] pos) (tMakeS C sp E t) := by
  refine ⟨fun pins s σ H Q I h => ?_⟩
  refine wpAny_Call_Name_kw (ld_glob I hg hm ?_ hdb)
  refine PySem.W.callWith_K (h₀ := X.base) I.ok.mod.kin M.kp (thn (ha.run pos pins s σ H _ I h) fun us s1 ⟨vs, H1, I1, r, q⟩ => ⟨I1.kIn, ?_⟩) he hpl
  exact run_makeT M F hr hb (hx σ) I1 r q
end

/-! ### readings -/
def setF (f : Str) (v : DV) (fs : List (Str × DV)) : List (Str × DV) := match fs with
  | [] => [(f, v)]
  | p :: r => if p.1 = f then (f, v) :: r else p :: setF f v r
/-- x is an instance of the class at C -/
def insD (C : Addr) (x : DV) (M : MHp) (k : Addr → Addr → List (Str × DV) → Prop) : Prop := match x with
  | .r a => match M a with
    | some (.ins C' dx fs) => C' = C ∧ k a dx fs
    | _ => False
  | _ => False
def eFld (C : Addr) (f : Str) (te : DTE) : DTE := fun ρ M P PX => te ρ M (fun x M1 => insD C x M1 fun _ _ fs => ∃ v, fs.lookup f = some v ∧ P v M1) PX
def sFldD (C : Addr) (f : Str) (to tv : DTE) : DTS := fun E ρ M => tv ρ M (fun v M1 => to ρ M1 (fun x M2 => insD C x M2 fun a dx fs => fs.length < 1000 ∧ E.nx ρ (mu M2 a (.ins C dx (setF f v fs)))) fun x M1 => E.ex x ρ M1) fun x M1 => E.ex x ρ M1
def eMeth (C : Addr) (m : Str) (sp : DSp) (to : DTE) (ta : DTA) : DTE := fun ρ M P PX => to ρ M (fun x M1 => insD C x M1 fun _ _ fs => fs.lookup m = none ∧ ta ρ M1 (fun xs M2 => sp (x :: xs) M2 P PX) PX) PX
def eMake (C : Addr) (sp : DSp) (ta : DTA) : DTE := fun ρ M P PX => ta ρ M (fun xs M1 => ∀ a dx, M1 a = none → M1 dx = none → dx ≠ a → sp (.r a :: xs) (mu M1 a (.ins C dx [])) (fun v M2 => v = .d .none ∧ P (.r a) M2) PX) PX

abbrev PF (K : PySem.W.Frag) (F : Hp) : List (Str × V) → List (Str × DV) → Prop := Paired fun (p : Str × V) (q : Str × DV) => p.1 = q.1 ∧ IsD K F p.2 q.2
theorem lookup_pos {α : Type} {f : Str} {p : Str × α} {r : List (Str × α)} (h : p.1 = f) : (p :: r).lookup f = some p.2 := by
  obtain ⟨g, x⟩ := p
  subst h
  rw [List.lookup_cons, show (g == g) = true from by simp]
theorem lookup_neg {α : Type} {f : Str} {p : Str × α} {r : List (Str × α)} (h : ¬ p.1 = f) : (p :: r).lookup f = r.lookup f := by
  obtain ⟨g, x⟩ := p
  have : (f == g) = false := beq_eq_false_iff_ne.mpr fun z => h z.symm
  rw [List.lookup_cons, this]
theorem pf_some {K : PySem.W.Frag} {F : Hp} {ws : List (Str × V)} {fs : List (Str × DV)} (h : PF K F ws fs) {f : Str} {x : DV} (e : fs.lookup f = some x) : ∃ v, ws.lookup f = some v ∧ IsD K F v x := by
  induction h with
  | nil => cases e
  | @cons p q ws fs h1 h2 ih =>
    by_cases hk : p.1 = f
    · rw [lookup_pos (h1.1 ▸ hk : q.1 = f)] at e
      cases e
      exact ⟨p.2, lookup_pos hk, h1.2⟩
    · rw [lookup_neg (fun z => hk (h1.1.trans z) : ¬ q.1 = f)] at e
      rw [lookup_neg hk]
      exact ih e
theorem pf_none {K : PySem.W.Frag} {F : Hp} {ws : List (Str × V)} {fs : List (Str × DV)} (h : PF K F ws fs) {f : Str} (e : fs.lookup f = none) : ws.lookup f = none := by
  induction h with
  | nil => rfl
  | @cons p q ws fs h1 h2 ih =>
    by_cases hk : p.1 = f
    · rw [lookup_pos (h1.1 ▸ hk : q.1 = f)] at e
      cases e
    · rw [lookup_neg (fun z => hk (h1.1.trans z) : ¬ q.1 = f)] at e
      rw [lookup_neg hk]
      exact ih e
theorem pf_put {K : PySem.W.Frag} {F : Hp} {ws : List (Str × V)} {fs : List (Str × DV)} (h : PF K F ws fs) (f : Str) {v : V} {x : DV} (i : IsD K F v x) : PF K F (putF f v ws) (setF f x fs) := by
  induction h with
  | nil => exact .cons ⟨rfl, i⟩ .nil
  | @cons p q ws fs h1 h2 ih =>
    obtain ⟨g, y⟩ := p
    show PF K F (if g = f then (g, v) :: ws else (g, y) :: putF f v ws) (if q.1 = f then (f, x) :: fs else q :: setF f x fs)
    have e : g = q.1 := h1.1
    by_cases hk : g = f
    · rw [if_pos hk, if_pos (e ▸ hk)]
      exact .cons ⟨hk, i⟩ h2
    · rw [if_neg hk, if_neg (fun z => hk (e.trans z))]
      exact .cons h1 ih
section
variable {K : PySem.W.Frag} {M : MHp} {N : Hid} {H : Hp}
theorem ins_at (hr : HRel K M N H) {a C dx : Addr} {fs : List (Str × DV)} (e : M a = some (.ins C dx fs)) : ∃ ws, H a = some (.ins C dx ws) ∧ PF K (fz M N H) ws fs := by
  obtain ⟨o, h1, h2⟩ := hr.obj a _ e
  cases o with
  | ins C' dx' ws =>
    obtain ⟨rfl, rfl, q⟩ := (show _ ∧ _ ∧ _ from h2)
    exact ⟨ws, h1, q⟩
  | _ => exact (show False from h2).elim
theorem insD_of {C : Addr} {x : DV} {v : V} {k : Addr → Addr → List (Str × DV) → Prop} (hr : HRel K M N H) (i : IsD K (fz M N H) v x) (h : insD C x M k) : ∃ a dx fs ws, v = .ref a ∧ x = .r a ∧ M a = some (.ins C dx fs) ∧ H a = some (.ins C dx ws) ∧ PF K (fz M N H) ws fs ∧ k a dx fs := by
  unfold insD at h
  split at h
  · rename_i a
    split at h
    · rename_i C' dx fs q
      obtain ⟨rfl, h⟩ := h
      obtain ⟨ws, h1, h2⟩ := ins_at hr q
      exact ⟨a, dx, fs, ws, i, rfl, q, h1, h2, h⟩
    · exact h.elim
  · exact h.elim
end
section
variable {X : Cx} {W : WX} {k : Nat} {f C : Addr} {fd : FuncData} {ps : List Str} {sp : DSp} {x m : Str} {p pos pos' apos : Pos} {e o value : Expr} {es : List Expr} {ta : DTA} {te to tv : DTE}
theorem de_fld {n : Str} (c : Cls X.K C) (na : NoAttr X.K C n) (he : DE X W e te) (hb : attributeBase e n X.env (eval e X.env) = eval e X.env := by rfl) : DE X W (.Attribute e n pos) (eFld C n te) :=
  ⟨PE.imp (pe_fld he.pe hb) fun σ H Q ⟨ρ, M, N, P, PX, hs, hr, ht, hP, hX⟩ => ⟨ρ, M, N, _, PX, hs, hr, ht, fun x M1 v H1 p hr1 af1 iv => by
    obtain ⟨a, dx, fs, ws, rfl, rfl, h1, h2, h3, w, hw, pw⟩ := insD_of hr1 iv p
    obtain ⟨u, hu, iu⟩ := pf_some h3 hw
    exact ⟨a, C, dx, ws, u, rfl, h2, c, na, hu, hP _ M1 _ H1 pw hr1 af1 iu⟩, hX⟩⟩
theorem ds_fld {n : Str} (c : Cls X.K C) (na : NoAttr X.K C n) (ho : DE X W o to) (hv : DE X W value tv) (hs : swapsWith value (some (.Attribute o n pos')) pos.line X.env = pure false := by rfl) : DS X W (.Assign [.Attribute o n pos'] value pos) (sFldD C n to tv) :=
  ⟨PS.imp (ps_fld ho.pe hv.pe hs) fun D σ H ⟨ρ, M, N, E, hs, hr, ht, hE⟩ => ⟨ρ, M, N, _, _, hs, hr, ht, fun v M1 u H1 p1 hr1 af1 iv => ⟨ρ, M1, N, _, _, hs.mono af1.fr, hr1, p1, fun x M2 w H2 p2 hr2 af2 iw => by
    obtain ⟨a, dx, fs, ws, rfl, rfl, h1, h2, h3, hl, q⟩ := insD_of hr2 iw p2
    have af := af1.trans af2
    obtain ⟨r4, a4⟩ := hr2.write (x := .ins C dx (setF n v fs)) (o := .ins C dx (putF n u ws)) h1 ⟨rfl, rfl, pf_put h3 n (isD_mono af2.fr iv)⟩
    exact ⟨a, C, dx, ws, rfl, h2, c, na, by rw [paired_len h3]; exact hl, hE.nx _ _ _ _ q (hs.mono (af.trans a4).fr) r4 (af.trans a4)⟩, (hE.step af1).xend (hs.mono af1.fr)⟩, hE.xend hs⟩⟩
/-- a method as it stands -/
def MetC (P : Program) (w : World) (K : PySem.W.Frag) (mg : Str → Option Value) (base : Heap) (k : Nat) (C : Addr) (m : Str) (ps : List Str) (sp : DSp) : Prop :=
  ∃ f fd, DFn P w K mg base k f fd ps sp ∧ Meth K C m f ∧ Binds K fd ps []
/-- a class as it stands, with its __init__ -/
def MakC (P : Program) (w : World) (K : PySem.W.Frag) (mg : Str → Option Value) (base : Heap) (k : Nat) (C : Addr) (x : Str) (ps : List Str) (sp : DSp) : Prop :=
  ∃ f fd, DFn P w K mg base k f fd ps sp ∧ Mk K C f ∧ Binds K fd ps [] ∧ mg x = some (.ref C)
theorem meth_imp {σ : L2.St} {H : Hp} {Q : VK} {K : PySem.W.Frag} {ta' : TA} (hta : ∀ σ H Q, LA K W ta σ H Q → ta' σ H Q) (h : LE K W (eMeth C m sp to ta) σ H Q) : tMethS C m (liftSp K sp) (WE W) (LE K W to) ta' σ H Q := by
  obtain ⟨ρ, M, N, P, PX, hs, hr, ht, hP, hX⟩ := h
  refine ⟨ρ, M, N, _, PX, hs, hr, ht, fun x M1 v H1 p hr1 af1 iv => ?_, hX⟩
  obtain ⟨a, dx, fs, ws, rfl, rfl, h1, h2, h3, hl, q⟩ := insD_of hr1 iv p
  refine ⟨a, dx, ws, rfl, h2, pf_none h3 hl, hta _ _ _ ⟨ρ, M1, N, _, PX, hs.mono af1.fr, hr1, q, fun xs M2 vs H2 p2 hr2 af2 ivs => ?_, hX.step af1⟩⟩
  exact ⟨.r a :: xs, M2, N, P, PX, .cons rfl ivs, hr2, p2, fun z M3 v H3 pz r3 a3 iz => hP z M3 v H3 pz r3 ((af1.trans af2).trans a3) iz, (hX.step af1).step af2⟩
theorem de_meth {pl : Sem Bool} (c : Cls X.K C) (mt : MetC X.prog X.w X.K X.mg X.base k C m ps sp) (hr : Room k X.A) (tk : Takes X W) (ho : DE X W o to) (ha : DA X W (e :: es) ta)
    (hst : starEach (e :: es) X.env = (false, eval e X.env) :: starEach es X.env := by rfl) (hpl : (backTo pos (starEach es X.env)).any (·.1) = false := by rfl)
    (ht : eval (.Call (.Attribute o m apos) (e :: es) [] pos) X.env = (do
      let ov ← eval o X.env
      standAt apos.atName
      let (f, first) ← holding [ov] (getMethod ov m pl)
      callWith pos f first (backTo pos (starEach (e :: es) X.env)) (backToKw pos (keywordEach [] X.env))) := by rfl) :
    DE X W (.Call (.Attribute o m apos) (e :: es) [] pos) (eMeth C m sp to ta) := by
  obtain ⟨f, fd, F, hm, hb⟩ := mt
  exact ⟨PE.imp (pe_methT ho.pe c hm F hr hb (fun σ => passAt tk σ) ha.pa hst hpl ht) fun _ _ _ h => meth_imp (fun _ _ _ q => q) h⟩
theorem de_meth0 {pl : Sem Bool} (c : Cls X.K C) (mt : MetC X.prog X.w X.K X.mg X.base k C m ps sp) (hr : Room k X.A) (tk : Takes X W) (ho : DE X W o to)
    (ht : eval (.Call (.Attribute o m apos) [] [] pos) X.env = (do
      let ov ← eval o X.env
      standAt apos.atName
      let (f, first) ← holding [ov] (getMethod ov m pl)
      callWith pos f first (backTo pos (starEach [] X.env)) (backToKw pos (keywordEach [] X.env))) := by rfl) :
    DE X W (.Call (.Attribute o m apos) [] [] pos) (eMeth C m sp to aNil) := by
  obtain ⟨f, fd, F, hm, hb⟩ := mt
  exact ⟨PE.imp (pe_methT0 ho.pe c hm F hr hb (fun σ => passAt tk σ) ht) fun _ _ _ h => meth_imp (fun σ H Q ⟨ρ, M, N, P, PX, hs, hr, ht, hP, hX⟩ => hP _ M _ H ht hr .refl .nil) h⟩
theorem de_make (mk : MakC X.prog X.w X.K X.mg X.base k C x ps sp) (hr : Room (k + 1) X.A) (tk : Takes X W) (ha : DA X W (e :: es) ta) (hg : Gl X x := by rfl) (hdb : (x == ("__debug__" : Str)) = false := by decide)
    (he : starEach (e :: es) X.env = (false, eval e X.env) :: starEach es X.env := by rfl) (hpl : (backTo pos (starEach es X.env)).any (·.1) = false := by rfl) : DE X W (.Call (.Name x p) (e :: es) [] pos) (eMake C sp ta) := by
  obtain ⟨f, fd, F, hm, hb, hmg⟩ := mk
  refine ⟨PE.imp (pe_makeT hm F hr hg hmg hb (fun σ => passAt tk σ) ha.pa hdb he hpl) fun σ H Q ⟨ρ, M, N, P, PX, hs, hr, ht, hP, hX⟩ => ⟨ρ, M, N, _, PX, hs, hr, ht, fun xs M1 vs H1 p hr1 af1 ivs => ?_, hX⟩⟩
  intro a dx na nd ne
  have s1 : Same H1 (upd H1 dx (.own a)) := same_new nd
  have r2 := hr1.grow s1
  have a2 := Af.grow hr1 s1
  have na' : (upd H1 dx (.own a)) a = none := by rw [upd_ne (Ne.symm ne)]; exact na
  obtain ⟨r3, a3⟩ := r2.new (x := .ins C dx []) (o := .ins C dx []) na' ⟨rfl, rfl, .nil⟩
  have af := (af1.trans a2).trans a3
  refine ⟨.r a :: xs, _, N, _, PX, .cons rfl (areD_mono (a2.trans a3).fr ivs), r3, p a dx (hr1.free na).1 (hr1.free nd).1 ne, fun z M4 v H4 pz r4 a4 iz => ?_, hX.step af⟩
  obtain ⟨rfl, pz⟩ := pz
  cases (show Dp _ _ _ _ from iz)
  exact ⟨rfl, hP _ M4 _ H4 pz r4 (af.trans a4) rfl⟩
end
section
variable {ρ : DEnv} {M : MHp} {P : DK} {PX : DX} {te to tv : DTE} {ta : DTA} {C a dx : Addr} {f : Str} {fs : List (Str × DV)} {v : DV} {E : DEnds} {k : Addr → Addr → List (Str × DV) → Prop} {sp : DSp}
theorem x_insD (h : M a = some (.ins C dx fs)) (q : k a dx fs) : insD C (.r a) M k := by
  unfold insD
  simp only [h]
  exact ⟨trivial, q⟩
theorem x_fld (q : te ρ M (fun x M1 => insD C x M1 fun _ _ fs => ∃ v, fs.lookup f = some v ∧ P v M1) PX) : eFld C f te ρ M P PX := q
theorem x_sfld (q : tv ρ M (fun v M1 => to ρ M1 (fun x M2 => insD C x M2 fun a dx fs => fs.length < 1000 ∧ E.nx ρ (mu M2 a (.ins C dx (setF f v fs)))) fun x M1 => E.ex x ρ M1) fun x M1 => E.ex x ρ M1) : sFldD C f to tv E ρ M := q
theorem x_meth (q : to ρ M (fun x M1 => insD C x M1 fun _ _ fs => fs.lookup f = none ∧ ta ρ M1 (fun xs M2 => sp (x :: xs) M2 P PX) PX) PX) : eMeth C f sp to ta ρ M P PX := q
theorem x_make (q : ta ρ M (fun xs M1 => ∀ a dx, M1 a = none → M1 dx = none → dx ≠ a → sp (.r a :: xs) (mu M1 a (.ins C dx [])) (fun v M2 => v = .d .none ∧ P (.r a) M2) PX) PX) : eMake C sp ta ρ M P PX := q
theorem x_dkM (q : ∀ p, M p = none → P (.r p) (mu M p (.dk []))) : eDkM ρ M P PX := q
end
end DL

/-! Part 16: comprehensions of two clauses. -/
namespace DL
open PySem PySem.Spec PyProof.Rows L2

/-- what is left of the inner clause -/
def lcJ (xs1 : List DV) (C1 : MHp → Prop) (g1 : DTG) (tt1 : DTT) (te : DTE) (vs1 : List Nat) (ρ2 : DEnv) (M4 : MHp) (acc : List DV) (K : List DV → MHp → Prop) : Prop := ∃ I1 : Nat → List DV → MHp → Prop, (∃ M', MLe M' M4 ∧ I1 0 acc M') ∧ (∀ j acc M, j ≤ xs1.length → I1 j acc M → C1 M) ∧
  (∀ j acc M x, xs1[j]? = some x → I1 j acc M → g1 x (wipeD ρ2 vs1) M (fun ρ3 M5 => tt1 ρ3 M5 (fun b M6 => if b = true then te ρ3 M6 (fun y M7 => acc.length < sizeLine ∧ ∃ M', MLe M' M7 ∧ I1 (j + 1) (acc ++ [y]) M') fun _ _ => False else ∃ M', MLe M' M6 ∧ I1 (j + 1) acc M') fun _ _ => False) fun _ _ => False) ∧
  ∀ acc M, I1 xs1.length acc M → K acc M
/-- what is left of it all when the outer list is known -/
def lcI2 (fin : Fin') (xs : List DV) (C : MHp → Prop) (g : DTG) (tt : DTT) (wi1 : DTI) (g1 : DTG) (tt1 : DTT) (te : DTE) (vs vs1 : List Nat) (ρ : DEnv) (M1 : MHp) (P : DK) : Prop := ∃ I : Nat → List DV → MHp → Prop, (∃ M', MLe M' M1 ∧ I 0 [] M') ∧ (∀ i acc M, i ≤ xs.length → I i acc M → C M) ∧
  (∀ i acc M x, xs[i]? = some x → I i acc M → g x (wipeD ρ vs) M (fun ρ2 M2 => tt ρ2 M2 (fun b M3 => if b = true then
    wi1 ρ2 M3 (fun xs1 C1 M4 => lcJ xs1 C1 g1 tt1 te vs1 ρ2 M4 acc fun acc M => ∃ M', MLe M' M ∧ I (i + 1) acc M') fun _ _ => False
    else ∃ M', MLe M' M3 ∧ I (i + 1) acc M') fun _ _ => False) fun _ _ => False) ∧
  ∀ acc M, I xs.length acc M → fin acc M P
def eLc2 (fin : Fin') (wi : DTI) (g : DTG) (tt : DTT) (wi1 : DTI) (g1 : DTG) (tt1 : DTT) (te : DTE) (vs vs1 : List Nat) : DTE := fun ρ M P PX => wi ρ M (fun xs C M1 => lcI2 fin xs C g tt wi1 g1 tt1 te vs vs1 ρ M1 P) PX
theorem areD_snoc {K : PySem.W.Frag} {xs : List V} {ys : List DV} {x : V} {y : DV} {F : Hp} (h : AreD K F xs ys) (q : IsD K F x y) : AreD K F (xs ++ [x]) (ys ++ [y]) := by
  induction h with
  | nil => exact .cons q .nil
  | cons h1 h2 ih => exact .cons h1 ih
theorem lc2_imp {K : PySem.W.Frag} {W : WX} {fin : Fin'} (hfin : FinAt fin) {wi wi1 : DTI} {g g1 : DTG} {tt tt1 : DTT} {te : DTE} {sl sl1 vs vs1 : List Nat} (hsl : ∀ j ∈ sl, j ∈ vs) (hsl1 : ∀ j ∈ sl1, j ∈ vs1) {σ : L2.St} {H : Hp} {Q : VK} (h : LE K W (eLc2 fin wi g tt wi1 g1 tt1 te vs vs1) σ H Q) :
    tLc2 (LI K W wi) (LG K W0 sl g) (LT K W0 tt) (LI K W0 wi1) (LG K W0 sl1 g1) (LT K W0 tt1) (LE K W0 te) vs vs1 σ H Q := by
  obtain ⟨ρ, M, N, P, PX, hs, hr, ht, hP, hX⟩ := h
  refine ⟨ρ, M, N, _, PX, hs, hr, ht, fun xs C M1 J H1 p r1 a1 T D hD => ?_, hX⟩
  obtain ⟨I, ⟨M0, l0, i0⟩, hC, turn, done⟩ := p
  have w0 := r1.le l0
  have hN := (r1.free hD).2
  obtain ⟨rh, sh⟩ := w0.1.hide (o := .lst []) hD
  refine ⟨fun i m H2 => m = xs.length - i ∧ i ≤ xs.length ∧ ∃ acc M2 ws, H2 D = some (.lst ws) ∧ AreD K (fz M2 (hidE N D) H2) ws acc ∧ HRel K M2 (hidE N D) H2 ∧ Same (fz M0 N H1) (fz M2 (hidE N D) H2) ∧ (∀ a, N a = true → H2 a = H1 a) ∧ I i acc M2,
    ⟨xs.length, by simp, Nat.zero_le _, [], M0, [], upd_same, .nil, rh, sh, fun a ha => upd_ne (by rintro rfl; rw [hN] at ha; cases ha), i0⟩, ?_⟩
  rintro i m H2 ⟨rfl, hi, acc, M2, ws, e2, ar2, r2, s2, n2, i2⟩
  have T0 : Same (fz M1 N H1) (fz M2 (hidE N D) H2) := w0.2.fr.trans s2
  by_cases hlt : i < xs.length
  · refine .inr ⟨T.go i M2 _ H2 T0 r2 (hC i acc M2 hi i2) hlt, fun H' => ∃ acc M2 ws, H' D = some (.lst ws) ∧ AreD K (fz M2 (hidE N D) H') ws acc ∧ HRel K M2 (hidE N D) H' ∧ Same (fz M0 N H1) (fz M2 (hidE N D) H') ∧ (∀ a, N a = true → H' a = H1 a) ∧ I (i + 1) acc M2,
      fun H' q => ⟨xs.length - (i + 1), by omega, rfl, hlt, q⟩, fun v H3 y => ?_⟩
    have hx : xs[i]? = some xs[i] := List.getElem?_eq_getElem hlt
    obtain ⟨g3, iv⟩ := T.yld i M2 _ H2 v H3 xs[i] T0 r2 (hC i acc M2 hi i2) hx y
    have r3 := r2.grow g3
    have a3 := Af.grow r2 g3
    have nD : ∀ {M' : MHp} {H' : Hp}, Af M2 (hidE N D) H2 M' H' → ∀ a, N a = true → H' a = H1 a := fun {M' H'} af a ha => (af.hd a (by simp [hidE, ha])).trans (n2 a ha)
    have eD : ∀ {M' : MHp} {H' : Hp}, Af M2 (hidE N D) H2 M' H' → H' D = some (.lst ws) := fun {M' H'} af => (af.hd D hidE_self).trans e2
    refine ⟨xs[i], wipeD ρ vs, M2, hidE N D, _, fun _ _ => False, iv, wipe_rel ((hs.mono (a1.fr.trans (T0.trans a3.fr)))) vs, r3, turn i acc M2 xs[i] hx i2, fun ρ4 M4 σ4 H4 p4 s4 r4 a4 b4 => ⟨wipe_but hsl b4, ?_⟩, fun _ _ _ _ z => z.elim⟩
    refine ⟨ρ4, M4, hidE N D, _, fun _ _ => False, s4, r4, p4, fun b M5 H5 p5 r5 a5 => ?_, fun _ _ _ _ z => z.elim⟩
    cases b with
    | false =>
      obtain ⟨M6, l6, i6⟩ := p5
      have w := r5.le l6
      have af := ((a3.trans a4).trans a5).trans w.2
      exact ⟨acc, M6, ws, eD af, areD_mono af.fr ar2, w.1, s2.trans af.fr, nD af, i6⟩
    | true =>
      refine ⟨ρ4, M5, hidE N D, _, fun _ _ => False, s4.mono a5.fr, r5, p5, fun xs1 C1 M6 J1 H6 p6 r6 a6 T1 => ?_, fun _ _ _ _ z => z.elim⟩
      obtain ⟨I1, ⟨M7, l7, i7⟩, hC1, turn1, done1⟩ := p6
      have w7 := r6.le l7
      have afb := ((a3.trans a4).trans a5).trans a6
      have af0 := afb.trans w7.2
      have s4' := s4.mono (a5.trans a6).fr
      -- the state behind j turns within
      refine ⟨fun j m H2 => m = xs1.length - j ∧ j ≤ xs1.length ∧ ∃ acc M2 ws, H2 D = some (.lst ws) ∧ AreD K (fz M2 (hidE N D) H2) ws acc ∧ HRel K M2 (hidE N D) H2 ∧ Same (fz M7 (hidE N D) H6) (fz M2 (hidE N D) H2) ∧ (∀ a, N a = true → H2 a = H1 a) ∧ I1 j acc M2,
        ⟨xs1.length, by simp, Nat.zero_le _, acc, M7, ws, eD af0, areD_mono af0.fr ar2, w7.1, .refl _, nD af0, i7⟩, ?_⟩
      rintro j m H8 ⟨rfl, hj, acc8, M8, ws8, e8, ar8, r8, s8, n8, i8⟩
      have T8 : Same (fz M6 (hidE N D) H6) (fz M8 (hidE N D) H8) := w7.2.fr.trans s8
      by_cases hlt1 : j < xs1.length
      · refine .inr ⟨T1.go j M8 _ H8 T8 r8 (hC1 j acc8 M8 hj i8) hlt1, fun H' => ∃ acc M2 ws, H' D = some (.lst ws) ∧ AreD K (fz M2 (hidE N D) H') ws acc ∧ HRel K M2 (hidE N D) H' ∧ Same (fz M7 (hidE N D) H6) (fz M2 (hidE N D) H') ∧ (∀ a, N a = true → H' a = H1 a) ∧ I1 (j + 1) acc M2,
          fun H' q => ⟨xs1.length - (j + 1), by omega, rfl, hlt1, q⟩, fun v9 H9 y9 => ?_⟩
        have hx1 : xs1[j]? = some xs1[j] := List.getElem?_eq_getElem hlt1
        obtain ⟨g9, iv9⟩ := T1.yld j M8 _ H8 v9 H9 xs1[j] T8 r8 (hC1 j acc8 M8 hj i8) hx1 y9
        have r9 := r8.grow g9
        have a9 := Af.grow r8 g9
        have nD1 : ∀ {M' : MHp} {H' : Hp}, Af M8 (hidE N D) H8 M' H' → ∀ a, N a = true → H' a = H1 a := fun {M' H'} af a ha => (af.hd a (by simp [hidE, ha])).trans (n8 a ha)
        have eD1 : ∀ {M' : MHp} {H' : Hp}, Af M8 (hidE N D) H8 M' H' → H' D = some (.lst ws8) := fun {M' H'} af => (af.hd D hidE_self).trans e8
        refine ⟨xs1[j], wipeD ρ4 vs1, M8, hidE N D, _, fun _ _ => False, iv9, wipe_rel (s4'.mono (T8.trans a9.fr)) vs1, r9, turn1 j acc8 M8 xs1[j] hx1 i8, fun ρ10 M10 σ10 H10 p10 s10 r10 a10 b10 => ⟨wipe_but hsl1 b10, ?_⟩, fun _ _ _ _ z => z.elim⟩
        refine ⟨ρ10, M10, hidE N D, _, fun _ _ => False, s10, r10, p10, fun b M11 H11 p11 r11 a11 => ?_, fun _ _ _ _ z => z.elim⟩
        cases b with
        | false =>
          obtain ⟨M12, l12, i12⟩ := p11
          have w := r11.le l12
          have af := ((a9.trans a10).trans a11).trans w.2
          exact ⟨acc8, M12, ws8, eD1 af, areD_mono af.fr ar8, w.1, s8.trans af.fr, nD1 af, i12⟩
        | true =>
          refine ⟨ρ10, M11, hidE N D, _, fun _ _ => False, s10.mono a11.fr, r11, p11, fun z M12 u H12 p12 r12 a12 iu => ?_, fun _ _ _ _ z => z.elim⟩
          obtain ⟨hz, M13, l13, i13⟩ := p12
          have w := r12.le l13
          have af := (((a9.trans a10).trans a11).trans a12).trans w.2
          refine ⟨ws8, eD1 af, by rw [paired_len ar8]; exact hz, acc8 ++ [z], M13, ws8 ++ [u], upd_same, ?_, w.1.writeHid, ?_, fun a ha => ?_, i13⟩
          · rw [fz_upd_hid]
            exact areD_snoc (areD_mono af.fr ar8) (isD_mono w.2.fr iu)
          · rw [fz_upd_hid]
            exact s8.trans af.fr
          · rw [upd_ne (by rintro rfl; rw [hN] at ha; cases ha)]
            exact nD1 af a ha
      · have e : j = xs1.length := by omega
        subst e
        refine .inl ⟨T1.stop M8 _ H8 T8 r8 (hC1 _ acc8 M8 hj i8), ?_⟩
        obtain ⟨M14, l14, i14⟩ := done1 acc8 M8 i8
        have w := r8.le l14
        exact ⟨acc8, M14, ws8, e8, areD_mono w.2.fr ar8, w.1, ((s2.trans afb.fr).trans T8).trans w.2.fr, n8, i14⟩
  · have e : i = xs.length := by omega
    subst e
    refine .inl ⟨T.stop M2 _ H2 T0 r2 (hC _ acc M2 hi i2), ?_⟩
    refine hfin r2 hN (r2.hid D hidE_self).1 e2 ar2 (done acc M2 i2) fun z M' v pz r' s' iz => hP z M' v H2 pz r' ?_ iz
    exact a1.trans ⟨T0.trans s', fun a ha => n2 a ha⟩
section
variable {X : Cx} {W : WX} {elt tg iter tg1 iter1 : Expr} {ifs ifs1 : List Expr} {scope : Scope} {own : List (Str × Nat)} {pos : Pos} {wi wi1 : DTI} {g g1 : DTG} {tt tt1 : DTT} {te : DTE} {fin : Fin'} {sl sl1 : List Nat}
theorem de_lc2 {vs vs1 : List Nat} (hfin : FinAt fin) (hc : X.calm = true) (hN : X.N.Nodup) (hi : DI X W tg iter wi) (ok : BlkOk X.N X.env.scope scope own) (hv1 : ∀ i ∈ vs1, i ∈ own.map (·.2))
    (hg : ∀ (s : Shared) (H : Hp) (C : Addr) (cl : List (Str × Addr)) (fp : List Addr), DG (X.blk s H scope (compEnvC scope cl C X.env) fp) W0 tg sl g) (hsl : ∀ j ∈ sl, j ∈ own.map (·.2)) (ht : ∀ (s : Shared) (H : Hp) (C : Addr) (cl : List (Str × Addr)) (fp : List Addr), DTs (X.blk s H scope (compEnvC scope cl C X.env) fp) W0 ifs tt)
    (hi1 : ∀ (s : Shared) (H : Hp) (C : Addr) (cl : List (Str × Addr)) (fp : List Addr), DI (X.blk s H scope (compEnvC scope cl C X.env) fp) W0 tg1 iter1 wi1)
    (hg1 : ∀ (s : Shared) (H : Hp) (C : Addr) (cl : List (Str × Addr)) (fp : List Addr), DG (X.blk s H scope (compEnvC scope cl C X.env) fp) W0 tg1 sl1 g1) (hsl1 : ∀ j ∈ sl1, j ∈ vs1) (ht1 : ∀ (s : Shared) (H : Hp) (C : Addr) (cl : List (Str × Addr)) (fp : List Addr), DTs (X.blk s H scope (compEnvC scope cl C X.env) fp) W0 ifs1 tt1)
    (he : ∀ (s : Shared) (H : Hp) (C : Addr) (cl : List (Str × Addr)) (fp : List Addr), DE (X.blk s H scope (compEnvC scope cl C X.env) fp) W0 elt te) (hs : ∀ x, foldedSetIterable iter X.env x = pure x := by intro _; rfl) (hs1 : ∀ env x, foldedSetIterable iter1 env x = pure x := by intro _ _; rfl) (hv : own.map (·.2) = vs := by rfl) :
    DE X W (.ListComp elt [⟨tg, iter, ifs, 0⟩, ⟨tg1, iter1, ifs1, 0⟩] scope pos) (eLc2 fin wi g tt wi1 g1 tt1 te vs vs1) := by
  subst hv
  exact ⟨PE.imp (pe_lc2 hc hN hi.pi ok hv1 (fun s H C cl fp => (hg s H C cl fp).pg) (fun s H C cl fp => (ht s H C cl fp).pt) (fun s H C cl fp => (hi1 s H C cl fp).pi) (fun s H C cl fp => (hg1 s H C cl fp).pg) (fun s H C cl fp => (ht1 s H C cl fp).pt) (fun s H C cl fp => (he s H C cl fp).pe) hs hs1) fun σ H Q h => lc2_imp hfin hsl hsl1 h⟩
theorem ds_setLc2 {vs vs1 : List Nat} {i : Nat} {y : Str} {py : Pos} {spos : Pos} (hfin : FinAt fin) (hc : X.calm = true) (hN : X.N.Nodup) (hi : DI X W tg iter wi) (ok : BlkOk X.N X.env.scope scope own) (hv1 : ∀ i ∈ vs1, i ∈ own.map (·.2))
    (hg : ∀ (s : Shared) (H : Hp) (C : Addr) (cl : List (Str × Addr)) (fp : List Addr), DG (X.blk s H scope (compEnvC scope cl C X.env) fp) W0 tg sl g) (hsl : ∀ j ∈ sl, j ∈ own.map (·.2)) (ht : ∀ (s : Shared) (H : Hp) (C : Addr) (cl : List (Str × Addr)) (fp : List Addr), DTs (X.blk s H scope (compEnvC scope cl C X.env) fp) W0 ifs tt)
    (hi1 : ∀ (s : Shared) (H : Hp) (C : Addr) (cl : List (Str × Addr)) (fp : List Addr), DI (X.blk s H scope (compEnvC scope cl C X.env) fp) W0 tg1 iter1 wi1)
    (hg1 : ∀ (s : Shared) (H : Hp) (C : Addr) (cl : List (Str × Addr)) (fp : List Addr), DG (X.blk s H scope (compEnvC scope cl C X.env) fp) W0 tg1 sl1 g1) (hsl1 : ∀ j ∈ sl1, j ∈ vs1) (ht1 : ∀ (s : Shared) (H : Hp) (C : Addr) (cl : List (Str × Addr)) (fp : List Addr), DTs (X.blk s H scope (compEnvC scope cl C X.env) fp) W0 ifs1 tt1)
    (he : ∀ (s : Shared) (H : Hp) (C : Addr) (cl : List (Str × Addr)) (fp : List Addr), DE (X.blk s H scope (compEnvC scope cl C X.env) fp) W0 elt te)
    (hsw : swapsWith (.ListComp elt [⟨tg, iter, ifs, 0⟩, ⟨tg1, iter1, ifs1, 0⟩] scope pos) (some (.Name y py)) spos.line X.env = pure true) (hy : X.N[i]? = some y := by rfl) (hyl : X.env.scope.names.lookup y = some .local := by rfl) (hs : ∀ x, foldedSetIterable iter X.env x = pure x := by intro _; rfl) (hs1 : ∀ env x, foldedSetIterable iter1 env x = pure x := by intro _ _; rfl) (hv : own.map (·.2) = vs := by rfl) :
    DS X W (.Assign [.Name y py] (.ListComp elt [⟨tg, iter, ifs, 0⟩, ⟨tg1, iter1, ifs1, 0⟩] scope pos) spos) (sSet i (eLc2 fin wi g tt wi1 g1 tt1 te vs vs1)) := by
  subst hv
  exact ⟨PS.imp (ps_setLc2 hc hN hy hyl hsw hi.pi ok hv1 (fun s H C cl fp => (hg s H C cl fp).pg) (fun s H C cl fp => (ht s H C cl fp).pt) (fun s H C cl fp => (hi1 s H C cl fp).pi) (fun s H C cl fp => (hg1 s H C cl fp).pg) (fun s H C cl fp => (ht1 s H C cl fp).pt) (fun s H C cl fp => (he s H C cl fp).pe) hs hs1) fun D σ H ⟨ρ, M, N, E, hs, hr, ht, hE⟩ =>
    lc2_imp (W := W) hfin hsl hsl1 ⟨ρ, M, N, _, _, hs, hr, ht, fun x M1 v H1 p hr1 af1 iv => hE.nx _ M1 _ H1 p ((hs.mono af1.fr).set iv i) hr1 af1, hE.xend hs⟩⟩
end
section
variable {ρ : DEnv} {M : MHp} {P : DK} {PX : DX} {fin : Fin'} {wi wi1 : DTI} {g g1 : DTG} {tt tt1 : DTT} {te : DTE} {vs vs1 : List Nat}
theorem x_lc2 (q : wi ρ M (fun xs C M1 => lcI2 fin xs C g tt wi1 g1 tt1 te vs vs1 ρ M1 P) PX) : eLc2 fin wi g tt wi1 g1 tt1 te vs vs1 ρ M P PX := q
end
end DL

/-! Part 17: sorted sets of rows, the sorted keys of a dict, a dict's length, a dict's copy. -/
namespace DL
open PySem PySem.Spec PyProof.Rows L2

theorem code_le {B : Int} : ∀ {a b : List Int}, a.length = b.length → TS.Bd B a → TS.Bd B b → a < b → TS.code B a < TS.code B b
  | [], [], _, _, _, h => absurd h (List.lt_irrefl _)
  | [], _ :: _, h, _, _, _ => by cases h
  | _ :: _, [], h, _, _, _ => by cases h
  | x :: a, y :: b, hl, ha, hb, h => by
    have hl' : a.length = b.length := Nat.succ.inj hl
    rcases List.cons_lt_cons_iff.mp h with h1 | ⟨rfl, h1⟩
    · exact TS.code_lt hl' ha.tail hb.tail h1
    · have := code_le hl' ha.tail hb.tail h1
      show x * B ^ a.length + TS.code B a < x * B ^ b.length + TS.code B b
      rw [hl']
      omega
theorem lt_code {B : Int} {a b : List Int} (hl : a.length = b.length) (ha : TS.Bd B a) (hb : TS.Bd B b) (h : TS.code B a ≤ TS.code B b) (ne : a ≠ b) : a < b := by
  apply Classical.byContradiction
  intro z
  have h1 : b ≤ a := List.not_lt.mp z
  have h2 : b < a := by
    apply Classical.byContradiction
    intro z2
    exact ne (List.le_antisymm (List.not_lt.mp z2) h1)
  have := code_le hl.symm hb ha h2
  omega
abbrev rowT (r : List Int) : PyData := .tuple (r.map .int)
theorem rows_dp {K : PySem.W.Frag} {F : Hp} : ∀ {R : List (List Int)} {ws : List V}, DpAll K F ws (R.map rowT) → ∃ ks : List (Addr × List Int), ws = ks.map (fun p => V.ref p.1) ∧ ks.map (·.2) = R ∧ ∀ p ∈ ks, SqT K F p.1 (p.2.map V.int)
  | [], _, h => by
    cases h
    exact ⟨[], rfl, rfl, fun p hp => by cases hp⟩
  | r :: R, _, h => by
    rw [List.map_cons] at h
    cases h with
    | cons h1 h2 =>
      obtain ⟨ks, rfl, e, q⟩ := rows_dp h2
      cases h1 with
      | tup hs hd =>
        rename_i a vs
        have := dp_ints hd
        subst this
        refine ⟨(a, r) :: ks, rfl, by rw [List.map_cons, e], fun p hp => ?_⟩
        rcases List.mem_cons.mp hp with z | z
        · subst z; exact hs
        · exact q p z
theorem dp_rows {K : PySem.W.Frag} {F : Hp} : ∀ {ks : List (Addr × List Int)}, (∀ p ∈ ks, SqT K F p.1 (p.2.map V.int)) → DpAll K F (ks.map fun p => V.ref p.1) ((ks.map (·.2)).map rowT)
  | [], _ => .nil
  | p :: ks, h => .cons (.tup (h p (by simp)) (dp_int_list _)) (dp_rows fun q hq => h q (List.mem_cons_of_mem _ hq))
def setSortT : PyData → (List PyData → Prop) → Prop
  | .list xs, k => ∃ (R : List (List Int)) (d : Nat) (B : Int), xs = R.map rowT ∧ R.length < 64 ∧ 1 ≤ d ∧ (∀ r ∈ R, r.length = d ∧ ∀ n ∈ r, 0 ≤ n ∧ n < B) ∧ ∀ S : List (List Int), S.Pairwise (· < ·) → (∀ x, x ∈ S ↔ x ∈ R) → k (S.map rowT)
  | _, _ => False
/-- sorted(set(a list of tuples of ints)) -/
def eSortedSetT (te : DTE) : DTE := fun ρ M P PX => te ρ M (fun x M1 => rd M1 x fun d => setSortT d fun ds => P (.d (.list ds)) M1) PX
section
variable {X : Cx} {W : WX} {a : Expr} {te : DTE} {p p2 q pos : Pos}
theorem de_sortedSetT (hc : X.calm = true) (hu : X.A.units + 64 < cLine) (ha : DE X W a te) (hm : X.mg "sorted" = none) (hm2 : X.mg "set" = none) (hg : Gl X "sorted" := by rfl) (hg2 : Gl X "set" := by rfl)
    (na : starEach [a] X.env = (false, eval a X.env) :: starEach [] X.env := by rfl)
    (na2 : starEach [.Call (.Name "set" p2) [a] [] q] X.env = (false, eval (.Call (.Name "set" p2) [a] [] q) X.env) :: starEach [] X.env := by rfl) (hpl : (backTo q (starEach [] X.env)).any (·.1) = false := by rfl) (hpl2 : (backTo pos (starEach [] X.env)).any (·.1) = false := by rfl) :
    DE X W (.Call (.Name "sorted" p) [.Call (.Name "set" p2) [a] [] q] [] pos) (eSortedSetT te) := by
  have h1 := pe_callTy (p := p2) (pos := q) (cr_setOfT hc hu) hg2 hm2 PyProof.Rows.boot_set (pa_cons ha.pe pa_nil na) (by decide) (by decide) na hpl
  have h2 := pe_callB (p := p) (pos := pos) (cr_sortedT hc) hg hm PyProof.Rows.boot_sorted (pa_cons h1 pa_nil na2) (by decide) (by decide) na2 hpl2
  refine ⟨PE.imp h2 fun σ H Q h => ?_⟩
  obtain ⟨ρ, M, N, P, PX, hs, hr, ht, hP, hX⟩ := h
  refine ⟨ρ, M, N, _, PX, hs, hr, ht, fun x M1 v H1 p hr1 af1 iv => ?_, hX⟩
  obtain ⟨d, r1, qq⟩ := rd_of hr1 iv p
  unfold setSortT at qq
  split at qq
  · obtain ⟨l, ws, rfl, h3, h4⟩ := r1.list
    obtain ⟨R, d, B, rfl, h64, hd, hB, k⟩ := qq
    obtain ⟨ks, rfl, eR, hk⟩ := rows_dp h4
    have hkH : ∀ p ∈ ks, SqT X.K H1 p.1 (p.2.map V.int) := fun p hp => same_tup fz_sub (hk p hp)
    have inR : ∀ p ∈ ks, p.2 ∈ R := fun p hp => by rw [← eR]; exact List.mem_map_of_mem hp
    refine ⟨l, ks, rfl, h3, hkH, by rw [← List.length_map (f := Prod.snd), eR]; exact h64, fun a L na hL1 hL2 => ?_⟩
    have s1 : Same H1 (upd H1 a (SetTO X.prog X.w a L)) := same_new na
    have r2 := hr1.grow s1
    have a2 := Af.grow hr1 s1
    have B2 : ∀ p ∈ L, p.2.length = d ∧ TS.Bd B p.2 := fun p hp => ⟨(hB _ (inR p (hL1 p hp))).1, fun m hm => (hB _ (inR p (hL1 p hp))).2 m hm⟩
    refine ⟨a, L, d, B, rfl, upd_same, fun p hp => same_tup s1 (hkH p (hL1 p hp)), hd, B2, fun L' p perm nd h64' pw np => ?_⟩
    have hd2 : DpAll X.K (fz M1 N (upd H1 a (SetTO X.prog X.w a L))) (L'.map fun p => V.ref p.1) ((L'.map (·.2)).map rowT) := dp_rows fun q hq => same_tup a2.fr (hk q (hL1 q (perm.mem_iff.mp hq)))
    have pw2 : (L'.map (·.2)).Pairwise (· < ·) := by
      rw [List.pairwise_map]
      refine List.Pairwise.imp_of_mem (fun {x y} hx hy h => ?_) (List.Pairwise.and pw (List.pairwise_map.mp nd))
      have bx := B2 x (perm.mem_iff.mp hx)
      have by' := B2 y (perm.mem_iff.mp hy)
      exact lt_code (bx.1.trans by'.1.symm) bx.2 by'.2 h.1 h.2
    refine hP _ M1 _ _ (k (L'.map (·.2)) pw2 fun x => ?_) (r2.grow (same_new np)) (af1.trans (a2.trans (.grow r2 (same_new np)))) (fz_newLst r2 np hd2)
    constructor
    · intro hx
      obtain ⟨q, hq, rfl⟩ := List.mem_map.mp hx
      exact inR q (hL1 q (perm.mem_iff.mp hq))
    · intro hx
      rw [← eR] at hx
      obtain ⟨q, hq, rfl⟩ := List.mem_map.mp hx
      obtain ⟨u, hu, e⟩ := List.mem_map.mp (hL2 q hq)
      rw [← e]
      exact List.mem_map_of_mem (perm.mem_iff.mpr hu)
  · exact qq.elim
end
/-! ### dicts again -/
def keysOf (kvs : List (Key × DV)) : List PyData := kvs.map fun p => keyData p.1
theorem pk_keys {K : PySem.W.Frag} {F : Hp} {ws : List (Key × V)} {kvs : List (Key × DV)} (h : PKV K F ws kvs) : ws.map (·.1) = kvs.map (·.1) := by
  induction h with
  | nil => rfl
  | cons h1 h2 ih => rw [List.map_cons, List.map_cons, ih, h1.1]
section
variable {X : Cx}
/-- len(d) -/
def gLenK : DN := fun xs M P => match xs with
  | [.r a] => match M a with
    | some (.dk kvs) => P (.d (.int kvs.length)) M
    | _ => False
  | _ => False
theorem dc_lenK : DCall X (.builtin "len") gLenK := by
  intro pins s σ H vs us Q I r h
  obtain ⟨xs, M, N, P, hr, ha, hg, fo⟩ := h
  unfold gLenK at hg
  split at hg
  · rename_i a
    obtain ⟨v, rfl, i⟩ := are1 ha
    have i' : v = .ref a := i
    subst i'
    split at hg
    · rename_i kvs q
      obtain ⟨ws, h1, h2⟩ := dk_at hr q
      exact call_lenD pins s σ H _ us Q I r ⟨_, _, rfl, h1, fo.same hr hg (by rw [← paired_len h2]; exact (show Dp _ _ _ _ from .int _))⟩
    · exact hg.elim
  · exact hg.elim
/-- dict(d): a copy -/
def gDictK : DN := fun xs M P => match xs with
  | [.r a] => match M a with
    | some (.dk kvs) => ∀ p, M p = none → P (.r p) (mu M p (.dk kvs))
    | _ => False
  | _ => False
theorem dc_dictK : DCall X (.type "dict") gDictK := by
  intro pins s σ H vs us Q I r h
  obtain ⟨xs, M, N, P, hr, ha, hg, fo⟩ := h
  unfold gDictK at hg
  split at hg
  · rename_i a
    obtain ⟨v, rfl, i⟩ := are1 ha
    have i' : v = .ref a := i
    subst i'
    split at hg
    · rename_i kvs q
      obtain ⟨ws, h1, h2⟩ := dk_at hr q
      refine call_dictD pins s σ H _ us Q I r ⟨a, ws, rfl, .inl h1, fun p hp => ?_⟩
      obtain ⟨r2, a2⟩ := hr.new (x := .dk kvs) (o := .dK ws) hp h2
      exact fo _ _ _ _ (hg p (hr.free hp).1) r2 a2 rfl
    · exact hg.elim
  · exact hg.elim
/-- sorted(d), the keys ints, fewer than 64 -/
def gSortKI : DN := fun xs M P => match xs with
  | [.r a] => match M a with
    | some (.dk kvs) => ∃ ks : List Int, kvs.map (·.1) = ks.map Sum.inl ∧ ks.length < 64 ∧ ∀ ys : List Int, ys.Perm ks → ys.Pairwise (· ≤ ·) → P (.d (.list (ys.map .int))) M
    | _ => False
  | _ => False
theorem dc_sortKI (hc : X.calm = true) : DCall X (.builtin "sorted") gSortKI := by
  intro pins s σ H vs us Q I r h
  obtain ⟨xs, M, N, P, hr, ha, hg, fo⟩ := h
  unfold gSortKI at hg
  split at hg
  · rename_i a
    obtain ⟨v, rfl, i⟩ := are1 ha
    have i' : v = .ref a := i
    subst i'
    split at hg
    · rename_i kvs q
      obtain ⟨ws, h1, h2⟩ := dk_at hr q
      obtain ⟨ks, e, hl, hg⟩ := hg
      exact call_sortedDI hc pins s σ H _ us Q I r ⟨a, ws, ks, rfl, .inl h1, (pk_keys h2).trans e, hl, fun ys p pm pw hp => fo.new hr (hg ys pm pw) hp (fz_newLst hr hp (dp_int_list ys))⟩
    · exact hg.elim
  · exact hg.elim
end
/-! ### rules by which they are walked -/
section
variable {ρ : DEnv} {M : MHp} {P : DK} {PX : DX} {te to tv : DTE} {ta : DTA} {C a dx p : Addr} {f : Str} {fs : List (Str × DV)} {v x : DV} {E : DEnds} {sp : DSp} {kvs : List (Key × DV)} {k : Key} {y z : DV} {K : MHp → Prop}
theorem x_fldR {k : DV → Prop} (h : M a = some (.ins C dx fs)) (l : fs.lookup f = some v) (q : k v) : insD C (.r a) M fun _ _ fs => ∃ v, fs.lookup f = some v ∧ k v := x_insD h ⟨v, l, q⟩
theorem x_sfldR {k : Addr → Addr → List (Str × DV) → Prop} (h : M a = some (.ins C dx fs)) (l : fs.length < 1000) (q : k a dx fs) : insD C (.r a) M fun a dx fs => fs.length < 1000 ∧ k a dx fs := x_insD h ⟨l, q⟩
theorem x_methR {k : Prop} (h : M a = some (.ins C dx fs)) (l : fs.lookup f = none) (q : k) : insD C (.r a) M fun _ _ fs => fs.lookup f = none ∧ k := x_insD h ⟨l, q⟩
theorem x_getK (hk : asKey y = some k) (h : M a = some (.dk kvs)) (l : valD kvs k = some v) (q : P v M) : gGetK (.r a) y M P := by
  unfold gGetK
  simp only [hk, h]
  exact ⟨v, l, q⟩
theorem x_putDK (hk : asKey y = some k) (h : M a = some (.dk kvs)) (l : kvs.length < sizeLine) (q : K (mu M a (.dk (putD kvs k v)))) : putDK (.r a) y v M K := by
  unfold putDK
  simp only [hk, h]
  exact ⟨l, q⟩
theorem x_sput {ti : DTE} (q : tv ρ M (fun v M1 => to ρ M1 (fun x M2 => ti ρ M2 (fun y M3 => putDK x y v M3 fun M4 => E.nx ρ M4) fun x M1 => E.ex x ρ M1) fun x M1 => E.ex x ρ M1) fun x M1 => E.ex x ρ M1) : sPutK to ti tv E ρ M := q
theorem x_inK (hk : asKey y = some k) (h : M a = some (.dk kvs)) (q : P (.d (.bool (hasK kvs k))) M) : inD false y (.r a) M P := by
  unfold inD
  simp only [h, hk]
  exact q
theorem x_ninK (hk : asKey y = some k) (h : M a = some (.dk kvs)) (q : P (.d (.bool (!hasK kvs k))) M) : inD true y (.r a) M P := by
  unfold inD
  simp only [h, hk]
  exact q
theorem x_get2 {ti tx : DTE} (q : to ρ M (fun x M1 => isDk x M1 ∧ ti ρ M1 (fun y M2 => tx ρ M2 (fun z M3 => getDK x y z M3 P) PX) PX) PX) : eGet2 to ti tx ρ M P PX := q
theorem x_isDk (h : M a = some (.dk kvs)) : isDk (.r a) M := by
  unfold isDk
  simp only [h]
theorem x_getDK (hk : asKey y = some k) (h : M a = some (.dk kvs)) (q : P ((valD kvs k).getD z) M) : getDK (.r a) y z M P := by
  unfold getDK
  simp only [h, hk]
  exact q
theorem x_ssetT (q : te ρ M (fun x M1 => rd M1 x fun d => setSortT d fun ds => P (.d (.list ds)) M1) PX) : eSortedSetT te ρ M P PX := q
theorem x_gLenK (h : M a = some (.dk kvs)) (q : P (.d (.int kvs.length)) M) : gLenK [.r a] M P := by
  unfold gLenK
  simp only [h]
  exact q
theorem x_gSortKI (h : M a = some (.dk kvs)) (q : ∃ ks : List Int, kvs.map (·.1) = ks.map Sum.inl ∧ ks.length < 64 ∧ ∀ ys : List Int, ys.Perm ks → ys.Pairwise (· ≤ ·) → P (.d (.list (ys.map .int))) M) : gSortKI [.r a] M P := by
  unfold gSortKI
  simp only [h]
  exact q
theorem hasK_val {kvs : List (Key × DV)} {k : Key} : hasK kvs k = (valD kvs k).isSome := by
  unfold hasK valD
  rw [Option.isSome_map]
  exact (find_any kvs k).symm
theorem valD_put (kvs : List (Key × DV)) (k j : Key) (y : DV) : valD (putD kvs k y) j = if j = k then some y else valD kvs j := by
  unfold putD
  have e0 : (kvs.any fun kv => decide (kv.1 = k)) = (valD kvs k).isSome := hasK_val
  have cons : ∀ (p : Key × DV) (r : List (Key × DV)) (j : Key), valD (p :: r) j = if p.1 = j then some p.2 else valD r j := by
    intro p r j
    unfold valD
    rw [List.find?_cons]
    by_cases h : p.1 = j
    · rw [if_pos h, decide_eq_true h]; rfl
    · rw [if_neg h, decide_eq_false h]
  split
  · rename_i h
    rw [e0] at h
    clear e0
    induction kvs with
    | nil => cases h
    | cons p r ih =>
      rw [List.map_cons, cons, cons]
      rw [cons] at h
      by_cases hp : p.1 = k
      · rw [if_pos hp]
        show (if p.1 = j then some y else _) = _
        by_cases hj : j = k
        · rw [if_pos hj, if_pos (hp.trans hj.symm)]
        · rw [if_neg hj, if_neg (fun z => hj (z.symm.trans hp)), if_neg (fun z => hj (z.symm.trans hp))]
          clear ih h
          have : ∀ r : List (Key × DV), valD (r.map fun kv => if kv.1 = k then (kv.1, y) else kv) j = valD r j := by
            intro r
            induction r with
            | nil => rfl
            | cons q r ih =>
              rw [List.map_cons, cons, cons, ih]
              by_cases hq : q.1 = k
              · rw [if_pos hq]
                show (if q.1 = j then some y else _) = _
                rw [if_neg (fun z => hj (z.symm.trans hq)), if_neg (fun z => hj (z.symm.trans hq))]
              · rw [if_neg hq]
          exact this r
      · rw [if_neg hp] at h
        rw [if_neg hp, ih h]
        by_cases hj : j = k
        · rw [if_pos hj, if_neg (fun z => hp (z.trans hj))]
          rw [if_pos hj]
        · by_cases hpj : p.1 = j
          · rw [if_pos hpj, if_neg hj, if_pos hpj]
          · rw [if_neg hpj, if_neg hpj, if_neg hj]
  · rename_i h
    rw [e0] at h
    clear e0
    induction kvs with
    | nil =>
      rw [List.nil_append, cons]
      by_cases hj : j = k
      · rw [if_pos hj.symm, if_pos hj]
      · rw [if_neg (fun z => hj z.symm), if_neg hj]
    | cons p r ih =>
      rw [cons] at h
      have hp : ¬ p.1 = k := fun z => h (by rw [if_pos z]; rfl)
      rw [if_neg hp] at h
      rw [List.cons_append, cons, cons, ih h]
      by_cases hpj : p.1 = j
      · rw [if_pos hpj, if_pos hpj, if_neg (fun z => hp (hpj.trans z))]
      · rw [if_neg hpj, if_neg hpj]
theorem len_putD (kvs : List (Key × DV)) (k : Key) (v : DV) : (putD kvs k v).length ≤ kvs.length + 1 := by
  unfold putD
  split
  · rw [List.length_map]; omega
  · rw [List.length_append]; exact Nat.le_refl _
theorem putD_new {kvs : List (Key × DV)} {k : Key} (v : DV) (h : valD kvs k = none) : putD kvs k v = kvs ++ [(k, v)] := by
  unfold putD
  have e0 : (kvs.any fun kv => decide (kv.1 = k)) = (valD kvs k).isSome := hasK_val
  rw [e0, h, if_neg (by exact Bool.false_ne_true)]
end
/-! ### two clauses, the state as it is -/
section
variable {ρ ρ2 : DEnv} {M : MHp} {P : DK} {fin : Fin'} {g g1 : DTG} {wi1 : DTI} {tt1 : DTT} {te : DTE} {vs vs1 : List Nat} {C C1 : MHp → Prop}
theorem lcJ_of {β : Type} {l2 : List β} {e2 : β → DV} {acc : List DV} {K : List DV → MHp → Prop} (f : β → PyData) (hz : acc.length + l2.length ≤ sizeLine) (hC : C1 M)
    (hb : ∀ b ∈ l2, ∀ KT : DK, KT (.d (f b)) M → g1 (e2 b) (wipeD ρ2 vs1) M (fun ρ3 M5 => te ρ3 M5 KT fun _ _ => False) fun _ _ => False) (q : K (acc ++ (l2.map f).map .d) M) : lcJ (l2.map e2) C1 g1 tYes te vs1 ρ2 M acc K := by
  refine ⟨fun j a M' => M = M' ∧ a = acc ++ ((l2.take j).map f).map .d, ⟨M, .refl, rfl, by simp⟩, ?_, ?_, ?_⟩
  · rintro _ _ _ _ ⟨rfl, _⟩
    exact hC
  · rintro j _ _ x hx ⟨rfl, rfl⟩
    rw [List.getElem?_map] at hx
    obtain ⟨b, hb', rfl⟩ := Option.map_eq_some_iff.mp hx
    have hj := (List.getElem?_eq_some_iff.mp hb').1
    refine hb b (List.mem_of_getElem? hb') _ ⟨?_, M, .refl, rfl, ?_⟩
    · rw [List.length_append, List.length_map, List.length_map, List.length_take]
      omega
    · rw [take_succ_of hb', List.map_append, List.map_append, List.append_assoc]
      rfl
  · rintro _ _ ⟨rfl, rfl⟩
    rw [List.length_map, List.take_length]
    exact q
theorem lc2_of {α : Type} {l : List α} {e : α → DV} (F : α → List PyData) (hz : (l.flatMap F).length ≤ sizeLine) (hC : C M)
    (hb : ∀ a ∈ l, ∀ (acc : List DV) (K : List DV → MHp → Prop), acc.length + (F a).length ≤ sizeLine → K (acc ++ (F a).map .d) M → g (e a) (wipeD ρ vs) M (fun ρ2 M2 => wi1 ρ2 M2 (fun xs1 C1 M4 => lcJ xs1 C1 g1 tt1 te vs1 ρ2 M4 acc K) fun _ _ => False) fun _ _ => False)
    (q : fin ((l.flatMap F).map .d) M P) : lcI2 fin (l.map e) C g tYes wi1 g1 tt1 te vs vs1 ρ M P := by
  refine ⟨fun j a M' => M = M' ∧ a = ((l.take j).flatMap F).map .d, ⟨M, .refl, rfl, by simp⟩, ?_, ?_, ?_⟩
  · rintro _ _ _ _ ⟨rfl, _⟩
    exact hC
  · rintro j _ _ x hx ⟨rfl, rfl⟩
    rw [List.getElem?_map] at hx
    obtain ⟨b, hb', rfl⟩ := Option.map_eq_some_iff.mp hx
    have e1 := take_succ_of hb'
    have e2 : (l.take (j + 1)).flatMap F = (l.take j).flatMap F ++ F b := by rw [e1, List.flatMap_append]; simp
    have e3 : l.flatMap F = (l.take (j + 1)).flatMap F ++ (l.drop (j + 1)).flatMap F := by rw [← List.flatMap_append, List.take_append_drop]
    refine hb b (List.mem_of_getElem? hb') _ _ ?_ ⟨M, .refl, rfl, ?_⟩
    · rw [e3, List.length_append, e2, List.length_append] at hz
      rw [List.length_map]
      omega
    · rw [e2, List.map_append]
  · rintro _ _ ⟨rfl, rfl⟩
    rw [List.length_map, List.take_length]
    exact q
end
end DL

/-! Part 18: xs.pop(), xs.extend(ys) of mutable lists of data. -/
namespace DL
open PySem PySem.Spec PyProof.Rows L2
section
variable {X : Cx}
theorem dpAll_dropLast {K : PySem.W.Frag} {F : Hp} {vs : List V} {ds : List PyData} (h : DpAll K F vs ds) : DpAll K F vs.dropLast ds.dropLast := by
  rw [List.dropLast_eq_take, List.dropLast_eq_take, dpAll_len h]
  exact dpAll_take _ h
def gPop : DM := fun x xs M P => match x, xs with
  | .r a, [] => match M a with
    | some (.ls ys) => ∃ y, ys[ys.length - 1]? = some y ∧ P (.d y) (mu M a (.ls ys.dropLast))
    | _ => False
  | _, _ => False
theorem dm_pop : DMt X "list.pop" gPop := by
  intro pins s σ H v vs w us Q I rx rv h
  obtain ⟨x, xs, M, N, P, hr, ix, ixs, hg, fo⟩ := h
  unfold gPop at hg
  split at hg
  · rename_i a
    cases ixs
    have i' : v = .ref a := ix
    subst i'
    split at hg
    · rename_i ys q
      obtain ⟨y, hy, hg⟩ := hg
      obtain ⟨o, h1, h2⟩ := hr.obj a _ q
      cases o with
      | lst ws =>
        have h2' : DpAll X.K (fz M N H) ws ys := h2
        have hz := dpAll_len h2'
        obtain ⟨u, hu, iu⟩ := dpAll_get h2' hy
        obtain ⟨r2, a2⟩ := hr.write (x := .ls ys.dropLast) (o := .lst ws.dropLast) q (dpAll_dropLast h2')
        exact mt_pop pins s σ H _ _ w us Q I rx rv ⟨a, ws, u, rfl, rfl, h1, by rw [hz]; exact hu, fo _ _ _ _ hg r2 a2 (dp_mono a2.fr _ _ iu)⟩
      | _ => exact (show False from h2).elim
    · exact hg.elim
  · exact hg.elim
theorem x_pop {M : MHp} {P : DK} {a : Addr} {ys : List PyData} {y : PyData} (h : M a = some (.ls ys)) (hy : ys[ys.length - 1]? = some y) (q : P (.d y) (mu M a (.ls ys.dropLast))) : gPop (.r a) [] M P := by
  unfold gPop
  simp only [h]
  exact ⟨y, hy, q⟩
end
end DL

/-! Part 19: what is never reached, name += e, extend, enumerate, dict comprehensions. -/
namespace DL
open PySem PySem.Spec PyProof.Rows L2

section
variable {X : Cx} {W : WX} {e : Expr} {te : DTE} {pos : Pos}
/-! ### never -/
def sNever : DTS := fun _ _ _ => False
theorem ds_never {st : Stmt} : DS X W st sNever := ⟨⟨fun _ _ _ _ _ _ ⟨_, _, _, _, _, _, ht, _⟩ => ht.elim⟩⟩

/-! ### name += e, of ints -/
def augV (neg : Bool) (n : Int) (y : DV) (k : DV → Prop) : Prop := match y with
  | .d (.int m) => k (.d (.int (if neg = true then n - m else n + m)))
  | _ => False
def sAug (neg : Bool) (i : Nat) (te : DTE) : DTS := fun E ρ M => ∃ n : Int, ρ[i]? = some (some (.d (.int n))) ∧ te ρ M (fun y M1 => augV neg n y fun z => E.nx (ρ.set i (some z)) M1) fun x M1 => E.ex x ρ M1
theorem aug_imp {neg : Bool} {i : Nat} {D : Ends} {σ : L2.St} {H : Hp} (h : LS X.K W (sAug neg i te) D σ H) : tAug i (LE X.K W te) (ipI fun a b => if neg = true then a - b else a + b) D σ H := by
  obtain ⟨ρ, M, N, E, hs, hr, ⟨n, hn, ht⟩, hE⟩ := h
  obtain ⟨v, e1, iv⟩ := hs.2 i _ hn
  cases (show Dp _ _ _ _ from iv)
  refine ⟨.int n, e1, ρ, M, N, _, _, hs, hr, ht, fun y M1 u H1 p r1 a1 iu => ?_, hE.xend hs⟩
  unfold augV at p
  split at p
  · rename_i m
    cases (show Dp _ _ _ _ from iu)
    exact ⟨n, m, rfl, rfl, hE.nx _ M1 _ H1 p ((hs.mono a1.fr).set (x := .d (.int _)) (show Dp _ _ _ _ from .int _) i) r1 a1⟩
  · exact p.elim
theorem ds_augA {i : Nat} {x : Str} {pos' : Pos} (hN : X.N.Nodup) (he : DE X W e te) (hi : X.N[i]? = some x := by rfl) (hx : X.env.scope.names.lookup x = some .local := by rfl) : DS X W (.AugAssign (.Name x pos') .Add e pos) (sAug false i te) :=
  ⟨PS.imp (ps_aug hN hi (.inl hx) he.pe ip_add (.inr hx)) fun D σ H h => aug_imp (neg := false) h⟩
theorem ds_augS {i : Nat} {x : Str} {pos' : Pos} (hN : X.N.Nodup) (he : DE X W e te) (hi : X.N[i]? = some x := by rfl) (hx : X.env.scope.names.lookup x = some .local := by rfl) : DS X W (.AugAssign (.Name x pos') .Sub e pos) (sAug true i te) :=
  ⟨PS.imp (ps_aug hN hi (.inl hx) he.pe ip_sub (.inr hx)) fun D σ H h => aug_imp (neg := true) h⟩

/-! ### xs.extend(a new list) -/
def gExtend : DM := fun x xs M P => match x, xs with
  | .r a, [.r b] => match M a, M b with
    | some (.ls ys), some (.ls zs) => ys.length + zs.length ≤ sizeLine ∧ P (.d .none) (mu M a (.ls (ys ++ zs)))
    | _, _ => False
  | _, _ => False
theorem dm_extend : DMt X "list.extend" gExtend := by
  intro pins s σ H v vs w us Q I rx rv h
  obtain ⟨x, xs, M, N, P, hr, ix, ixs, hg, fo⟩ := h
  unfold gExtend at hg
  split at hg
  · rename_i a b
    obtain ⟨u, rfl, iy⟩ := are1 ixs
    cases (show v = .ref a from ix)
    cases (show u = .ref b from iy)
    split at hg
    · rename_i ys zs q1 q2
      obtain ⟨o1, h1, k1⟩ := hr.obj a _ q1
      obtain ⟨o2, h2, k2⟩ := hr.obj b _ q2
      cases o1 with
      | lst ws =>
        cases o2 with
        | lst wz =>
          have l1 := dpAll_len (show DpAll _ _ _ _ from k1)
          have l2 := dpAll_len (show DpAll _ _ _ _ from k2)
          obtain ⟨r2, a2⟩ := hr.write (x := .ls (ys ++ zs)) (o := .lst (ws ++ wz)) q1 (dpAll_app k1 k2)
          exact mt_extend pins s σ H _ _ w us Q I rx rv ⟨a, b, ws, wz, rfl, rfl, h1, h2, by rw [l1, l2]; exact hg.1, fo _ _ _ _ hg.2 r2 a2 (show Dp _ _ _ _ from .non)⟩
        | _ => exact (show False from k2).elim
      | _ => exact (show False from k1).elim
    · exact hg.elim
  · exact hg.elim
end
end DL

/-! Part 20: enumerate over lists and tuples, dict comprehensions. -/
namespace DL
open PySem PySem.Spec PyProof.Rows L2

/-! ### enumerate of a tuple -/
set_option maxHeartbeats 1000000 in
theorem enum_new1 {u : Value} {ob : Obj} {G : Heap → Prop} (B : Begins u ob G) :
    Meets (Builtin.«enumerate.__new__» ⟨[.type "enumerate", u], []⟩) (fun _ R t => G t.heap ∧
      R (.ok (.ret (.ref (t.heap.push ob).objs.size))) { t with heap := (t.heap.push ob).push { cls := .type "enumerate", data := .fields #[.none, .bool false, .ref t.heap.objs.size, rawInt 0, .none, .none] } }) :=
  .of_wp fun prog w A R t k => by
    obtain ⟨hp, gn, dr, tk, os⟩ := t
    obtain ⟨k1, k⟩ := k
    have hsub := sub_enumerate
    have qq : ∀ {A' : Around} {E : Value → Shared → Prop} {Q : Value → Shared → Prop}, Q (.ref hp.objs.size) ⟨hp.push ob, gn, dr, tk, os⟩ → wpAny (model prog w) A' (pyIter u) Q E ⟨hp, gn, dr, tk, os⟩ :=
      fun q => B.iter prog w _ _ ⟨hp, gn, dr, tk, os⟩ _ k1 q
    wp_walk
    refine wpAny_stack_any fun st => wpAny_pure ?_
    split
    · rename_i c _ _ _ _ _
      cases (c == Value.type "enumerate")
      · wp_walk using qq
        exact ⟨_, rfl, k⟩
      · wp_walk using qq
        exact ⟨_, rfl, k⟩
    · wp_walk using qq
      exact ⟨_, rfl, k⟩
section
variable {prog : Program} {w : World} {A : Around} {E : Value → Shared → Prop} {s : Shared}
theorem enum_of {u : Value} {ob : Obj} {G : Heap → Prop} {Q : Value → Shared → Prop} (B : Begins u ob G) (g : G s.heap)
    (k : ∀ h', IsEnum h' (s.heap.objs.size + 1) s.heap.objs.size 0 .none → h'.get? s.heap.objs.size = some ob → h'.objs.size = s.heap.objs.size + 2 → (∀ b o, s.heap.get? b = some o → h'.get? b = some o) → Q (.ref (s.heap.objs.size + 1)) { s with heap := h' }) :
    wpAny (model prog w) A (call (.type "enumerate") [u]) Q E s := by
  refine callType_new F.called_enumerate (by decide) (F.typeCall_enumerate_1 _) (F.newCall_enumerate_1 _) (fun z => F.args_object_init_2 z _) F.entry_enumerate_new (enum_new1 B) ⟨g, ?_⟩
  have sz : (s.heap.push ob).objs.size = s.heap.objs.size + 1 := Heap.size_push ..
  show _ ∧ _
  rw [sz]
  have en : IsEnum ((s.heap.push ob).push { cls := .type "enumerate", data := .fields #[.none, .bool false, .ref s.heap.objs.size, rawInt 0, .none, .none] }) (s.heap.objs.size + 1) s.heap.objs.size 0 .none := by
    have z := Heap.get?_push_size (s.heap.push ob) (o := { cls := .type "enumerate", data := .fields #[.none, .bool false, .ref s.heap.objs.size, rawInt 0, .none, .none] }) rfl
    rw [sz] at z
    exact z
  exact ⟨⟨_, en, rfl⟩, k _ en (Heap.get?_push_of_some _ (Heap.get?_push_size _ B.free)) (by rw [Heap.size_push, sz]) fun b o q => Heap.get?_push_of_some _ (Heap.get?_push_of_some _ q)⟩
end
/-- the tuple at a, each item in a new pair -/
def IteT (K : PySem.W.Frag) (a : Addr) : It :=
  ⟨fun i H => ∃ (xs : List V) (x : V), SqT K H a xs ∧ xs[i]? = some x, fun i H v H' => ∃ T x, v = .ref T ∧ H T = none ∧ H' = upd H T (.tup [.int (i : Nat), x]) ∧ ∀ xs, SqT K H a xs → xs[i]? = some x, fun i H => ∃ xs : List V, SqT K H a xs ∧ xs.length ≤ i⟩
theorem turn_enT {P : Program} {w : World} {K : PySem.W.Frag} {elts : List Expr} {kk : Nat} {tpos : Pos} (a e it : Addr) (ha : a ≠ it) (hea : e ≠ a) :
    Turn P w K (.Tuple elts kk tpos) (IteT K a) [e, it] e (fun i h => (∃ old, IsEnum h e it ((i : Nat) : Int) old) ∧ h.IsTupleIter it a i ∧ e ≠ it) where
  mem := by simp
  obj := fun i h st b hb => by
    obtain ⟨⟨old, he⟩, ⟨o, ho, hc, hd⟩, _⟩ := st
    have z : b = e ∨ b = it := by simpa using hb
    rcases z with z | z
    · rw [z]; exact ⟨_, he, fun v q => nomatch q⟩
    · rw [z]; exact ⟨o, ho, fun v q => by rw [hd] at q; cases q⟩
  keep := fun i h h' st k => let ⟨⟨old, he⟩, hi, hne⟩ := st; ⟨⟨old, k e (by simp) _ he⟩, hi.at fun o q => k it (by simp) o q, hne⟩
  item := by
    intro X hP hw hK hc i pins s σ H E I hf st hg
    subst hP hw hK
    obtain ⟨⟨old, he⟩, hit, hne⟩ := st
    obtain ⟨xs, x, hq, hx⟩ := hg
    obtain ⟨its, rv, p, hz⟩ := I.tuple hq
    obtain ⟨u, hu, ru⟩ := rv.get hx
    have pt : s.heap.IsTuple a its.toArray := p
    have hel : e < s.heap.objs.size := Heap.lt_size he
    have hil : it < s.heap.objs.size := by obtain ⟨_, q, _⟩ := hit; exact Heap.lt_size q
    have hil' : i < its.toArray.size := by
      obtain ⟨z, _⟩ := List.getElem?_eq_some_iff.mp hu
      simpa using z
    refine wpAny_pyNext_enum_itemD (Draws.tuple (A := X.A.in1) (I.ok.hd hc) it a ha its.toArray) he ⟨hit, pt⟩ hil' hne (by simp; exact ⟨hne, hea⟩) fun y h' tk hy ho hit' hT hsz hk => ?_
    have ey : y = u := by
      have hy' : its.toArray[i]? = some y := hy
      rw [List.getElem?_toArray, hu] at hy'
      exact (Option.some.inj hy').symm
    subst ey
    refine ⟨_, rfl, wpAny_letOwnedTupleGo_enum (s := { s with heap := h', toks := tk + 1 }) ho fun h'' he' sb => ?_⟩
    have hT2 : h''.get? s.heap.objs.size = some { cls := .type "tuple", data := .seq #[.int i tk, y] } := (sb.2 _ (Nat.ne_of_gt hel)).trans hT
    have fresh : ObjOk X.prog X.w (upd H s.heap.objs.size (.tup [.int (i : Nat), x])) h'' s.heap.objs.size (.tup [.int (i : Nat), x]) :=
      ⟨by show 2 ≤ sizeLine; decide, [.int i tk, y], .cons ⟨_, rfl⟩ (.cons ru .nil), ⟨_, hT2, rfl, _, rfl⟩⟩
    have I1 : Inv X pins σ (upd H s.heap.objs.size (.tup [.int (i : Nat), x])) { s with heap := h'', toks := tk + 1 } :=
      I.turnedNew (ch := [e, it]) (fun b ob hb q => (sb.2 b (fun z => hb (by simp [z]))).trans (hk b ob (fun z => hb (by simp [z])) (fun z => hb (by simp [z])) q)) hf (Nat.le_refl _) fresh
    refine ⟨.ref s.heap.objs.size, _, I1, rfl, ⟨_, x, rfl, I.hok.fresh (Nat.le_refl _), rfl, fun ys hy => by rw [I.tuple_inj hy hq]; exact hx⟩, ⟨⟨y, ?_⟩, hit'.1.at fun o q => (sb.2 it (Ne.symm hne)).trans q, hne⟩, fun b hb => ?_⟩
    · rw [show ((i + 1 : Nat) : Int) = (i : Int) + 1 by omega]
      exact he'
    · have hb' : b < s.heap.objs.size := by
        have z : b = e ∨ b = it := by simpa using hb
        rcases z with z | z
        · rw [z]; exact hel
        · rw [z]; exact hil
      rw [upd_ne (Nat.ne_of_lt hb')]
      exact (hf b hb).1
  done := by
    intro X hP hw hK hc i pins s σ H E I hf st hg
    subst hP hw hK
    obtain ⟨⟨old, he⟩, hit, hne⟩ := st
    obtain ⟨xs, hq, hx⟩ := hg
    obtain ⟨its, rv, p, hz⟩ := I.tuple hq
    have pt : s.heap.IsTuple a its.toArray := p
    obtain ⟨f0, f1, f2, f3, f4, f5⟩ := hf it (by simp)
    have hl := rv.length
    -- the walk is past the end
    have D : Draws X.prog X.w X.A.in1 it [it, a] i (fun _ _ => True) (fun j h => j = i ∧ h.IsTupleIter it a i ∧ h.IsTuple a its.toArray) :=
      { live := fun _ _ z => let ⟨o, ho, _⟩ := z.2.1; ⟨o, ho⟩
        frame := fun _ _ _ z k => ⟨z.1, z.2.1.at fun o q => k it (by simp) o q, z.2.2.at fun o q => k a (by simp) o q⟩
        item := fun j s Q E hj z _ => absurd hj (by rw [z.1]; exact Nat.lt_irrefl _)
        done := fun s Q E z hE => wpAny_nextOf_tuple_end (I.ok.hd hc) z.2.1 z.2.2 (by simp; omega) hE }
    exact wpAny_pyNext_enum_endD D he ⟨rfl, hit, pt⟩ fun h' eb => ⟨rfl, I.turned (t' := s.toks) (fun b o hb q => eb b o hb q) f0 f1 f3 f4 f5⟩
  self := fun A i s Q E st h => let ⟨⟨_, he⟩, _⟩ := st; wpAny_pyIter_enum he h
end DL

/-! Part 21: enumerate, dict comprehensions, as readings. -/
namespace DL
open PySem PySem.Spec PyProof.Rows L2

section
variable {X : Cx} {W : WX} {e : Expr} {ta : DTA} {pos p tpos : Pos} {elts : List Expr} {kk : Nat}
theorem pi_enumB {tb : TA} (hg : Gl X "enumerate") (hm : X.mg "enumerate" = none) (ha : PA X [e] tb) (hs : starEach [e] X.env = [(false, eval e X.env)]) :
    PI X (.Tuple elts kk tpos) (.Call (.Name "enumerate" p) [e] [] pos) (fun σ H R => tb σ H fun vs H1 => ∃ a, vs = [.ref a] ∧ ((∃ xs, SqL X.K H1 a xs ∧ R (Ite X.K a) H1) ∨ ∃ xs, SqT X.K H1 a xs ∧ R (IteT X.K a) H1)) := by
  refine ⟨fun pins s σ H R I h => ?_⟩
  refine Call_ (ld_blt I hg hm boot_enumerate (PyProof.Rows.callWith_type1 (thn (ha.run pos pins s σ H _ I h) fun us s1 ⟨vs, H1, I1, r1, q1⟩ => ?_) hs rfl))
  obtain ⟨a, ea, q⟩ := q1
  subst ea
  cases r1 with
  | cons r rr =>
    cases rr
    cases r
    have own : ∀ b, b = s1.heap.objs.size + 1 ∨ b = s1.heap.objs.size → s1.heap.objs.size ≤ b := by
      rintro b (z | z)
      · rw [z]; exact Nat.le_add_right _ _
      · rw [z]; exact Nat.le_refl _
    rcases q with ⟨xs, hq, q⟩ | ⟨xs, hq, q⟩
    · obtain ⟨its, rv, pl, hz⟩ := I1.list hq
      refine call_enumerate_list pl.isList fun h' he hit hsz hk => wpAny_pyIter_enum he ?_
      refine ⟨s1.heap.objs.size + 1, [s1.heap.objs.size + 1, s1.heap.objs.size], _, _, H1, rfl, I1.kept (t' := s1.toks) hk, turn_enum a _ _, ⟨⟨.none, he⟩, hit, Nat.succ_ne_self _⟩, fun b hb => ?_, q⟩
      have hle := own b (by simpa using hb)
      exact I1.fpOk hle (I1.hok.fresh hle)
    · obtain ⟨its, rv, pl, hz⟩ := I1.tuple hq
      have pt : s1.heap.IsTuple a its.toArray := pl
      have la : a < s1.heap.objs.size := by obtain ⟨o, ho, _⟩ := pt; exact Heap.lt_size ho
      refine enum_of (begins_tuple a its.toArray) pt fun h' he hit hsz hk => wpAny_pyIter_enum he ?_
      refine ⟨s1.heap.objs.size + 1, [s1.heap.objs.size + 1, s1.heap.objs.size], _, _, H1, rfl, I1.kept (t' := s1.toks) hk, turn_enT a _ _ (Nat.ne_of_lt la) (Nat.ne_of_gt (Nat.lt_succ_of_lt la)), ⟨⟨.none, he⟩, ⟨_, hit, rfl, rfl⟩, Nat.succ_ne_self _⟩, fun b hb => ?_, q⟩
      have hle := own b (by simpa using hb)
      exact I1.fpOk hle (I1.hok.fresh hle)
/-- (0, x), (1, y), .. -/
def enumD (ds : List PyData) : List DV := (List.range ds.length).map fun i => .d (.tuple [.int (i : Nat), ds.getD i .none])
theorem enumD_len {ds : List PyData} : (enumD ds).length = ds.length := by simp [enumD]
theorem enumD_at {ds : List PyData} {i : Nat} {x : DV} (h : (enumD ds)[i]? = some x) : ∃ d, ds[i]? = some d ∧ x = .d (.tuple [.int (i : Nat), d]) := by
  unfold enumD at h
  rw [List.getElem?_map] at h
  by_cases c : i < ds.length
  · rw [List.getElem?_range c] at h
    cases h
    exact ⟨ds[i], List.getElem?_eq_getElem c, by
      show DV.d (.tuple [.int (i : Nat), ds.getD i .none]) = _
      rw [List.getD_eq_getElem?_getD, List.getElem?_eq_getElem c]
      rfl⟩
  · rw [List.getElem?_eq_none (by simpa using c)] at h
    cases h
def enumW (xs : List DV) (M1 : MHp) (P : List DV → (MHp → Prop) → MHp → Prop) : Prop := match xs with
  | [.r a] => match M1 a with
    | some (.ls ys) => P (enumD ys) (fun M' => M' a = some (.ls ys)) M1
    | _ => False
  | [.d (.list ys)] => P (enumD ys) (fun _ => True) M1
  | [.d (.tuple ys)] => P (enumD ys) (fun _ => True) M1
  | _ => False
def iEnumD (ta : DTA) : DTI := fun ρ M P PX => ta ρ M (fun xs M1 => enumW xs M1 P) PX
theorem pair_new {K : PySem.W.Frag} {M : MHp} {N : Hid} {H : Hp} {T : Addr} {i : Int} {x : V} {d : PyData} (hr : HRel K M N H) (hT : H T = none) (hx : Dp K (fz M N H) x d) : Same H (upd H T (.tup [.int i, x])) ∧ IsD K (fz M N (upd H T (.tup [.int i, x]))) (.ref T) (.d (.tuple [.int i, d])) := by
  have s : Same H (upd H T (.tup [.int i, x])) := fun b o q => by rw [upd_ne (ne_of_none q hT)]; exact q
  refine ⟨s, ?_⟩
  obtain ⟨h1, h2⟩ := hr.free hT
  have sf : Same (fz M N H) (fz M N (upd H T (.tup [.int i, x]))) := fun b o q => by
    have hb : b ≠ T := by
      rintro rfl
      have := fz_sub _ _ q
      rw [hT] at this
      cases this
    unfold fz at q ⊢
    rw [upd_ne hb]
    exact q
  exact .tup (.inl (.inl (by rw [fz_at h2 h1, upd_same]; rfl))) (.cons (.int _) (.cons (dp_mono sf _ _ hx) .nil))
theorem it_enT {K : PySem.W.Frag} {F0 : Hp} {a : Addr} {vs : List V} {ds : List PyData} (hq : SqT K F0 a vs) (hd : DpAll K F0 vs ds) : ItD K F0 (IteT K a) (enumD ds) (fun _ => True) where
  go := fun i M N H s hr _ hi => ⟨vs, vs[i]'(by rw [dpAll_len hd]; rw [enumD_len] at hi; exact hi), same_tup (s.trans fz_sub) hq, List.getElem?_eq_getElem _⟩
  stop := fun M N H s hr _ => ⟨vs, same_tup (s.trans fz_sub) hq, by rw [dpAll_len hd, enumD_len]; exact Nat.le_refl _⟩
  yld := fun i M N H v H' x s hr _ hx y => by
    obtain ⟨T, z, rfl, hT, rfl, y⟩ := y
    have e := y vs (same_tup (s.trans fz_sub) hq)
    obtain ⟨d, e1, e2⟩ := dpAll_get' hd e
    obtain ⟨d', e3, rfl⟩ := enumD_at hx
    rw [e1] at e3
    cases e3
    exact pair_new hr hT (dp_mono s _ _ e2)
theorem it_enL {K : PySem.W.Frag} {F0 : Hp} {a : Addr} {vs : List V} {ds : List PyData} (hq : SqL K F0 a vs) (hd : DpAll K F0 vs ds) : ItD K F0 (Ite K a) (enumD ds) (fun _ => True) where
  go := fun i M N H s hr _ hi => ⟨vs, vs[i]'(by rw [dpAll_len hd]; rw [enumD_len] at hi; exact hi), Same.seq (s.trans fz_sub) hq, List.getElem?_eq_getElem _⟩
  stop := fun M N H s hr _ => ⟨vs, Same.seq (s.trans fz_sub) hq, by rw [dpAll_len hd, enumD_len]; exact Nat.le_refl _⟩
  yld := fun i M N H v H' x s hr _ hx y => by
    obtain ⟨T, z, rfl, hT, rfl, y⟩ := y
    have e := y vs (Same.seq (s.trans fz_sub) hq)
    obtain ⟨d, e1, e2⟩ := dpAll_get' hd e
    obtain ⟨d', e3, rfl⟩ := enumD_at hx
    rw [e1] at e3
    cases e3
    exact pair_new hr hT (dp_mono s _ _ e2)
theorem it_enM {K : PySem.W.Frag} {F0 : Hp} {a : Addr} {ds : List PyData} : ItD K F0 (Ite K a) (enumD ds) (fun M => M a = some (.ls ds)) where
  go := fun i M N H s hr hC hi => by
    obtain ⟨o, h1, h2⟩ := hr.obj a _ hC
    cases o with
    | lst ws => exact ⟨ws, ws[i]'(by rw [dpAll_len (show DpAll _ _ _ _ from h2)]; rw [enumD_len] at hi; exact hi), .inl (.inl h1), List.getElem?_eq_getElem _⟩
    | _ => exact (show False from h2).elim
  stop := fun M N H s hr hC => by
    obtain ⟨o, h1, h2⟩ := hr.obj a _ hC
    cases o with
    | lst ws => exact ⟨ws, .inl (.inl h1), by rw [dpAll_len (show DpAll _ _ _ _ from h2), enumD_len]; exact Nat.le_refl _⟩
    | _ => exact (show False from h2).elim
  yld := fun i M N H v H' x s hr hC hx y => by
    obtain ⟨T, z, rfl, hT, rfl, y⟩ := y
    obtain ⟨o, h1, h2⟩ := hr.obj a _ hC
    cases o with
    | lst ws =>
      have e := y ws (.inl (.inl h1))
      obtain ⟨d, e1, e2⟩ := dpAll_get' (show DpAll _ _ _ _ from h2) e
      obtain ⟨d', e3, rfl⟩ := enumD_at hx
      rw [e1] at e3
      cases e3
      exact pair_new hr hT e2
    | _ => exact (show False from h2).elim
theorem di_enum (hm : X.mg "enumerate" = none) (ha : DA X W [e] ta) (hg : Gl X "enumerate" := by rfl) (hs : starEach [e] X.env = [(false, eval e X.env)] := by rfl) : DI X W (.Tuple elts kk tpos) (.Call (.Name "enumerate" p) [e] [] pos) (iEnumD ta) :=
  ⟨PI.imp (pi_enumB hg hm ha.pa hs) fun σ H R ⟨ρ, M, N, P, PX, hs, hr, ht, hP, hX⟩ => by
    refine ⟨ρ, M, N, _, PX, hs, hr, ht, fun xs M1 vs H1 p hr1 af1 iv => ?_, hX⟩
    unfold enumW at p
    split at p
    · rename_i a
      obtain ⟨v, rfl, i⟩ := are1 iv
      cases (show v = .ref a from i)
      split at p
      · rename_i ys q
        obtain ⟨o, h1, h2⟩ := hr1.obj a _ q
        cases o with
        | lst ws => exact ⟨a, rfl, .inl ⟨ws, .inl (.inl h1), hP _ _ M1 _ H1 p hr1 af1 it_enM⟩⟩
        | _ => exact (show False from h2).elim
      · exact p.elim
    · obtain ⟨v, rfl, i⟩ := are1 iv
      cases (show Dp _ _ _ _ from i) with
      | lst h1 h2 => exact ⟨_, rfl, .inl ⟨_, Same.seq fz_sub h1, hP _ _ M1 _ H1 p hr1 af1 (it_enL h1 h2)⟩⟩
    · obtain ⟨v, rfl, i⟩ := are1 iv
      cases (show Dp _ _ _ _ from i) with
      | tup h1 h2 => exact ⟨_, rfl, .inr ⟨_, same_tup fz_sub h1, hP _ _ M1 _ H1 p hr1 af1 (it_enT h1 h2)⟩⟩
    · exact p.elim⟩
end

/-! ### {k: v for target in iter if ..} -/
def dcI (xs : List DV) (C : MHp → Prop) (g : DTG) (tt : DTT) (tk te : DTE) (vs : List Nat) (ρ : DEnv) (M1 : MHp) (P : DK) : Prop := ∃ I : Nat → List (Key × DV) → MHp → Prop, (∃ M', MLe M' M1 ∧ I 0 [] M') ∧ (∀ i acc M, i ≤ xs.length → I i acc M → C M) ∧
  (∀ i acc M x, xs[i]? = some x → I i acc M → g x (wipeD ρ vs) M (fun ρ2 M2 => tt ρ2 M2 (fun b M3 => if b = true then tk ρ2 M3 (fun y M4 => te ρ2 M4 (fun z M5 => ∃ k, asKey y = some k ∧ acc.length < sizeLine ∧ ∃ M', MLe M' M5 ∧ I (i + 1) (putD acc k z) M') fun _ _ => False) fun _ _ => False else ∃ M', MLe M' M3 ∧ I (i + 1) acc M') fun _ _ => False) fun _ _ => False) ∧
  ∀ acc M, I xs.length acc M → ∀ p, M p = none → P (.r p) (mu M p (.dk acc))
def eDc (wi : DTI) (g : DTG) (tt : DTT) (tk te : DTE) (vs : List Nat) : DTE := fun ρ M P PX => wi ρ M (fun xs C M1 => dcI xs C g tt tk te vs ρ M1 P) PX
theorem fz_hidO {M : MHp} {N : Hid} {H : Hp} {D : Addr} {x : MO} : Same (fz M (hidE N D) H) (fz (mu M D x) N H) := fun b u q => by
  unfold fz at q ⊢
  by_cases hb : hidE N D b = true
  · rw [if_pos hb] at q; cases q
  · have hD : b ≠ D := by rintro rfl; exact hb hidE_self
    rw [hidE_ne hD] at hb q
    rw [if_neg hb] at q ⊢
    rw [mu_ne hD]
    exact q
theorem dc_imp {K : PySem.W.Frag} {W : WX} {wi : DTI} {g : DTG} {tt : DTT} {tk te : DTE} {sl vs : List Nat} (hsl : ∀ j ∈ sl, j ∈ vs) {σ : L2.St} {H : Hp} {Q : VK} (h : LE K W (eDc wi g tt tk te vs) σ H Q) :
    tDc (LI K W wi) (LG K W0 sl g) (LT K W0 tt) (LE K W0 tk) (LE K W0 te) vs σ H Q := by
  obtain ⟨ρ, M, N, P, PX, hs, hr, ht, hP, hX⟩ := h
  refine ⟨ρ, M, N, _, PX, hs, hr, ht, fun xs C M1 J H1 p r1 a1 T D hD => ?_, hX⟩
  obtain ⟨I, ⟨M0, l0, i0⟩, hC, turn, done⟩ := p
  have w0 := r1.le l0
  have hN := (r1.free hD).2
  obtain ⟨rh, sh⟩ := w0.1.hide (o := .dK []) hD
  refine ⟨fun i m H2 => m = xs.length - i ∧ i ≤ xs.length ∧ ∃ acc M2 ws, H2 D = some (.dK ws) ∧ PKV K (fz M2 (hidE N D) H2) ws acc ∧ HRel K M2 (hidE N D) H2 ∧ Same (fz M0 N H1) (fz M2 (hidE N D) H2) ∧ (∀ a, N a = true → H2 a = H1 a) ∧ I i acc M2,
    ⟨xs.length, by simp, Nat.zero_le _, [], M0, [], upd_same, .nil, rh, sh, fun a ha => upd_ne (by rintro rfl; rw [hN] at ha; cases ha), i0⟩, ?_⟩
  rintro i m H2 ⟨rfl, hi, acc, M2, ws, e2, ar2, r2, s2, n2, i2⟩
  have T0 : Same (fz M1 N H1) (fz M2 (hidE N D) H2) := w0.2.fr.trans s2
  by_cases hlt : i < xs.length
  · refine .inr ⟨T.go i M2 _ H2 T0 r2 (hC i acc M2 hi i2) hlt, fun H' => ∃ acc M2 ws, H' D = some (.dK ws) ∧ PKV K (fz M2 (hidE N D) H') ws acc ∧ HRel K M2 (hidE N D) H' ∧ Same (fz M0 N H1) (fz M2 (hidE N D) H') ∧ (∀ a, N a = true → H' a = H1 a) ∧ I (i + 1) acc M2,
      fun H' q => ⟨xs.length - (i + 1), by omega, rfl, hlt, q⟩, fun v H3 y => ?_⟩
    have hx : xs[i]? = some xs[i] := List.getElem?_eq_getElem hlt
    obtain ⟨g3, iv⟩ := T.yld i M2 _ H2 v H3 xs[i] T0 r2 (hC i acc M2 hi i2) hx y
    have r3 := r2.grow g3
    have a3 := Af.grow r2 g3
    have nD : ∀ {M' : MHp} {H' : Hp}, Af M2 (hidE N D) H2 M' H' → ∀ a, N a = true → H' a = H1 a := fun {M' H'} af a ha => (af.hd a (by simp [hidE, ha])).trans (n2 a ha)
    have eD : ∀ {M' : MHp} {H' : Hp}, Af M2 (hidE N D) H2 M' H' → H' D = some (.dK ws) := fun {M' H'} af => (af.hd D hidE_self).trans e2
    refine ⟨xs[i], wipeD ρ vs, M2, hidE N D, _, fun _ _ => False, iv, wipe_rel ((hs.mono (a1.fr.trans (T0.trans a3.fr)))) vs, r3, turn i acc M2 xs[i] hx i2, fun ρ4 M4 σ4 H4 p4 s4 r4 a4 b4 => ⟨wipe_but hsl b4, ?_⟩, fun _ _ _ _ z => z.elim⟩
    refine ⟨ρ4, M4, hidE N D, _, fun _ _ => False, s4, r4, p4, fun b M5 H5 p5 r5 a5 => ?_, fun _ _ _ _ z => z.elim⟩
    cases b with
    | false =>
      obtain ⟨M6, l6, i6⟩ := p5
      have w := r5.le l6
      have af := ((a3.trans a4).trans a5).trans w.2
      exact ⟨acc, M6, ws, eD af, pk_mono af.fr ar2, w.1, s2.trans af.fr, nD af, i6⟩
    | true =>
      refine ⟨ρ4, M5, hidE N D, _, fun _ _ => False, s4.mono a5.fr, r5, p5, fun y M6 u H6 p6 r6 a6 iu => ?_, fun _ _ _ _ z => z.elim⟩
      refine ⟨ρ4, M6, hidE N D, _, fun _ _ => False, (s4.mono a5.fr).mono a6.fr, r6, p6, fun z M7 t H7 p7 r7 a7 it => ?_, fun _ _ _ _ z => z.elim⟩
      obtain ⟨k, hk, hz, M8, l8, i8⟩ := p7
      have w := r7.le l8
      have af := ((((a3.trans a4).trans a5).trans a6).trans a7).trans w.2
      refine ⟨ws, k, isKey (isD_mono a7.fr iu) hk, eD af, by rw [paired_len ar2]; exact hz, putD acc k z, M8, putK ws k t, upd_same, ?_, w.1.writeHid, ?_, fun a ha => ?_, i8⟩
      · rw [fz_upd_hid]
        exact pk_put (pk_mono af.fr ar2) k (isD_mono w.2.fr it)
      · rw [fz_upd_hid]
        exact s2.trans af.fr
      · rw [upd_ne (by rintro rfl; rw [hN] at ha; cases ha)]
        exact nD af a ha
  · have el : i = xs.length := by omega
    subst el
    refine .inl ⟨T.stop M2 _ H2 T0 r2 (hC _ acc M2 hi i2), ?_⟩
    have hm := (r2.hid D hidE_self).1
    refine hP _ _ _ H2 (done acc M2 i2 D hm) ⟨fun a y q => ?_, fun a ha => ?_⟩ (a1.trans ⟨T0.trans fz_hidO, fun a ha => n2 a ha⟩) rfl
    · by_cases hb : a = D
      · subst hb
        rw [mu_same] at q
        cases q
        exact ⟨_, e2, pk_mono fz_hidO ar2⟩
      · rw [mu_ne hb] at q
        obtain ⟨z, h1, h2⟩ := r2.obj a y q
        exact ⟨z, h1, objD_mono fz_hidO h2⟩
    · have hb : a ≠ D := by rintro rfl; rw [hN] at ha; cases ha
      rw [mu_ne hb]
      exact r2.hid a (by simp [hidE, ha])
section
variable {X : Cx} {W : WX} {kx elt tg iter : Expr} {ifs : List Expr} {scope : Scope} {own : List (Str × Nat)} {pos : Pos} {wi : DTI} {g : DTG} {tt : DTT} {tk te : DTE} {sl : List Nat}
theorem de_dc {vs : List Nat} (hc : X.calm = true) (hN : X.N.Nodup) (hi : DI X W tg iter wi) (ok : BlkOk X.N X.env.scope scope own)
    (hg : ∀ (s : Shared) (H : Hp) (C : Addr) (cl : List (Str × Addr)) (fp : List Addr), DG (X.blk s H scope (compEnvC scope cl C X.env) fp) W0 tg sl g) (hsl : ∀ j ∈ sl, j ∈ own.map (·.2)) (ht : ∀ (s : Shared) (H : Hp) (C : Addr) (cl : List (Str × Addr)) (fp : List Addr), DTs (X.blk s H scope (compEnvC scope cl C X.env) fp) W0 ifs tt)
    (hk : ∀ (s : Shared) (H : Hp) (C : Addr) (cl : List (Str × Addr)) (fp : List Addr), DE (X.blk s H scope (compEnvC scope cl C X.env) fp) W0 kx tk)
    (he : ∀ (s : Shared) (H : Hp) (C : Addr) (cl : List (Str × Addr)) (fp : List Addr), DE (X.blk s H scope (compEnvC scope cl C X.env) fp) W0 elt te) (hs : ∀ x, foldedSetIterable iter X.env x = pure x := by intro _; rfl) (hv : own.map (·.2) = vs := by rfl) :
    DE X W (.DictComp kx elt [⟨tg, iter, ifs, 0⟩] scope pos) (eDc wi g tt tk te vs) := by
  subst hv
  exact ⟨PE.imp (pe_dc hc hN hi.pi ok (fun s H C cl fp => (hg s H C cl fp).pg) (fun s H C cl fp => (ht s H C cl fp).pt) (fun s H C cl fp => (hk s H C cl fp).pe) (fun s H C cl fp => (he s H C cl fp).pe) hs) fun σ H Q h => dc_imp hsl h⟩
theorem sw_dict {i : Nat} {py : Pos} {y : Str} {gs : List Comprehension} {l : Nat} {env : Env} (hk : env.scope.kind = .function) (hy : env.scope.names.lookup y = some .local) (hl : (py.line == pos.line) = true)
    (ha : (scope.names.any fun (n, k) => n == y && (k == .local || k == .cell)) = false) : swapsWith (.DictComp kx elt gs scope pos) (some (.Name y py)) l env = pure true := by
  have ky : env.kindOf y = some .local := hy
  have bk : env.blockKind = .function := by
    unfold Env.blockKind
    rw [hk]
    rfl
  show (pure (env.blockKind == .function && env.kindOf y == some .local && py.line == pos.line && !(scope.names.any fun (n, k) => n == y && (k == .local || k == .cell))) : Sem Bool) = pure true
  rw [bk, ky, hl, ha]
  rfl
theorem ps_setDc {i : Nat} {y : Str} {py spos : Pos} {vi : TI} {gg : TG} {uu : TT} {ka va : TE} (hc : X.calm = true) (hN : X.N.Nodup) (hy : X.N[i]? = some y) (hyl : X.env.scope.names.lookup y = some .local)
    (hsw : swapsWith (.DictComp kx elt [⟨tg, iter, ifs, 0⟩] scope pos) (some (.Name y py)) spos.line X.env = pure true) (hi : PI X tg iter vi) (ok : BlkOk X.N X.env.scope scope own)
    (hg : ∀ (s : Shared) (H : Hp) (C : Addr) (cl : List (Str × Addr)) (fp : List Addr), PG (X.blk s H scope (compEnvC scope cl C X.env) fp) tg gg) (ht : ∀ (s : Shared) (H : Hp) (C : Addr) (cl : List (Str × Addr)) (fp : List Addr), PTs (X.blk s H scope (compEnvC scope cl C X.env) fp) ifs uu)
    (hk : ∀ (s : Shared) (H : Hp) (C : Addr) (cl : List (Str × Addr)) (fp : List Addr), PE (X.blk s H scope (compEnvC scope cl C X.env) fp) kx ka)
    (he : ∀ (s : Shared) (H : Hp) (C : Addr) (cl : List (Str × Addr)) (fp : List Addr), PE (X.blk s H scope (compEnvC scope cl C X.env) fp) elt va) (hs : ∀ x, foldedSetIterable iter X.env x = pure x) :
    PS X (.Assign [.Name y py] (.DictComp kx elt [⟨tg, iter, ifs, 0⟩] scope pos) spos) (tAsg (tDc vi gg uu ka va (own.map (·.2))) (gName i)) := by
  refine ⟨fun pins s σ H D I k => ?_⟩
  rw [exec_Assign_Name_used _ _ _ _ hsw]
  refine wpAny_bind (wpAny_standAt (wpAny_bind ?_))
  show wpAny _ X.A (do let _ ← comprehension (.DictComp kx elt [⟨tg, iter, ifs, 0⟩] scope pos) scope X.env (firstIterPos [⟨tg, iter, ifs, 0⟩] pos) newDict false (eval iter X.env) (some (assign (.Name y py) X.env))) _ _ s
  have k : tDc vi gg uu ka va (own.map (·.2)) σ H (fun x H1 => gName i x σ H1 D.nx) := k
  refine wpAny_bind (thn (dc_core (Qf := fun _ t => SP X pins D .next t) hc hN I hi ok hg ht hk he hs k fun L C t m H' I' q hn f => ?_) fun _ t hq => wpAny_pure (wpAny_pure hq))
  show wpAny _ _ (assign (.Name y py) X.env (.ref L)) _ _ _
  refine wpAny_assign_Name (store_ok2 (v := V.ref L) I' hN hy (.inl hyl) rfl (fun s2 I2 ⟨a, sb, ha⟩ => ?_) (.inr hyl))
  obtain ⟨f0, f1, f2, f3, f4, f5⟩ := f
  have away : C ≠ a := by
    rcases ha with z | z
    · rw [z]; exact f1
    · exact fun e => f4 y a z e.symm
  exact ⟨m, hn.sameBut sb away, fun h3 sb3 => ⟨_, H', I2.turned (t' := s2.toks) (fun b o hb e => (sb3.2 b hb).trans e) f0 f1 f3 f4 f5, q⟩⟩
theorem ds_setDc {vs : List Nat} {i : Nat} {y : Str} {py spos : Pos} (hc : X.calm = true) (hN : X.N.Nodup) (hi : DI X W tg iter wi) (ok : BlkOk X.N X.env.scope scope own)
    (hg : ∀ (s : Shared) (H : Hp) (C : Addr) (cl : List (Str × Addr)) (fp : List Addr), DG (X.blk s H scope (compEnvC scope cl C X.env) fp) W0 tg sl g) (hsl : ∀ j ∈ sl, j ∈ own.map (·.2)) (ht : ∀ (s : Shared) (H : Hp) (C : Addr) (cl : List (Str × Addr)) (fp : List Addr), DTs (X.blk s H scope (compEnvC scope cl C X.env) fp) W0 ifs tt)
    (hk : ∀ (s : Shared) (H : Hp) (C : Addr) (cl : List (Str × Addr)) (fp : List Addr), DE (X.blk s H scope (compEnvC scope cl C X.env) fp) W0 kx tk)
    (he : ∀ (s : Shared) (H : Hp) (C : Addr) (cl : List (Str × Addr)) (fp : List Addr), DE (X.blk s H scope (compEnvC scope cl C X.env) fp) W0 elt te)
    (hsw : swapsWith (.DictComp kx elt [⟨tg, iter, ifs, 0⟩] scope pos) (some (.Name y py)) spos.line X.env = pure true) (hy : X.N[i]? = some y := by rfl) (hyl : X.env.scope.names.lookup y = some .local := by rfl) (hs : ∀ x, foldedSetIterable iter X.env x = pure x := by intro _; rfl) (hv : own.map (·.2) = vs := by rfl) :
    DS X W (.Assign [.Name y py] (.DictComp kx elt [⟨tg, iter, ifs, 0⟩] scope pos) spos) (sSet i (eDc wi g tt tk te vs)) := by
  subst hv
  exact ⟨PS.imp (ps_setDc hc hN hy hyl hsw hi.pi ok (fun s H C cl fp => (hg s H C cl fp).pg) (fun s H C cl fp => (ht s H C cl fp).pt) (fun s H C cl fp => (hk s H C cl fp).pe) (fun s H C cl fp => (he s H C cl fp).pe) hs) fun D σ H ⟨ρ, M, N, E, hs, hr, ht, hE⟩ =>
    dc_imp (W := W) hsl ⟨ρ, M, N, _, _, hs, hr, ht, fun x M1 v H1 p hr1 af1 iv => hE.nx _ M1 _ H1 p ((hs.mono af1.fr).set iv i) hr1 af1, hE.xend hs⟩⟩
end
end DL

/-! Part 22: the walk's rules for parts 19 to 21. -/
namespace DL
open PySem PySem.Spec PyProof.Rows L2
section
variable {i : Nat} {n m : Int} {ρ : DEnv} {M : MHp} {P : DK} {PX : DX} {te tk : DTE} {ta : DTA} {E : DEnds} {a b : Addr} {ys zs : List PyData} {k : DV → Prop} {K : List DV → (MHp → Prop) → MHp → Prop}
theorem x_aug {neg : Bool} (h : ρ[i]? = some (some (.d (.int n)))) (q : te ρ M (fun y M1 => augV neg n y fun z => E.nx (ρ.set i (some z)) M1) fun x M1 => E.ex x ρ M1) : sAug neg i te E ρ M := ⟨n, h, q⟩
theorem x_augP (q : k (.d (.int (n + m)))) : augV false n (.d (.int m)) k := q
theorem x_augM (q : k (.d (.int (n - m)))) : augV true n (.d (.int m)) k := q
theorem x_extend (h1 : M a = some (.ls ys)) (h2 : M b = some (.ls zs)) (hl : ys.length + zs.length ≤ sizeLine) (q : P (.d .none) (mu M a (.ls (ys ++ zs)))) : gExtend (.r a) [.r b] M P := by
  unfold gExtend
  simp only [h1, h2]
  exact ⟨hl, q⟩
theorem x_iEnum (q : ta ρ M (fun xs M1 => enumW xs M1 K) PX) : iEnumD ta ρ M K PX := q
theorem x_enumL (q : K (enumD ys) (fun _ => True) M) : enumW [.d (.list ys)] M K := q
theorem x_enumT (q : K (enumD ys) (fun _ => True) M) : enumW [.d (.tuple ys)] M K := q
theorem x_enumM (h : M a = some (.ls ys)) (q : K (enumD ys) (fun M' => M' a = some (.ls ys)) M) : enumW [.r a] M K := by
  unfold enumW
  simp only [h]
  exact q
theorem x_dc {wi : DTI} {g : DTG} {tt : DTT} {vs : List Nat} (q : wi ρ M (fun xs C M1 => dcI xs C g tt tk te vs ρ M1 P) PX) : eDc wi g tt tk te vs ρ M P PX := q
end
def dictOf (ps : List (Key × DV)) : List (Key × DV) := ps.foldl (fun acc p => putD acc p.1 p.2) []
theorem dictOf_snoc {ps : List (Key × DV)} {p : Key × DV} : dictOf (ps ++ [p]) = putD (dictOf ps) p.1 p.2 := by unfold dictOf; rw [List.foldl_append]; rfl
theorem putD_len {ps : List (Key × DV)} {k : Key} {v : DV} : (putD ps k v).length ≤ ps.length + 1 := by
  unfold putD
  split
  · rw [List.length_map]; exact Nat.le_succ _
  · rw [List.length_append]; exact Nat.le_refl _
theorem dictOf_len (ps : List (Key × DV)) : (dictOf ps).length ≤ ps.length := by
  suffices h : ∀ (ps acc : List (Key × DV)), (ps.foldl (fun acc p => putD acc p.1 p.2) acc).length ≤ acc.length + ps.length by
    have := h ps []
    simpa [dictOf] using this
  intro ps
  induction ps with
  | nil => intro acc; exact Nat.le_refl _
  | cons p r ih =>
    intro acc
    have := ih (putD acc p.1 p.2)
    have := putD_len (ps := acc) (k := p.1) (v := p.2)
    rw [List.foldl_cons, List.length_cons]
    omega
/-- the keys of a dict, as a set -/
theorem hasK_put {ps : List (Key × DV)} {k j : Key} {v : DV} : hasK (putD ps k v) j = (hasK ps j || decide (k = j)) := by
  unfold putD hasK
  split
  · rename_i h
    rw [List.any_map]
    have e : ((fun p : Key × DV => decide (p.1 = j)) ∘ fun kv : Key × DV => if kv.1 = k then (kv.1, v) else kv) = fun p : Key × DV => decide (p.1 = j) := by
      funext p
      show decide ((if p.1 = k then (p.1, v) else p).1 = j) = decide (p.1 = j)
      split <;> rfl
    rw [e]
    by_cases c : k = j
    · subst c
      rw [h]
      rfl
    · rw [decide_eq_false c, Bool.or_false]
  · rw [List.any_append, List.any_cons, List.any_nil, Bool.or_false]
theorem hasK_dictOf (ps : List (Key × DV)) (j : Key) : hasK (dictOf ps) j = ps.any fun p => decide (p.1 = j) := by
  suffices h : ∀ (ps acc : List (Key × DV)), hasK (ps.foldl (fun acc p => putD acc p.1 p.2) acc) j = (hasK acc j || ps.any fun p => decide (p.1 = j)) by
    rw [dictOf, h]
    rfl
  intro ps
  induction ps with
  | nil => intro acc; rw [List.any_nil, Bool.or_false]; rfl
  | cons p r ih =>
    intro acc
    rw [List.foldl_cons, ih, hasK_put, List.any_cons, Bool.or_assoc]
/-- {k: v for ..} without a test, the state as it is -/
theorem dc_map {xs : List DV} {C : MHp → Prop} {g : DTG} {tk te : DTE} {vs : List Nat} {ρ : DEnv} {M : MHp} {P : DK} (ps : List (Key × DV)) (hl : ps.length = xs.length) (hz : ps.length ≤ sizeLine) (hC : C M)
    (hb : ∀ (i : Nat) (x : DV) (p : Key × DV), xs[i]? = some x → ps[i]? = some p → ∀ K : DV → DV → MHp → Prop, (∀ y, asKey y = some p.1 → K y p.2 M) → g x (wipeD ρ vs) M (fun ρ2 M2 => tk ρ2 M2 (fun y M4 => te ρ2 M4 (fun z M5 => K y z M5) fun _ _ => False) fun _ _ => False) fun _ _ => False)
    (q : ∀ a, M a = none → P (.r a) (mu M a (.dk (dictOf ps)))) : dcI xs C g tYes tk te vs ρ M P := by
  refine ⟨fun i acc M' => M = M' ∧ acc = dictOf (ps.take i), ⟨M, .refl, rfl, rfl⟩, ?_, ?_, ?_⟩
  · rintro _ _ _ _ ⟨rfl, _⟩
    exact hC
  · rintro i _ _ x hx ⟨rfl, rfl⟩
    have hi : i < ps.length := by rw [hl]; exact (List.getElem?_eq_some_iff.mp hx).1
    have ho : ps[i]? = some ps[i] := List.getElem?_eq_getElem hi
    refine hb i x ps[i] hx ho (fun y z M5 => ∃ k, asKey y = some k ∧ (dictOf (ps.take i)).length < sizeLine ∧ ∃ M', MLe M' M5 ∧ M = M' ∧ putD (dictOf (ps.take i)) k z = dictOf (ps.take (i + 1))) fun y hy => ⟨_, hy, ?_, M, .refl, rfl, ?_⟩
    · have := dictOf_len (ps.take i)
      rw [List.length_take] at this
      omega
    · rw [List.take_succ_eq_append_getElem hi, dictOf_snoc]
  · rintro _ _ ⟨rfl, rfl⟩
    rw [← hl, List.take_length]
    exact q
end DL
namespace DL
open PySem PySem.Spec PyProof.Rows L2
theorem x_inLI {M : MHp} {P : DK} {ns : List Int} {n : Int} (q : P (.d (.bool (decide (n ∈ ns)))) M) : inD false (.d (.int n)) (.d (.list (ns.map .int))) M P := by
  refine ⟨rfl, shaped_lstI ns, ?_⟩
  rw [any_int]
  exact q
theorem x_ninLI {M : MHp} {P : DK} {ns : List Int} {n : Int} (q : P (.d (.bool (!decide (n ∈ ns)))) M) : inD true (.d (.int n)) (.d (.list (ns.map .int))) M P := by
  refine ⟨rfl, shaped_lstI ns, ?_⟩
  rw [any_int]
  exact q
/-! ### tuples of ints, and pairs of them, can be sorted -/
theorem alikeAll_int : ∀ (a b : List Int), PySem.W.alikeAll (a.map .int) (b.map .int) = true
  | [], _ => by rw [List.map_nil]; unfold PySem.W.alikeAll; rfl
  | _ :: _, [] => by unfold PySem.W.alikeAll; rfl
  | x :: a, y :: b => by
    rw [List.map_cons, List.map_cons]
    unfold PySem.W.alikeAll
    rw [alikeAll_int a b]
    rfl
theorem alike_tup (a b : List Int) : PySem.W.alike (.tuple (a.map .int)) (.tuple (b.map .int)) = true := alikeAll_int a b
theorem alike_pair {a b c d : PyData} (h1 : PySem.W.alike a c = true) (h2 : PySem.W.alike b d = true) : PySem.W.alike (.tuple [a, b]) (.tuple [c, d]) = true := by
  show PySem.W.alikeAll [a, b] [c, d] = true
  unfold PySem.W.alikeAll
  rw [h1, Bool.true_and]
  unfold PySem.W.alikeAll
  rw [h2]
  rfl
theorem depth_tupI (r : List Int) : (PyData.tuple (r.map .int)).depth ≤ 1 := by
  rw [PyData.depth, PySem.W.depth_ints]
  decide
theorem depth_pair {a b : PyData} {n : Nat} (h1 : a.depth ≤ n) (h2 : b.depth ≤ n) : (PyData.tuple [a, b]).depth ≤ n + 1 := by
  rw [PyData.depth, PyData.depthAll, PyData.depthAll, PyData.depthAll]
  omega
theorem depthAll_le {n : Nat} : ∀ {ds : List PyData}, (∀ d ∈ ds, d.depth ≤ n) → PyData.depthAll ds ≤ n
  | [], _ => by rw [PyData.depthAll]; exact Nat.zero_le _
  | d :: r, h => by
    have h1 := h d (by simp)
    have h2 := depthAll_le (ds := r) fun e he => h e (List.mem_cons_of_mem _ he)
    rw [PyData.depthAll]
    omega
theorem canLay_all : ∀ {ds : List PyData}, (∀ d ∈ ds, d.canLay0 = true) → PyData.canLayAll0 ds = true
  | [], _ => rfl
  | d :: r, h => by
    show (d.canLay0 && PyData.canLayAll0 r) = true
    rw [h d (by simp), canLay_all fun e he => h e (List.mem_cons_of_mem _ he)]
    rfl
/-- what can be compared, at small depths -/
def Flat (n : Nat) (d : PyData) : Prop := d.canLay0 = true ∧ d.depth ≤ n
theorem flat_mono {n m : Nat} {d : PyData} (h : Flat n d) (l : n ≤ m) : Flat m d := ⟨h.1, Nat.le_trans h.2 l⟩
theorem flat_tupI (r : List Int) : Flat 1 (.tuple (r.map .int)) := ⟨canLay_ints r, depth_tupI r⟩
theorem flat_tup {n : Nat} {ds : List PyData} (h : ∀ d ∈ ds, Flat n d) : Flat (n + 1) (.tuple ds) := ⟨canLay_all fun d hd => (h d hd).1, by
  have := depthAll_le fun d hd => (h d hd).2
  rw [PyData.depth]
  omega⟩
theorem flat_lst {n : Nat} {ds : List PyData} (h : ∀ d ∈ ds, Flat n d) : Flat (n + 1) (.list ds) := ⟨canLay_all fun d hd => (h d hd).1, by
  have := depthAll_le fun d hd => (h d hd).2
  rw [PyData.depth]
  omega⟩
theorem flat_pair {n : Nat} {a b : PyData} (h1 : Flat n a) (h2 : Flat n b) : Flat (n + 1) (.tuple [a, b]) := flat_tup fun d hd => by
  rcases List.mem_cons.mp hd with z | z
  · rw [z]; exact h1
  · rw [List.mem_singleton.mp z]; exact h2
theorem flat_shaped {n : Nat} {d : PyData} (h : Flat n d) (l : n ≤ 64) : SeqAt.shaped d = true := by
  unfold SeqAt.shaped
  rw [h.1, Bool.true_and]
  exact decide_eq_true (Nat.le_trans h.2 l)
end DL

/-! Part 23: list + list as a list that may change. -/
namespace DL
open PySem PySem.Spec PyProof.Rows L2
def addDM : PyData → PyData → (List PyData → Prop) → Prop
  | .list ys, .list zs, k => ys.length + zs.length ≤ sizeLine ∧ k (ys ++ zs)
  | _, _, _ => False
def gAddM : D2 := fun x y M P => rd M x fun dx => rd M y fun dy => addDM dx dy fun zs => ∀ p, M p = none → P (.r p) (mu M p (.ls zs))
section
variable {X : Cx}
theorem dop_addM : DOp X (binaryOp .Add) gAddM := by
  intro pins s σ H x y v u Q I rx ry h
  obtain ⟨dx, dy, M, N, P, hr, ix, iy, hg, fo⟩ := h
  obtain ⟨px, r1, hg⟩ := rd_of hr ix hg
  obtain ⟨py, r2, hg⟩ := rd_of hr iy hg
  unfold addDM at hg
  split at hg
  · obtain ⟨p, vs, rfl, h1, h2⟩ := r1.list
    obtain ⟨q, ws, rfl, h3, h4⟩ := r2.list
    have l1 := dpAll_len h2
    have l2 := dpAll_len h4
    cases rx
    cases ry
    refine add_sql I h1 h3 (by omega) fun r hr' => ?_
    obtain ⟨r3, a3⟩ := hr.new (x := .ls _) (o := .lst (vs ++ ws)) hr' (dpAll_app h2 h4)
    exact fo _ _ _ _ (hg.2 r (hr.free hr').1) r3 a3 rfl
  · exact hg.elim
end
section
variable {x y : DV} {M : MHp} {P : DK} {ys zs : List PyData} {k : List PyData → Prop}
theorem x_gAddM (q : rd M x fun dx => rd M y fun dy => addDM dx dy fun zs => ∀ p, M p = none → P (.r p) (mu M p (.ls zs))) : gAddM x y M P := q
theorem x_addLM (h : ys.length + zs.length ≤ sizeLine) (q : k (ys ++ zs)) : addDM (.list ys) (.list zs) k := ⟨h, q⟩
end
theorem fm_filt (f : Int → Bool) : ∀ ns : List Int, (ns.map fun c => if f c = true then some (PyData.int c) else none).filterMap id = (ns.filter f).map .int
  | [] => rfl
  | n :: r => by
    rw [List.map_cons, List.filter_cons]
    by_cases h : f n = true
    · rw [if_pos h, if_pos h, List.filterMap_cons, List.map_cons, ← fm_filt f r]
      rfl
    · rw [if_neg h, if_neg h, List.filterMap_cons, ← fm_filt f r]
      rfl
/-- [x for x in ints if ..], the state as it is -/
theorem lc_filt {ρ : DEnv} {M : MHp} {P : DK} {tt : DTT} {te : DTE} {fin : Fin'} {g : DTG} {vs : List Nat} {C : MHp → Prop} {ns : List Int} (f : Int → Bool) (hz : ns.length ≤ sizeLine) (hC : C M)
    (hb : ∀ a ∈ ns, ∀ (KT : DK) (KF : MHp → Prop), (f a = true → KT (.d (.int a)) M) → (f a = false → KF M) → g (.d (.int a)) (wipeD ρ vs) M (fun ρ2 M2 => tt ρ2 M2 (fun b M3 => Br b (te ρ2 M3 KT fun _ _ => False) (KF M3)) fun _ _ => False) fun _ _ => False)
    (q : fin (((ns.filter f).map .int).map .d) M P) : lcI fin ((ns.map .int).map .d) C g tt te vs ρ M P := by
  refine lc_opt (ns.map fun c => if f c = true then some (.int c) else none) (by simp) (by rw [List.length_map]; exact hz) hC (fun i x o hx ho KT KF k1 k2 => ?_) (by rw [fm_filt]; exact q)
  obtain ⟨a, ha, rfl⟩ := getI hx
  rw [List.getElem?_map, ha] at ho
  cases ho
  refine hb a (List.mem_of_getElem? ha) KT KF (fun e => k1 _ (if_pos e)) fun e => k2 (if_neg (by rw [e]; exact Bool.false_ne_true))
theorem all_mem (p q : List Int) : (p.all fun x => decide (x ∈ q)) = decide (∀ x ∈ p, x ∈ q) := by
  rw [Bool.eq_iff_iff, List.all_eq_true, decide_eq_true_iff]
  exact ⟨fun h x hx => of_decide_eq_true (h x hx), fun h x hx => decide_eq_true (h x hx)⟩
theorem x_iteT {a b : Prop} (q : a) : if true = true then a else b := by rw [if_pos rfl]; exact q
theorem x_iteF {a b : Prop} (q : b) : if false = true then a else b := by rw [if_neg Bool.false_ne_true]; exact q
theorem x_iteD {p : Prop} [Decidable p] {a b : Prop} (h1 : p → a) (h2 : ¬ p → b) : if decide p = true then a else b := by
  by_cases h : p
  · rw [if_pos (decide_eq_true h)]; exact h1 h
  · rw [if_neg (by rw [decide_eq_false h]; exact Bool.false_ne_true)]; exact h2 h
theorem fm_ifF {α β : Type} (c : α → Bool) (f : α → β) : ∀ l : List α, (l.map fun x => if c x = true then some (f x) else none).filterMap id = (l.filter c).map f
  | [] => rfl
  | a :: r => by
    rw [List.map_cons, List.filter_cons]
    by_cases h : c a = true
    · rw [if_pos h, if_pos h, List.filterMap_cons, List.map_cons, ← fm_ifF c f r]
      rfl
    · rw [if_neg h, if_neg h, List.filterMap_cons, ← fm_ifF c f r]
      rfl
/-- [f(x) for x in ints if ..], the state as it is -/
theorem lc_filtF {ρ : DEnv} {M : MHp} {P : DK} {tt : DTT} {te : DTE} {fin : Fin'} {g : DTG} {vs : List Nat} {C : MHp → Prop} {ns : List Int} (f : Int → Bool) (h : Int → PyData) (hz : ns.length ≤ sizeLine) (hC : C M)
    (hb : ∀ a ∈ ns, ∀ (KT : DK) (KF : MHp → Prop), (f a = true → KT (.d (h a)) M) → (f a = false → KF M) → g (.d (.int a)) (wipeD ρ vs) M (fun ρ2 M2 => tt ρ2 M2 (fun b M3 => Br b (te ρ2 M3 KT fun _ _ => False) (KF M3)) fun _ _ => False) fun _ _ => False)
    (q : fin (((ns.filter f).map h).map .d) M P) : lcI fin ((ns.map .int).map .d) C g tt te vs ρ M P := by
  refine lc_opt (ns.map fun c => if f c = true then some (h c) else none) (by simp) (by rw [List.length_map]; exact hz) hC (fun i x o hx ho KT KF k1 k2 => ?_) (by rw [fm_ifF]; exact q)
  obtain ⟨a, ha, rfl⟩ := getI hx
  rw [List.getElem?_map, ha] at ho
  cases ho
  refine hb a (List.mem_of_getElem? ha) KT KF (fun e => k1 _ (if_pos e)) fun e => k2 (if_neg (by rw [e]; exact Bool.false_ne_true))
end DL

/-! Part 24: an own error class whose __init__ says super().__init__(code) and self.code = code. -/
namespace DL
open PySem PySem.Spec PySem.W PySem.Calls PyProof.Rows L2
section
variable {prog : Program} {w : World} {A : Around} {E : Value → Shared → Prop} {h : Heap} {g : Array GenState} {d : Drawn} {t : Nat} {os : OsState}
variable {nm q : Str} {C N : Addr} {bs bm : List Value} {hdct : Bool} {sn : List Str} {sub : List Value} {ab : Bool} {col : Option Bool} {dd : Option Addr} {k0 k1 k2 k3 k5 : Option Value}
/-- the bound ValueError.__init__ called -/
theorem call_mw {u e t0 : Addr} {rest : List Value} {Q : Value → Shared → Prop}
    (hC : h.get? C = some (excClassObj nm q C N bs bm hdct sn sub ab col dd k0 k1 k2 k3 k5 "ValueError.__new__")) (he : h.get? e = some (HandSPX.excO C t0)) (hu : h.get? u = some (kxs_mw "ValueError.__init__" e)) (hrest : rest.length ≤ sizeLine)
    (hq : ∀ h' t1, (∀ b o, b ≠ e → h.get? b = some o → h'.get? b = some o) → h'.get? e = some (HandSPX.excO C t1) → Q .none ⟨h', g, d, t, os⟩) :
    wpAny (model prog w) A (call (.ref u) rest) Q E ⟨h, g, d, t, os⟩ := by
  refine wpAny_call (codeAny_of_tree ?_)
  show wpAny _ A.in1 (callAny (.ref u) ⟨rest, []⟩) _ _ _
  simp only [callAny]
  refine wpAny_bind (wpAny_load hu ?_)
  simp only [kxs_mw, show (Value.type "method-wrapper" == Value.type "method" || Value.type "method-wrapper" == Value.type "builtin_function_or_method" || Value.type "method-wrapper" == Value.type "method-wrapper") = true by decide, if_true]
  refine KFB.if_so (by decide) ?_
  refine wpAny_bind (check_bound_init F.excBase_ValueError.toExcCallFacts hC he rfl ?_)
  refine wpAny_bind (wpAny_pure (wpAny_pure ?_))
  refine ⟨plainId_quiet F.excBase_ValueError.init.plain _, codeAny_builtin F.excBase_ValueError.initEntry ?_⟩
  rw [Around.under_plainId F.excBase_ValueError.init.plain _]
  refine exc_init_tree (cls := .ref C) (t0 := t0) (dv := none) (c2 := .none) (c3 := .none) (b4 := .bool false) he hrest fun h' k e' _ => ?_
  exact hq h' _ k e'
end
/-- its __init__ -/
def gScope : Scope := { kind := .function, names := [(PySem.Str.ofString "self", .local), (PySem.Str.ofString "code", .local), (PySem.Str.ofString "__class__", .free), (PySem.Str.ofString "super", .globalImplicit)], isGenerator := false, isCoroutine := false, more := [] }
def gParams (a b : Pos) : Arguments := { posonlyargs := [], args := [{ arg := "self", annotation := none, pos := a }, { arg := "code", annotation := none, pos := b }], vararg := none, kwonlyargs := [], kw_defaults := [], kwarg := none, defaults := [] }
def gBody (p0 p1 p2 p3 p4 p5 p6 p7 p8 p9 : Pos) : List Stmt := [.Expr (.Call (.Attribute (.Call (.Name "super" p0) [] [] p1) "__init__" p2) [.Name "code" p3] [] p4) p5, .Assign [.Attribute (.Name "self" p6) "code" p7] (.Name "code" p8) p9]
theorem g_eq (env : Env) (p0 p1 p2 p3 p4 : Pos) (hp : (p2.endLine == p4.line) = true) : eval (.Call (.Attribute (.Call (.Name "super" p0) [] [] p1) "__init__" p2) [.Name "code" p3] [] p4) env = (do
      let ov ← attributeBase (.Call (.Name "super" p0) [] [] p1) "__init__" env (eval (.Call (.Name "super" p0) [] [] p1) env)
      standAt p2.atName
      let (f, first) ← holding [ov] (getMethod ov "__init__" (do return (← importBound (.Call (.Name "super" p0) [] [] p1) env).getD true))
      callWith p4 f first (backTo p4 (starEach [.Name "code" p3] env)) []) := by
  have e1 : ∀ ov : Value, methodCall (.Call (.Name "super" p0) [] [] p1) "__init__" p2 p4 env ov ([Expr.Name (PySem.Str.ofString "code") p3].length + ([] : List Keyword).length)
          (backTo p4 (starEach [Expr.Name (PySem.Str.ofString "code") p3] env)) (backToKw p4 (keywordEach [] env)) = (do
      let (f, first) ← holding [ov] (getMethod ov "__init__" (do return (← importBound (.Call (.Name "super" p0) [] [] p1) env).getD true))
      callWith p4 f first (backTo p4 (starEach [.Name "code" p3] env)) []) := fun ov => by
    unfold methodCall methodCallPos
    rw [hp, Bool.or_true, if_pos rfl]
    rfl
  have e2 : (fun ov => (do
      standAt p2.atName
      methodCall (.Call (.Name "super" p0) [] [] p1) "__init__" p2 p4 env ov ([Expr.Name (PySem.Str.ofString "code") p3].length + ([] : List Keyword).length)
          (backTo p4 (starEach [Expr.Name (PySem.Str.ofString "code") p3] env)) (backToKw p4 (keywordEach [] env)) : Sem Value)) = fun ov => (do
      standAt p2.atName
      let (f, first) ← holding [ov] (getMethod ov "__init__" (do return (← importBound (.Call (.Name "super" p0) [] [] p1) env).getD true))
      callWith p4 f first (backTo p4 (starEach [.Name "code" p3] env)) []) := by
    funext ov
    rw [e1]
  exact congrArg (fun k => attributeBase (.Call (.Name "super" p0) [] [] p1) "__init__" env (eval (.Call (.Name "super" p0) [] [] p1) env) >>= k) e2
/-- what the written part says of such a class -/
structure GCls (prog : Program) (K : Frag) (C fI cc cda : Addr) : Prop where
  oex : OexC K C
  ini : findIn K (.ref C) "__init__" = some (some (.ref fI))
  tyI : typeIn K (.ref fI) = some (.type "function")
  fn : ∃ oc od osl kV doc pm an ct pa pb p0 p1 p2 p3 p4 p5 p6 p7 p8 p9, (p2.endLine == p4.line) = true ∧ K.lookup fI = some ⟨oc, od, .func (ksFn "__init__" "GuildError.__init__" (gParams pa pb) (gBody p0 p1 p2 p3 p4 p5 p6 p7 p8 p9) gScope .none kV doc pm an (.ref cda) ct cc), osl⟩
  rec_ : codeIn K (.ref cda) "GuildError.__init__" = true
  code : ∃ ccl cdd vs ccs file tf, K.lookup cda = some ⟨ccl, cdd, .fields vs, ccs⟩ ∧ vs[2]? = some (.str file tf) ∧ ((prog.main.file : Str) == file) = true
  cell : ∃ cl cld csl, K.lookup cc = some ⟨cl, cld, .cell (some (.ref C)), csl⟩
  sup : ks_superIn K C C "__init__" = some (some (.builtin "ValueError.__init__"))
  subV : subIn K (.ref C) (.type "ValueError") = some true
  subC : mroIn K C (.ref C) = some true
  opq : nsIn K cStatics "thirdparty.any" = some none
  noA : findIn K (.ref C) "code" = some none
  top : (prog.main.scope.names.lookup ("super" : Str)).isSome = false
theorem g_binds {name qual : Str} {kV doc pm cdv ct : Value} {an : Option Addr} {cc : Addr} {pa pb : Pos} {body : List Stmt} (s : Shared) (a b : Value) : BindsTo s (ksFn name qual (gParams pa pb) body gScope .none kV doc pm an cdv ct cc) ⟨[a, b], []⟩ [("self", a), ("code", b)] := .of_eq rfl
section
variable {prog : Program} {w : World} {A : Around} {R : Result → Shared → Prop} {K : Frag} {C fI cc cda : Addr} {mg mb : Str → Option Value}
theorem gi_run {h : Heap} {g : Array GenState} {d : Drawn} {t : Nat} {os : OsState} {a t0 : Addr} {u : Value} (G : GCls prog K C fI cc cda) (X : K.In h) (hlim : h.NoLimit) (hns : h.Ns mainGlobals mg) (hsup : mg "super" = none) (hnb : h.Ns builtinsNs mb) (hbb : mb "super" = some (.type "super"))
    (he : h.get? a = some (HandSPX.excO C t0)) (haK : K.lookup a = none) (hroom : A.depth < recursionLimit)
    (hq : ∀ h' tk' dx t1, (∀ b o, b ≠ a → h.get? b = some o → h'.get? b = some o) → h.get? dx = none → dx ≠ a → h'.get? a = some { cls := .ref C, dict := some dx, data := .fields #[.ref t1, .none, .none, .none, .bool false, .none] } →
      h'.Ns1 dx (fun y => if y = "code" then some u else none) → R (.ok (.ret .none)) ⟨h', g, d, tk', os⟩) :
    codeAny (model prog w) A (.call (.ref fI) ⟨[.ref a, u], []⟩) R ⟨h, g, d, t, os⟩ := by
  obtain ⟨oc, od, osl, kV, doc, pm, an, ct, pa, pb, p0, p1, p2, p3, p4, p5, p6, p7, p8, p9, hps, lk⟩ := G.fn
  obtain ⟨ccl, cdd, vs, ccs, file, tf, hco, hvs, hfile⟩ := G.code
  obtain ⟨cl, cld, csl, hcell⟩ := G.cell
  obtain ⟨nm, qn, N, bs, bm, sn, sub, ab, col, dd, k0, k1, k2, k3, k5, hC, hbm⟩ := G.oex.cls
  have hcls : clsIn K C = some { name := nm, bases := bs, mro := .ref C :: bm, ns := N, qualname := qn, hasDict := true, slotNames := sn, subclasses := sub, abstract := ab, collection := col, hasDel := false } := by unfold clsIn; rw [hC] <;> rfl
  refine ks_codeAny_call_defAt (fd := ksFn "__init__" "GuildError.__init__" (gParams pa pb) (gBody p0 p1 p2 p3 p4 p5 p6 p7 p8 p9) gScope .none kV doc pm an (.ref cda) ct cc) (body := gBody p0 p1 p2 p3 p4 p5 p6 p7 p8 p9) (binds := [("self", .ref a), ("code", u)]) hroom (X _ _ lk) rfl hlim (codeRec_of X G.rec_) rfl (g_binds _ _ _) (by intro x hx; revert x hx; exact (by decide : ∀ x ∈ gScope.names, x.2 ≠ .cell)) (locs rfl) (fun h₁ hns₁ hk₁ => ?_)
  have X1 : K.In h₁ := X.keeps hk₁
  have nm1 : (fun x => ([("self", Value.ref a), ("code", u)] : List (Str × Value)).reverse.lookup x) "self" = some (.ref a) := rfl
  have nm2 : (fun x => ([("self", Value.ref a), ("code", u)] : List (Str × Value)).reverse.lookup x) "code" = some u := rfl
  have hC1 := X1 _ _ hC
  have he1 := hk₁ _ _ he
  refine ks_wpAt_execs_cons (ks_wpAt_Expr_any (ks_wpAt_MethodCall (ks_wpAt_super_base (env := ksEnv "GuildError.__init__" gScope h.objs.size fI (.ref cda) cc) rfl rfl (by decide) rfl (X1 _ _ lk) rfl (ar := { arg := "self", annotation := none, pos := pa }) rfl rfl (X1 _ _ hco) rfl hvs hfile G.top ?_) (g_eq _ p0 p1 p2 p3 p4 hps)))
  refine ks_loadName_global rfl rfl (loadGlobal_builtin (env := ksEnv "GuildError.__init__" gScope h.objs.size fI (.ref cda) cc) (hns.keeps hk₁) hsup (hnb.keeps hk₁) hbb ⟨rfl, ?_⟩)
  refine wpAny_loadName_free rfl rfl rfl ⟨_, X1 _ _ hcell, rfl⟩ ?_
  refine wpAny_loadName_local rfl rfl hns₁ nm1 ?_
  refine ks_wpAny_isType_cls hC1 rfl ⟨rfl, ?_⟩
  refine ks_wpAny_call_super hC1 rfl he1 rfl (fun c z => by cases z) (looks_mroIn X1 G.subC) (fun h₂ hso k₂ => ?_)
  have X2 : K.In h₂ := X1.keeps k₂
  have I2 : InstAt h₂ a (HandSPX.excO C t0) C none := ⟨k₂ _ _ he1, rfl, rfl, trivial⟩
  have hI : Looks (model prog w) h₂ (isInstance (.ref a) (.type "ValueError")) true := I2.type.andThen (looks_subIn X2 G.subV)
  have hsu := G.sup
  unfold ks_superIn at hsu
  rw [hcls] at hsu
  refine kxs_getMethod kxs_ValueError hso (looks_opaque X2 G.opq) (fun A Q E s k q => wpAny_bind ((looks_clsIn X2 hcls) A _ E s k (wpAny_pure q))) rfl X2 hsu hI (ks_ne X2 I2 hcls) (by decide) ?_
  have k₃ : ∀ b o, h₂.get? b = some o → (h₂.push (kxs_mw "ValueError.__init__" a)).get? b = some o := fun b o e => Heap.get?_push_of_some _ e
  have hmw : (h₂.push (kxs_mw "ValueError.__init__" a)).get? h₂.objs.size = some (kxs_mw "ValueError.__init__" a) := Heap.get?_push_at rfl rfl
  generalize h₂.push (kxs_mw "ValueError.__init__" a) = h₃ at k₃ hmw
  have k13 : ∀ b o, h₁.get? b = some o → h₃.get? b = some o := fun b o e => k₃ b o (k₂ b o e)
  have aL : h.objs.size ≠ a := Nat.ne_of_gt (Heap.lt_size he)
  refine kxs_callWith (i := "ValueError.__init__") (x := a) rfl (evalArgs_plain (spliced_cons (wpAny_Name (wpAny_loadName_local rfl rfl (hns₁.keeps k13) nm2 ?_) rfl)))
  refine spliced_nil ⟨hmw, ?_⟩
  refine call_mw (k13 _ _ hC1) (k13 _ _ he1) hmw (by rw [sizeLine_eq]; exact Nat.le_of_ble_eq_true rfl) fun h₄ t1 k₄ he4 => ?_
  have k14 : ∀ b o, b ≠ a → h₁.get? b = some o → h₄.get? b = some o := fun b o hb e => k₄ b o hb (k13 b o e)
  have aK : ∀ b o, K.lookup b = some o → b ≠ a := fun b o e z => by
    rw [z, haK] at e
    cases e
  have X4 : K.In h₄ := fun b o e => k14 b o (aK b o e) (X1 b o e)
  have hns4 : h₄.Ns h.objs.size (fun x => ([("self", Value.ref a), ("code", u)] : List (Str × Value)).reverse.lookup x) := by
    obtain ⟨o, es, ep, e1, r⟩ := hns₁
    exact ⟨o, es, ep, k14 _ _ aL e1, r⟩
  show PySem.wpAt _ _ _ (execs [_] _) _ _ _
  refine wpAt_of_wpAny (wpAny_execs_cons (plainObj_wpAny_Assign_Attribute (wpAny_Name (wpAny_loadName_local rfl rfl hns4 nm2 (wpAny_Name (wpAny_loadName_local rfl rfl hns4 nm1 ?_) rfl)) rfl)))
  refine set_plain X4 (ox := { cls := .ref C, dict := none, data := .fields #[.ref t1, .none, .none, .none, .bool false, .none] }) (od := none) ⟨he4, rfl, rfl, trivial⟩ G.oex.sa ?_
  refine HandSPX.exc_osa X4 he4 hcls (show HandSPX.refsVE (.ref C :: bm) = true from hbm) rfl G.noA (fun h' tk' dx k dn dne hx hn => ?_)
  show wpAny _ _ (execs [] _) _ _ _
  refine wpAny_execs_nil ?_
  refine hq h' tk' dx t1 (fun b o hb e => k b o hb (k14 b o hb (hk₁ b o e))) ?_ dne hx hn
  cases z : h.get? dx with
  | none => rfl
  | some o => exact absurd (Heap.lt_size (k14 dx o dne (hk₁ dx o z))) (Nat.not_lt.mpr dn)
end
/-! ### GuildError('..') -/
theorem boot_super : bootBuiltins "super" = some (.type "super") := by kernel_rfl
section
variable {X : Cx} {C fI cc cda : Addr} {pins : List (Addr × Obj)} {σ : L2.St} {H : Hp} {a t1 dx : Addr} {u : Value} {v : V} {hp h' : Heap} {g : Array GenState} {d : Drawn} {tk tk' : Nat} {os : OsState}
theorem mk_g {Q : XK} (T : OexC X.K C) (I1 : Inv X pins σ H ⟨hp, g, d, tk, os⟩) {hp2 : Heap} {t0 : Addr} (k2 : ∀ b o, hp.get? b = some o → hp2.get? b = some o) (ha : hp.objs.size ≤ a) (he : hp2.get? a = some (HandSPX.excO C t0))
    (k : ∀ b o, b ≠ a → hp2.get? b = some o → h'.get? b = some o) (hd : hp2.get? dx = none) (hda : dx ≠ a) (hx : h'.get? a = some { cls := .ref C, dict := some dx, data := .fields #[.ref t1, .none, .none, .none, .bool false, .none] })
    (hn : h'.Ns1 dx (fun y => if y = "code" then some u else none)) (ru : L2.RelV v u) (q : ∀ d, H d = none → Q (.ref C) (some d) (L2.upd H d (.xd [("code", v)]))) : MkP X pins σ Q (.ref a) ⟨h', g, d, tk', os⟩ := by
  have na : H a = none := I1.hok.fresh ha
  have I2 : Inv X pins σ (L2.upd H a (exo a C none)) ⟨hp2, g, d, tk, os⟩ := I1.laid (t' := tk) (a := a) (o := exo a C none) (h' := hp2) k2 ha (exo_ok he)
  have nd1 : H dx = none := by
    cases z : H dx with
    | none => rfl
    | some o =>
      obtain ⟨ob, e⟩ := objOk_get (I1.hok dx o z)
      rw [k2 _ _ e] at hd
      cases hd
  have nd : L2.upd H a (exo a C none) dx = none := by rw [L2.upd_ne hda]; exact nd1
  have ea : L2.upd H a (exo a C none) a = some (exo a C none) := L2.upd_same
  have nb : ∀ {b : Addr} {o : Obj}, hp2.get? b = some o → b ≠ dx := fun {b o} z e => by
    rw [e, hd] at z
    cases z
  have nA : ∀ {b : Addr}, L2.upd H a (exo a C none) b = none → b ≠ a := fun {b} n z => by
    rw [z, ea] at n
    cases n
  have un : ∀ fs : List Addr, Un fs [] (L2.upd H a (exo a C none)) (L2.upd (L2.upd (L2.upd H a (exo a C none)) dx (exd dx [("code", v)])) a (exo a C (some dx))) hp2 h' := fun fs => {
    keep := fun b o z n _ _ => k b o (nA n) z
    slot := fun b o z n _ _ => ⟨o.slots, k b o (nA n) z⟩
    free := fun b o z n _ => by rw [L2.upd_ne (nA n), L2.upd_ne (nb z)]; exact n
    there := fun b o z _ => by
      by_cases hb : b = a
      · exact ⟨_, by rw [hb]; exact hx⟩
      · exact ⟨o, k b o hb z⟩
    tups := fun b xs z => by rw [L2.upd_ne (at_ne ea z exo_tup), L2.upd_ne (L2.ne_of_none z nd)]; exact z
    frzs := fun b o v z => by rw [L2.upd_ne (at_ne ea z exo_frz), L2.upd_ne (L2.ne_of_none z nd)]; exact z
    tbls := fun b ps z => ⟨#[], by rw [L2.upd_ne (at_ne ea z exo_tbl), L2.upd_ne (L2.ne_of_none z nd), z]; simp⟩ }
  have J := I2.un (t' := tk') (un _) fun b o z => by
    by_cases hb : b = a
    · subst hb
      rw [L2.upd_same] at z
      cases z
      exact exo_ok hx
    · rw [L2.upd_ne hb] at z
      by_cases hbd : b = dx
      · subst hbd
        rw [L2.upd_same] at z
        cases z
        exact exd_ok hn (relO_put (fs := []) ru fun g => True.intro)
      · rw [L2.upd_ne hbd] at z
        exact (I2.hok b o z).stay (fun c v hc y => k c v (by
            rcases hc with hc | hc
            · rw [hc]; exact hb
            · exact at_ne ea hc exo_own) y)
          (fun c hc => by rw [L2.upd_ne (at_ne ea hc exo_own), L2.upd_ne (L2.ne_of_none hc nd)]; exact hc) (fun c xs hc => by rw [L2.upd_ne (at_ne ea hc exo_tup), L2.upd_ne (L2.ne_of_none hc nd)]; exact hc)
  have eq : L2.upd (del (L2.upd (L2.upd (L2.upd H a (exo a C none)) dx (exd dx [("code", v)])) a (exo a C (some dx))) a) dx (.xd [("code", v)]) = L2.upd H dx (.xd [("code", v)]) := by
    funext b
    by_cases hbd : b = dx
    · rw [hbd, L2.upd_same, L2.upd_same]
    · rw [L2.upd_ne hbd, L2.upd_ne hbd]
      by_cases hb : b = a
      · rw [hb, del_same, na]
      · rw [del_ne hb, L2.upd_ne hb, L2.upd_ne hbd, L2.upd_ne hb]
  have q' := q dx nd1
  rw [← eq] at q'
  exact mk_end (raises_own T.exC T.tyC) I1 ha k2 (un _) J.hok rfl J.bare L2.upd_same (by rw [L2.upd_ne hda, L2.upd_same]) nd1 q'
theorem pmk_g {x m : Str} {j : Nat} {p p2 pos : Pos} (G : GCls X.prog X.K C fI cc cda) (hr : Room 1 X.A) (hg : Gl X x) (hm : X.mg x = some (.ref C)) (hs : X.mg "super" = none) (hdb : (x == ("__debug__" : Str)) = false := by decide) :
    PMk X (.Call (.Name x p) [.Constant (.str m) j p2] [] pos) (fun _ H Q => ∀ d, H d = none → Q (.ref C) (some d) (L2.upd H d (.xd [("code", .str m)]))) := by
  intro pins s σ H Q I h
  obtain ⟨nm, q, N, bs, bm, sn, sub, ab, col, dd, k0, k1, k2, k3, k5, hC, hbm⟩ := G.oex.cls
  refine wpAny_Call_Name_kw (ld_glob I hg hm ?_ hdb)
  have ha : PA X [.Constant (.str m) j p2] (tCons (tC (.str m)) tNil) := pa_cons pe_str pa_nil
  refine PySem.W.callWith_K (h₀ := X.base) I.ok.mod.kin G.oex.kC (thn (ha.run pos pins s σ H (fun vs H1 => vs = [V.str m] ∧ H = H1) I ⟨rfl, rfl⟩) fun us s1 hh => ?_)
  obtain ⟨vs, H1, I1, r1, ev, eH⟩ := hh
  subst ev
  rw [← eH] at I1
  refine ⟨I1.kIn, ?_⟩
  cases r1 with
  | cons ru rn =>
    rename_i u us'
    cases rn
    show wpAny _ _ (call (.ref C) [u]) _ _ _
    obtain ⟨hp, g, dr, tk, os⟩ := s1
    have kk : ∀ b o, hp.get? b = some o → ((hp.push (PySem.W.kdv_tup [u])).push (PySem.HandSPX.excO C hp.objs.size)).get? b = some o := fun b o e => Heap.get?_push_of_some _ (Heap.get?_push_of_some _ e)
    have hget : ((hp.push (PySem.W.kdv_tup [u])).push (PySem.HandSPX.excO C hp.objs.size)).get? (hp.objs.size + 1) = some (PySem.HandSPX.excO C hp.objs.size) := by heap_get
    have hsz : hp.objs.size ≤ hp.objs.size + 1 := Nat.le_succ _
    obtain ⟨mb, hmb, hbb⟩ := I1.ok.mod.blt
    have KX := I1.kIn
    have bk := I1.bk
    have lim := I1.nolimit
    refine wpAny_call (PySem.HandSPX.call_own F.excBase_ValueError (fun Y => PySem.HandSPX.refsVE_contains Y bm hbm) (I1.kIn _ _ hC) (PySem.W.looks_findIn I1.kIn G.ini) (fun self => PySem.W.bind_fn I1.kIn self G.tyI) (by rw [sizeLine_eq]; exact Nat.le_of_ble_eq_true rfl)
      (gi_run G (KX.keeps kk) (lim.keeps kk) ((I1.ok.mod.glob.keeps bk).keeps kk) hs ((hmb.keeps bk).keeps kk) ((hbb _ (by decide)).trans boot_super) hget ?_ (hr.make C [u] []).depth fun h' tk' dx t1 k hd hda hx hn => ?_))
    · cases z : X.K.lookup (hp.objs.size + 1) with
      | none => rfl
      | some o => exact absurd (Heap.lt_size (KX _ _ z)) (Nat.not_lt.mpr hsz)
    · exact ⟨rfl, mk_g G.oex I1 kk hsz hget k hd hda hx hn ru h⟩
end
end DL

/-! Part 25: GuildError raised; a def that is handed a lambda and answers with the code of what it lets out; the end with tables of code. -/
namespace DL
open PySem PySem.Spec PySem.W PyProof.Rows L2
section
variable {X : Cx} {W : WX}
/-- raise GuildError('..') -/
def sRaiseG (cls : Value) (m : Str) : DTS := fun E ρ M => E.ex { cls := cls, fs := some [("code", .str m)] } ρ M
theorem ds_raiseG {x m : Str} {j : Nat} {p p2 p3 pos : Pos} {C fI cc cda : Addr} (G : GCls X.prog X.K C fI cc cda) (hr : Room 1 X.A) (hm : X.mg x = some (.ref C)) (hs : X.mg "super" = none) (hc : X.calm = true) (tk : Takes X W) (hg : Gl X x := by rfl) (hdb : (x == ("__debug__" : Str)) = false := by decide) :
    DS X W (.Raise (some (.Call (.Name x p) [.Constant (.str m) j p2] [] p3)) none pos) (sRaiseG (.ref C) m) :=
  ⟨PS.imp (ps_raise hc tk (pmk_g G hr hg hm hs hdb)) fun D σ H ⟨ρ, M, N, E, hs, hr, ht, hE⟩ d hd => by
    have sm := same_new (o := .xd [("code", .str m)]) hd
    have af := Af.grow hr sm
    exact hE.ex _ ρ M (some d) σ _ ht (hs.mono af.fr) (hr.grow sm) af ⟨d, _, rfl, fz_new hr hd, .cons ⟨rfl, .str _⟩ .nil⟩⟩
end
/-! ### f(lambda: e), where f answers with what e gives, or with the code of the error -/
theorem takes_len {X : Cx} {W : WX} (tk : Takes X W) : Takes X (fun cls d σ H => σ.length = X.N.length → W cls d σ H) := fun u s' ⟨a, B, sI, pins, σ, H, cls, d, e, I, nb, up, sky, na, os, ag, w⟩ =>
  tk u s' ⟨a, B, sI, pins, σ, H, cls, d, e, I, nb, up, sky, na, os, ag, w I.len⟩
def TTold2 (CS : Addr) (fld : Str) : (XK → Hp → VK → Prop) → Hp → VK → Prop := fun tl H Q =>
  tl (fun cls d H' => cls = .ref CS ∧ ∃ (dd : Addr) (fs : List (Str × V)) (v : V), d = some dd ∧ H' dd = some (.xd fs) ∧ fs.lookup fld = some v ∧ Q v H') H Q
theorem told2_gives {X : Cx} {x a e n fld q : Str} {sg : Scope} {g CS : Addr} {cdg : Value} {p1 p2 p3 p4 p5 p6 p7 p8 p9 : Pos} (hND : [a, n].Nodup) (hln : sg.names.lookup n = some .local) (hge : sg.names.lookup e = some .globalImplicit) (hme : X.mg e = some (.ref CS))
    (T : XfC X.K CS) (hno : findIn X.K (.ref CS) fld = some none) (hex : exmOne X.K (.ref CS) (.ref CS) = some true) (hde : (e == ("__debug__" : Str)) = false := by decide) (hdn : (n == ("__debug__" : Str)) = false := by decide) (hcn : (n == ("__classdict__" : Str)) = false := by decide) :
    LamX.GivesTo X [a, n] x sg g cdg [.Try [.Return (some (.Call (.Name a p1) [] [] p2)) p3] [.ExceptHandler (some (.Name e p4)) (some n) [.Return (some (.Attribute (.Name n p5) fld p6)) p7] p8] [] [] p9] a q (TTold2 CS fld) := by
  intro f c' s H Q tl act hc h
  have hgl : Gl (cxOf C8.CX0 X.prog X.w X.K X.mg X.base [a, n] x sg g cdg X.A X.stack s H C8.E0).nox e := hge
  refine ⟨_, pss_one (ps_try_as (X := (cxOf C8.CX0 X.prog X.w X.K X.mg X.base [a, n] x sg g cdg X.A X.stack s H C8.E0).nox) (c := .ref CS) (i := 1)
      (tb := fun W D σ H => ∃ Ech : XK, (∀ cls d σ' H', Ech cls d H' → σ'.length = 2 → W cls d σ' H') ∧ σ[0]? = some (some (.ref f)) ∧ H c' = some (LamX.CodeO c' q) ∧ tl Ech H D.rt)
      rfl rfl hND rfl hln ⟨hgl, hde, .inl hme⟩ LamX.takes0 (fun W pn xe tk _ => ?_) (fun a' oe cls d pn hz hf => pss_one (ps_ret (pe_xf T hno hz hf (pe_var (i := 1) rfl (Or.inl hln) hdn hcn))))), ?_⟩
  · refine ⟨fun pins s' σ H' D I h' => ?_⟩
    obtain ⟨Ech, hW, h1, h2, h3⟩ := h'
    have hp := act (fun cls d σ H => σ.length = 2 → W cls d σ H) pn xe Ech p1 p2 (takes_len tk) fun cls d σ' H' z l => hW cls d σ' H' z l
    have hq := pss_one (ps_ret (pos := p3) hp)
    exact hq.run pins s' σ H' D I ⟨h1, h2, h3⟩
  · refine ⟨fun cls d H' => cls = .ref CS ∧ ∃ (dd : Addr) (fs : List (Str × V)) (v : V), d = some dd ∧ H' dd = some (.xd fs) ∧ fs.lookup fld = some v ∧ Q v H', fun cls d σ' H' ⟨ec, dd, fs, v, e1, e2, e3, qv⟩ hl => ?_, rfl, hc, h⟩
    subst ec
    refine ⟨true, hex, fun _ b hb => ?_, fun z => by cases z⟩
    have h1 : (σ'.set 1 (some (V.ref b)))[1]? = some (some (V.ref b)) := List.getElem?_set_self (by omega)
    exact ⟨_, h1, rfl, rfl, dd, fs, v, e1, e2, e3, qv⟩
/-- what the written part says of such a def -/
structure ToldC (K : Frag) (mg : Str → Option Value) (x : Str) (g CS : Addr) : Prop where
  at_ : mg x = some (.ref g)
  kp : keepIn K (.ref g) = true
  er : mg "GuildError" = some (.ref CS)
  fn : ∃ oc od osl dV kV doc pm an cdv ct pg sg p1 p2 p3 p4 p5 p6 p7 p8 p9, K.lookup g = some ⟨oc, od, .func (fnOf x x pg [.Try [.Return (some (.Call (.Name "call" p1) [] [] p2)) p3] [.ExceptHandler (some (.Name "GuildError" p4)) (some "e") [.Return (some (.Attribute (.Name "e" p5) "code" p6)) p7] p8] [] [] p9] sg dV kV doc pm an cdv ct), osl⟩ ∧
    codeIn K cdv x = true ∧ Binds K (fnOf x x pg [.Try [.Return (some (.Call (.Name "call" p1) [] [] p2)) p3] [.ExceptHandler (some (.Name "GuildError" p4)) (some "e") [.Return (some (.Attribute (.Name "e" p5) "code" p6)) p7] p8] [] [] p9] sg dV kV doc pm an cdv ct) ["call"] [] ∧
    FnScope ["call", "e"] ["call"] sg ∧ sg.names.lookup ("call" : Str) = some .local ∧ sg.names.lookup ("e" : Str) = some .local ∧ sg.names.lookup ("GuildError" : Str) = some .globalImplicit
  xf : XfC K CS
  no : findIn K (.ref CS) "code" = some none
  ex : exmOne K (.ref CS) (.ref CS) = some true
/-- f(lambda: e); P: the table of the def's own code, q the name of what it holds -/
def eTold (P : Addr) (q : Str) (CS : Addr) (tb : DTE) : DTE := fun ρ M k _ => M P = some (.tb q) ∧ tb ρ M k (fun x M' => x.cls = .ref CS ∧ ∃ gs v, x.fs = some gs ∧ gs.lookup ("code" : Str) = some v ∧ k (.d v) M')
def tabsOf (M : MHp) (n : Nat) : List (Addr × Str) := (List.range n).filterMap fun a => match M a with | some (.tb q) => some (a, q) | _ => none
theorem mem_tabsOf {M : MHp} {n : Nat} {a : Addr} {q : Str} : (a, q) ∈ tabsOf M n ↔ a < n ∧ M a = some (.tb q) := by
  unfold tabsOf
  rw [List.mem_filterMap]
  constructor
  · rintro ⟨b, hb, e⟩
    split at e
    · rename_i q' eq
      cases e
      exact ⟨List.mem_range.mp hb, eq⟩
    · cases e
  · rintro ⟨h1, h2⟩
    exact ⟨a, List.mem_range.mpr h1, by rw [h2]⟩
theorem paired_lookup {K : Frag} {F : Hp} {f : Str} {v : PyData} {fs : List (Str × V)} {gs : List (Str × PyData)} (h : Paired (fun (p : Str × V) (q : Str × PyData) => p.1 = q.1 ∧ Dp K F p.2 q.2) fs gs) (e : gs.lookup f = some v) : ∃ u, fs.lookup f = some u ∧ Dp K F u v := by
  induction h with
  | nil => cases e
  | @cons p r fs gs h1 h2 ih =>
    obtain ⟨a, x⟩ := p
    obtain ⟨b, y⟩ := r
    obtain ⟨e1, e2⟩ := h1
    dsimp only at e1 e2
    subst e1
    rw [List.lookup_cons] at e ⊢
    split at e
    · cases e
      exact ⟨x, rfl, e2⟩
    · exact ih e
theorem codeO_dt {c a : Addr} {q : Str} {P : Program} {w : World} {xs : List (NestedKey × Addr × V)} (e : LamX.CodeO c q = dtO P w a xs) : False := by
  have o0 : Obj := { cls := .none, data := .fields #[.none, .str q 0] }
  have at1 : ∀ b, ({ objs := Array.replicate (c + 1) { cls := .none, data := .fields #[.none, .str q 0] } } : Heap).get? b = if b < c + 1 then some { cls := .none, data := .fields #[.none, .str q 0] } else none := fun b => by
    unfold Heap.get?
    rw [Array.getElem?_replicate]
    by_cases hb : b < c + 1
    · simp only [if_pos hb]
    · simp only [if_neg hb]
  have e2 := congrArg (fun o : HO => match o with | .ext φ => φ { objs := Array.replicate (c + 1) { cls := .none, data := .fields #[.none, .str q 0] } } | _ => False) e
  have h1 : DtP P w a xs { objs := Array.replicate (c + 1) { cls := .none, data := .fields #[.none, .str q 0] } } := by
    refine (show _ = DtP P w a xs _ from e2) ▸ ?_
    exact ⟨_, _, 0, by rw [at1, if_pos (Nat.lt_succ_self c)], rfl, rfl⟩
  obtain ⟨_, _, ys, _, o, es, ep, ho, _, hd, _⟩ := h1
  rw [at1] at ho
  split at ho
  · cases ho
    cases hd
  · cases ho
theorem de_told {X : Cx} {W : WX} {x : Str} {g CS c P : Addr} {q : Str} {k : Nat} {params : Arguments} {body : Expr} {scope : Scope} {tb : DTE} {p lpos pos : Pos} (C : ToldC X.K X.mg x g CS) (hg : Gl X x) (TB : LamX.TabB X.base X.mg c P) (hcode : X.env.code = .ref c)
    (hq : q = X.env.qual ++ "<lambda>") (hr : Room (k + 2) X.A) (L : LamX.LamS X.env.scope scope)
    (hbody : ∀ (A : Around) (outer : List Env) (s : Shared) (H : Hp) (E : XK) (f c' : Addr), Room k (LamX.lamCx X A outer s H E scope f c').A → Takes (LamX.lamCx X A outer s H E scope f c') (wxD E) → (LamX.lamCx X A outer s H E scope f c').A.units + 64 < cLine → (LamX.lamCx X A outer s H E scope f c').A.units + 65 < cLine → (LamX.lamCx X A outer s H E scope f c').A.units + 1 < cLine → DE (LamX.lamCx X A outer s H E scope f c') (wxD E) body tb)
    (hdef : defaultsOf params X.env = ([], []) := by rfl) (hbind : ∀ (q : Str) (cl : List (Str × Addr)) (pm cv ctv : Value), bindArgs (kla_fn "<lambda>" q params body scope cl pm cv ctv) ⟨[], []⟩ = pure [] := by intros; rfl) (hdb : (x == ("__debug__" : Str)) = false := by decide) :
    DE X W (.Call (.Name x p) [.Lambda params body scope lpos] [] pos) (eTold P q CS tb) := by
  obtain ⟨oc, od, osl, dV, kV, doc, pm, an, cdv, ct, pg, sg, p1, p2, p3, p4, p5, p6, p7, p8, p9, lk, hcd, hb, S, h1, h2, h3⟩ := C.fn
  subst hq
  refine ⟨⟨fun pins s σ H Q I hh => ?_⟩⟩
  obtain ⟨ρ, M, N, Pk, PX, hs, hrel, ⟨hT, ht⟩, hP, hX⟩ := hh
  have inT : ∀ {a : Addr} {q : Str}, M a = some (.tb q) → (a, q) ∈ tabsOf M s.heap.objs.size := fun {a q} e => by
    obtain ⟨o, e1, e2⟩ := hrel.obj a _ e
    obtain ⟨u, hu⟩ := objOk_get (I.hok a o e1)
    exact mem_tabsOf.mpr ⟨Heap.lt_size hu, e⟩
  have ofT : ∀ {p : Addr × Str}, p ∈ tabsOf M s.heap.objs.size → M p.1 = some (.tb p.2) := fun {p} hp => (mem_tabsOf.mp hp).2
  refine (LamX.pe_lamcall (T := tabsOf M s.heap.objs.size) (t := fun E => LE X.K (wxD E) tb) hg C.at_ C.kp lk hcd hb S rfl (Or.inl h1) (told2_gives (X := X) (fld := "code") (by decide) h2 h3 C.er C.xf C.no C.ex) TB hcode (inT hT) (fun p hp e => ?_) hr L hdef hbind (fun A outer s H E f c' hr' => (hbody A outer s H E f c' hr' (takes_of rfl rfl rfl rfl) hr'.units (room5 hr') (L2.hu_of hr')).pe) hdb).run pins s σ H Q I ⟨fun p hp => ?_, fun H1 ex hT1 => ?_⟩
  · have z := ofT hp
    rw [e, hT] at z
    injection z with z
    injection z with z
    exact z.symm
  · obtain ⟨o, e1, e2⟩ := hrel.obj p.1 _ (ofT hp)
    cases o with
    | tbl ps => exact ⟨ps, e1, e2.1, fun pos cv e => let ⟨c, a1, a2⟩ := e2.2 pos cv e; ⟨c, a1, fz_sub _ _ a2⟩⟩
    | _ => exact (show False from e2).elim
  · have af : Af M N H M H1 := Af.growN hrel fun b o e n => ex b o e n
    have hrel1 : HRel X.K M N H1 := by
      refine ⟨fun a o e => ?_, fun b hb => ⟨(hrel.hid b hb).1, fun z => ?_⟩⟩
      · obtain ⟨h, e1, e2⟩ := hrel.obj a o e
        by_cases ht : ∃ ps, h = .tbl ps
        · obtain ⟨ps, rfl⟩ := ht
          cases o with
          | tb q =>
            obtain ⟨ps', a1, a2, a3⟩ := hT1 _ (inT e)
            refine ⟨_, a1, a2, fun pos cv ec => ?_⟩
            obtain ⟨c, b1, b2⟩ := a3 pos cv ec
            refine ⟨c, b1, ?_⟩
            have hn : N c = false := by
              cases z : N c with
              | false => rfl
              | true =>
                obtain ⟨o, o1, o2, o3⟩ := nt2_ne (hrel.hid c z).2
                rw [ex c o o1 o2] at b2
                cases b2
                exact absurd rfl (o3 _)
            have hm : M c = none := by
              cases z : M c with
              | none => rfl
              | some u =>
                obtain ⟨o, o1, o2⟩ := hrel.obj c u z
                cases o with
                | tbl ps =>
                  cases u with
                  | tb q2 =>
                    obtain ⟨ps', z1, _, _⟩ := hT1 _ (inT z)
                    rw [z1] at b2
                    cases b2
                  | dt P' w' a' kvs' =>
                    obtain ⟨_, ez, _⟩ := (show ∃ xs, HO.tbl ps = dtO P' w' a' xs ∧ _ from o2)
                    cases ez
                  | dl kvs' =>
                    obtain ⟨_, _, ez, _⟩ := (show ∃ ob a, HO.tbl ps = .frz ob (.dK a) ∧ _ from o2)
                    cases ez
                  | _ => exact (show False from o2).elim
                | ext φ =>
                  have b3 := ex c _ o1 (fun ps z => by cases z)
                  rw [b3] at b2
                  cases u with
                  | dt P w a kvs =>
                    obtain ⟨xs, o3, _⟩ := (show ∃ xs, HO.ext φ = dtO P w a xs ∧ _ from o2)
                    exact (codeO_dt ((Option.some.inj b2).symm.trans o3)).elim
                  | dl kvs' =>
                    obtain ⟨_, _, ez, _⟩ := (show ∃ ob a, HO.ext φ = .frz ob (.dK a) ∧ _ from o2)
                    cases ez
                  | _ => exact (show False from o2).elim
                | _ =>
                  have b3 := ex c _ o1 (fun ps z => by cases z)
                  rw [b3] at b2
                  cases b2
            rw [fz_at hn hm, b2]
            rfl
          | dt P' w' a' kvs' =>
            obtain ⟨_, ez, _⟩ := (show ∃ xs, HO.tbl ps = dtO P' w' a' xs ∧ _ from e2)
            cases ez
          | dl kvs' =>
            obtain ⟨_, _, ez, _⟩ := (show ∃ ob a, HO.tbl ps = .frz ob (.dK a) ∧ _ from e2)
            cases ez
          | _ => exact (show False from e2).elim
        · exact ⟨h, ex a h e1 fun ps z => ht ⟨ps, z⟩, objD_mono af.fr e2⟩
      · have := af.hd b hb
        rw [this] at z
        exact (hrel.hid b hb).2 z
    refine ⟨ρ, M, N, _, _, hs.mono af.fr, hrel1, ht, fun y M' v H' p r a i => hP y M' v H' p r (af.trans a) i, fun y M' d H' p r a ed => ?_⟩
    obtain ⟨ec, gs, v, e1, e2, pk⟩ := p
    unfold ExD at ed
    rw [e1] at ed
    obtain ⟨dd, fs, d1, d2, d3⟩ := ed
    obtain ⟨u, u1, u2⟩ := paired_lookup d3 e2
    exact ⟨ec, dd, fs, u, d1, fz_sub _ _ d2, u1, hP (.d v) M' u H' pk r (af.trans a) u2⟩
/-! ### defs whose code object is known -/
structure FunT (K : Frag) (x qual : Str) (st : Stmt) (f : Addr) (fd : FuncData) (c : Addr) : Prop where
  ex : ∃ (oc : Value) (od : Option Addr) (kV doc pm : Value) (an : Option Addr) (ct : Value) (osl : Array (Option Value)),
    fd = fnOf x qual (defArgs st) (defBody st) (defScope st) .none kV doc pm an (.ref c) ct ∧ K.lookup f = some ⟨oc, od, .func fd, osl⟩ ∧ codeIn K (.ref c) qual = true
  kp : keepIn K (.ref f) = true
theorem FunT.toFun {K : Frag} {x qual : Str} {st : Stmt} {f : Addr} {fd : FuncData} {c : Addr} (F : FunT K x qual st f fd c) : Fun K x qual st f fd :=
  ⟨let ⟨oc, od, kV, doc, pm, an, ct, osl, h1, h2, h3⟩ := F.ex; ⟨oc, od, kV, doc, pm, an, .ref c, ct, osl, h1, h2, h3⟩, F.kp⟩
theorem funT_mk {K : Frag} {x qual : Str} {st : Stmt} {f c : Addr} {oc : Value} {od an : Option Addr} {osl : Array (Option Value)} {kV doc pm ct : Value} (l : K.lookup f = some ⟨oc, od, .func (fnOf x qual (defArgs st) (defBody st) (defScope st) .none kV doc pm an (.ref c) ct), osl⟩)
    (q : codeIn K (.ref c) qual = true) (k : keepIn K (.ref f) = true) : FunT K x qual st f (fnOf x qual (defArgs st) (defBody st) (defScope st) .none kV doc pm an (.ref c) ct) c := ⟨⟨oc, od, kV, doc, pm, an, ct, osl, rfl, l, q⟩, k⟩
theorem okDT {P : Program} {w : World} {K : Frag} {mg : Str → Option Value} {base : Heap} {x qual : Str} {st : Stmt} {f : Addr} {fd : FuncData} {c : Addr} {N ps : List Str} {k : Nat} {sp : DSp} {t : DTS} (F : FunT K x qual st f fd c) (S : FnScope N ps (defScope st)) (len : ∀ xs M P PX, sp xs M P PX → xs.length = ps.length)
    (hread : ∀ xs M Q PX, sp xs M Q PX → t (endD Q PX) (startD N xs) M)
    (hbody : ∀ (A : Around) (outer : List Env) (s : Shared) (H : Hp) (E : XK), Room k (A.deeper (envOfC qual (defScope st) s.heap.objs.size f (.ref c))) →
      Takes (cxD P w K mg base N qual st f (.ref c) A outer s H E) (wxD E) → PassesOwn (model P w) (A.deeper (envOfC qual (defScope st) s.heap.objs.size f (.ref c))) (envOfC qual (defScope st) s.heap.objs.size f (.ref c)) (cxD P w K mg base N qual st f (.ref c) A outer s H E).xe →
      DSs (cxD P w K mg base N qual st f (.ref c) A outer s H E) (wxD E) (defBody st) t) : DFn P w K mg base (k + 1) f fd ps sp := by
  obtain ⟨oc, od, kV, doc, pm, an, ct, osl, rfl, lk, hcd⟩ := F.ex
  refine fn_of lk hcd S (fun vs H Q E ⟨xs, M, N', P', PX, ha, hr, hsp, _⟩ => by rw [paired_len ha]; exact len _ _ _ _ hsp) fun A outer s H vs Q E hr hsp => ?_
  obtain ⟨xs, M, N', P', PX, ha, hrel, hsp, hf, hx⟩ := hsp
  refine ⟨_, (hbody A outer s H E hr (takes_of rfl rfl rfl rfl) (passes_of rfl)).ps, startD N xs, M, N', endD P' PX, start_rel ha N, hrel, hread xs M P' PX hsp, ?_⟩
  exact ⟨fun ρ' M' σ' H' q _ r a => fol_wk hf _ M' .non H' q r a .non, fun x M' v H' q r a i => fol_wk hf x M' v H' q r a i, fun _ _ _ _ z => z.elim, fun _ _ _ _ z => z.elim, fun x ρ' M' d σ' H' q _ r a e => hx x M' d H' q r a e⟩
/-! ### the end of a law with tables of code -/
theorem walk_ofTT {l : PySem.W.OpenLaw} {n k : Nat} {q : Program} {loose : List Str} {XP : (Str → Option Value) → Heap → Prop} {YP : World → Heap → Prop} {d : DefRec} {K : Params → Frag} {CX : World → CXT} {x : Str} (names : List Str)
    (hn : l.most = some n) (hn2 : n ≤ sizeLine) (hdf : d.params.defaults = []) (hr : Room k callerA) (hrec : ∀ x ∈ names, ((recsOf q).find? fun e => e.name == x).isSome = true) (hY : ∀ (w : World) (h : Heap), YP w h → (K w.params).In h)
    (F : ∀ (w : World) (mg : Str → Option Value) (fa : Addr) (h : Heap), YP w h → (K w.params).In h → h.Ns mainGlobals mg → mg d.name = some (.ref fa) →
      (∀ x ∈ names, ∀ c P, tabIn (K w.params) x = some (c, P) → CodeHd h c P ∧ h.get? P = some (tabObj #[])) → LamX.LawAtS l w (K w.params) (CX w) k n x mg fa h)
    (hCX : ∀ (w : World) (H : Hp) (s : Shared) (e : Value) (s' : Shared), CX w [] H s (fun _ _ _ => False) e s' → False) :
    PySem.W.WalkO q loose XP YP l.row.toRowW d [] (fun f vs => PySem.call f vs) := by
  refine Att.attach_callB hn hdf fun w s₀ s₁ mg mb fa o pm cd doc a vs ns G Y ho hd hcd hmg hobj hints hlen hbits hg => ?_
  have KX := hY w _ Y
  obtain ⟨fd, cs, sp, hT, nT, C, hb, hsp, hF⟩ := F w mg fa _ Y KX G.T.g hmg fun x hx c P ht => by
    obtain ⟨d, hd⟩ := Option.isSome_iff_exists.mp (hrec x hx)
    exact tab_of G.T KX hd ht
  exact LamX.law_callTs KX G.T.g G.T.b G.T.builtins G.T.nolimit hg hT nT C G.T.bmain hobj hints (Nat.le_trans hlen hn2) hr hF hb (fun H hH hS => hsp H a ns hlen hbits hH hS) fun H e s' => hCX w H s₁ e s'
/-! ### how the printed texts name the class -/
structure GErr (P : Program) (K : Frag) (mg : Str → Option Value) (x : Str) (C : Addr) : Prop where
  g : ∃ fI cc cda, GCls P K C fI cc cda
  at_ : mg x = some (.ref C)
theorem ds_raiseY {X : Cx} {W : WX} {x m : Str} {j : Nat} {p p2 p3 pos : Pos} {C : Addr} (Y : GErr X.prog X.K X.mg x C) (hr : Room 1 X.A) (hs : X.mg "super" = none) (hc : X.calm = true) (tk : Takes X W) (hg : Gl X x := by rfl) (hdb : (x == ("__debug__" : Str)) = false := by decide) :
    DS X W (.Raise (some (.Call (.Name x p) [.Constant (.str m) j p2] [] p3)) none pos) (sRaiseG (.ref C) m) :=
  let ⟨_, _, _, G⟩ := Y.g; ds_raiseG G hr Y.at_ hs hc tk hg hdb
theorem gcls_mk {P : Program} {K : Frag} {C fI cc cda N : Addr} {nm q : Str} {bs bm : List Value} {sn : List Str} {sub : List Value} {ab : Bool} {col : Option Bool} {dd od an : Option Addr} {k0 k1 k2 k3 k5 : Option Value} {oc kV doc pm ct ccl cl : Value} {osl ccs csl : Array (Option Value)} {cdd cld : Option Addr} {vs : Array Value} {file : Str} {tf : Tok} {pa pb p0 p1 p2 p3 p4 p5 p6 p7 p8 p9 : Pos}
    (hC : K.lookup C = some (excClassObj nm q C N bs bm true sn sub ab col dd k0 k1 k2 k3 k5 "ValueError.__new__")) (hm : HandSPX.refsVE bm = true) (sa : findIn K (.ref C) "__setattr__" = some (some (.builtin "object.__setattr__"))) (e4 : subIn K (.ref C) (.type "BaseException") = some true) (e5 : typeIn K (.ref C) = some (.type "type")) (e3 : keepIn K (.ref C) = true)
    (ini : findIn K (.ref C) "__init__" = some (some (.ref fI))) (tyI : typeIn K (.ref fI) = some (.type "function"))
    (fn : K.lookup fI = some ⟨oc, od, .func (ksFn "__init__" "GuildError.__init__" (gParams pa pb) (gBody p0 p1 p2 p3 p4 p5 p6 p7 p8 p9) gScope .none kV doc pm an (.ref cda) ct cc), osl⟩) (hp : (p2.endLine == p4.line) = true) (rec_ : codeIn K (.ref cda) "GuildError.__init__" = true)
    (co : K.lookup cda = some ⟨ccl, cdd, .fields vs, ccs⟩) (hv : vs[2]? = some (.str file tf)) (hf : ((P.main.file : Str) == file) = true) (ce : K.lookup cc = some ⟨cl, cld, .cell (some (.ref C)), csl⟩)
    (sup : ks_superIn K C C "__init__" = some (some (.builtin "ValueError.__init__"))) (subV : subIn K (.ref C) (.type "ValueError") = some true) (subC : mroIn K C (.ref C) = some true) (opq : nsIn K cStatics "thirdparty.any" = some none) (noA : findIn K (.ref C) "code" = some none) (top : (P.main.scope.names.lookup ("super" : Str)).isSome = false) :
    ∃ fI cc cda, GCls P K C fI cc cda :=
  ⟨fI, cc, cda, ⟨⟨⟨nm, q, N, bs, bm, sn, sub, ab, col, dd, k0, k1, k2, k3, k5, hC, hm⟩, sa, e4, e5, e3⟩, ini, tyI, ⟨oc, od, osl, kV, doc, pm, an, ct, pa, pb, p0, p1, p2, p3, p4, p5, p6, p7, p8, p9, hp, fn⟩, rec_, ⟨ccl, cdd, vs, ccs, file, tf, co, hv, hf⟩, ⟨cl, cld, csl, ce⟩, sup, subV, subC, opq, noA, top⟩⟩
theorem told_mk {K : Frag} {mg : Str → Option Value} {x : Str} {g CS : Addr} {oc dV kV doc pm cdv ct : Value} {od an : Option Addr} {osl : Array (Option Value)} {pg : Arguments} {sg : Scope} {p1 p2 p3 p4 p5 p6 p7 p8 p9 : Pos} (hm : mg x = some (.ref g)) (kp : keepIn K (.ref g) = true) (er : mg "GuildError" = some (.ref CS))
    (lk : K.lookup g = some ⟨oc, od, .func (fnOf x x pg [.Try [.Return (some (.Call (.Name "call" p1) [] [] p2)) p3] [.ExceptHandler (some (.Name "GuildError" p4)) (some "e") [.Return (some (.Attribute (.Name "e" p5) "code" p6)) p7] p8] [] [] p9] sg dV kV doc pm an cdv ct), osl⟩) (q : codeIn K cdv x = true)
    (b : Binds K (fnOf x x pg [.Try [.Return (some (.Call (.Name "call" p1) [] [] p2)) p3] [.ExceptHandler (some (.Name "GuildError" p4)) (some "e") [.Return (some (.Attribute (.Name "e" p5) "code" p6)) p7] p8] [] [] p9] sg dV kV doc pm an cdv ct) ["call"] []) (S : FnScope ["call", "e"] ["call"] sg)
    (s1 : sg.names.lookup ("call" : Str) = some .local) (s2 : sg.names.lookup ("e" : Str) = some .local) (s3 : sg.names.lookup ("GuildError" : Str) = some .globalImplicit)
    (ga : findIn K (.ref CS) "__getattribute__" = some (some (.builtin "BaseException.__getattribute__"))) (gg : findIn K (.ref CS) "__getattr__" = some none) (e4 : subIn K (.ref CS) (.type "BaseException") = some true) (e6 : hasDictIn K CS = true) (no : findIn K (.ref CS) "code" = some none) (ex : exmOne K (.ref CS) (.ref CS) = some true) : ToldC K mg x g CS :=
  ⟨hm, kp, er, ⟨oc, od, osl, dV, kV, doc, pm, an, cdv, ct, pg, sg, p1, p2, p3, p4, p5, p6, p7, p8, p9, lk, q, b, S, s1, s2, s3⟩, ⟨ga, gg, e4, e6⟩, no, ex⟩
end DL

/-! Part 26: tuple * int; is and is not of bools. -/
namespace DL
open PySem PySem.Spec PyProof.Rows L2
theorem tuple_mul1 (l : Addr) (items : Array Value) (n : Nat) (dd : Option Addr) (sl : Array (Option Value)) (x : Int) (u : Tok) (hx : x = 1) :
    Meets (Builtin.«tuple.__mul__» ⟨[.ref l, .int x u], []⟩) (fun _ R s => s.heap.get? l = some { cls := .type "tuple", dict := dd, data := .seq items n, slots := sl } ∧ R (.ok (.ret (Value.ref l))) s) :=
  .of_wp fun prog w A R s h => by
    subst hx
    obtain ⟨hp, g, d, tk, os⟩ := s
    obtain ⟨hl, h⟩ := h
    have f1 := AutoSeq1.idx_int
    have c0 : (decide ((1 : Int) < -(2 ^ 63)) || decide ((1 : Int) ≥ 2 ^ 63)) = false := by decide
    have c1 : (items.isEmpty || (1 : Int) == 1) = true := by simp
    wp_walk using wpAny_loadPart' hl
    exact ⟨_, rfl, h⟩
theorem tuple_mul0 (l : Addr) (items : Array Value) (n : Nat) (dd : Option Addr) (sl : Array (Option Value)) (x : Int) (u : Tok) (hx : x = 0) (hi : items.isEmpty = false) :
    Meets (Builtin.«tuple.__mul__» ⟨[.ref l, .int x u], []⟩) (fun _ R s => s.heap.get? l = some { cls := .type "tuple", dict := dd, data := .seq items n, slots := sl } ∧
      R (.ok (.ret (Value.ref s.heap.objs.size))) { s with heap := s.heap.push { cls := Value.type "tuple", data := Data.seq #[] }, toks := s.toks }) :=
  .of_wp fun prog w A R s h => by
    subst hx
    obtain ⟨hp, g, d, tk, os⟩ := s
    obtain ⟨hl, h⟩ := h
    have f1 := AutoSeq1.idx_int
    wp_walk using wpAny_loadPart' hl
    repeat (first
      | (refine wpAny_ite_false (decide_eq_false (by rw [hi]; decide)) ?_; wp_walk using wpAny_loadPart' hl)
      | (refine wpAny_ite_false (decide_eq_false (by decide)) ?_; wp_walk using wpAny_loadPart' hl))
    exact ⟨_, rfl, h⟩
/-! ### tuple * int -/
def repD : PyData → PyData → (PyData → Prop) → Prop
  | .tuple ds, .int k, K => 0 ≤ k ∧ k ≤ 1000 ∧ ds ≠ [] ∧ ds.length ≤ 1000 ∧ K (.tuple (List.replicate k.toNat ds).flatten)
  | _, _, _ => False
def rRepT' (K : PySem.W.Frag) : R2 := fun x y H Q => ∃ l k xs, x = .ref l ∧ y = .int k ∧ SqT K H l xs ∧ xs ≠ [] ∧ ((k = 1 ∧ Q (.ref l) H) ∨ (k = 0 ∧ ∀ p, H p = none → Q (.ref p) (upd H p (.tup []))))
theorem op_repT' {X : Cx} : OpR X (binaryOp .Mult) (rRepT' X.K) := by
  intro pins s σ H x y v u Q I rx ry h
  obtain ⟨l, k, xs, rfl, rfl, hT, hne, q⟩ := h
  cases rx
  obtain ⟨t, rfl⟩ := ry
  obtain ⟨its, r, ⟨⟨cls, dd, data, sl⟩, ho, hc, n, hd⟩, hs⟩ := I.tuple hT
  simp only at hc hd
  subst hc hd
  have hle : its.length = xs.length := r.length.symm
  have hn : its ≠ [] := fun e => hne (by
    rw [e] at hle
    exact List.eq_nil_of_length_eq_zero hle.symm)
  have hi : its.toArray.isEmpty = false := by
    cases its with
    | nil => exact absurd rfl hn
    | cons a b => rfl
  rcases q with ⟨rfl, q⟩ | ⟨rfl, q⟩
  · refine wpAny_binaryOp_repeat_ref (T := "tuple") (U := "int") (by decide) ⟨_, ho, rfl⟩ (fun s' => typeIs_int s' 1 t) noFill_tuple_mul F.fills_int_mul F.slot_int_rmul repeat_tuple F.slot_int_index.lookup
      (call_meets F.slot_int_rmul (typeIs_int s 1 t) F.entry_int_rmul (F.args_int_rmul_2 _ _) (int_rmul_tuple 1 t l its.toArray n dd sl)
        ⟨ho, rfl, ⟨_, ho, rfl⟩, call_meets F.slot_tuple_mul ⟨_, ho, rfl⟩ F.entry_tuple_mul (F.args_tuple_mul_2 _ _) (tuple_mul1 l its.toArray n dd sl 1 t rfl) ⟨ho, ?_⟩⟩)
    exact ⟨.ref l, H, I, rfl, q⟩
  · refine wpAny_binaryOp_repeat_ref (T := "tuple") (U := "int") (by decide) ⟨_, ho, rfl⟩ (fun s' => typeIs_int s' 0 t) noFill_tuple_mul F.fills_int_mul F.slot_int_rmul repeat_tuple F.slot_int_index.lookup
      (call_meets F.slot_int_rmul (typeIs_int s 0 t) F.entry_int_rmul (F.args_int_rmul_2 _ _) (int_rmul_tuple 0 t l its.toArray n dd sl)
        ⟨ho, rfl, ⟨_, ho, rfl⟩, call_meets F.slot_tuple_mul ⟨_, ho, rfl⟩ F.entry_tuple_mul (F.args_tuple_mul_2 _ _) (tuple_mul0 l its.toArray n dd sl 0 t rfl hi) ⟨ho, ?_⟩⟩)
    refine ⟨.ref s.heap.objs.size, _, I.laid (t' := s.toks) (o := .tup []) (fun b ob q => Heap.get?_push_of_some _ q) (Nat.le_refl _) ?_, rfl, q _ (I.hok.fresh (Nat.le_refl _))⟩
    exact ⟨Nat.zero_le _, [], .nil, IsTup.new _ _⟩
section
variable {X : Cx}
theorem dop_rep : DOp X (binaryOp .Mult) (gD repD) := by
  intro pins s σ H x y v u Q I rx ry hq
  obtain ⟨dx, dy, M, N, P, hr, r1, r2, hf, fo⟩ := gD_of hq
  unfold repD at hf
  split at hf
  · rename_i ds k
    obtain ⟨k0, k1, hne, hz, hf⟩ := hf
    obtain ⟨p, vs, rfl, h1, h2, d1⟩ := r1.tuple
    have l1 := dpAll_len h2
    have hv : vs ≠ [] := fun e => by
      subst e
      exact hne (List.eq_nil_of_length_eq_zero l1.symm)
    have hk := r2.int
    by_cases c1 : k = 1
    · subst c1
      refine op_repT' pins s σ H _ _ v u Q I rx ry ⟨p, 1, vs, rfl, hk, h1, hv, .inl ⟨rfl, fo.same hr hf ?_⟩⟩
      have e : (List.replicate (1 : Int).toNat ds).flatten = ds := by simp
      rw [e]
      exact d1
    · by_cases c0 : k = 0
      · subst c0
        refine op_repT' pins s σ H _ _ v u Q I rx ry ⟨p, 0, vs, rfl, hk, h1, hv, .inr ⟨rfl, fun q hq => ?_⟩⟩
        exact fo _ _ _ _ hf (hr.grow (same_new hq)) (.grow hr (same_new hq)) (fz_newTup hr hq .nil)
      · refine op_repT pins s σ H _ _ v u Q I rx ry ⟨p, k, vs, rfl, hk, h1, hv, by omega, by omega, by omega, fun q hq => ?_⟩
        exact fo _ _ _ _ hf (hr.grow (same_new hq)) (.grow hr (same_new hq)) (fz_newTup hr hq (dpAll_rep h2 _))
  · exact hf.elim
/-! ### is, is not of bools -/
def isBD : PyData → PyData → (PyData → Prop) → Prop
  | .bool a, .bool b, k => k (.bool (decide (a = b)))
  | _, _, _ => False
def notBD : PyData → PyData → (PyData → Prop) → Prop
  | .bool a, .bool b, k => k (.bool (!decide (a = b)))
  | _, _, _ => False
theorem dop_isB : DOp X (compareOp .Is) (gD isBD) := by
  intro pins s σ H x y v u Q I rx ry hq
  obtain ⟨dx, dy, M, N, P, hr, r1, r2, hf, fo⟩ := gD_of hq
  unfold isBD at hf
  split at hf
  · exact op_isBl pins s σ H x y v u Q I rx ry ⟨_, _, r1.bool, r2.bool, fo.same hr hf (show Dp _ _ _ _ from .bl _)⟩
  · exact hf.elim
theorem dop_notB : DOp X (compareOp .IsNot) (gD notBD) := by
  intro pins s σ H x y v u Q I rx ry hq
  obtain ⟨dx, dy, M, N, P, hr, r1, r2, hf, fo⟩ := gD_of hq
  unfold notBD at hf
  split at hf
  · exact op_notBl pins s σ H x y v u Q I rx ry ⟨_, _, r1.bool, r2.bool, fo.same hr hf (show Dp _ _ _ _ from .bl _)⟩
  · exact hf.elim
end
/-! ### walking -/
section
variable {M : MHp} {P : DK} {k : PyData → Prop} {ρ : DEnv} {PX : DX}
theorem x_rep {ds : List PyData} {n : Int} (h0 : 0 ≤ n) (h1 : n ≤ 1000) (hne : ds ≠ []) (hz : ds.length ≤ 1000) (q : k (.tuple (List.replicate n.toNat ds).flatten)) : repD (.tuple ds) (.int n) k := ⟨h0, h1, hne, hz, q⟩
theorem x_isB {a b : Bool} (q : k (.bool (decide (a = b)))) : isBD (.bool a) (.bool b) k := q
theorem x_notB {a b : Bool} (q : k (.bool (!decide (a = b)))) : notBD (.bool a) (.bool b) k := q
theorem x_raiseG {cls : Value} {m : Str} {E : DEnds} (q : E.ex { cls := cls, fs := some [("code", .str m)] } ρ M) : sRaiseG cls m E ρ M := q
theorem x_told {T : Addr} {q : Str} {CS : Addr} {tb : DTE} (h : M T = some (.tb q)) (r : tb ρ M P (fun x M' => x.cls = .ref CS ∧ ∃ gs v, x.fs = some gs ∧ gs.lookup ("code" : Str) = some v ∧ P (.d v) M')) : eTold T q CS tb ρ M P PX := ⟨h, r⟩
theorem told_ex {CS : Addr} {c : Str} {M' : MHp} (q : P (.d (.str c)) M') : (fun (x : XD) M' => x.cls = .ref CS ∧ ∃ gs v, x.fs = some gs ∧ gs.lookup ("code" : Str) = some v ∧ P (.d v) M') { cls := .ref CS, fs := some [("code", .str c)] } M' := ⟨rfl, _, _, rfl, rfl, q⟩
end
end DL

/-! Part 27: dicts whose keys are tuples. -/
namespace DL
open PySem PySem.Spec PyProof.Rows L2
def valN (kvs : List (NestedKey × DV)) (k : NestedKey) : Option DV := (kvs.find? fun p => decide (p.1 = k)).map (·.2)
def putN (kvs : List (NestedKey × DV)) (k : NestedKey) (v : DV) : List (NestedKey × DV) :=
  if (kvs.any fun kv => decide (kv.1 = k)) = true then kvs.map (fun kv => if kv.1 = k then (kv.1, v) else kv) else kvs ++ [(k, v)]
def valX (xs : List (NestedKey × Addr × V)) (k : NestedKey) : Option V := (xs.find? fun p => decide (p.1 = k)).map (·.2.2)
def putX (xs : List (NestedKey × Addr × V)) (k : NestedKey) (b : Addr) (v : V) : List (NestedKey × Addr × V) :=
  if (xs.any fun kv => decide (kv.1 = k)) = true then xs.map (fun kv => if kv.1 = k then (kv.1, kv.2.1, v) else kv) else xs ++ [(k, b, v)]
abbrev XY : List (NestedKey × Addr × V) → List (NestedKey × Addr × Value) → Prop := Paired fun (p : NestedKey × Addr × V) (q : NestedKey × Addr × Value) => p.1 = q.1 ∧ p.2.1 = q.2.1 ∧ RelV p.2.2 q.2.2
theorem xy_val {xs : List (NestedKey × Addr × V)} {ys : List (NestedKey × Addr × Value)} (r : XY xs ys) (k : NestedKey) : RelO (valX xs k) ((atKey ys k).map (·.2)) := by
  induction r with
  | nil => exact True.intro
  | @cons p q ps qs h t ih =>
    obtain ⟨h1, _, h2⟩ := h
    unfold valX atKey at ih ⊢
    rw [List.find?_cons, List.find?_cons]
    by_cases e : p.1 = k
    · rw [decide_eq_true e, decide_eq_true (h1.symm.trans e)]
      exact h2
    · rw [decide_eq_false e, decide_eq_false (fun z => e (h1.trans z))]
      exact ih
theorem xy_any {xs : List (NestedKey × Addr × V)} {ys : List (NestedKey × Addr × Value)} (r : XY xs ys) (k : NestedKey) : (xs.any fun p => decide (p.1 = k)) = (atKey ys k).isSome := by
  induction r with
  | nil => rfl
  | @cons p q ps qs h t ih =>
    unfold atKey at ih ⊢
    rw [List.any_cons, List.find?_cons, ← h.1]
    by_cases e : p.1 = k
    · rw [decide_eq_true e]; rfl
    · rw [decide_eq_false e, Bool.false_or]
      exact ih
theorem xy_put {xs : List (NestedKey × Addr × V)} {ys : List (NestedKey × Addr × Value)} (r : XY xs ys) (k : NestedKey) {b : Addr} {v : V} {u : Value} (rv : RelV v u) : XY (putX xs k b v) (storedH ys k b u) := by
  unfold putX storedH
  rw [xy_any r k]
  split
  · rename_i c
    clear c
    induction r with
    | nil => exact .nil
    | @cons p q ps qs h t ih =>
      rw [List.map_cons, List.map_cons]
      refine .cons ?_ ih
      obtain ⟨h1, h2, h3⟩ := h
      unfold putAt
      by_cases e : p.1 = k
      · rw [if_pos e, if_pos (h1.symm.trans e)]
        exact ⟨h1, h2, rv⟩
      · rw [if_neg e, if_neg (fun z => e (h1.trans z))]
        exact ⟨h1, h2, h3⟩
  · exact Paired.snoc r ⟨rfl, rfl, rv⟩
theorem xy_len {xs : List (NestedKey × Addr × V)} {ys : List (NestedKey × Addr × Value)} (r : XY xs ys) : xs.length = ys.length := Paired.length r
theorem putX_len {xs : List (NestedKey × Addr × V)} {k : NestedKey} {b : Addr} {v : V} : (putX xs k b v).length ≤ xs.length + 1 := by
  unfold putX
  split
  · rw [List.length_map]; omega
  · rw [List.length_append]; exact Nat.le_refl _
abbrev KxR (K : PySem.W.Frag) (F : Hp) : List (NestedKey × Addr × V) → List (NestedKey × DV) → Prop := Paired fun (p : NestedKey × Addr × V) (q : NestedKey × DV) => p.1 = q.1 ∧ Dp K F (.ref p.2.1) p.1.data ∧ p.1.depth ≤ 8 ∧ IsD K F p.2.2 q.2
theorem kx_val {K : PySem.W.Frag} {F : Hp} {xs : List (NestedKey × Addr × V)} {kvs : List (NestedKey × DV)} (r : KxR K F xs kvs) (k : NestedKey) : (valX xs k = none ∧ valN kvs k = none) ∨ ∃ v x, valX xs k = some v ∧ valN kvs k = some x ∧ IsD K F v x := by
  induction r with
  | nil => exact .inl ⟨rfl, rfl⟩
  | @cons p q ps qs h t ih =>
    obtain ⟨h1, _, _, h2⟩ := h
    unfold valX valN at ih ⊢
    rw [List.find?_cons, List.find?_cons]
    by_cases e : p.1 = k
    · rw [decide_eq_true e, decide_eq_true (h1.symm.trans e)]
      exact .inr ⟨_, _, rfl, rfl, h2⟩
    · rw [decide_eq_false e, decide_eq_false (fun z => e (h1.trans z))]
      exact ih
theorem kx_any {K : PySem.W.Frag} {F : Hp} {xs : List (NestedKey × Addr × V)} {kvs : List (NestedKey × DV)} (r : KxR K F xs kvs) (k : NestedKey) : (xs.any fun p => decide (p.1 = k)) = kvs.any fun p => decide (p.1 = k) := by
  induction r with
  | nil => rfl
  | cons h t ih => rw [List.any_cons, List.any_cons, ih, h.1]
theorem kx_put {K : PySem.W.Frag} {F : Hp} {xs : List (NestedKey × Addr × V)} {kvs : List (NestedKey × DV)} (r : KxR K F xs kvs) (k : NestedKey) {b : Addr} {v : V} {x : DV} (hk : Dp K F (.ref b) k.data) (hd : k.depth ≤ 8) (hv : IsD K F v x) : KxR K F (putX xs k b v) (putN kvs k x) := by
  unfold putX putN
  rw [kx_any r k]
  split
  · rename_i c
    clear c
    induction r with
    | nil => exact .nil
    | @cons p q ps qs h t ih =>
      rw [List.map_cons, List.map_cons]
      refine .cons ?_ ih
      obtain ⟨h1, h2, h3, h4⟩ := h
      by_cases e : p.1 = k
      · rw [if_pos e, if_pos (h1.symm.trans e)]
        exact ⟨h1, h2, h3, hv⟩
      · rw [if_neg e, if_neg (fun z => e (h1.trans z))]
        exact ⟨h1, h2, h3, h4⟩
  · exact Paired.snoc r ⟨rfl, hk, hd, hv⟩
/-! ### keys in the heap -/
section
variable {X : Cx} {pins : List (Addr × Obj)} {σ : L2.St} {H : Hp} {s : Shared}
mutual
theorem nested_of (I : Inv X pins σ H s) : ∀ (k : NestedKey) {v : V} {u : Value}, Dp X.K H v k.data → RelV v u → NestedIs s.heap k u
  | .none, v, u, h, r => by
    cases (show Dp X.K H v .none from h)
    cases (show u = Value.none from r)
    exact .none
  | .num i, v, u, h, r => by
    cases (show Dp X.K H v (.int i) from h)
    obtain ⟨t, rfl⟩ := (show ∃ t, u = Value.int i t from r)
    exact .int _ _
  | .text x, v, u, h, r => by
    cases (show Dp X.K H v (.str x) from h)
    obtain ⟨t, rfl⟩ := (show ∃ t, u = Value.str x t from r)
    exact .text _ _
  | .tup ks, v, u, h, r => by
    cases (show Dp X.K H v (.tuple (NestedKey.datas ks)) from h) with
    | tup h1 h2 =>
      cases (show u = Value.ref _ from r)
      obtain ⟨its, rv, ⟨o, ho, hc, n, hd⟩, _⟩ := I.tuple h1
      exact .tup ho hc hd (by simpa using nested_all I ks h2 rv)
theorem nested_all (I : Inv X pins σ H s) : ∀ (ks : List NestedKey) {vs : List V} {us : List Value}, DpAll X.K H vs (NestedKey.datas ks) → Vals vs us → NestedAll s.heap ks us
  | [], vs, us, h, r => by
    cases (show DpAll X.K H vs [] from h)
    cases r
    exact .nil
  | k :: ks, vs, us, h, r => by
    cases (show DpAll X.K H vs (k.data :: NestedKey.datas ks) from h) with
    | cons h1 h2 =>
      cases r with
      | cons r1 r2 => exact .cons (nested_of I k h1 r1) (nested_all I ks h2 r2)
end
theorem key_is (I : Inv X pins σ H s) {k : NestedKey} {b : Addr} (h : Dp X.K H (.ref b) k.data) (hd : k.depth ≤ 8) : (nestedKind X.prog X.w).is s.heap k b := ⟨nested_of I k h rfl, hd⟩
def KeysOk (K : PySem.W.Frag) (H : Hp) (xs : List (NestedKey × Addr × V)) : Prop := ∀ x ∈ xs, Dp K H (.ref x.2.1) x.1.data ∧ x.1.depth ≤ 8
theorem dtP_at (I : Inv X pins σ H s) {a0 a : Addr} {xs : List (NestedKey × Addr × V)} (e : H a0 = some (dtO X.prog X.w a xs)) : DtP X.prog X.w a xs s.heap := by
  have x : ObjOk X.prog X.w H s.heap a0 (.ext (DtP X.prog X.w a xs)) := I.hok a0 _ e
  exact x.1
theorem dt_dict (I : Inv X pins σ H s) {a0 a : Addr} {xs : List (NestedKey × Addr × V)} (e : H a0 = some (dtO X.prog X.w a xs)) (hk : KeysOk X.K H xs) : (a == sysModules) = false ∧ xs.length ≤ sizeLine ∧ ∃ ys, XY xs ys ∧ s.heap.DictOfH (nestedKind X.prog X.w) a ys := by
  obtain ⟨h1, h2, ys, r, o, es, ep, ho, hx, hd, he, hn⟩ := dtP_at I e
  refine ⟨h1, h2, ys, r, o, es, ep, ho, hx, hd, he, fun y hy => ?_, hn⟩
  obtain ⟨i, hi⟩ := List.mem_iff_getElem?.mp hy
  have : ∃ x, xs[i]? = some x ∧ x.1 = y.1 ∧ x.2.1 = y.2.1 := by
    clear hn he hd hx ho hy hk e h2
    induction r generalizing i with
    | nil => simp at hi
    | @cons p q ps qs h t ih =>
      cases i with
      | zero => cases hi; exact ⟨p, rfl, h.1, h.2.1⟩
      | succ i => exact ih i hi
  obtain ⟨x, hx1, hx2, hx3⟩ := this
  have z := hk x (List.mem_of_getElem? hx1)
  rw [← hx2, ← hx3]
  exact key_is I z.1 z.2
theorem dt_type (I : Inv X pins σ H s) {a : Addr} {xs : List (NestedKey × Addr × V)} (e : H a = some (dtO X.prog X.w a xs)) : s.TypeIs (.ref a) "dict" ∧ (∀ b, Value.ref a = .ref b → ∃ ob, s.heap.get? b = some ob ∧ ob.dict = none) ∧ (a == sysModules) = false := by
  obtain ⟨h1, h2, ys, r, o, es, ep, ho, hx, hd, he, hn⟩ := dtP_at I e
  refine ⟨⟨o, ho, hx.1⟩, fun b q => ?_, h1⟩
  cases q
  exact ⟨o, ho, hx.2.1⟩
theorem n_room {A : Around} (hu : A.units + 64 < cLine) {P : Program} {w : World} : (nestedKind P w).room A.in1 := by
  show A.in1.units + 8 < cLine
  have : A.in1.units = A.units + 1 := rfl
  omega
theorem dtO_ok {P : Program} {w : World} {H' : Hp} {h' : Heap} {a : Addr} {xs : List (NestedKey × Addr × V)} (h : DtP P w a xs h') : ObjOk P w H' h' a (dtO P w a xs) := by
  obtain ⟨h1, h2, ys, r, o, es, ep, ho, hx, hd, he, hn⟩ := id h
  exact ⟨h, ⟨o, ho⟩, fun g1 g2 z k => let ⟨h1, h2, ys, r, o, es, ep, ho, hx, hd, he, hn⟩ := z; ⟨h1, h2, ys, r, o, es, ep, k o ho, hx, hd, he, hn⟩⟩
end
/-! ### rules at the heap's level -/
def tNNew (P : Program) (w : World) : TE := fun _ H Q => ∀ p, H p = none → Q (.ref p) (upd H p (dtO P w p []))
def tNGet2 (K : PySem.W.Frag) (P : Program) (w : World) (td ty tx : TE) : TE := fun σ H Q => td σ H fun x H1 => ∃ a, x = .ref a ∧ (∃ xs, H1 a = some (dtO P w a xs)) ∧ ty σ H1 fun y H2 => tx σ H2 fun z H3 => ∃ xs k b, H3 a = some (dtO P w a xs) ∧ KeysOk K H3 xs ∧ y = .ref b ∧ Dp K H3 y k.data ∧ k.depth ≤ 8 ∧ Q ((valX xs k).getD z) H3
def tNGet (K : PySem.W.Frag) (P : Program) (w : World) (td ty : TE) : TE := fun σ H Q => td σ H fun x H1 => ty σ H1 fun y H2 => ∃ a xs k b v, x = .ref a ∧ H2 a = some (dtO P w a xs) ∧ KeysOk K H2 xs ∧ y = .ref b ∧ Dp K H2 y k.data ∧ k.depth ≤ 8 ∧ valX xs k = some v ∧ Q v H2
def sNPut (K : PySem.W.Frag) (P : Program) (w : World) (td ty tv : TE) : TS := fun D σ H => tv σ H fun v H1 => td σ H1 fun x H2 => ty σ H2 fun y H3 => ∃ a xs k b, x = .ref a ∧ H3 a = some (dtO P w a xs) ∧ KeysOk K H3 xs ∧ y = .ref b ∧ Dp K H3 y k.data ∧ k.depth ≤ 8 ∧ xs.length < sizeLine ∧ D.nx σ (upd H3 a (dtO P w a (putX xs k b v)))
section
variable {X : Cx} {o e f i value : Expr} {apos cpos pos pos' : Pos} {td ty tx tv : TE}
theorem pe_nnew : PE X (.Dict [] [] pos) (tNNew X.prog X.w) := ⟨fun pins s σ H Q I h =>
  wpAny_Dict_empty ⟨.ref s.heap.objs.size, _, I.laid (a := s.heap.objs.size) (o := dtO X.prog X.w s.heap.objs.size []) (t' := s.toks) (fun _ _ q => Heap.get?_push_of_some _ q) (Nat.le_refl _)
    (dtO_ok ⟨beq_eq_false_iff_ne.mpr (Ne.symm (Nat.ne_of_lt I.big)), Nat.zero_le _, [], .nil, _, #[], 0, Heap.get?_push_size _ rfl, ⟨rfl, rfl, rfl⟩, rfl, rfl, List.nodup_nil⟩), rfl, h _ (I.hok.fresh (Nat.le_refl _))⟩⟩
theorem pe_nget2 (hu : X.A.units + 64 < cLine) (ho : PE X o td) (he : PE X e ty) (hf : PE X f tx) (m : M2 X o "get" apos e f cpos) : PE X (.Call (.Attribute o "get" apos) [e, f] [] cpos) (tNGet2 X.K X.prog X.w td ty tx) := by
  refine ⟨fun pins s σ H Q I h => ?_⟩
  refine wpAny_Call_method m.base m.few m.line PySem.F.plainAttrs_dict PySem.F.slot_dict_get PySem.F.type_dict_get (thn (ho.run pins s σ H _ I h) fun u s1 ⟨x, H1, I1, rx, a, ex, ⟨xs0, d⟩, q1⟩ => ?_)
  subst ex
  obtain rfl : u = Value.ref a := rx
  obtain ⟨t1, t2, _⟩ := dt_type I1 d
  refine ⟨t1, t2, ?_⟩
  rw [m.trees]
  refine Calls.callWith_builtin rfl (Calls.evalArgs_plain (Calls.spliced_cons (thn (he.run pins s1 σ H1 _ I1 q1) fun iv s2 ⟨y, H2, I2, ry, q2⟩ =>
    Calls.spliced_cons (thn (hf.run pins s2 σ H2 _ I2 q2) fun fv s3 ⟨z, H3, I3, rz, xs, k, b, ea, hk, ey, hd, hdep, q3⟩ => Calls.spliced_nil ?_))))
  subst ey
  cases (show iv = Value.ref b from ry)
  obtain ⟨hs, hl, ys, r, dd⟩ := dt_dict I3 ea hk
  refine call_meetsIn PySem.F.slot_dict_get dd.typeIs PySem.F.entry_dict_get (PySem.F.args_dict_get_3 _ _ _) (meetsH_dict_get_default (nestedKind X.prog X.w) a b hs fv) ⟨n_room hu, k, ys, key_is I3 hd hdep, dd, ?_⟩
  exact ⟨_, H3, I3.tok _, (xy_val r k).getD rz, q3⟩
theorem pe_nget (hu : X.A.units + 64 < cLine) (ho : PE X o td) (hi : PE X i ty) (hs : NoSl i) : PE X (.Subscript o i pos) (tNGet X.K X.prog X.w td ty) := by
  refine ⟨fun pins s σ H Q I h => ?_⟩
  refine subD_of PySem.F.slot_dict_getitem.lookup hs (thn (ho.run pins s σ H _ I h) fun u s1 ⟨x, H1, I1, rx, q1⟩ => thn (hi.run pins s1 σ H1 _ I1 q1) fun iv s2 ⟨y, H2, I2, ry, a, xs, k, b, v, ex, ea, hk, ey, hd, hdep, hv, q2⟩ => ?_)
  subst ex ey
  obtain rfl : u = Value.ref a := rx
  cases (show iv = Value.ref b from ry)
  obtain ⟨hs, hl, ys, r, dd⟩ := dt_dict I2 ea hk
  obtain ⟨w', hw, rw'⟩ := RelO.some_of (v := v) (o := (atKey ys k).map (·.2)) (by rw [← hv]; exact xy_val r k)
  obtain ⟨p, hp, hp2⟩ := Option.map_eq_some_iff.mp hw
  refine ⟨dd.typeIs, wpAny_getItem_heap (n_room hu) (key_is I2 hd hdep) dd hp ?_⟩
  rw [hp2]
  exact ⟨v, H2, I2.tok _, rw', q2⟩
theorem ps_nput (hu : X.A.units + 64 < cLine) (ho : PE X o td) (hi : PE X i ty) (hv : PE X value tv) (hs : swapsWith value (some (.Subscript o i pos')) pos.line X.env = pure false) :
    PS X (.Assign [.Subscript o i pos'] value pos) (sNPut X.K X.prog X.w td ty tv) := by
  refine ⟨fun pins s σ H D I h => ?_⟩
  refine wpAny_Assign_Subscript (thn (hv.run pins s σ H _ I h) fun r s1 ⟨v, H1, I1, rv, q1⟩ => thn (ho.run pins s1 σ H1 _ I1 q1) fun u s2 ⟨x, H2, I2, rx, q2⟩ => thn (hi.run pins s2 σ H2 _ I2 q2) fun iv s3 ⟨y, H3, I3, ry, a, xs, k, b, ex, ea, hk, ey, hd, hdep, hl, q3⟩ => ?_) hs
  subst ex ey
  obtain rfl : u = Value.ref a := rx
  cases (show iv = Value.ref b from ry)
  obtain ⟨hsm, hz, ys, rr, dd⟩ := dt_dict I3 ea hk
  refine wpAny_setItem_heap (hsz := by rw [← xy_len rr]; exact hz) (n_room hu) (key_is I3 hd hdep) dd fun h' dd' hs' => ?_
  obtain ⟨o', es, ep, ho', h2, h3, h4, h5, h6⟩ := dd'
  refine ⟨σ, _, d_write I3 (by rw [ea]; exact True.intro) hs' ⟨o', ho'⟩ (dtO_ok ⟨hsm, ?_, _, xy_put rr k rv, o', es, ep, ho', h2, h3, h4, h6⟩), q3⟩
  have := putX_len (xs := xs) (k := k) (b := b) (v := v)
  omega
end
/-! ### readings -/
section
variable {K : PySem.W.Frag} {M : MHp} {N : Hid} {H : Hp}
theorem dt_at (hr : HRel K M N H) {a0 a : Addr} {P : Program} {w : World} {kvs : List (NestedKey × DV)} (e : M a0 = some (.dt P w a kvs)) : ∃ xs, H a0 = some (dtO P w a xs) ∧ KxR K (fz M N H) xs kvs := by
  obtain ⟨o, h1, h2⟩ := hr.obj a0 _ e
  have go : (∃ xs, o = dtO P w a xs ∧ KxR K (fz M N H) xs kvs) → ∃ xs, H a0 = some (dtO P w a xs) ∧ KxR K (fz M N H) xs kvs := fun ⟨xs, e1, e2⟩ => ⟨xs, by rw [h1, e1], e2⟩
  cases o <;> exact go h2
theorem kx_ok {xs : List (NestedKey × Addr × V)} {kvs : List (NestedKey × DV)} (r : KxR K (fz M N H) xs kvs) : KeysOk K H xs := by
  intro x hx
  induction r with
  | nil => cases hx
  | cons h t ih =>
    rcases List.mem_cons.mp hx with e | hx
    · rw [e]; exact ⟨dp_mono fz_sub _ _ h.2.1, h.2.2.1⟩
    · exact ih hx
theorem kx_len {F : Hp} {xs : List (NestedKey × Addr × V)} {kvs : List (NestedKey × DV)} (r : KxR K F xs kvs) : xs.length = kvs.length := Paired.length r
end
/-- the key as data: a tuple -/
def asN (d : PyData) (nk : NestedKey) : Prop := nk.data = d ∧ (∃ ks, nk = .tup ks) ∧ nk.depth ≤ 8
theorem asN_ref {K : PySem.W.Frag} {F : Hp} {v : V} {d : PyData} {nk : NestedKey} (h : asN d nk) (i : Dp K F v d) : ∃ b, v = .ref b ∧ Dp K F (.ref b) nk.data := by
  obtain ⟨rfl, ⟨ks, rfl⟩, _⟩ := h
  cases (show Dp K F v (.tuple (NestedKey.datas ks)) from i) with
  | tup h1 h2 => exact ⟨_, rfl, .tup h1 h2⟩
def isDt (P : Program) (w : World) (x : DV) (M : MHp) : Prop := match x with
  | .r a => match M a with | some (.dt P' w' a' _) => P' = P ∧ w' = w ∧ a' = a | _ => False
  | _ => False
def getNK (P : Program) (w : World) (x y z : DV) (M : MHp) (k : DK) : Prop := match x, y with
  | .r a, .d d => ∃ kvs nk, M a = some (.dt P w a kvs) ∧ asN d nk ∧ k ((valN kvs nk).getD z) M
  | _, _ => False
def gGetN (P : Program) (w : World) : D2 := fun x y M k => match x, y with
  | .r a, .d d => ∃ kvs nk v, M a = some (.dt P w a kvs) ∧ asN d nk ∧ valN kvs nk = some v ∧ k v M
  | _, _ => False
def putNK (P : Program) (w : World) (x y v : DV) (M : MHp) (k : MHp → Prop) : Prop := match x, y with
  | .r a, .d d => ∃ kvs nk, M a = some (.dt P w a kvs) ∧ asN d nk ∧ kvs.length < sizeLine ∧ k (mu M a (.dt P w a (putN kvs nk v)))
  | _, _ => False
def eNNew (P : Program) (w : World) : DTE := fun _ M k _ => ∀ p, M p = none → k (.r p) (mu M p (.dt P w p []))
def eNGet2 (P : Program) (w : World) (to ti tx : DTE) : DTE := fun ρ M k PX => to ρ M (fun x M1 => isDt P w x M1 ∧ ti ρ M1 (fun y M2 => tx ρ M2 (fun z M3 => getNK P w x y z M3 k) PX) PX) PX
def sNPutD (P : Program) (w : World) (to ti tv : DTE) : DTS := fun E ρ M => tv ρ M (fun v M1 => to ρ M1 (fun x M2 => ti ρ M2 (fun y M3 => putNK P w x y v M3 fun M4 => E.nx ρ M4) fun x M1 => E.ex x ρ M1) fun x M1 => E.ex x ρ M1) fun x M1 => E.ex x ρ M1
section
variable {X : Cx} {W : WX} {e o i f value : Expr} {to ti tx tv : DTE} {pos pos' apos cpos : Pos}
theorem de_nnew : DE X W (.Dict [] [] pos) (eNNew X.prog X.w) := ⟨PE.imp pe_nnew fun σ H Q ⟨ρ, M, N, P, PX, hs, hr, ht, hP, hX⟩ => fun p hp => by
  obtain ⟨r2, a2⟩ := hr.new (x := .dt X.prog X.w p []) (o := dtO X.prog X.w p []) hp ⟨[], rfl, .nil⟩
  exact hP _ _ _ _ (ht p (hr.free hp).1) r2 a2 rfl⟩
theorem de_nget2 (hu : X.A.units + 64 < cLine) (ho : DE X W o to) (he : DE X W e ti) (hf : DE X W f tx) (m : M2 X o "get" apos e f cpos) : DE X W (.Call (.Attribute o "get" apos) [e, f] [] cpos) (eNGet2 X.prog X.w to ti tx) :=
  ⟨PE.imp (pe_nget2 hu ho.pe he.pe hf.pe m) fun σ H Q ⟨ρ, M, N, P, PX, hs, hr, ht, hP, hX⟩ => ⟨ρ, M, N, _, PX, hs, hr, ht, fun x M1 v H1 p hr1 af1 iv => by
    obtain ⟨p1, p2⟩ := p
    have : ∃ a xs, v = .ref a ∧ H1 a = some (dtO X.prog X.w a xs) := by
      unfold isDt at p1
      split at p1
      · rename_i a
        split at p1
        · rename_i P' w' a' kvs q
          obtain ⟨rfl, rfl, rfl⟩ := p1
          obtain ⟨xs, h1, _⟩ := dt_at hr1 q
          exact ⟨_, xs, iv, h1⟩
        · exact p1.elim
      · exact p1.elim
    obtain ⟨a, xs0, ea, hxs⟩ := this
    refine ⟨a, ea, ⟨xs0, hxs⟩, ρ, M1, N, _, PX, hs.mono af1.fr, hr1, p2, fun y M2 u H2 p2 hr2 af2 iu => ⟨ρ, M2, N, _, PX, (hs.mono af1.fr).mono af2.fr, hr2, p2, fun z M3 w3 H3 p3 hr3 af3 iw => ?_, (hX.step af1).step af2⟩, hX.step af1⟩
    cases x with
    | d _ => exact p3.elim
    | r a' =>
      cases y with
      | r _ => exact p3.elim
      | d d =>
        obtain ⟨kvs, nk, q, hn, pk⟩ := p3
        cases (iv : v = .ref a').symm.trans ea
        obtain ⟨xs, h1, h2⟩ := dt_at hr3 q
        obtain ⟨b, eb, hb⟩ := asN_ref hn (dp_mono af3.fr _ _ iu)
        refine ⟨xs, nk, b, h1, kx_ok h2, eb, by rw [eb]; exact dp_mono fz_sub _ _ hb, hn.2.2, ?_⟩
        refine hP _ M3 _ H3 pk hr3 ((af1.trans af2).trans af3) ?_
        rcases kx_val h2 nk with z | ⟨v', x', z1, z2, z3⟩
        · rw [z.1, z.2]; exact iw
        · rw [z1, z2]; exact z3, hX⟩⟩
theorem de_nget (hu : X.A.units + 64 < cLine) (ho : DE X W o to) (hi : DE X W i ti) (hs : NoSl i) : DE X W (.Subscript o i pos) (eOp (gGetN X.prog X.w) to ti) :=
  ⟨PE.imp (pe_nget hu ho.pe hi.pe hs) fun σ H Q ⟨ρ, M, N, P, PX, hs, hr, ht, hP, hX⟩ => ⟨ρ, M, N, _, PX, hs, hr, ht, fun x M1 v H1 p hr1 af1 iv => ⟨ρ, M1, N, _, PX, hs.mono af1.fr, hr1, p, fun y M2 u H2 p2 hr2 af2 iu => by
    cases x with
    | d _ => exact p2.elim
    | r a =>
      cases y with
      | r _ => exact p2.elim
      | d d =>
        obtain ⟨kvs, nk, v0, q, hn, hv, pk⟩ := p2
        obtain ⟨xs, h1, h2⟩ := dt_at hr2 q
        obtain ⟨b, eb, hb⟩ := asN_ref hn iu
        rcases kx_val h2 nk with z | ⟨v', x', z1, z2, z3⟩
        · rw [z.2] at hv; cases hv
        · rw [z2] at hv
          cases hv
          exact ⟨a, xs, nk, b, v', iv, h1, kx_ok h2, eb, by rw [eb]; exact dp_mono fz_sub _ _ hb, hn.2.2, z1, hP _ M2 _ H2 pk hr2 (af1.trans af2) z3⟩, hX.step af1⟩, hX⟩⟩
theorem ds_nput (hu : X.A.units + 64 < cLine) (ho : DE X W o to) (hi : DE X W i ti) (hv : DE X W value tv) (hs : swapsWith value (some (.Subscript o i pos')) pos.line X.env = pure false := by rfl) : DS X W (.Assign [.Subscript o i pos'] value pos) (sNPutD X.prog X.w to ti tv) :=
  ⟨PS.imp (ps_nput hu ho.pe hi.pe hv.pe hs) fun D σ H ⟨ρ, M, N, E, hs, hr, ht, hE⟩ => ⟨ρ, M, N, _, _, hs, hr, ht, fun v M1 u H1 p1 hr1 af1 iv => ⟨ρ, M1, N, _, _, hs.mono af1.fr, hr1, p1, fun x M2 w2 H2 p2 hr2 af2 iw =>
    ⟨ρ, M2, N, _, _, (hs.mono af1.fr).mono af2.fr, hr2, p2, fun y M3 z H3 p3 hr3 af3 iz => by
      cases x with
      | d _ => exact p3.elim
      | r a =>
        cases y with
        | r _ => exact p3.elim
        | d d =>
          obtain ⟨kvs, nk, q, hn, hl, pk⟩ := p3
          obtain ⟨xs, h1, h2⟩ := dt_at hr3 q
          obtain ⟨b, eb, hb⟩ := asN_ref hn iz
          have afs := (af1.trans af2).trans af3
          obtain ⟨r4, a4⟩ := hr3.write (x := .dt X.prog X.w a (putN kvs nk v)) (o := dtO X.prog X.w a (putX xs nk b u)) q ⟨_, rfl, kx_put h2 nk hb hn.2.2 (isD_mono (af2.trans af3).fr iv)⟩
          exact ⟨a, xs, nk, b, iw, h1, kx_ok h2, eb, by rw [eb]; exact dp_mono fz_sub _ _ hb, hn.2.2, by rw [kx_len h2]; exact hl, hE.nx _ _ _ _ pk (hs.mono (afs.trans a4).fr) r4 (afs.trans a4)⟩, ((hE.step af1).step af2).xend ((hs.mono af1.fr).mono af2.fr)⟩, (hE.step af1).xend (hs.mono af1.fr)⟩, hE.xend hs⟩⟩
end
/-! ### walking; keys that are tuples of ints -/
def nkI (p : List Int) : NestedKey := .tup (p.map .num)
theorem datas_nums : ∀ p : List Int, NestedKey.datas (p.map .num) = p.map .int
  | [] => rfl
  | x :: p => by
    show NestedKey.data (.num x) :: NestedKey.datas (p.map .num) = _
    rw [datas_nums p]
    rfl
theorem depth_nums : ∀ p : List Int, NestedKey.depthAll (p.map .num) = 0
  | [] => rfl
  | x :: p => by
    show max (NestedKey.depth (.num x)) (NestedKey.depthAll (p.map .num)) = 0
    rw [depth_nums p]
    rfl
theorem asN_ints (p : List Int) : asN (.tuple (p.map .int)) (nkI p) := by
  refine ⟨?_, ⟨_, rfl⟩, ?_⟩
  · show PyData.tuple (NestedKey.datas (p.map .num)) = _
    rw [datas_nums]
  · show NestedKey.depthAll (p.map .num) + 1 ≤ 8
    rw [depth_nums]
    decide
theorem nkI_inj {p q : List Int} (h : nkI p = nkI q) : p = q := by
  have e : NestedKey.datas (p.map .num) = NestedKey.datas (q.map .num) := by
    injection h with h
    rw [h]
  rw [datas_nums, datas_nums] at e
  exact (List.map_inj_right fun a b z => by injection z).mp e
section
variable {M : MHp} {k : DK} {P : Program} {w : World} {a : Addr} {kvs : List (NestedKey × DV)} {p : List Int} {z v : DV} {ρ : DEnv} {PX : DX} {to ti tx tv : DTE} {E : DEnds}
theorem x_nnew (q : ∀ p, M p = none → k (.r p) (mu M p (.dt P w p []))) : eNNew P w ρ M k PX := q
theorem x_nget2 (q : to ρ M (fun x M1 => isDt P w x M1 ∧ ti ρ M1 (fun y M2 => tx ρ M2 (fun z M3 => getNK P w x y z M3 k) PX) PX) PX) : eNGet2 P w to ti tx ρ M k PX := q
theorem x_nput (q : tv ρ M (fun v M1 => to ρ M1 (fun x M2 => ti ρ M2 (fun y M3 => putNK P w x y v M3 fun M4 => E.nx ρ M4) fun x M1 => E.ex x ρ M1) fun x M1 => E.ex x ρ M1) fun x M1 => E.ex x ρ M1) : sNPutD P w to ti tv E ρ M := q
theorem x_isDt (h : M a = some (.dt P w a kvs)) : isDt P w (.r a) M := by
  unfold isDt
  simp only [h]
  exact ⟨trivial, trivial, trivial⟩
theorem x_getNI (h : M a = some (.dt P w a kvs)) (q : k ((valN kvs (nkI p)).getD z) M) : getNK P w (.r a) (.d (.tuple (p.map .int))) z M k := ⟨kvs, nkI p, h, asN_ints p, q⟩
theorem x_gGetNI (h : M a = some (.dt P w a kvs)) (hv : valN kvs (nkI p) = some v) (q : k v M) : gGetN P w (.r a) (.d (.tuple (p.map .int))) M k := ⟨kvs, nkI p, v, h, asN_ints p, hv, q⟩
theorem x_putNI {kk : MHp → Prop} (h : M a = some (.dt P w a kvs)) (hl : kvs.length < sizeLine) (q : kk (mu M a (.dt P w a (putN kvs (nkI p) v)))) : putNK P w (.r a) (.d (.tuple (p.map .int))) v M kk := ⟨kvs, nkI p, h, asN_ints p, hl, q⟩
end
end DL

/-! Part 28: rows of ints compared. -/
namespace DL
open PySem PySem.Spec PyProof.Rows L2
theorem eqv_ints : ∀ a b : List Int, PyData.eqvAll (a.map .int) (b.map .int) = decide (a = b)
  | [], [] => rfl
  | [], _ :: _ => by simp [PyData.eqvAll]
  | _ :: _, [] => by simp [PyData.eqvAll]
  | x :: a, y :: b => by
    rw [List.map_cons, List.map_cons]
    show (PyData.eqv (.int x) (.int y) && PyData.eqvAll (a.map .int) (b.map .int)) = _
    rw [eqv_ints a b]
    show ((x == y) && decide (a = b)) = _
    rw [Bool.eq_iff_iff]
    simp
section
variable {p q : List Int} {k : PyData → Prop}
theorem shaped_ti : SeqAt.shaped (.tuple (p.map .int)) = true := flat_shaped (flat_tupI p) (by decide)
theorem shaped_li : SeqAt.shaped (.list (p.map .int)) = true := flat_shaped (flat_lst (n := 0) fun d hd => by
  obtain ⟨i, _, rfl⟩ := List.mem_map.mp hd
  exact ⟨rfl, Nat.le_refl _⟩) (by decide)
theorem x_eqTI (r : k (.bool (decide (p = q)))) : eqD (.tuple (p.map .int)) (.tuple (q.map .int)) k := ⟨shaped_ti, shaped_ti, by
  have e : PyData.eqv (.tuple (p.map .int)) (.tuple (q.map .int)) = decide (p = q) := eqv_ints p q
  rw [e]; exact r⟩
theorem x_neTI (r : k (.bool (!decide (p = q)))) : neD (.tuple (p.map .int)) (.tuple (q.map .int)) k := ⟨shaped_ti, shaped_ti, by
  have e : PyData.eqv (.tuple (p.map .int)) (.tuple (q.map .int)) = decide (p = q) := eqv_ints p q
  rw [e]; exact r⟩
theorem x_eqLI (r : k (.bool (decide (p = q)))) : eqD (.list (p.map .int)) (.list (q.map .int)) k := ⟨shaped_li, shaped_li, by
  have e : PyData.eqv (.list (p.map .int)) (.list (q.map .int)) = decide (p = q) := eqv_ints p q
  rw [e]; exact r⟩
theorem x_neLI (r : k (.bool (!decide (p = q)))) : neD (.list (p.map .int)) (.list (q.map .int)) k := ⟨shaped_li, shaped_li, by
  have e : PyData.eqv (.list (p.map .int)) (.list (q.map .int)) = decide (p = q) := eqv_ints p q
  rw [e]; exact r⟩
end
/-- [f(x) for x in ints], the state as it is -/
theorem lc_ints {ρ : DEnv} {M : MHp} {P : DK} {te : DTE} {fin : Fin'} {g : DTG} {vs : List Nat} {C : MHp → Prop} {ns : List Int} (f : Int → Int) (hz : ns.length ≤ sizeLine) (hC : C M)
    (hb : ∀ a ∈ ns, ∀ KT : DK, KT (.d (.int (f a))) M → g (.d (.int a)) (wipeD ρ vs) M (fun ρ2 M2 => te ρ2 M2 KT fun _ _ => False) fun _ _ => False)
    (q : fin (((ns.map f).map .int).map .d) M P) : lcI fin ((ns.map .int).map .d) C g tYes te vs ρ M P := by
  rw [List.map_map]
  refine lc_of (e := DV.d ∘ PyData.int) (fun a => .int (f a)) hz hC (fun a ha KT hK => hb a ha KT hK) ?_
  rw [show ns.map (fun a => PyData.int (f a)) = (ns.map f).map .int by rw [List.map_map]; rfl]
  exact q
end DL

/-! Part 29: calls without arguments. -/
namespace DL
open PySem PySem.Spec PyProof.Rows L2
section
variable {X : Cx} {CX : CXT} {k : Nat} {f : Addr} {fd : FuncData} {ps : List Str} {sp : Sp} {E : L2.St → XK} {x : Str} {p pos : Pos}
theorem pe_callT0 (F : FnOk X.prog X.w X.K X.mg X.base CX k f fd ps sp) (hr : Room k X.A) (hg : Gl X x) (hm : X.mg x = some (.ref f)) (hk : PySem.W.keepIn X.K (.ref f) = true) (hb : Binds X.K fd ps []) (hx : ∀ σ, PassesAt CX X σ (E σ))
    (hdb : (x == ("__debug__" : Str)) = false := by decide) : PE X (.Call (.Name x p) [] [] pos) (tCallS sp E tNil) := by
  refine ⟨fun pins s σ H Q I h => ?_⟩
  refine wpAny_Call_Name_kw (ld_glob I hg hm ?_ hdb)
  exact PySem.W.callWith_K0 I.kIn hk (run_fnS (us := []) F hr hb (hx σ) I .nil h)
end
theorem de_calC0 {X : Cx} {W : WX} {k : Nat} {x : Str} {ps : List Str} {sp : DSp} {p pos : Pos} (c : Cal X.prog X.w X.K X.mg X.base k x ps sp) (hr : Room k X.A) (tk : Takes X W) (hg : Gl X x := by rfl)
    (hdb : (x == ("__debug__" : Str)) = false := by decide) : DE X W (.Call (.Name x p) [] [] pos) (eCall sp aNil) := by
  obtain ⟨f, fd, F, hk, hb, hm⟩ := c
  exact ⟨PE.imp (pe_callT0 F hr hg hm hk hb (fun σ => passAt tk σ) hdb) fun σ H Q ⟨ρ, M, N, P, PX, hs, hr2, ht, hP, hX⟩ => ⟨[], M, N, P, PX, .nil, hr2, ht, hP, hX⟩⟩
end DL

/-! Part 30: sum, max, min of lists and tuples of ints. -/
namespace DL
open PySem PySem.Spec PyProof.Rows L2
section
variable {prog : Program} {w : World} {A : Around} {E : Value → Shared → Prop} {s : Shared} {l : Addr} {xs : Array (Int × Tok)} {its : List Value} {ns : List Int} {Q : Value → Shared → Prop}
theorem iter_intTup (hl : s.heap.IsTuple l (intItems xs))
    (h : ∀ s₂ : Shared, s₂ = { s with heap := s.heap.push { cls := .type "tuple_iterator", data := .fields #[.ref l, .int 0 0] } } →
      (s₂.heap.IsTupleIter s.heap.objs.size l 0 ∧ s₂.heap.IsTuple l (intItems xs)) → (∀ b ∈ [s.heap.objs.size, l], b < s₂.heap.objs.size) → l ≠ s.heap.objs.size → Q (.ref s.heap.objs.size) s₂) :
    wpAny (model prog w) A (pyIter (.ref l)) Q E s := by
  have hlt : l < s.heap.objs.size := by obtain ⟨_, e, _⟩ := hl; exact Heap.lt_size e
  refine wpAny_pyIter_tuple hl (h _ rfl ⟨⟨_, Heap.get?_push_size _ rfl, rfl, rfl⟩, hl.push _⟩ (fun b hb => ?_) (Nat.ne_of_lt hlt))
  show b < (s.heap.push _).objs.size
  rw [Heap.size_push]
  rcases List.mem_cons.mp hb with rfl | hb
  · exact Nat.lt_succ_self _
  · rcases List.mem_cons.mp hb with rfl | hb
    · exact Nat.lt_succ_of_lt hlt
    · cases hb
theorem old_keptT {h' : Heap} (hk : ∀ b o, b ∉ [s.heap.objs.size] → (s.heap.push { cls := .type "tuple_iterator", data := .fields #[.ref l, .int 0 0] }).get? b = some o → h'.get? b = some o) :
    ∀ b o, s.heap.get? b = some o → h'.get? b = some o := fun b o e => by
  refine hk b o (fun hm => ?_) (Heap.get?_push_of_some _ e)
  rcases List.mem_cons.mp hm with e1 | hm
  · exact absurd (e1 ▸ Heap.lt_size e) (Nat.lt_irrefl _)
  · cases hm
theorem max_rawT (hh : A.handled = none) (hl : s.heap.IsTuple l its.toArray) (hi : IntsAre its ns) (hne : 0 < ns.length)
    (h : ∀ h' tk M t', (∀ b o, s.heap.get? b = some o → h'.get? b = some o) → M ∈ ns → (∀ a, a ∈ ns → a ≤ M) → Q (.int M t') { s with heap := h', toks := tk }) : wpAny (model prog w) A (call (.builtin "max") [.ref l]) Q E s := by
  obtain ⟨xs, e⟩ := hi.allInts.items
  have hn : numsOf (intItems xs).toList = ns := by rw [← e]; exact hi.numsOf
  rw [nums_intItems] at hn
  subst hn
  rw [e] at hl
  have hsz : 0 < xs.size := by simpa using hne
  refine call_max_walk (iter_intTup hl fun s₂ e st hfp hlI => ?_)
  subst e
  refine ⟨_, _, _, _, _, _, _, rfl, Walks.tuple (A := A.in1) hh _ l hlI (intItems xs), st, hfp, by simpa [intItems] using hsz, CmpOf.ints_gt (numAt xs) (fun _ _ => intItems_at), fun v h' tk hv hk => ?_⟩
  obtain ⟨t, rfl⟩ := intItems_at hv
  have es : (intItems xs).size = xs.size := by simp [intItems]
  rw [es]
  obtain ⟨h1, h2⟩ := argBest_gt (numAt xs) (xs.size - 1)
  refine h h' tk _ t (old_keptT hk) ?_ fun a ha => ?_
  · rw [numAt_eq]; exact PySem.getD_mem (by rw [List.length_map, Array.length_toList]; omega)
  · obtain ⟨j, hj, rfl⟩ := mem_getD ha
    rw [List.length_map, Array.length_toList] at hj
    rw [← numAt_eq]; exact h2 j (by omega)
theorem min_rawT (hh : A.handled = none) (hl : s.heap.IsTuple l its.toArray) (hi : IntsAre its ns) (hne : 0 < ns.length)
    (h : ∀ h' tk M t', (∀ b o, s.heap.get? b = some o → h'.get? b = some o) → M ∈ ns → (∀ a, a ∈ ns → M ≤ a) → Q (.int M t') { s with heap := h', toks := tk }) : wpAny (model prog w) A (call (.builtin "min") [.ref l]) Q E s := by
  obtain ⟨xs, e⟩ := hi.allInts.items
  have hn : numsOf (intItems xs).toList = ns := by rw [← e]; exact hi.numsOf
  rw [nums_intItems] at hn
  subst hn
  rw [e] at hl
  have hsz : 0 < xs.size := by simpa using hne
  refine call_min_walk (iter_intTup hl fun s₂ e st hfp hlI => ?_)
  subst e
  refine ⟨_, _, _, _, _, _, _, rfl, Walks.tuple (A := A.in1) hh _ l hlI (intItems xs), st, hfp, by simpa [intItems] using hsz, CmpOf.ints_lt (numAt xs) (fun _ _ => intItems_at), fun v h' tk hv hk => ?_⟩
  obtain ⟨t, rfl⟩ := intItems_at hv
  have es : (intItems xs).size = xs.size := by simp [intItems]
  rw [es]
  obtain ⟨h1, h2⟩ := argBest_lt (numAt xs) (xs.size - 1)
  refine h h' tk _ t (old_keptT hk) ?_ fun a ha => ?_
  · rw [numAt_eq]; exact PySem.getD_mem (by rw [List.length_map, Array.length_toList]; omega)
  · obtain ⟨j, hj, rfl⟩ := mem_getD ha
    rw [List.length_map, Array.length_toList] at hj
    rw [← numAt_eq]; exact h2 j (by omega)
theorem sum_rawT (hh : A.handled = none) (hl : s.heap.IsTuple l its.toArray) (hi : IntsAre its ns)
    (h : ∀ h' tk t', (∀ b o, s.heap.get? b = some o → h'.get? b = some o) → Q (.int ns.sum t') { s with heap := h', toks := tk }) : wpAny (model prog w) A (call (.builtin "sum") [.ref l]) Q E s := by
  obtain ⟨xs, e⟩ := hi.allInts.items
  have hn : numsOf (intItems xs).toList = ns := by rw [← e]; exact hi.numsOf
  rw [nums_intItems] at hn
  rw [e] at hl
  refine call_sum_walkG (iter_intTup hl fun s₂ e st hfp hlI => ?_)
  subst e
  refine ⟨_, _, _, _, _, _, numAt xs, rfl, Walks.tuple (A := A.in1) hh _ l hlI (intItems xs), st, hfp, (fun _ _ => intItems_at), fun h' tk t' hk => ?_⟩
  have := h h' tk t' (old_keptT hk)
  have es : (intItems xs).size = xs.size := by simp [intItems]
  rw [es, preSum_eq, List.take_of_length_le (by simp), hn]
  exact this
end
def mxI : List Int → Int
  | [] => 0
  | x :: r => r.foldl max x
def mnI : List Int → Int
  | [] => 0
  | x :: r => r.foldl min x
theorem fmax_mem (r : List Int) : ∀ x, r.foldl max x = x ∨ r.foldl max x ∈ r := by
  induction r with
  | nil => intro x; exact .inl rfl
  | cons y r ih =>
    intro x
    rw [List.foldl_cons]
    rcases ih (max x y) with e | e
    · rw [e]
      rcases (by omega : max x y = x ∨ max x y = y) with q | q
      · exact .inl q
      · exact .inr (by rw [q]; simp)
    · exact .inr (List.mem_cons_of_mem _ e)
theorem fmax_le (r : List Int) : ∀ x, x ≤ r.foldl max x ∧ ∀ y ∈ r, y ≤ r.foldl max x := by
  induction r with
  | nil => intro x; exact ⟨Int.le_refl _, fun y hy => by cases hy⟩
  | cons y r ih =>
    intro x
    rw [List.foldl_cons]
    obtain ⟨h1, h2⟩ := ih (max x y)
    refine ⟨by omega, fun z hz => ?_⟩
    rcases List.mem_cons.mp hz with e | e
    · subst e; omega
    · exact h2 z e
theorem fmin_mem (r : List Int) : ∀ x, r.foldl min x = x ∨ r.foldl min x ∈ r := by
  induction r with
  | nil => intro x; exact .inl rfl
  | cons y r ih =>
    intro x
    rw [List.foldl_cons]
    rcases ih (min x y) with e | e
    · rw [e]
      rcases (by omega : min x y = x ∨ min x y = y) with q | q
      · exact .inl q
      · exact .inr (by rw [q]; simp)
    · exact .inr (List.mem_cons_of_mem _ e)
theorem fmin_le (r : List Int) : ∀ x, r.foldl min x ≤ x ∧ ∀ y ∈ r, r.foldl min x ≤ y := by
  induction r with
  | nil => intro x; exact ⟨Int.le_refl _, fun y hy => by cases hy⟩
  | cons y r ih =>
    intro x
    rw [List.foldl_cons]
    obtain ⟨h1, h2⟩ := ih (min x y)
    refine ⟨by omega, fun z hz => ?_⟩
    rcases List.mem_cons.mp hz with e | e
    · subst e; omega
    · exact h2 z e
theorem mxI_mem {ns : List Int} (h : 0 < ns.length) : mxI ns ∈ ns := by
  cases ns with
  | nil => exact absurd h (Nat.lt_irrefl _)
  | cons x r =>
    rcases fmax_mem r x with e | e
    · show r.foldl max x ∈ x :: r
      rw [e]; simp
    · exact List.mem_cons_of_mem _ e
theorem mxI_le {ns : List Int} {y : Int} (h : y ∈ ns) : y ≤ mxI ns := by
  cases ns with
  | nil => cases h
  | cons x r =>
    rcases List.mem_cons.mp h with e | e
    · rw [e]; exact (fmax_le r x).1
    · exact (fmax_le r x).2 y e
theorem mnI_mem {ns : List Int} (h : 0 < ns.length) : mnI ns ∈ ns := by
  cases ns with
  | nil => exact absurd h (Nat.lt_irrefl _)
  | cons x r =>
    rcases fmin_mem r x with e | e
    · show r.foldl min x ∈ x :: r
      rw [e]; simp
    · exact List.mem_cons_of_mem _ e
theorem mnI_le {ns : List Int} {y : Int} (h : y ∈ ns) : mnI ns ≤ y := by
  cases ns with
  | nil => cases h
  | cons x r =>
    rcases List.mem_cons.mp h with e | e
    · rw [e]; exact (fmin_le r x).1
    · exact (fmin_le r x).2 y e
theorem mxI_of {ns : List Int} {m : Int} (h : m ∈ ns) (h2 : ∀ y, y ∈ ns → y ≤ m) : m = mxI ns := by
  have a := h2 _ (mxI_mem (List.length_pos_of_mem h))
  have b := mxI_le h
  omega
theorem mnI_of {ns : List Int} {m : Int} (h : m ∈ ns) (h2 : ∀ y, y ∈ ns → m ≤ y) : m = mnI ns := by
  have a := h2 _ (mnI_mem (List.length_pos_of_mem h))
  have b := mnI_le h
  omega
def sumW : PyData → (PyData → Prop) → Prop
  | .list xs, k => ∃ ns : List Int, xs = ns.map .int ∧ k (.int ns.sum)
  | .tuple xs, k => ∃ ns : List Int, xs = ns.map .int ∧ k (.int ns.sum)
  | _, _ => False
def maxW : PyData → (PyData → Prop) → Prop
  | .list xs, k => ∃ ns : List Int, xs = ns.map .int ∧ 0 < ns.length ∧ k (.int (mxI ns))
  | .tuple xs, k => ∃ ns : List Int, xs = ns.map .int ∧ 0 < ns.length ∧ k (.int (mxI ns))
  | _, _ => False
def minW : PyData → (PyData → Prop) → Prop
  | .list xs, k => ∃ ns : List Int, xs = ns.map .int ∧ 0 < ns.length ∧ k (.int (mnI ns))
  | .tuple xs, k => ∃ ns : List Int, xs = ns.map .int ∧ 0 < ns.length ∧ k (.int (mnI ns))
  | _, _ => False
section
variable {X : Cx}
theorem dc_sumW (hc : X.calm = true) : DCall X (.builtin "sum") (g1 sumW) := by
  intro pins s σ H vs us Q I r h
  obtain ⟨xs, M, N, P, hr, ha, hg, fo⟩ := h
  obtain ⟨v, d, rfl, r1, q⟩ := g1_of hr ha hg
  unfold sumW at q
  split at q
  · obtain ⟨p, ws, rfl, h1, h2⟩ := r1.list
    obtain ⟨bs, rfl, q⟩ := q
    cases dp_ints h2
    exact cr_sum hc pins s σ H _ us Q I r ⟨p, bs, rfl, h1, fo.same hr q (show Dp _ _ _ _ from .int _)⟩
  · obtain ⟨p, ws, rfl, h1, h2, _⟩ := r1.tuple
    obtain ⟨bs, rfl, q⟩ := q
    cases dp_ints h2
    obtain ⟨its, rv, hl, _⟩ := I.tuple h1
    rw [Vals.ref1 r]
    exact sum_rawT (I.ok.hd hc) hl rv.ints fun h' tk t' hk => ⟨.int _, H, I.kept hk, ⟨_, rfl⟩, fo.same hr q (show Dp _ _ _ _ from .int _)⟩
  · exact q.elim
theorem dc_maxW (hc : X.calm = true) : DCall X (.builtin "max") (g1 maxW) := by
  intro pins s σ H vs us Q I r h
  obtain ⟨xs, M, N, P, hr, ha, hg, fo⟩ := h
  obtain ⟨v, d, rfl, r1, q⟩ := g1_of hr ha hg
  unfold maxW at q
  split at q
  · obtain ⟨p, ws, rfl, h1, h2⟩ := r1.list
    obtain ⟨bs, rfl, hl, q⟩ := q
    cases dp_ints h2
    exact cr_max hc pins s σ H _ us Q I r ⟨p, bs, rfl, h1, hl, fun m hm hle => by obtain rfl := mxI_of hm hle; exact fo.same hr q (show Dp _ _ _ _ from .int _)⟩
  · obtain ⟨p, ws, rfl, h1, h2, _⟩ := r1.tuple
    obtain ⟨bs, rfl, hn, q⟩ := q
    cases dp_ints h2
    obtain ⟨its, rv, hl, _⟩ := I.tuple h1
    rw [Vals.ref1 r]
    exact max_rawT (I.ok.hd hc) hl rv.ints hn fun h' tk m t' hk hm hle => by obtain rfl := mxI_of hm hle; exact ⟨.int _, H, I.kept hk, ⟨_, rfl⟩, fo.same hr q (show Dp _ _ _ _ from .int _)⟩
  · exact q.elim
theorem dc_minW (hc : X.calm = true) : DCall X (.builtin "min") (g1 minW) := by
  intro pins s σ H vs us Q I r h
  obtain ⟨xs, M, N, P, hr, ha, hg, fo⟩ := h
  obtain ⟨v, d, rfl, r1, q⟩ := g1_of hr ha hg
  unfold minW at q
  split at q
  · obtain ⟨p, ws, rfl, h1, h2⟩ := r1.list
    obtain ⟨bs, rfl, hl, q⟩ := q
    cases dp_ints h2
    exact cr_min hc pins s σ H _ us Q I r ⟨p, bs, rfl, h1, hl, fun m hm hle => by obtain rfl := mnI_of hm hle; exact fo.same hr q (show Dp _ _ _ _ from .int _)⟩
  · obtain ⟨p, ws, rfl, h1, h2, _⟩ := r1.tuple
    obtain ⟨bs, rfl, hn, q⟩ := q
    cases dp_ints h2
    obtain ⟨its, rv, hl, _⟩ := I.tuple h1
    rw [Vals.ref1 r]
    exact min_rawT (I.ok.hd hc) hl rv.ints hn fun h' tk m t' hk hm hle => by obtain rfl := mnI_of hm hle; exact ⟨.int _, H, I.kept hk, ⟨_, rfl⟩, fo.same hr q (show Dp _ _ _ _ from .int _)⟩
  · exact q.elim
end
section
variable {ns : List Int} {k : PyData → Prop}
theorem x_sumL (q : k (.int ns.sum)) : sumW (.list (ns.map .int)) k := ⟨ns, rfl, q⟩
theorem x_sumT (q : k (.int ns.sum)) : sumW (.tuple (ns.map .int)) k := ⟨ns, rfl, q⟩
theorem x_maxL (h : 0 < ns.length) (q : k (.int (mxI ns))) : maxW (.list (ns.map .int)) k := ⟨ns, rfl, h, q⟩
theorem x_maxT (h : 0 < ns.length) (q : k (.int (mxI ns))) : maxW (.tuple (ns.map .int)) k := ⟨ns, rfl, h, q⟩
theorem x_minL (h : 0 < ns.length) (q : k (.int (mnI ns))) : minW (.list (ns.map .int)) k := ⟨ns, rfl, h, q⟩
theorem x_minT (h : 0 < ns.length) (q : k (.int (mnI ns))) : minW (.tuple (ns.map .int)) k := ⟨ns, rfl, h, q⟩
end
end DL

/-! Part 31: rows in rows; comprehensions over rows. -/
namespace DL
open PySem PySem.Spec PyProof.Rows L2
section
variable {M : MHp} {P : DK} {r : List Int} {L : List (List Int)}
abbrev tupI (r : List Int) : PyData := .tuple (r.map .int)
theorem eqv_tup (a b : List Int) : PyData.eqv (.tuple (a.map .int)) (.tuple (b.map .int)) = decide (a = b) := eqv_ints a b
theorem any_rows (L : List (List Int)) (r : List Int) : ((L.map tupI).any fun z => PyData.eqv z (tupI r)) = decide (r ∈ L) := by
  induction L with
  | nil => rfl
  | cons a t ih =>
    rw [List.map_cons, List.any_cons, ih, eqv_tup]
    by_cases h : a = r
    · subst h; simp
    · have h' : ¬ r = a := fun e => h e.symm
      simp [h, h']
theorem shaped_rows : SeqAt.shaped (.tuple (L.map tupI)) = true := flat_shaped (n := 2) (flat_tup fun d hd => by
  obtain ⟨a, _, rfl⟩ := List.mem_map.mp hd
  exact flat_tupI a) (by decide)
theorem shaped_rowsL : SeqAt.shaped (.list (L.map tupI)) = true := flat_shaped (n := 2) (flat_lst fun d hd => by
  obtain ⟨a, _, rfl⟩ := List.mem_map.mp hd
  exact flat_tupI a) (by decide)
theorem x_inTR (q : P (.d (.bool (decide (r ∈ L)))) M) : inD false (.d (.tuple (r.map .int))) (.d (.tuple (L.map tupI))) M P := by
  refine ⟨shaped_ti, shaped_rows, ?_⟩
  rw [any_rows]
  exact q
theorem x_ninTR (q : P (.d (.bool (!decide (r ∈ L)))) M) : inD true (.d (.tuple (r.map .int))) (.d (.tuple (L.map tupI))) M P := by
  refine ⟨shaped_ti, shaped_rows, ?_⟩
  rw [any_rows]
  exact q
theorem x_inLR (q : P (.d (.bool (decide (r ∈ L)))) M) : inD false (.d (.tuple (r.map .int))) (.d (.list (L.map tupI))) M P := by
  refine ⟨shaped_ti, shaped_rowsL, ?_⟩
  rw [any_rows]
  exact q
theorem x_ninLR (q : P (.d (.bool (!decide (r ∈ L)))) M) : inD true (.d (.tuple (r.map .int))) (.d (.list (L.map tupI))) M P := by
  refine ⟨shaped_ti, shaped_rowsL, ?_⟩
  rw [any_rows]
  exact q
end
/-- [.. for x in L if f x], the state as it is -/
theorem lc_sel {ρ : DEnv} {M : MHp} {P : DK} {tt : DTT} {te : DTE} {fin : Fin'} {g : DTG} {vs : List Nat} {C : MHp → Prop} {α : Type} {L : List α} {enc : α → DV} (f : α → Bool) (h : α → PyData) (hz : L.length ≤ sizeLine) (hC : C M)
    (hb : ∀ a ∈ L, ∀ (KT : DK) (KF : MHp → Prop), (f a = true → KT (.d (h a)) M) → (f a = false → KF M) → g (enc a) (wipeD ρ vs) M (fun ρ2 M2 => tt ρ2 M2 (fun b M3 => Br b (te ρ2 M3 KT fun _ _ => False) (KF M3)) fun _ _ => False) fun _ _ => False)
    (q : fin (((L.filter f).map h).map .d) M P) : lcI fin (L.map enc) C g tt te vs ρ M P := by
  refine lc_opt (L.map fun c => if f c = true then some (h c) else none) (by simp) (by rw [List.length_map]; exact hz) hC (fun i x o hx ho KT KF k1 k2 => ?_) (by rw [fm_ifF]; exact q)
  rw [List.getElem?_map] at hx ho
  obtain ⟨a, ha, rfl⟩ := Option.map_eq_some_iff.mp hx
  rw [ha] at ho
  cases ho
  refine hb a (List.mem_of_getElem? ha) KT KF (fun e => k1 _ (if_pos e)) fun e => k2 (if_neg (by rw [e]; exact Bool.false_ne_true))
end DL

/-! Part 32: dicts whose keys are tuples: setdefault, len, sorted. -/
namespace DL
open PySem PySem.Spec PyProof.Rows L2
theorem xy_at {xs : List (NestedKey × Addr × V)} {ys : List (NestedKey × Addr × Value)} (r : XY xs ys) : ∀ {j : Nat} {y : NestedKey × Addr × Value}, ys[j]? = some y → ∃ x, xs[j]? = some x ∧ x.2.1 = y.2.1 := by
  induction r with
  | nil => intro j y h; simp at h
  | @cons p q ps qs hpq t ih =>
    intro j y h
    cases j with
    | zero => cases h; exact ⟨p, rfl, hpq.2.1⟩
    | succ j => exact ih (by simpa using h)
def tNSetd (K : PySem.W.Frag) (P : Program) (w : World) (td ty tx : TE) : TE := fun σ H Q => td σ H fun x H1 => ∃ a, x = .ref a ∧ (∃ xs, H1 a = some (dtO P w a xs)) ∧ ty σ H1 fun y H2 => tx σ H2 fun z H3 => ∃ xs k b, H3 a = some (dtO P w a xs) ∧ KeysOk K H3 xs ∧ y = .ref b ∧ Dp K H3 y k.data ∧ k.depth ≤ 8 ∧ xs.length < sizeLine ∧
  (∀ v, valX xs k = some v → Q v H3) ∧ (valX xs k = none → Q z (upd H3 a (dtO P w a (putX xs k b z))))
section
variable {X : Cx} {o e f i value : Expr} {apos cpos pos pos' : Pos} {td ty tx tv : TE}
theorem pe_nsetd (hu : X.A.units + 64 < cLine) (ho : PE X o td) (he : PE X e ty) (hf : PE X f tx) (m : M2 X o "setdefault" apos e f cpos) : PE X (.Call (.Attribute o "setdefault" apos) [e, f] [] cpos) (tNSetd X.K X.prog X.w td ty tx) := by
  refine ⟨fun pins s σ H Q I h => ?_⟩
  refine wpAny_Call_method m.base m.few m.line PySem.F.plainAttrs_dict PySem.F.slot_dict_setdefault PySem.F.type_dict_setdefault (thn (ho.run pins s σ H _ I h) fun u s1 ⟨x, H1, I1, rx, a, ex, ⟨xs0, d⟩, q1⟩ => ?_)
  subst ex
  obtain rfl : u = Value.ref a := rx
  obtain ⟨t1, t2, _⟩ := dt_type I1 d
  refine ⟨t1, t2, ?_⟩
  rw [m.trees]
  refine Calls.callWith_builtin rfl (Calls.evalArgs_plain (Calls.spliced_cons (thn (he.run pins s1 σ H1 _ I1 q1) fun iv s2 ⟨y, H2, I2, ry, q2⟩ =>
    Calls.spliced_cons (thn (hf.run pins s2 σ H2 _ I2 q2) fun fv s3 ⟨z, H3, I3, rz, xs, k, b, ea, hk, ey, hd, hdep, hl, q3, q4⟩ => Calls.spliced_nil ?_))))
  subst ey
  cases (show iv = Value.ref b from ry)
  obtain ⟨hs, hz, ys, r, dd⟩ := dt_dict I3 ea hk
  refine call_meetsIn PySem.F.slot_dict_setdefault dd.typeIs PySem.F.entry_dict_setdefault (PySem.F.args_dict_setdefault_3 _ _ _) (meetsH_dict_setdefault (nestedKind X.prog X.w) a b hs fv)
    ⟨n_room hu, k, ys, key_is I3 hd hdep, dd, by rw [← xy_len r]; exact hz, fun p hp => ?_, fun hn h' dd' hs' => ?_⟩
  · have rv := xy_val r k
    rw [hp] at rv
    cases hv : valX xs k with
    | none => rw [hv] at rv; exact rv.elim
    | some v =>
      rw [hv] at rv
      exact ⟨v, H3, I3.tok _, rv, q3 v hv⟩
  · have rv := xy_val r k
    rw [hn] at rv
    cases hv : valX xs k with
    | some v => rw [hv] at rv; exact rv.elim
    | none =>
      obtain ⟨o', es, ep, ho', h2, h3, h4, h5, h6⟩ := dd'
      refine ⟨z, _, d_write I3 (by rw [ea]; exact True.intro) hs' ⟨o', ho'⟩ (dtO_ok ⟨hs, ?_, _, xy_put r k rz, o', es, ep, ho', h2, h3, h4, h6⟩), rz, q4 hv⟩
      have := putX_len (xs := xs) (k := k) (b := b) (v := z)
      omega
end
def setNK (P : Program) (w : World) (x y z : DV) (M : MHp) (k : DK) : Prop := match x, y with
  | .r a, .d d => ∃ kvs nk, M a = some (.dt P w a kvs) ∧ asN d nk ∧ kvs.length < sizeLine ∧ (∀ v, valN kvs nk = some v → k v M) ∧ (valN kvs nk = none → k z (mu M a (.dt P w a (putN kvs nk z))))
  | _, _ => False
def eNSetd (P : Program) (w : World) (to ti tx : DTE) : DTE := fun ρ M k PX => to ρ M (fun x M1 => isDt P w x M1 ∧ ti ρ M1 (fun y M2 => tx ρ M2 (fun z M3 => setNK P w x y z M3 k) PX) PX) PX
section
variable {X : Cx} {W : WX} {e o i f value : Expr} {to ti tx tv : DTE} {pos pos' apos cpos : Pos}
theorem de_nsetd (hu : X.A.units + 64 < cLine) (ho : DE X W o to) (he : DE X W e ti) (hf : DE X W f tx) (m : M2 X o "setdefault" apos e f cpos) : DE X W (.Call (.Attribute o "setdefault" apos) [e, f] [] cpos) (eNSetd X.prog X.w to ti tx) :=
  ⟨PE.imp (pe_nsetd hu ho.pe he.pe hf.pe m) fun σ H Q ⟨ρ, M, N, P, PX, hs, hr, ht, hP, hX⟩ => ⟨ρ, M, N, _, PX, hs, hr, ht, fun x M1 v H1 p hr1 af1 iv => by
    obtain ⟨p1, p2⟩ := p
    have : ∃ a xs, v = .ref a ∧ H1 a = some (dtO X.prog X.w a xs) := by
      unfold isDt at p1
      split at p1
      · rename_i a
        split at p1
        · rename_i P' w' a' kvs q
          obtain ⟨rfl, rfl, rfl⟩ := p1
          obtain ⟨xs, h1, _⟩ := dt_at hr1 q
          exact ⟨_, xs, iv, h1⟩
        · exact p1.elim
      · exact p1.elim
    obtain ⟨a, xs0, ea, hxs⟩ := this
    refine ⟨a, ea, ⟨xs0, hxs⟩, ρ, M1, N, _, PX, hs.mono af1.fr, hr1, p2, fun y M2 u H2 p2 hr2 af2 iu => ⟨ρ, M2, N, _, PX, (hs.mono af1.fr).mono af2.fr, hr2, p2, fun z M3 w3 H3 p3 hr3 af3 iw => ?_, (hX.step af1).step af2⟩, hX.step af1⟩
    cases x with
    | d _ => exact p3.elim
    | r a' =>
      cases y with
      | r _ => exact p3.elim
      | d d =>
        obtain ⟨kvs, nk, q, hn, hl, pk1, pk2⟩ := p3
        cases (iv : v = .ref a').symm.trans ea
        obtain ⟨xs, h1, h2⟩ := dt_at hr3 q
        obtain ⟨b, eb, hb⟩ := asN_ref hn (dp_mono af3.fr _ _ iu)
        have afs := (af1.trans af2).trans af3
        refine ⟨xs, nk, b, h1, kx_ok h2, eb, by rw [eb]; exact dp_mono fz_sub _ _ hb, hn.2.2, by rw [kx_len h2]; exact hl, fun v' hv' => ?_, fun hn' => ?_⟩
        · rcases kx_val h2 nk with z' | ⟨v2, x2, z1, z2, z3⟩
          · rw [z'.1] at hv'; cases hv'
          · rw [z1] at hv'
            cases hv'
            exact hP _ M3 _ H3 (pk1 _ z2) hr3 afs z3
        · rcases kx_val h2 nk with z' | ⟨v2, x2, z1, z2, z3⟩
          · obtain ⟨r4, a4⟩ := hr3.write (x := .dt X.prog X.w a (putN kvs nk z)) (o := dtO X.prog X.w a (putX xs nk b w3)) q ⟨_, rfl, kx_put h2 nk hb hn.2.2 iw⟩
            exact hP _ _ _ _ (pk2 z'.2) r4 (afs.trans a4) (isD_mono a4.fr iw)
          · exact absurd (z1.symm.trans hn') (by nofun), hX⟩⟩
end
/-! ### len -/
def gLenN (P : Program) (w : World) : DN := fun xs M k => match xs with
  | [.r a] => ∃ kvs, M a = some (.dt P w a kvs) ∧ k (.d (.int kvs.length)) M
  | _ => False
section
variable {X : Cx}
theorem dt_raw {pins : List (Addr × Obj)} {σ : L2.St} {H : Hp} {s : Shared} (I : Inv X pins σ H s) {a0 a : Addr} {xs : List (NestedKey × Addr × V)} (e : H a0 = some (dtO X.prog X.w a xs)) :
    (a == sysModules) = false ∧ xs.length ≤ sizeLine ∧ ∃ (ys : List (NestedKey × Addr × Value)) (es : Array DictEntry) (ep : Nat), XY xs ys ∧ s.heap.DictRaw a es ep ∧ es.toList = ys.map (entryOfKey (nestedKind X.prog X.w)) := by
  obtain ⟨h1, h2, ys, r, o, es, ep, ho, hx, hd, he, hn⟩ := dtP_at I e
  exact ⟨h1, h2, ys, es, ep, r, ⟨o, ho, hx, hd⟩, he⟩
theorem dc_lenN : DCall X (.builtin "len") (gLenN X.prog X.w) := by
  intro pins s σ H vs us Q I r h
  obtain ⟨xs, M, N, P, hr, ha, hg, fo⟩ := h
  unfold gLenN at hg
  split at hg
  · rename_i a
    obtain ⟨v, rfl, i⟩ := are1 ha
    have i' : v = .ref a := i
    subst i'
    obtain ⟨kvs, q, hg⟩ := hg
    obtain ⟨zs, h1, h2⟩ := dt_at hr q
    rw [Vals.ref1 r]
    obtain ⟨hs, hz, ys, rr, dd⟩ := dt_dict I h1 (kx_ok h2)
    refine call_len_dictH hs dd (by rw [← xy_len rr]; rw [sizeLine_eq] at hz; omega) ?_
    have e : (ys.length : Int) = kvs.length := by rw [← xy_len rr, kx_len h2]
    rw [e]
    exact ⟨.int _, H, I.tok _, ⟨_, rfl⟩, fo.same hr hg (show Dp _ _ _ _ from .int _)⟩
  · exact hg.elim
end
/-! ### sorted -/
def gSortN (P : Program) (w : World) : DN := fun xs M k => match xs with
  | [.r a] => ∃ kvs, M a = some (.dt P w a kvs) ∧ SortOk (kvs.map (·.1.data)) ∧ k (.d (.list (sortL (kvs.map (·.1.data))))) M
  | _ => False
section
variable {X : Cx}
theorem sortN_run (hc : X.calm = true) (hu : X.A.units + 64 < cLine) {pins : List (Addr × Obj)} {s : Shared} {σ : L2.St} {H : Hp} {a : Addr} {xs : List (NestedKey × Addr × V)} {F : Hp} {Q : VK} (I : Inv X pins σ H s) (h1 : H a = some (dtO X.prog X.w a xs)) (hF : Same F H)
    (h2 : ∀ x ∈ xs, Dp X.K F (.ref x.2.1) x.1.data) (ok : SortOk (xs.map (·.1.data)))
    (h : ∀ q ws', H q = none → DpAll X.K F ws' (sortL (xs.map (·.1.data))) → Q (.ref q) (upd H q (.lst ws'))) : wpAny (model X.prog X.w) X.A (call (.builtin "sorted") [.ref a]) (EP X pins σ Q) X.xe s := by
  obtain ⟨hs, hz, ys, es, ep, rr, raw, he⟩ := dt_raw I h1
  have el : es.size = xs.length := by
    have := congrArg List.length he
    rw [List.length_map, Array.length_toList] at this
    rw [this, ← xy_len rr]
  refine Calls.call_function_entry PyProof.Rows.kind_sorted PyProof.Rows.plain_sorted PyProof.Rows.entry_sorted (PyProof.Rows.args_sorted1 _) ?_
  unfold Builtin.«sorted»
  refine wpAny_bind (m := checkCount "sorted" 1 1 _) (wpAny_pure ?_)
  refine wpAny_bind (PySem.W.kdu_collect (A := X.A.in1) (PySem.KdlSrc.rawDict hs) (I.ok.hd hc) raw (by rw [el]; exact hz) fun h' tk acc hk hacc => ?_)
  have hl : acc.toList.length = xs.length := by rw [Array.length_toList, hacc.1, el]
  have hI : acc.toList = xs.map fun x => Value.ref x.2.1 := by
    refine List.ext_getElem (by rw [hl, List.length_map]) fun j g1 g2 => ?_
    obtain ⟨hi, e⟩ := hacc.2 j acc.toList[j] (by rw [← Array.getElem?_toList]; exact List.getElem?_eq_getElem g1)
    have ej : es.toList[j]? = some es[j] := by rw [Array.getElem?_toList]; exact Array.getElem?_eq_getElem hi
    rw [he, List.getElem?_map] at ej
    obtain ⟨y, hy, e2⟩ := Option.map_eq_some_iff.mp ej
    have jx : j < xs.length := by omega
    obtain ⟨x, hx1, hx2⟩ := xy_at rr hy
    rw [List.getElem?_eq_getElem jx] at hx1
    cases hx1
    rw [e, ← e2, List.getElem_map, hx2]
    rfl
  have I1 : Inv X pins σ H { s with heap := h', toks := tk } := I.kept hk
  refine wpAny_bind (wpAny_newList ?_ (by rw [hl]; exact hz))
  have hoL : (h'.push (seqObj "list" acc.toList.toArray 0)).get? h'.objs.size = some (seqObj "list" acc.toList.toArray 0) := Heap.get?_push_size _ rfl
  show wpAny _ _ _ _ _ { s with heap := h'.push (seqObj "list" acc.toList.toArray 0), toks := tk }
  let bs : List (PyData × V) := xs.map fun x => (x.1.data, V.ref x.2.1)
  have m1 : bs.map Prod.fst = xs.map (·.1.data) := by show (xs.map _).map _ = _; rw [List.map_map]; rfl
  have hb : ∀ b ∈ bs, Dp X.K F b.2 b.1 := fun b hb => by
    obtain ⟨x, hx, rfl⟩ := List.mem_map.mp hb
    exact h2 x hx
  have e1 : PySem.W.EachIs (fun v (b : PyData × V) => RelV b.2 v) acc.toList bs := by
    rw [hI]
    show PySem.W.EachIs _ (xs.map _) (xs.map _)
    clear hb m1 hoL I1 hI hl hacc h2 ok h h1 el hz he rr
    induction xs with
    | nil => exact .nil
    | cons x r ih => exact .cons rfl ih
  have e2 : PySem.W.EachIs (fun v (b : PyData × V) => ∃ as, Reads h' v b.1 as) acc.toList bs := by
    have : ∀ {us : List Value} {cs : List (PyData × V)}, PySem.W.EachIs (fun v (b : PyData × V) => RelV b.2 v) us cs → (∀ b ∈ cs, Dp X.K F b.2 b.1) → PySem.W.EachIs (fun v (b : PyData × V) => ∃ as, Reads h' v b.1 as) us cs := by
      intro us cs h
      induction h with
      | nil => intro _; exact .nil
      | cons h1 h2 ih =>
        intro q
        exact .cons (Dp.reads I1 _ _ _ (dp_mono hF _ _ (q _ (by simp))) h1) (ih fun b hb => q b (List.mem_cons_of_mem _ hb))
    exact this e1 hb
  have old : ∀ (b : Addr) (o : Obj), h'.get? b = some o → (PySem.W.sortingHeap (h'.push (seqObj "list" acc.toList.toArray 0)) h'.objs.size acc.toList).get? b = some o := fun b o e => by
    refine PySem.W.sortingHeap_old (Nat.ne_of_lt (Heap.lt_size e)) ?_
    exact Heap.get?_push_of_some _ e
  have er' : PySem.W.EachIs (fun v (b : PyData × V) => ∃ as, Reads (PySem.W.sortingHeap (h'.push (seqObj "list" acc.toList.toArray 0)) h'.objs.size acc.toList) v b.1 as) acc.toList bs := e2.mono fun _ _ ⟨as, r⟩ => ⟨as, PyProof.Rows.Reads.keeps old r⟩
  have bl : bs.length ≤ sizeLine := by show (xs.map _).length ≤ _; rw [List.length_map]; exact hz
  refine wpAny_bind (wpAny_holding (wpAny_call_entry PyProof.Rows.slot_list_sort ⟨_, hoL, rfl⟩ PyProof.Rows.entry_list_sort
    (PySem.W.list_sort_vals (s := { s with heap := h'.push (seqObj "list" acc.toList.toArray 0), toks := tk }) hoL
      (PySem.W.SortsAt.data (s := { s with heap := PySem.W.sortingHeap (h'.push (seqObj "list" acc.toList.toArray 0)) h'.objs.size acc.toList, toks := tk }) (PySem.W.each_map (R := fun v d => ∃ as, Reads (PySem.W.sortingHeap (h'.push (seqObj "list" acc.toList.toArray 0)) h'.objs.size acc.toList) v d as) Prod.fst er') (by rw [m1]; exact ok.1) (by rw [m1]; exact ok.2.1)
        (PySem.W.bound_map fun b hbm => ?_)) (by rw [hl]; exact hz) ⟨_, rfl, ?_⟩) (PyProof.Rows.args_list_sort _)))
  · obtain ⟨x, hx, rfl⟩ := List.mem_map.mp hbm
    have := ok.2.2 x.1.data (List.mem_map.mpr ⟨x, hx, rfl⟩)
    have e3 : X.A.in1.in1.units = X.A.units + 1 + 1 := rfl
    show X.A.in1.in1.units + x.1.data.depth < cLine
    omega
  · have eo := PySem.W.sortVals_data (h' := PySem.W.sortingHeap (h'.push (seqObj "list" acc.toList.toArray 0)) h'.objs.size acc.toList) (R := fun v (b : PyData × V) => RelV b.2 v) (enc := Prod.fst) false e1 er' (by rw [m1]; exact ok.1)
    have lo := PySem.W.sortVals_length (κ := PySem.W.dataKind (PySem.W.sortingHeap (h'.push (seqObj "list" acc.toList.toArray 0)) h'.objs.size acc.toList) (bs.map Prod.fst)) false (ks := acc.toList) (vs := acc.toList) rfl
    show wpAny (model X.prog X.w) X.A.in1 (ret (Value.ref h'.objs.size)) _ _ { s with heap := PyProof.Rows.sortedHeap (h'.push (seqObj "list" acc.toList.toArray 0)) h'.objs.size acc.toList (PySem.W.sortVals (PySem.W.dataKind (PySem.W.sortingHeap (h'.push (seqObj "list" acc.toList.toArray 0)) h'.objs.size acc.toList) (bs.map Prod.fst)) false acc.toList acc.toList).toArray, toks := tk }
    generalize PySem.W.sortVals (PySem.W.dataKind (PySem.W.sortingHeap (h'.push (seqObj "list" acc.toList.toArray 0)) h'.objs.size acc.toList) (bs.map Prod.fst)) false acc.toList acc.toList = out at eo lo ⊢
    obtain ⟨ep', he'⟩ := PyProof.Rows.sortedHeap_at (vs := acc.toList) (out := out.toArray) hoL
    have hv := vals_of_each eo
    have hp := List.mergeSort_perm bs (PySem.W.dataLe false Prod.fst)
    have m2 : (bs.mergeSort (PySem.W.dataLe false Prod.fst)).map Prod.fst = sortL (xs.map (·.1.data)) := by
      have : sortL (xs.map (·.1.data)) = (bs.map Prod.fst).mergeSort (PySem.W.dataLe false id) := by rw [m1]; rfl
      rw [this]
      exact List.map_mergeSort fun _ _ _ _ => rfl
    have hd : DpAll X.K F ((bs.mergeSort (PySem.W.dataLe false Prod.fst)).map (·.2)) (sortL (xs.map (·.1.data))) := by
      rw [← m2]
      exact dpAll_of fun b hbm => hb b (hp.mem_iff.mp hbm)
    have hn : ((bs.mergeSort (PySem.W.dataLe false Prod.fst)).map (·.2)).length ≤ sizeLine := by
      rw [List.length_map, hp.length_eq]
      exact bl
    refine wpAny_pure ⟨_, rfl, .ref h'.objs.size, upd H h'.objs.size (.lst ((bs.mergeSort (PySem.W.dataLe false Prod.fst)).map (·.2))), I1.laid (t' := tk) (fun b u e => ?_) (Nat.le_refl _)
      (show ObjOk X.prog X.w _ _ _ (.lst _) from ⟨hn, out, ep', hv, he'⟩), rfl, h _ _ (I1.hok.fresh (Nat.le_refl _)) hd⟩
    have hbl : b < h'.objs.size := Heap.lt_size e
    rw [PyProof.Rows.sortedHeap_old (Nat.ne_of_lt hbl) (by rw [size_push']; exact Nat.lt_succ_of_lt hbl)]
    exact Heap.get?_push_of_some _ e
theorem dc_sortN (hc : X.calm = true) (hu : X.A.units + 64 < cLine) : DCall X (.builtin "sorted") (gSortN X.prog X.w) := by
  intro pins s σ H vs us Q I r h
  obtain ⟨xs, M, N, P, hr, ha, hg, fo⟩ := h
  unfold gSortN at hg
  split at hg
  · rename_i a
    obtain ⟨v, rfl, i⟩ := are1 ha
    have i' : v = .ref a := i
    subst i'
    obtain ⟨kvs, q, ok, hg⟩ := hg
    obtain ⟨zs, h1, h2⟩ := dt_at hr q
    have ek : zs.map (·.1.data) = kvs.map (·.1.data) := by
      clear ok hg q h1
      induction h2 with
      | nil => rfl
      | cons h t ih => rw [List.map_cons, List.map_cons, ih, h.1]
    have hk : ∀ x ∈ zs, Dp X.K (fz M N H) (.ref x.2.1) x.1.data := by
      clear ok hg q h1 ek
      induction h2 with
      | nil => intro x hx; cases hx
      | cons h t ih =>
        intro x hx
        rcases List.mem_cons.mp hx with e | hx
        · rw [e]; exact h.2.1
        · exact ih x hx
    rw [Vals.ref1 r]
    refine sortN_run hc hu I h1 fz_sub hk (by rw [ek]; exact ok) fun l ws' hl hd => ?_
    rw [ek] at hd
    exact fo.new hr hg hl (fz_newLst hr hl hd)
  · exact hg.elim
end
end DL

/-! Part 33: texts in lists and tuples; small helpers. -/
namespace DL
open PySem PySem.Spec PyProof.Rows L2

abbrev tpS (ws : List Str) : PyData := .tuple (ws.map .str)
abbrev lsS (ws : List Str) : PyData := .list (ws.map .str)
theorem getM {α : Type} {e : α → PyData} {l : List α} {i : Nat} {x : DV} (h : ((l.map e).map DV.d)[i]? = some x) : ∃ a, l[i]? = some a ∧ x = .d (e a) := by
  rw [List.map_map, List.getElem?_map] at h
  obtain ⟨a, h1, h2⟩ := Option.map_eq_some_iff.mp h
  exact ⟨a, h1, h2.symm⟩
theorem atM {α : Type} {e : α → PyData} {l : List α} {i : Nat} {a : α} (h : l[i]? = some a) {k : Int} (hk : k = i) : atI (l.map e) k = some (e a) := by
  subst hk
  exact atI_nn (by omega) (by rw [Int.toNat_natCast, List.getElem?_map, h]; rfl)
/-- the last one -/
theorem atM_last {α : Type} {e : α → PyData} {l : List α} {a : α} (h : l.getLast? = some a) : atI (l.map e) (-1) = some (e a) := by
  have hl : l ≠ [] := by rintro rfl; cases h
  have hp := List.length_pos_iff.mpr hl
  rw [List.getLast?_eq_getElem?] at h
  unfold atI ixN
  rw [List.length_map, if_neg (by omega), if_pos (by omega)]
  show (l.map e)[(-1 + (l.length : Int)).toNat]? = some (e a)
  rw [show (-1 + (l.length : Int)).toNat = l.length - 1 by omega, List.getElem?_map, h]
  rfl
theorem canLay_strs : ∀ {ws : List Str}, (∀ w ∈ ws, PyData.strOk w = true) → PyData.canLayAll0 (ws.map .str) = true
  | [], _ => rfl
  | w :: r, h => by
    rw [List.map_cons]
    show (PyData.strOk w && PyData.canLayAll0 (r.map .str)) = true
    rw [h w (List.mem_cons_self ..), canLay_strs fun x hx => h x (List.mem_cons_of_mem _ hx)]
    rfl
theorem depth_strs (ws : List Str) : PyData.depthAll (ws.map .str) = 0 := by
  induction ws with
  | nil => rfl
  | cons w r ih => rw [List.map_cons, PyData.depthAll, ih]; rfl
theorem shaped_tupS {ws : List Str} (h : ∀ w ∈ ws, PyData.strOk w = true) : SeqAt.shaped (tpS ws) = true := by
  unfold SeqAt.shaped
  rw [PyData.depth, depth_strs]
  show (PyData.canLayAll0 (ws.map .str) && _) = true
  rw [canLay_strs h]
  rfl
theorem shaped_lstS {ws : List Str} (h : ∀ w ∈ ws, PyData.strOk w = true) : SeqAt.shaped (lsS ws) = true := by
  unfold SeqAt.shaped
  rw [PyData.depth, depth_strs]
  show (PyData.canLayAll0 (ws.map .str) && _) = true
  rw [canLay_strs h]
  rfl
theorem any_strs (ws : List Str) (v : Str) : ((ws.map PyData.str).any fun z => PyData.eqv z (.str v)) = decide (v ∈ ws) := by
  induction ws with
  | nil => rfl
  | cons m r ih =>
    rw [List.map_cons, List.any_cons, ih]
    show ((m == v) || decide (v ∈ r)) = _
    rw [beq_str]
    by_cases h : v = m
    · subst h; simp
    · have h' : ¬ m = v := fun e => h e.symm
      simp [h, h']
section
variable {M : MHp} {P : DK} {ws vs : List Str} {v : Str} {a : Addr} {k : PyData → Prop}
theorem x_inTS (h1 : PyData.strOk v = true) (h2 : ∀ w ∈ ws, PyData.strOk w = true) (q : P (.d (.bool (decide (v ∈ ws)))) M) : inD false (.d (.str v)) (.d (tpS ws)) M P := ⟨shaped_str h1, shaped_tupS h2, by rw [any_strs]; exact q⟩
theorem x_ninTS (h1 : PyData.strOk v = true) (h2 : ∀ w ∈ ws, PyData.strOk w = true) (q : P (.d (.bool (!decide (v ∈ ws)))) M) : inD true (.d (.str v)) (.d (tpS ws)) M P := ⟨shaped_str h1, shaped_tupS h2, by rw [any_strs]; exact q⟩
theorem x_inLS (h1 : PyData.strOk v = true) (h2 : ∀ w ∈ ws, PyData.strOk w = true) (q : P (.d (.bool (decide (v ∈ ws)))) M) : inD false (.d (.str v)) (.d (lsS ws)) M P := ⟨shaped_str h1, shaped_lstS h2, by rw [any_strs]; exact q⟩
theorem x_ninLS (h1 : PyData.strOk v = true) (h2 : ∀ w ∈ ws, PyData.strOk w = true) (q : P (.d (.bool (!decide (v ∈ ws)))) M) : inD true (.d (.str v)) (.d (lsS ws)) M P := ⟨shaped_str h1, shaped_lstS h2, by rw [any_strs]; exact q⟩
theorem x_inMS (e : M a = some (.ls (ws.map .str))) (h1 : PyData.strOk v = true) (h2 : ∀ w ∈ ws, PyData.strOk w = true) (q : P (.d (.bool (decide (v ∈ ws)))) M) : inD false (.d (.str v)) (.r a) M P := by
  unfold inD
  simp only [e]
  exact ⟨shaped_str h1, shaped_lstS h2, by rw [any_strs]; exact q⟩
theorem x_ninMS (e : M a = some (.ls (ws.map .str))) (h1 : PyData.strOk v = true) (h2 : ∀ w ∈ ws, PyData.strOk w = true) (q : P (.d (.bool (!decide (v ∈ ws)))) M) : inD true (.d (.str v)) (.r a) M P := by
  unfold inD
  simp only [e]
  exact ⟨shaped_str h1, shaped_lstS h2, by rw [any_strs]; exact q⟩
theorem eqv_strs (ws vs : List Str) : PyData.eqv (tpS ws) (tpS vs) = decide (ws = vs) := by
  show PyData.eqvAll (ws.map .str) (vs.map .str) = _
  induction ws generalizing vs with
  | nil => cases vs <;> rfl
  | cons w r ih =>
    cases vs with
    | nil => rfl
    | cons v s =>
      rw [List.map_cons, List.map_cons]
      show ((w == v) && PyData.eqvAll (r.map .str) (s.map .str)) = _
      rw [ih s, beq_str]
      by_cases h : w = v
      · subst h; simp
      · simp [h]
theorem x_eqTS (h1 : ∀ w ∈ ws, PyData.strOk w = true) (h2 : ∀ w ∈ vs, PyData.strOk w = true) (r : k (.bool (decide (ws = vs)))) : eqD (tpS ws) (tpS vs) k := ⟨shaped_tupS h1, shaped_tupS h2, by rw [eqv_strs]; exact r⟩
theorem x_neTS (h1 : ∀ w ∈ ws, PyData.strOk w = true) (h2 : ∀ w ∈ vs, PyData.strOk w = true) (r : k (.bool (!decide (ws = vs)))) : neD (tpS ws) (tpS vs) k := ⟨shaped_tupS h1, shaped_tupS h2, by rw [eqv_strs]; exact r⟩
end
theorem cut_takeN {α β : Type} {l : List α} {e : α → β} (k : Nat) : cutG (l.map e) none (some (k : Int)) = (l.take k).map e := by
  rw [cut_take (by omega), Int.toNat_natCast, List.map_take]
theorem cut_dropN {α β : Type} {l : List α} {e : α → β} (k : Nat) : cutG (l.map e) (some (k : Int)) none = (l.drop k).map e := by
  rw [cut_drop (by omega), Int.toNat_natCast, List.map_drop]
end DL

/-! Part 34: a list read for good; items of lists of mutable things; dicts: pop, list(d), walked while they are locked. -/
namespace DL
open PySem PySem.Spec PyProof.Rows L2

def delM (M : MHp) (a : Addr) : MHp := fun b => if b = a then none else M b
theorem delM_le {M : MHp} {a : Addr} : MLe (delM M a) M := fun b o e => by
  unfold delM at e
  split at e
  · cases e
  · exact e
theorem delM_ne {M : MHp} {a b : Addr} (h : b ≠ a) : delM M a b = M b := by unfold delM; rw [if_neg h]
theorem delM_same {M : MHp} {a : Addr} : delM M a a = none := by unfold delM; rw [if_pos rfl]
section
variable {X : Cx} {W : WX} {e o i f value : Expr} {es : List Expr} {te to ti tx tv ta tb : DTE} {pos pos' apos cpos : Pos}
/-- a variable that holds a mutable list, from here on never changed -/
def eFrz (i : Nat) : DTE := fun ρ M P _ => match ρ[i]? with
  | some (some (.r p)) => match M p with
    | some (.ls ys) => P (.d (.list ys)) (delM M p)
    | _ => False
  | _ => False
theorem de_frz (i : Nat) {x : Str} (hN : X.N[i]? = some x := by rfl) (hv : Vis X.env.scope x := by first | exact Or.inl rfl | exact Or.inr (Or.inl rfl) | exact Or.inr (Or.inr rfl)) (hd : (x == ("__debug__" : Str)) = false := by decide)
    (hcd : (x == ("__classdict__" : Str)) = false := by decide) : DE X W (.Name x pos) (eFrz i) := ⟨PE.imp (pe_var hN hv hd hcd) fun σ H Q ⟨ρ, M, N, P, PX, hs, hr, ht, hP, hX⟩ => by
  unfold eFrz at ht
  split at ht
  · rename_i p q
    obtain ⟨v, e1, e2⟩ := hs.2 i _ q
    have e2' : v = .ref p := e2
    subst e2'
    split at ht
    · rename_i ys e
      have w := hr.le (delM_le (M := M) (a := p))
      obtain ⟨o, h1, h2⟩ := hr.obj p _ e
      cases o with
      | lst vs =>
        refine ⟨_, e1, hP _ _ _ H ht w.1 w.2 (show Dp _ _ _ _ from .lst (.inl (.inl ?_)) (dpAll_mono w.2.fr _ _ h2))⟩
        rw [fz_at (hr.notHid e) delM_same, h1]
        rfl
      | _ => exact (show False from h2).elim
    · exact ht.elim
  · exact ht.elim⟩
/-- xs[i], the list's items may be mutable -/
def gIxV : D2 := fun x y M P => match x, y with
  | .r a, .d (.int i) => match M a with
    | some (.lv ys) => ∃ z, atI ys i = some z ∧ P z M
    | _ => False
  | _, _ => False
theorem areD_at {K : PySem.W.Frag} {F : Hp} : ∀ {vs : List V} {ds : List DV} {i : Nat} {d : DV}, AreD K F vs ds → ds[i]? = some d → ∃ v, vs[i]? = some v ∧ IsD K F v d
  | _, _, i, v, .nil, e => by simp at e
  | _, _, 0, v, .cons h1 h2, e => by simp at e; subst e; exact ⟨_, rfl, h1⟩
  | _, _, i + 1, v, .cons h1 h2, e => by
    obtain ⟨d, q1, q2⟩ := areD_at (i := i) h2 (by simpa using e)
    exact ⟨d, by simpa using q1, q2⟩
theorem de_ixV (ha : DE X W o ta) (hb : DE X W i tb) (hs : PlainIx i) : DE X W (.Subscript o i pos) (eOp gIxV ta tb) := by
  have hx : IxR X (rD2 X.K gIxV) := by
    intro value slice pins s σ H x y v u Q I rx ry hq hsub
    obtain ⟨dx, dy, M, N, P, hr, r1, r2, hf, fo⟩ := hq
    unfold gIxV at hf
    split at hf
    · rename_i a j
      have r1' : x = .ref a := r1
      subst r1'
      cases (show Dp _ _ _ _ from r2)
      split at hf
      · rename_i ys e
        obtain ⟨z, hz, q⟩ := hf
        obtain ⟨o, h1, h2⟩ := hr.obj a _ e
        cases o with
        | lst ws =>
          have h2' : AreD X.K (fz M N H) ws ys := h2
          have hz' : ∃ w', atI ws j = some w' ∧ IsD X.K (fz M N H) w' z := by
            unfold atI at hz ⊢
            rw [paired_len h2']
            cases q : ixN ys.length j with
            | none => rw [q] at hz; cases hz
            | some k =>
              rw [q] at hz
              exact areD_at h2' hz
          obtain ⟨w', hw, hd⟩ := hz'
          exact ix_list value slice pins s σ H _ _ v u Q I rx ry ⟨a, ws, _, w', rfl, rfl, .inl (.inl h1), hw, fo.same hr q hd⟩ hsub
        | _ => exact (show False from h2).elim
      · exact hf.elim
    · exact hf.elim
  exact ⟨PE.imp (pe_ix hx ha.pe hb.pe hs) fun _ _ _ h => op_imp h⟩
/-! ### dicts -/
def dropD (kvs : List (Key × DV)) (k : Key) : List (Key × DV) := kvs.filter fun kv => decide (kv.1 ≠ k)
theorem pk_drop {K : PySem.W.Frag} {F : Hp} {ws : List (Key × V)} {kvs : List (Key × DV)} (h : PKV K F ws kvs) (k : Key) : PKV K F (dropK ws k) (dropD kvs k) := by
  unfold dropK dropD
  induction h with
  | nil => exact .nil
  | @cons p q ws kvs h1 h2 ih =>
    rw [List.filter_cons, List.filter_cons, h1.1]
    split
    · exact .cons h1 ih
    · exact ih
/-- d.pop(k), the key is there -/
def popDK (x y : DV) (M : MHp) (P : DK) : Prop := match x, asKey y with
  | .r a, some k => match M a with
    | some (.dk kvs) => ∃ v, valD kvs k = some v ∧ P v (mu M a (.dk (dropD kvs k)))
    | _ => False
  | _, _ => False
def ePop1 (to ti : DTE) : DTE := fun ρ M P PX => to ρ M (fun x M1 => isDk x M1 ∧ ti ρ M1 (fun y M2 => popDK x y M2 P) PX) PX
theorem de_pop1 (ho : DE X W o to) (he : DE X W e ti) (m : M1 X o "pop" apos e cpos) : DE X W (.Call (.Attribute o "pop" apos) [e] [] cpos) (ePop1 to ti) :=
  ⟨PE.imp (pe_dpop1 ho.pe he.pe m) fun σ H Q ⟨ρ, M, N, P, PX, hs, hr, ht, hP, hX⟩ => ⟨ρ, M, N, _, PX, hs, hr, ht, fun x M1 v H1 p hr1 af1 iv => by
    obtain ⟨a, ea, da⟩ := isDk_of hr1 iv p.1
    refine ⟨a, ea, da, ρ, M1, N, _, PX, hs.mono af1.fr, hr1, p.2, fun y M2 u H2 p2 hr2 af2 iu => ?_, hX.step af1⟩
    unfold popDK at p2
    split at p2
    · rename_i a' k hk
      split at p2
      · rename_i kvs q
        obtain ⟨w, hw, p2⟩ := p2
        obtain ⟨ws, h1, h2⟩ := dk_at hr2 q
        cases (iv : v = .ref a').symm.trans ea
        rcases pk_val h2 k with z | ⟨v', x', z1, z2, z3⟩
        · rw [z.2] at hw; cases hw
        · rw [z2] at hw
          cases hw
          obtain ⟨r3, a3⟩ := hr2.write (x := .dk (dropD kvs k)) (o := .dK (dropK ws k)) q (pk_drop h2 k)
          exact ⟨ws, k, v', h1, isKey iu hk, z1, hP _ _ _ _ p2 r3 ((af1.trans af2).trans a3) (isD_mono a3.fr z3)⟩
      · exact p2.elim
    · exact p2.elim, hX⟩⟩
/-- list(d) -/
def gListK : DN := fun xs M P => match xs with
  | [.r a] => match M a with
    | some (.dk kvs) => P (.d (.list (kvs.map fun p => keyData p.1))) M
    | _ => False
  | _ => False
theorem dp_keys {K : PySem.W.Frag} {F : Hp} : ∀ {ws : List (Key × V)} {kvs : List (Key × DV)}, PKV K F ws kvs → DpAll K F (ws.map fun kv => kV kv.1) (kvs.map fun p => keyData p.1)
  | _, _, .nil => .nil
  | _, _, @Paired.cons _ _ _ p q _ _ h1 h2 => .cons (by
      show Dp K F (kV p.1) (keyData q.1)
      rw [h1.1]
      cases q.1 with
      | inl i => exact .int i
      | inr x => exact .str x) (dp_keys h2)
theorem dc_listK (hc : X.calm = true) : DCall X (.type "list") gListK := by
  intro pins s σ H vs us Q I r h
  obtain ⟨xs, M, N, P, hr, ha, hg, fo⟩ := h
  unfold gListK at hg
  split at hg
  · rename_i a
    obtain ⟨v, rfl, i⟩ := are1 ha
    have i' : v = .ref a := i
    subst i'
    split at hg
    · rename_i kvs q
      obtain ⟨ws, h1, h2⟩ := dk_at hr q
      exact call_list_dK hc pins s σ H _ us Q I r ⟨a, ws, rfl, h1, fun p hp => fo.new hr hg hp (fz_newLst hr hp (dp_keys h2))⟩
    · exact hg.elim
  · exact hg.elim
/-! ### dicts that are locked while they are walked -/
/-- all but what is at a -/
def cutH (F : Hp) (a : Addr) : Hp := fun b => if b = a then none else F b
theorem cutH_ne {F : Hp} {a b : Addr} (h : b ≠ a) : cutH F a b = F b := by unfold cutH; rw [if_neg h]
section
variable {K : PySem.W.Frag} {F : Hp} {a : Addr} {ob : Obj} {ws : List (Key × V)}
theorem sql_cut (ha : F a = some (.frz ob (.dK ws))) {p : Addr} {xs : List V} (h : SqL K F p xs) : SqL K (cutH F a) p xs := by
  rcases h with (h | ⟨o, h⟩) | h
  · exact .inl (.inl (by rw [cutH_ne (by rintro rfl; rw [h] at ha; cases ha)]; exact h))
  · exact .inl (.inr ⟨o, by rw [cutH_ne (by rintro rfl; rw [h] at ha; cases ha)]; exact h⟩)
  · exact .inr h
theorem sqt_cut (ha : F a = some (.frz ob (.dK ws))) {p : Addr} {xs : List V} (h : SqT K F p xs) : SqT K (cutH F a) p xs := by
  rcases h with (h | ⟨o, h⟩) | h
  · exact .inl (.inl (by rw [cutH_ne (by rintro rfl; rw [h] at ha; cases ha)]; exact h))
  · exact .inl (.inr ⟨o, by rw [cutH_ne (by rintro rfl; rw [h] at ha; cases ha)]; exact h⟩)
  · exact .inr h
mutual
theorem dp_cut (ha : F a = some (.frz ob (.dK ws))) : ∀ (d : PyData) (v : V), Dp K F v d → Dp K (cutH F a) v d
  | .none, _, h => by cases h; exact .non
  | .bool _, _, h => by cases h; exact .bl _
  | .int _, _, h => by cases h; exact .int _
  | .str _, _, h => by cases h; exact .str _
  | .list ds, _, h => by
    cases h with
    | lst h1 h2 => exact .lst (sql_cut ha h1) (dpAll_cut ha ds _ h2)
  | .tuple ds, _, h => by
    cases h with
    | tup h1 h2 => exact .tup (sqt_cut ha h1) (dpAll_cut ha ds _ h2)
  | .dict _, _, h => by cases h
theorem dpAll_cut (ha : F a = some (.frz ob (.dK ws))) : ∀ (ds : List PyData) (vs : List V), DpAll K F vs ds → DpAll K (cutH F a) vs ds
  | [], _, h => by cases h; exact .nil
  | d :: ds, _, h => by
    cases h with
    | cons h1 h2 => exact .cons (dp_cut ha d _ h1) (dpAll_cut ha ds _ h2)
end
theorem isD_cut (ha : F a = some (.frz ob (.dK ws))) {v : V} : ∀ {x : DV}, IsD K F v x → IsD K (cutH F a) v x
  | .d x, h => dp_cut ha x v h
  | .r _, h => h
theorem objD_cut (ha : F a = some (.frz ob (.dK ws))) {h : HO} {o : MO} (x : ObjD K F h o) : ObjD K (cutH F a) h o := by
  cases o with
  | ls ds =>
    cases h with
    | lst vs => exact dpAll_cut ha ds vs x
    | _ => exact x.elim
  | lv ds =>
    cases h with
    | lst vs => exact Paired.mapP (show Paired _ _ _ from x) fun _ _ => isD_cut ha
    | _ => exact x.elim
  | dk ds =>
    cases h with
    | dK vs => exact Paired.mapP (show Paired _ _ _ from x) fun _ _ z => ⟨z.1, isD_cut ha z.2⟩
    | _ => exact x.elim
  | ins C dx fs =>
    cases h with
    | ins C' dx' gs => exact ⟨x.1, x.2.1, Paired.mapP x.2.2 fun _ _ z => ⟨z.1, isD_cut ha z.2⟩⟩
    | _ => exact x.elim
  | dl ds =>
    have go : (∃ ob a, h = .frz ob (.dK a) ∧ Paired (fun (p : Key × V) (q : Key × DV) => p.1 = q.1 ∧ IsD K F p.2 q.2) a ds) → ∃ ob b, h = .frz ob (.dK b) ∧ Paired (fun (p : Key × V) (q : Key × DV) => p.1 = q.1 ∧ IsD K (cutH F a) p.2 q.2) b ds :=
      fun ⟨ob, a, e, p⟩ => ⟨ob, a, e, Paired.mapP p fun _ _ z => ⟨z.1, isD_cut ha z.2⟩⟩
    cases h <;> exact go x
  | dt P w b kvs =>
    have go : (∃ xs, h = dtO P w b xs ∧ Paired (fun (p : NestedKey × Addr × V) (q : NestedKey × DV) => p.1 = q.1 ∧ Dp K F (.ref p.2.1) p.1.data ∧ p.1.depth ≤ 8 ∧ IsD K F p.2.2 q.2) xs kvs) → ∃ xs, h = dtO P w b xs ∧ Paired (fun (p : NestedKey × Addr × V) (q : NestedKey × DV) => p.1 = q.1 ∧ Dp K (cutH F a) (.ref p.2.1) p.1.data ∧ p.1.depth ≤ 8 ∧ IsD K (cutH F a) p.2.2 q.2) xs kvs :=
      fun ⟨xs, e, p⟩ => ⟨xs, e, Paired.mapP p fun _ _ z => ⟨z.1, dp_cut ha _ _ z.2.1, z.2.2.1, isD_cut ha z.2.2.2⟩⟩
    cases h <;> exact go x
  | tb q =>
    cases h with
    | tbl ps => exact ⟨x.1, fun pos cv e => let ⟨c, e1, e2⟩ := x.2 pos cv e; ⟨c, e1, by rw [cutH_ne (by rintro rfl; rw [e2] at ha; cases ha)]; exact e2⟩⟩
    | _ => exact x.elim
end
/-- the lock -/
structure Lk (K : PySem.W.Frag) (M : MHp) (N : Hid) (H : Hp) (a : Addr) (kvs : List (Key × DV)) (ob : Obj) (ws : List (Key × V)) : Prop where
  at' : fz (mu M a (.dl kvs)) N (upd H a (.frz ob (.dK ws))) a = some (.frz ob (.dK ws))
  rel : HRel K (mu M a (.dl kvs)) N (upd H a (.frz ob (.dK ws)))
  kv : PKV K (fz (mu M a (.dl kvs)) N (upd H a (.frz ob (.dK ws)))) ws kvs
  af : Af M N H (mu M a (.dl kvs)) (upd H a (.frz ob (.dK ws)))
section
variable {K : PySem.W.Frag} {M : MHp} {N : Hid} {H : Hp} {a : Addr} {kvs : List (Key × DV)} {ob : Obj} {ws : List (Key × V)}
theorem lk_of (hr : HRel K M N H) (e : M a = some (.dk kvs)) (e2 : H a = some (.dK ws)) (ob : Obj) : Lk K M N H a kvs ob ws := by
  obtain ⟨ws', h1, h2⟩ := dk_at hr e
  rw [e2] at h1
  cases h1
  obtain ⟨r2, a2⟩ := hr.write (x := .dl kvs) (o := .frz ob (.dK ws)) e ⟨ob, ws, rfl, h2⟩
  refine ⟨?_, r2, pk_mono a2.fr h2, a2⟩
  unfold fz
  rw [if_neg (by rw [hr.notHid e]; exact Bool.false_ne_true), mu_same, upd_same]
  rfl
/-- unlocked again -/
structure Ulk (K : PySem.W.Frag) (M : MHp) (N : Hid) (H : Hp) (a : Addr) (kvs : List (Key × DV)) (ws : List (Key × V)) (M' : MHp) (H' : Hp) : Prop where
  rel : HRel K (mu M' a (.dk kvs)) N (upd H' a (.dK ws))
  af : Af M N H (mu M' a (.dk kvs)) (upd H' a (.dK ws))
  isd : ∀ {v x}, IsD K (fz M' N H') v x → IsD K (fz (mu M' a (.dk kvs)) N (upd H' a (.dK ws))) v x
theorem Lk.ul {M' : MHp} {H' : Hp} (L : Lk K M N H a kvs ob ws) (e : M a = some (.dk kvs)) (hr : HRel K M N H) (r' : HRel K M' N H') (af : Af (mu M a (.dl kvs)) N (upd H a (.frz ob (.dK ws))) M' H') : H' a = some (.frz ob (.dK ws)) ∧ Ulk K M N H a kvs ws M' H' := by
  have nN : N a = false := hr.notHid e
  have f' := af.fr _ _ L.at'
  have ha := fz_sub _ _ f'
  have sm : Same (cutH (fz M' N H') a) (fz (mu M' a (.dk kvs)) N (upd H' a (.dK ws))) := fun b o q => by
    have hb : b ≠ a := by rintro rfl; unfold cutH at q; rw [if_pos rfl] at q; cases q
    rw [cutH_ne hb] at q
    unfold fz at q ⊢
    rw [mu_ne hb, upd_ne hb]
    exact q
  refine ⟨ha, ⟨⟨fun b o q => ?_, fun b hb => ?_⟩, ⟨fun b o q => ?_, fun b hb => ?_⟩, fun i => isD_mono sm (isD_cut f' i)⟩⟩
  · by_cases hb : b = a
    · subst hb
      rw [mu_same] at q
      cases q
      exact ⟨_, upd_same, objD_mono sm (objD_cut f' (show ObjD K _ (.dK ws) (.dk kvs) from pk_mono af.fr L.kv))⟩
    · rw [mu_ne hb] at q
      obtain ⟨y, q1, q2⟩ := r'.obj b o q
      exact ⟨y, by rw [upd_ne hb]; exact q1, objD_mono sm (objD_cut f' q2)⟩
  · have hb' : b ≠ a := by rintro rfl; rw [nN] at hb; cases hb
    rw [mu_ne hb', upd_ne hb']
    exact r'.hid b hb
  · have hb : b ≠ a := by
      rintro rfl
      unfold fz at q
      rw [if_neg (by rw [nN]; exact Bool.false_ne_true), e] at q
      cases q
    have q2 := af.fr _ _ (L.af.fr _ _ q)
    exact sm _ _ (by rw [cutH_ne hb]; exact q2)
  · have hb' : b ≠ a := by rintro rfl; rw [nN] at hb; cases hb
    rw [upd_ne hb']
    exact (af.hd b hb).trans (L.af.hd b hb)
end
/-- e, while a dict is locked -/
def eLock (te : DTE) : DTE := fun ρ M P _ => ∃ a kvs, M a = some (.dk kvs) ∧ te ρ (mu M a (.dl kvs)) (fun v M' => P v (mu M' a (.dk kvs))) fun _ _ => False
theorem de_lock (h : DE X W e te) : DE X W e (eLock te) := ⟨⟨fun pins s σ H Q I hq => by
  obtain ⟨ρ, M, N, P, PX, hs, hr, ⟨a, kvs, e, ht⟩, hP, hX⟩ := hq
  obtain ⟨ws, h1, h2⟩ := dk_at hr e
  have mt : Mut (some (.dK ws)) := trivial
  have nf := I.nofrz h1 mt
  obtain ⟨ob, J⟩ := I.lock h1 mt
  have L := lk_of hr e h1 ob
  refine thn (h.pe.run pins s σ _ (fun v H' => H' a = some (.frz ob (.dK ws)) ∧ Q v (upd H' a (.dK ws))) J ⟨ρ, _, N, _, _, hs.mono L.af.fr, L.rel, ht, fun x M' v H' p r' af iv => ?_, fun _ _ _ _ z => z.elim⟩) fun u s1 ⟨v, H', I1, rv, ha, q⟩ => ?_
  · obtain ⟨ha, U⟩ := L.ul e hr r' af
    exact ⟨ha, hP x _ v _ p U.rel U.af (U.isd iv)⟩
  · exact ⟨v, _, I1.unlock ha nf, rv, q⟩⟩⟩
/-- st, while a dict is locked; it raises nothing -/
def sLock (t : DTS) : DTS := fun E ρ M => ∃ a kvs, M a = some (.dk kvs) ∧ t { nx := fun ρ' M' => E.nx ρ' (mu M' a (.dk kvs)), rt := fun v M' => E.rt v (mu M' a (.dk kvs)), bk := fun ρ' M' => E.bk ρ' (mu M' a (.dk kvs)), ct := fun ρ' M' => E.ct ρ' (mu M' a (.dk kvs)) } ρ (mu M a (.dl kvs))
theorem ds_lock {st : Stmt} {t : DTS} (h : DS X W st t) : DS X W st (sLock t) := ⟨⟨fun pins s σ H D I hq => by
  obtain ⟨ρ, M, N, E, hs, hr, ⟨a, kvs, e, ht⟩, hE⟩ := hq
  obtain ⟨ws, h1, h2⟩ := dk_at hr e
  have mt : Mut (some (.dK ws)) := trivial
  have nf := I.nofrz h1 mt
  obtain ⟨ob, J⟩ := I.lock h1 mt
  have L := lk_of hr e h1 ob
  have srel : ∀ {M' : MHp} {H' : Hp} {σ' : L2.St} {ρ' : DEnv}, Ulk X.K M N H a kvs ws M' H' → SRel X.K (fz M' N H') σ' ρ' → SRel X.K (fz (mu M' a (.dk kvs)) N (upd H' a (.dK ws))) σ' ρ' := fun U s' => ⟨s'.1, fun i x q => let ⟨v, q1, q2⟩ := s'.2 i x q; ⟨v, q1, U.isd q2⟩⟩
  let D' : Ends := { nx := fun σ' H' => H' a = some (.frz ob (.dK ws)) ∧ D.nx σ' (upd H' a (.dK ws)), rt := fun v H' => H' a = some (.frz ob (.dK ws)) ∧ D.rt v (upd H' a (.dK ws)), bk := fun σ' H' => H' a = some (.frz ob (.dK ws)) ∧ D.bk σ' (upd H' a (.dK ws)), ct := fun σ' H' => H' a = some (.frz ob (.dK ws)) ∧ D.ct σ' (upd H' a (.dK ws)) }
  refine thn (h.ps.run pins s σ _ D' J ⟨ρ, _, N, _, hs.mono L.af.fr, L.rel, ht, ⟨fun ρ' M' σ' H' p s' r' af => ?_, fun x M' v H' p r' af iv => ?_, fun ρ' M' σ' H' p s' r' af => ?_, fun ρ' M' σ' H' p s' r' af => ?_, fun _ _ _ _ _ _ z => z.elim⟩⟩) fun f s1 hf => ?_
  · obtain ⟨ha, U⟩ := L.ul e hr r' af
    exact ⟨ha, hE.nx ρ' _ σ' _ p (srel U s') U.rel U.af⟩
  · obtain ⟨ha, U⟩ := L.ul e hr r' af
    exact ⟨ha, hE.rt x _ v _ p U.rel U.af (U.isd iv)⟩
  · obtain ⟨ha, U⟩ := L.ul e hr r' af
    exact ⟨ha, hE.bk ρ' _ σ' _ p (srel U s') U.rel U.af⟩
  · obtain ⟨ha, U⟩ := L.ul e hr r' af
    exact ⟨ha, hE.ct ρ' _ σ' _ p (srel U s') U.rel U.af⟩
  · cases f with
    | next =>
      obtain ⟨σ', H', I1, ha, q⟩ := hf
      exact ⟨σ', _, I1.unlock ha nf, q⟩
    | brk =>
      obtain ⟨σ', H', I1, ha, q⟩ := hf
      exact ⟨σ', _, I1.unlock ha nf, q⟩
    | cont =>
      obtain ⟨σ', H', I1, ha, q⟩ := hf
      exact ⟨σ', _, I1.unlock ha nf, q⟩
    | ret u =>
      obtain ⟨v, σ', H', I1, rv, ha, q⟩ := hf
      exact ⟨v, σ', _, I1.unlock ha nf, rv, q⟩⟩⟩
/-! the keys, the values of a locked dict -/
theorem dl_at {K : PySem.W.Frag} {M : MHp} {N : Hid} {H : Hp} (hr : HRel K M N H) {a : Addr} {kvs : List (Key × DV)} (e : M a = some (.dl kvs)) : ∃ ob ws, H a = some (.frz ob (.dK ws)) ∧ fz M N H a = some (.frz ob (.dK ws)) ∧ PKV K (fz M N H) ws kvs := by
  obtain ⟨o, h1, h2⟩ := hr.obj a _ e
  have go : (∃ ob a, o = HO.frz ob (.dK a) ∧ Paired (fun (p : Key × V) (q : Key × DV) => p.1 = q.1 ∧ IsD K (fz M N H) p.2 q.2) a kvs) → ∃ ob ws, H a = some (.frz ob (.dK ws)) ∧ fz M N H a = some (.frz ob (.dK ws)) ∧ PKV K (fz M N H) ws kvs := fun ⟨ob, ws, e', p⟩ => ⟨ob, ws, by rw [h1, e'], by
    unfold fz
    rw [if_neg (by rw [hr.notHid e]; exact Bool.false_ne_true), e, h1, e']
    rfl, p⟩
  cases o <;> exact go h2
def keysD (kvs : List (Key × DV)) : List DV := kvs.map fun p => .d (keyData p.1)
def asDl (x : DV) (M : MHp) (K : List (Key × DV) → Prop) : Prop := match x with
  | .r a => match M a with
    | some (.dl kvs) => K kvs
    | _ => False
  | _ => False
def iKeysL (te : DTE) : DTI := fun ρ M P PX => te ρ M (fun x M1 => asDl x M1 fun kvs => P (keysD kvs) (fun _ => True) M1) PX
theorem pk_get {K : PySem.W.Frag} {F : Hp} : ∀ {ws : List (Key × V)} {kvs : List (Key × DV)} {i : Nat} {p : Key × V}, PKV K F ws kvs → ws[i]? = some p → ∃ q, kvs[i]? = some q ∧ p.1 = q.1 ∧ IsD K F p.2 q.2
  | _, _, i, p, .nil, e => by simp at e
  | _, _, 0, p, .cons h1 h2, e => by simp at e; subst e; exact ⟨_, rfl, h1⟩
  | _, _, i + 1, p, .cons h1 h2, e => by
    obtain ⟨q, q1, q2⟩ := pk_get (i := i) h2 (by simpa using e)
    exact ⟨q, by simpa using q1, q2⟩
theorem dp_key {K : PySem.W.Frag} {F : Hp} (k : Key) : Dp K F (kV k) (keyData k) := by
  cases k with
  | inl i => exact .int i
  | inr x => exact .str x
theorem it_keys {K : PySem.W.Frag} {F0 : Hp} {a : Addr} {ob : Obj} {ws : List (Key × V)} {kvs : List (Key × DV)} (ha : F0 a = some (.frz ob (.dK ws))) (hp : PKV K F0 ws kvs) : ItD K F0 (Itk a ob ws) (keysD kvs) (fun _ => True) where
  go := fun i M N H s hr _ hi => ⟨fz_sub _ _ (s _ _ ha), by rw [paired_len hp]; simpa [keysD] using hi⟩
  stop := fun M N H s hr _ => ⟨fz_sub _ _ (s _ _ ha), by rw [paired_len hp]; simp [keysD]⟩
  yld := fun i M N H v H' x s hr _ hx y => by
    obtain ⟨rfl, k, w, hk, rfl⟩ := y
    obtain ⟨q, q1, q2, _⟩ := pk_get hp hk
    unfold keysD at hx
    rw [List.getElem?_map, q1] at hx
    cases hx
    refine ⟨Same.refl _, ?_⟩
    show Dp K _ (kV k) (keyData q.1)
    rw [← (show k = q.1 from q2)]
    exact dp_key k
theorem di_keysL {tg : Expr} (h : DE X W e te) : DI X W tg e (iKeysL te) := ⟨PI.imp (pi_keys h.pe) fun σ H R ⟨ρ, M, N, P, PX, hs, hr, ht, hP, hX⟩ => by
  refine ⟨ρ, M, N, _, PX, hs, hr, ht, fun x M1 v H1 p hr1 af1 iv => ?_, hX⟩
  unfold asDl at p
  split at p
  · rename_i a
    have iv' : v = .ref a := iv
    subst iv'
    split at p
    · rename_i kvs q
      obtain ⟨ob, ws, h1, h2, h3⟩ := dl_at hr1 q
      exact ⟨a, ob, rfl, .inl ⟨ws, h1, hP _ _ M1 _ H1 p hr1 af1 (it_keys h2 h3)⟩⟩
    · exact p.elim
  · exact p.elim⟩
end
end DL

/-! Part 35: rules for part 34, walked; dicts from ints as plain lists. -/
namespace DL
open PySem PySem.Spec PyProof.Rows L2
section
variable {M : MHp} {P : DK} {PX : DX} {ρ : DEnv} {i : Nat} {a p : Addr} {ys : List PyData} {zs : List DV} {n : Int} {x y v z : DV} {k : Key} {kvs : List (Key × DV)} {te to ti : DTE}
theorem x_frz (h : ρ[i]? = some (some (.r p))) (e : M p = some (.ls ys)) (q : P (.d (.list ys)) (delM M p)) : eFrz i ρ M P PX := by
  unfold eFrz
  simp only [h, e]
  exact q
theorem x_gIxV (e : M a = some (.lv zs)) (hz : atI zs n = some z) (q : P z M) : gIxV (.r a) (.d (.int n)) M P := by
  unfold gIxV
  simp only [e]
  exact ⟨z, hz, q⟩
theorem x_pop1 (q : to ρ M (fun x M1 => isDk x M1 ∧ ti ρ M1 (fun y M2 => popDK x y M2 P) PX) PX) : ePop1 to ti ρ M P PX := q
theorem x_popDK (hk : asKey y = some k) (h : M a = some (.dk kvs)) (hv : valD kvs k = some v) (q : P v (mu M a (.dk (dropD kvs k)))) : popDK (.r a) y M P := by
  unfold popDK
  simp only [hk, h]
  exact ⟨v, hv, q⟩
theorem x_listK (h : M a = some (.dk kvs)) (q : P (.d (.list (kvs.map fun p => keyData p.1))) M) : gListK [.r a] M P := by
  unfold gListK
  simp only [h]
  exact q
theorem x_asDl {K : List (Key × DV) → Prop} (h : M a = some (.dl kvs)) (q : K kvs) : asDl (.r a) M K := by
  unfold asDl
  simp only [h]
  exact q
theorem x_keysL {PI' : List DV → (MHp → Prop) → MHp → Prop} (q : te ρ M (fun x M1 => asDl x M1 fun kvs => PI' (keysD kvs) (fun _ => True) M1) PX) : iKeysL te ρ M PI' PX := q
theorem x_lock (h : M a = some (.dk kvs)) (q : te ρ (mu M a (.dl kvs)) (fun v M' => P v (mu M' a (.dk kvs))) fun _ _ => False) : eLock te ρ M P PX := ⟨a, kvs, h, q⟩
theorem x_sLock {E : DEnds} {t : DTS} (h : M a = some (.dk kvs)) (q : t { nx := fun ρ' M' => E.nx ρ' (mu M' a (.dk kvs)), rt := fun v M' => E.rt v (mu M' a (.dk kvs)), bk := fun ρ' M' => E.bk ρ' (mu M' a (.dk kvs)), ct := fun ρ' M' => E.ct ρ' (mu M' a (.dk kvs)) } ρ (mu M a (.dl kvs))) : sLock t E ρ M := ⟨a, kvs, h, q⟩
end
/-! ### dicts from ints -/
section
variable {β : Type}
def getA (S : List (Int × β)) (w : Int) : Option β := (S.find? fun p => decide (p.1 = w)).map (·.2)
def putA (S : List (Int × β)) (w : Int) (v : β) : List (Int × β) := if (S.any fun p => decide (p.1 = w)) = true then S.map (fun p => if p.1 = w then (p.1, v) else p) else S ++ [(w, v)]
def dropA (S : List (Int × β)) (w : Int) : List (Int × β) := S.filter fun p => decide (p.1 ≠ w)
abbrev kvsA (enc : β → DV) (S : List (Int × β)) : List (Key × DV) := S.map fun p => (.inl p.1, enc p.2)
variable {enc : β → DV} {S : List (Int × β)} {w j : Int} {v : β}
theorem kvs_val : valD (kvsA enc S) (.inl w) = (getA S w).map enc := by
  unfold valD getA kvsA
  induction S with
  | nil => rfl
  | cons p r ih =>
    rw [List.map_cons, List.find?_cons, List.find?_cons]
    by_cases h : p.1 = w
    · rw [decide_eq_true h, decide_eq_true (congrArg _ h)]; rfl
    · rw [decide_eq_false h, decide_eq_false (fun z => h (Sum.inl.inj z))]; exact ih
theorem kvs_any : ((kvsA enc S).any fun kv => decide (kv.1 = .inl w)) = S.any fun p => decide (p.1 = w) := by
  unfold kvsA
  induction S with
  | nil => rfl
  | cons p r ih =>
    rw [List.map_cons, List.any_cons, List.any_cons, ih]
    congr 1
    by_cases h : p.1 = w
    · rw [decide_eq_true h, decide_eq_true (congrArg _ h)]
    · rw [decide_eq_false h, decide_eq_false (fun z => h (Sum.inl.inj z))]
theorem kvs_put : putD (kvsA enc S) (.inl w) (enc v) = kvsA enc (putA S w v) := by
  unfold putD putA
  rw [kvs_any]
  split
  · unfold kvsA
    rw [List.map_map, List.map_map]
    refine List.map_congr_left fun p _ => ?_
    show (if (Sum.inl p.1 : Key) = .inl w then _ else _) = ((.inl (if p.1 = w then (p.1, v) else p).1 : Key), enc (if p.1 = w then (p.1, v) else p).2)
    by_cases h : p.1 = w
    · rw [if_pos (congrArg _ h), if_pos h]
    · rw [if_neg (fun z => h (Sum.inl.inj z)), if_neg h]
  · unfold kvsA
    rw [List.map_append]; rfl
theorem kvs_drop : dropD (kvsA enc S) (.inl w) = kvsA enc (dropA S w) := by
  unfold dropD dropA kvsA
  rw [List.filter_map]
  congr 1
  refine List.filter_congr fun p _ => ?_
  show decide ((Sum.inl p.1 : Key) ≠ .inl w) = decide (p.1 ≠ w)
  refine decide_eq_decide.mpr ⟨fun h z => h (congrArg _ z), fun h z => h (Sum.inl.inj z)⟩
theorem kvs_keys : (kvsA enc S).map (·.1) = (S.map (·.1)).map Sum.inl := by unfold kvsA; rw [List.map_map, List.map_map]; rfl
theorem kvs_keyData : (kvsA enc S).map (fun p => keyData p.1) = (S.map (·.1)).map .int := by unfold kvsA; rw [List.map_map, List.map_map]; rfl
theorem kvs_keysD : keysD (kvsA enc S) = ((S.map (·.1)).map PyData.int).map .d := by
  unfold keysD kvsA
  rw [List.map_map, List.map_map, List.map_map]; rfl
theorem getA_put : getA (putA S w v) j = if j = w then some v else getA S j := by
  unfold putA
  split
  · rename_i hk
    unfold getA
    induction S with
    | nil => simp at hk
    | cons p r ih =>
      rw [List.map_cons, List.find?_cons, List.find?_cons]
      by_cases h1 : p.1 = w
      · rw [if_pos h1]
        by_cases h2 : j = w
        · subst h2
          rw [if_pos rfl, decide_eq_true h1]; rfl
        · rw [if_neg h2, decide_eq_false (fun z => h2 (z.symm.trans h1))]
          have : ∀ r : List (Int × β), ((r.map fun p => if p.1 = w then (p.1, v) else p).find? fun p => decide (p.1 = j)) = r.find? fun p => decide (p.1 = j) := by
            intro r
            induction r with
            | nil => rfl
            | cons q r ih =>
              rw [List.map_cons, List.find?_cons, List.find?_cons]
              by_cases h3 : q.1 = w
              · rw [if_pos h3, decide_eq_false (fun z => h2 (z.symm.trans h3))]
                exact ih
              · rw [if_neg h3, ih]
          show Option.map _ (List.find? _ _) = Option.map _ (List.find? _ _)
          rw [this]
      · rw [if_neg h1]
        rw [List.any_cons, decide_eq_false h1, Bool.false_or] at hk
        by_cases h2 : p.1 = j
        · rw [decide_eq_true h2, if_neg (fun z => h1 (h2.trans z))]
        · rw [decide_eq_false h2]
          exact ih hk
  · rename_i hk
    unfold getA
    rw [List.find?_append]
    by_cases h2 : j = w
    · subst h2
      rw [if_pos rfl]
      have : S.find? (fun p => decide (p.1 = j)) = none := by
        rw [List.find?_eq_none]
        intro p hp z
        exact hk (List.any_eq_true.mpr ⟨p, hp, z⟩)
      rw [this, List.find?_cons, decide_eq_true rfl]
      rfl
    · rw [if_neg h2, List.find?_cons, decide_eq_false (fun z => h2 z.symm)]
      simp
theorem keys_put : (putA S w v).map (·.1) = if w ∈ S.map (·.1) then S.map (·.1) else S.map (·.1) ++ [w] := by
  unfold putA
  have e : (S.any fun p => decide (p.1 = w)) = true ↔ w ∈ S.map (·.1) := by
    rw [List.any_eq_true, List.mem_map]
    exact ⟨fun ⟨p, h1, h2⟩ => ⟨p, h1, of_decide_eq_true h2⟩, fun ⟨p, h1, h2⟩ => ⟨p, h1, decide_eq_true h2⟩⟩
  by_cases h : w ∈ S.map (·.1)
  · rw [if_pos (e.mpr h), if_pos h, List.map_map]
    refine List.map_congr_left fun p _ => ?_
    show (if p.1 = w then (p.1, v) else p).1 = p.1
    split <;> rfl
  · rw [if_neg (fun z => h (e.mp z)), if_neg h, List.map_append]; rfl
theorem keys_drop : (dropA S w).map (·.1) = (S.map (·.1)).filter fun x => decide (x ≠ w) := by
  unfold dropA
  rw [List.filter_map]; rfl
theorem nodup_put (h : (S.map (·.1)).Nodup) : ((putA S w v).map (·.1)).Nodup := by
  rw [keys_put]
  split
  · exact h
  · rename_i n
    exact List.nodup_append.mpr ⟨h, by simp, fun a ha b hb => by cases List.mem_singleton.mp hb; exact fun z => n (z ▸ ha)⟩
theorem nodup_drop (h : (S.map (·.1)).Nodup) : ((dropA S w).map (·.1)).Nodup := by
  rw [keys_drop]
  exact h.sublist List.filter_sublist
theorem len_putA : (putA S w v).length ≤ S.length + 1 := by
  unfold putA
  split
  · rw [List.length_map]; omega
  · simp
theorem len_dropA : (dropA S w).length ≤ S.length := List.length_filter_le _ _
theorem getA_mem (h : w ∈ S.map (·.1)) : ∃ v, getA S w = some v := by
  unfold getA
  cases e : S.find? fun p => decide (p.1 = w) with
  | some p => exact ⟨p.2, rfl⟩
  | none =>
    rw [List.find?_eq_none] at e
    obtain ⟨p, hp, rfl⟩ := List.mem_map.mp h
    exact absurd (decide_eq_true rfl) (e p hp)
theorem getA_none (h : w ∉ S.map (·.1)) : getA S w = none := by
  unfold getA
  rw [List.find?_eq_none.mpr fun p hp z => h (List.mem_map.mpr ⟨p, hp, of_decide_eq_true z⟩)]
  rfl
theorem getA_drop : getA (dropA S w) j = if j = w then none else getA S j := by
  unfold getA dropA
  induction S with
  | nil => split <;> rfl
  | cons p r ih =>
    rw [List.filter_cons]
    by_cases h : p.1 = w
    · rw [decide_eq_false (fun z => z h), if_neg Bool.false_ne_true, ih, List.find?_cons]
      by_cases h2 : j = w
      · rw [if_pos h2, if_pos h2]
      · rw [if_neg h2, if_neg h2, decide_eq_false (fun z => h2 (z.symm.trans h))]
    · rw [decide_eq_true h, if_pos rfl, List.find?_cons, List.find?_cons]
      by_cases h3 : p.1 = j
      · rw [decide_eq_true h3, if_neg (fun z => h (h3.trans z))]
      · rw [decide_eq_false h3]; exact ih
end
/-- strictly ascending lists with the same members -/
theorem asc_ext : ∀ {a b : List Int}, a.Pairwise (· < ·) → b.Pairwise (· < ·) → (∀ x, x ∈ a ↔ x ∈ b) → a = b
  | [], [], _, _, _ => rfl
  | [], y :: b, _, _, h => absurd ((h y).mpr (by simp)) (by simp)
  | x :: a, [], _, _, h => absurd ((h x).mp (by simp)) (by simp)
  | x :: a, y :: b, ha, hb, h => by
    obtain ⟨a1, a2⟩ := List.pairwise_cons.mp ha
    obtain ⟨b1, b2⟩ := List.pairwise_cons.mp hb
    have e : x = y := by
      rcases List.mem_cons.mp ((h x).mp (by simp)) with z | z
      · exact z
      · rcases List.mem_cons.mp ((h y).mpr (by simp)) with z' | z'
        · exact z'.symm
        · have := a1 _ z'
          have := b1 _ z
          omega
    subst e
    rw [asc_ext a2 b2 fun z => ?_]
    constructor
    · intro hz
      rcases List.mem_cons.mp ((h z).mp (List.mem_cons_of_mem _ hz)) with q | q
      · have := a1 _ hz
        omega
      · exact q
    · intro hz
      rcases List.mem_cons.mp ((h z).mpr (List.mem_cons_of_mem _ hz)) with q | q
      · have := b1 _ hz
        omega
      · exact q
theorem sortI_lt {ns : List Int} (h : ns.Nodup) : (sortI ns).Pairwise (· < ·) := by
  have nd : (sortI ns).Nodup := (sortI_perm ns).nodup_iff.mpr h
  exact (List.Pairwise.and (sortI_le ns) nd).imp fun {a b} h => by have := h.1; have := h.2; omega
theorem perm_sorted {ns ys : List Int} (h : ys.Perm ns) (p : ys.Pairwise (· ≤ ·)) : ys = sortI ns := by
  have h2 : ys.Perm (sortI ns) := h.trans (sortI_perm ns).symm
  exact h2.eq_of_pairwise (fun a b _ _ h1 h2 => Int.le_antisymm h1 h2) p (sortI_le ns)
theorem snoc_ind {α : Type} {P : List α → Prop} (h0 : P []) (h1 : ∀ l a, P l → P (l ++ [a])) (l : List α) : P l := by
  have : ∀ m : List α, P m.reverse := by
    intro m
    induction m with
    | nil => exact h0
    | cons a m ih => rw [List.reverse_cons]; exact h1 _ _ ih
  have := this l.reverse
  rw [List.reverse_reverse] at this
  exact this
end DL

/-! Part 36: sorting rows; walking what is counted. -/
namespace DL
open PySem PySem.Spec PyProof.Rows L2
theorem sortOk_rows {R : List (List Int)} (h : ∀ r ∈ R, r ≠ []) : SortOk (R.map tupI) := by
  refine ⟨PySem.W.AllAlike.of fun a b => ?_, .inl fun d hd => ?_, fun d hd => ?_⟩
  · show PySem.W.alike (.tuple (a.map .int)) (.tuple (b.map .int)) = true
    rw [PySem.W.alike]
    exact PySem.W.alike_ints a b
  · obtain ⟨r, hr, rfl⟩ := List.mem_map.mp hd
    cases r with
    | nil => exact absurd rfl (h _ hr)
    | cons a b => exact ⟨_, _, rfl⟩
  · obtain ⟨r, hr, rfl⟩ := List.mem_map.mp hd
    rw [PyData.depth, PySem.W.depth_ints]
    decide
theorem sortL_map {α : Type} (e : α → PyData) (l : List α) : sortL (l.map e) = (l.mergeSort fun a b => PySem.W.dataLe false id (e a) (e b)).map e := by
  unfold sortL
  refine (List.map_mergeSort fun a _ b _ => ?_).symm
  rfl
theorem enumD_map {α : Type} (e : α → PyData) (d : α) (l : List α) : enumD (l.map e) = (List.range l.length).map fun i => .d (.tuple [.int (i : Nat), e (l.getD i d)]) := by
  unfold enumD
  rw [List.length_map]
  refine List.map_congr_left fun i hi => ?_
  have hi := List.mem_range.mp hi
  rw [List.getD_eq_getElem?_getD, List.getD_eq_getElem?_getD, List.getElem?_map, List.getElem?_eq_getElem hi]
  rfl
theorem x_truM {M : MHp} {a : Addr} {ys : List PyData} {K : Bool → Prop} (h : M a = some (.ls ys)) (q : K (!ys.isEmpty)) : truD M (.r a) K := by
  unfold truD
  simp only [h]
  exact q
section
variable {β γ : Type} {g : β → γ} {S : List (Int × β)} {w : Int} {v : β}
abbrev mapA (g : β → γ) (S : List (Int × β)) : List (Int × γ) := S.map fun p => (p.1, g p.2)
theorem getA_map : getA (mapA g S) w = (getA S w).map g := by
  unfold getA mapA
  induction S with
  | nil => rfl
  | cons p r ih =>
    rw [List.map_cons, List.find?_cons, List.find?_cons]
    by_cases h : p.1 = w
    · rw [decide_eq_true h]; rfl
    · rw [decide_eq_false h]; exact ih
theorem keys_map : (mapA g S).map (·.1) = S.map (·.1) := by unfold mapA; rw [List.map_map]; rfl
theorem putA_map : putA (mapA g S) w (g v) = mapA g (putA S w v) := by
  unfold putA mapA
  have e : ((S.map fun p => (p.1, g p.2)).any fun p => decide (p.1 = w)) = S.any fun p => decide (p.1 = w) := by rw [List.any_map]; rfl
  rw [e]
  split
  · rw [List.map_map, List.map_map]
    refine List.map_congr_left fun p _ => ?_
    show (if p.1 = w then (p.1, g v) else (p.1, g p.2)) = ((if p.1 = w then (p.1, v) else p).1, g (if p.1 = w then (p.1, v) else p).2)
    by_cases h : p.1 = w
    · rw [if_pos h, if_pos h]
    · rw [if_neg h, if_neg h]
  · rw [List.map_append]; rfl
theorem dropA_map : dropA (mapA g S) w = mapA g (dropA S w) := by
  unfold dropA mapA
  rw [List.filter_map]; rfl
end
theorem mle_mu {M M1 : MHp} {a : Addr} {o : MO} (h : M1 a = some o) (k : ∀ b, b ≠ a → M b ≠ none → M1 b = M b) : MLe (mu M a o) M1 := fun b u e => by
  by_cases hb : b = a
  · subst hb
    rw [mu_same] at e; cases e; exact h
  · rw [mu_ne hb] at e
    rw [k b hb (by rw [e]; nofun)]
    exact e
theorem atL_last {α β : Type} {e : α → β} {l : List α} {a : α} (h : l.getLast? = some a) : atI (l.map e) (-1) = some (e a) := by
  have hl : l ≠ [] := by rintro rfl; cases h
  have hp := List.length_pos_iff.mpr hl
  rw [List.getLast?_eq_getElem?] at h
  unfold atI ixN
  rw [List.length_map, if_neg (by omega), if_pos (by omega)]
  show (l.map e)[(-1 + (l.length : Int)).toNat]? = some (e a)
  rw [show (-1 + (l.length : Int)).toNat = l.length - 1 by omega, List.getElem?_map, h]
  rfl
theorem delM_at {M : MHp} {a b : Addr} {o : Option MO} (h : b ≠ a) (e : M b = o) : delM M a b = o := by rw [delM_ne h]; exact e
theorem sortI_filter (p : Int → Bool) {ns : List Int} : sortI (ns.filter p) = (sortI ns).filter p := by
  have h1 := sortI_perm (ns.filter p)
  have h2 := (sortI_perm ns).filter p
  exact (h1.trans h2.symm).eq_of_pairwise (fun a b _ _ h1 h2 => Int.le_antisymm h1 h2) (sortI_le _) ((sortI_le ns).sublist List.filter_sublist)
end DL

/-! Part 37: sets of what is looked up by value (ints, texts): set(..), its length, its members sorted. -/
namespace DL
open PySem PySem.Spec PyProof.Rows L2

noncomputable section
variable {P : Program} {w : World} {κ : Type} [DecidableEq κ] [Inhabited κ] (kd : KeyKind P w κ)
def keyE (e : Int × Value) : κ := open Classical in if h : ∃ k, kd.is k e.2 = true then Classical.choose h else default
theorem keyE_of {e : Int × Value} {k : κ} (h : kd.is k e.2 = true) : keyE kd e = k := by
  unfold keyE
  have hx : ∃ k, kd.is k e.2 = true := ⟨k, h⟩
  rw [dif_pos hx]
  exact kd.inj _ _ _ (Classical.choose_spec hx) h
theorem el_is {l : List (Int × Value)} (g : ElemsOf kd l) {e : Int × Value} (he : e ∈ l) (k : κ) : kd.is k e.2 = true ↔ keyE kd e = k := by
  obtain ⟨⟨k0, h1, _⟩, _⟩ := g e he
  constructor
  · exact keyE_of kd
  · rintro rfl
    rw [keyE_of kd h1]
    exact h1
theorem el_mem {l : List (Int × Value)} (g : ElemsOf kd l) (k : κ) : k ∈ l.map (keyE kd) ↔ ∃ e ∈ l, kd.is k e.2 = true := by
  rw [List.mem_map]
  exact ⟨fun ⟨e, he, q⟩ => ⟨e, he, (el_is kd g he k).2 q⟩, fun ⟨e, he, q⟩ => ⟨e, he, (el_is kd g he k).1 q⟩⟩
/-- what a set's entries are like -/
structure EntG (es : Array (Int × Value)) (t : SetTable) (S : κ → Bool) (n : Nat) : Prop where
  el : ElemsOf kd es.toList
  nd : (es.toList.map (keyE kd)).Nodup
  mem : ∀ k, S k = true ↔ k ∈ es.toList.map (keyE kd)
  few : es.size < scanBound
  fit : t.fits es.size = true
  num : es.size = n
  ris : Ris t.place.toList
  led : w.params.followText "set-order" = true ∨ t.led = true
def SetG (h : Heap) (a : Addr) (S : κ → Bool) (n : Nat) : Prop := ∃ o es ep t, h.get? a = some o ∧ o.ExactSet ∧ o.data = .set es ep t ∧ EntG kd es t S n
variable {kd}
theorem SetG.at {h h' : Heap} {a : Addr} {S : κ → Bool} {n : Nat} (R : SetG kd h a S n) (k : ∀ o, h.get? a = some o → h'.get? a = some o) : SetG kd h' a S n := by
  obtain ⟨o, es, ep, t, e0, r⟩ := R
  exact ⟨o, es, ep, t, k o e0, r⟩
theorem SetG.congr {h : Heap} {a : Addr} {S S' : κ → Bool} {n : Nat} (R : SetG kd h a S n) (e : ∀ k, S' k = S k) : SetG kd h a S' n := by rw [show S' = S from funext e]; exact R
section
variable {A : Around} {E : Value → Shared → Prop} {s : Shared} {a : Addr} {S : κ → Bool} {n : Nat}
theorem setG_tail {g : Bool → Sem Unit} (hg : ∀ (b : Bool) (s₁ : Shared) (Q' : Unit → Shared → Prop), Q' () s₁ → wpAny (model P w) A (g b) Q' E s₁) {o : Obj} {es : Array (Int × Value)} {ep : Nat} {t : SetTable} (e0 : s.heap.get? a = some o) (ex : o.ExactSet) (ed : o.data = .set es ep t)
    {es1 : Array (Int × Value)} {t2 : SetTable} {S' : κ → Bool} (G : EntG kd es1 t2 S' es1.size) {wasDummy : Bool} {R : Option Bool → Shared → Prop} (hR : ∀ h', Heap.SameBut a s.heap h' → SetG kd h' a S' es1.size → R (some true) { s with heap := h' }) :
    wpAny (model P w) A (do
        storeSet a es1 t2
        if (!wasDummy && t2.tooFull) = true then do
            g (relayAll t2 es1 (SetTable.grown es1.size)).2.2
            storeSet a (relayAll t2 es1 (SetTable.grown es1.size)).1 (relayAll t2 es1 (SetTable.grown es1.size)).2.1
            pure (some true)
          else pure (some true)) R E s := by
  refine wpAny_bind (wpAny_storeSet_of e0 ed ?_ (fits_of_scanBound G.few))
  have e1 := store_at (es' := es1) (t' := t2) e0 ed; have b1 := Heap.SameBut.update s.heap a (Obj.putSet es1 t2)
  split
  · have pm := relayAll_perm t2 es1 (SetTable.grown es1.size); have f3 := relayAll_fits t2 es1 (SetTable.grown es1.size); have r3 := relayAll_ris t2 es1 (SetTable.grown es1.size); have l3 := relayAll_led t2 es1 (SetTable.grown es1.size)
    generalize relayAll t2 es1 (SetTable.grown es1.size) = Z at pm f3 r3 l3 ⊢
    obtain ⟨es2, t3, gave⟩ := Z
    dsimp only at pm f3 r3 l3 ⊢
    have sz : es2.size = es1.size := by rw [← Array.length_toList, pm.length_eq, Array.length_toList]
    refine wpAny_bind (hg _ _ _ (wpAny_bind (wpAny_storeSet_of e1 rfl ?_ (fits_of_scanBound (by rw [sz]; exact G.few)))))
    refine wpAny_pure (hR _ (b1.trans (Heap.SameBut.update _ a _)) ⟨_, es2, _, t3, store_at (es' := es2) (t' := t3) e1 rfl, ex, rfl, ⟨fun e he => G.el e (pm.mem_iff.mp he), (pm.map _).nodup_iff.mpr G.nd, fun k => (G.mem k).trans (pm.map _).mem_iff.symm, by rw [sz]; exact G.few, f3, sz, r3, G.led.imp id fun z => by rw [l3]; exact z⟩⟩)
  · exact wpAny_pure (hR _ b1 ⟨_, es1, _, t2, e1, ex, rfl, G⟩)
theorem setG_add {k : κ} {v : Value} (hk : kd.is k v = true) (sc : v.scannable = true) {Q : Bool → Shared → Prop} (R : SetG kd s.heap a S n) (room : n + 1 < scanBound)
    (hQ : ∀ h', Heap.SameBut a s.heap h' → SetG kd h' a (fun j => S j || decide (j = k)) (if S k = true then n else n + 1) → Q (!S k) { s with heap := h' }) : wpAny (model P w) A (setAddHashed a v (kd.hash k)) Q E s := by
  obtain ⟨o, es, ep, t, e0, ex, ed, G⟩ := R
  have el := G.el; have fit := G.fit
  unfold setAddHashed setAddHashedIn
  refine wpAny_holding (wpAny_bind (wpAny_setState_of e0 ed fit ?_)); dsimp only; rw [byScan_of sc G.few el]; simp only [↓reduceIte]
  unfold setAddByScan
  refine wpAny_bind (wpAny_bind (wpAny_rule (wpAny_bind (wpAny_setScan_of hk e0 ed fit el ?_))))
  cases hf : List.findIdx? (fun e => kd.is k e.2) es.toList with
  | some j =>
    dsimp only
    obtain ⟨hj, pj, _⟩ := List.findIdx?_eq_some_iff_getElem.mp hf
    have Sk : S k = true := (G.mem k).2 ((el_mem kd el k).2 ⟨es.toList[j], List.getElem_mem hj, pj⟩)
    have q := hQ s.heap (Heap.SameBut.refl a s.heap) ⟨o, es, ep, t, e0, ex, ed, ⟨el, G.nd, fun i => by
      rw [Bool.or_eq_true, decide_eq_true_eq, ← G.mem i]
      exact ⟨fun z => z.elim id (fun e => e ▸ Sk), .inl⟩, G.few, fit, by rw [if_pos Sk]; exact G.num, G.ris, G.led⟩⟩
    rw [Sk] at q
    exact wpAny_pure (wpAny_pure q)
  | none =>
    dsimp only
    have nk : k ∉ es.toList.map (keyE kd) := fun z => by
      obtain ⟨e, he, q⟩ := (el_mem kd el k).1 z
      have c := List.findIdx?_eq_none_iff.mp hf e he
      rw [q] at c; cases c
    have Sk : S k = false := by
      cases q : S k with
      | false => rfl
      | true => exact absurd ((G.mem k).1 q) nk
    have gw : ∀ (b : Bool) {s₁ : Shared} {Q' : Unit → Shared → Prop}, Q' () s₁ → wpAny (model P w) A (match b with | true => rule "set.scan.the-table-gave-way" | false => pure ()) Q' E s₁ := fun b s₁ Q' q => by
      cases b <;> first | exact wpAny_pure q | exact wpAny_rule q
    have pm := layNew_perm t es (kd.hash k) v; have f1 := layNew_fits t es (kd.hash k) v; have r1 := layNew_ris t es (kd.hash k) v G.ris; have l1 := layNew_led t es (kd.hash k) v
    generalize layNew t es (kd.hash k) v = Z at pm f1 r1 l1 ⊢
    obtain ⟨es1, t1, wasDummy, gave⟩ := Z
    dsimp only at pm f1 r1 l1 ⊢
    rw [Array.toList_push] at pm
    have pc : es1.toList.Perm ((kd.hash k, v) :: es.toList) := pm.trans (List.perm_append_singleton _ _)
    have pk : (es1.toList.map (keyE kd)).Perm (k :: es.toList.map (keyE kd)) := by
      have q := pc.map (keyE kd)
      rw [List.map_cons, keyE_of kd (e := (kd.hash k, v)) hk] at q
      exact q
    have sz : es1.size = n + 1 := by rw [← Array.length_toList, pc.length_eq, List.length_cons, Array.length_toList, G.num]
    have G1 : ∀ {t2 : SetTable}, t2.fits es1.size = true → Ris t2.place.toList → (w.params.followText "set-order" = true ∨ t2.led = true) → EntG kd es1 t2 (fun j => S j || decide (j = k)) es1.size := fun {t2} h1 h2 h3 =>
      ⟨fun e he => by
        rcases List.mem_cons.mp (pc.mem_iff.mp he) with z | z
        · rw [z]; exact ⟨⟨k, hk, rfl⟩, sc⟩
        · exact el e z, pk.nodup_iff.mpr (List.nodup_cons.mpr ⟨nk, G.nd⟩), fun i => by
        rw [Bool.or_eq_true, decide_eq_true_eq, G.mem i, pk.mem_iff, List.mem_cons]
        exact Or.comm, by rw [sz]; exact room, h1, rfl, h2, h3⟩
    have led1 : w.params.followText "set-order" = true ∨ t1.led = true := G.led.imp id fun z => by rw [l1]; exact z
    have fin : ∀ h', Heap.SameBut a s.heap h' → SetG kd h' a (fun j => S j || decide (j = k)) es1.size → Q true { s with heap := h' } := fun h' sb r => by
      have q := hQ h' sb
      rw [Sk] at q; rw [sz] at r
      exact q r
    refine wpAny_bind (gw _ ?_)
    split
    · refine wpAny_bind ?_; rw [hashByValue_scannable 8 sc]; refine wpAny_pure ?_
      refine setG_tail ?_ e0 ex ed (G1 ?_ ?_ ?_) ?_
      · intro b s₁ Q' q
        cases b <;> first | exact wpAny_pure q | exact wpAny_rule q
      · first | (split <;> first | exact f1 | exact SetTable.fits_plain_off f1) | exact f1
      · first | (split <;> exact r1) | exact r1
      · first | (split <;> exact led1) | exact led1
      · intro h' sb r
        dsimp only
        exact wpAny_pure (fin h' sb r)
    · refine wpAny_bind (wpAny_pure ?_); simp only [↓reduceIte]
      refine setG_tail ?_ e0 ex ed (G1 f1 r1 led1) ?_
      · intro b s₁ Q' q
        cases b <;> first | exact wpAny_pure q | exact wpAny_rule q
      · intro h' sb r
        dsimp only
        exact wpAny_pure (fin h' sb r)
/-- the loop of set(xs) -/
theorem setG_loop {I : Addr} {fp wr : List Addr} {Gs : Array GenState → Array GenState → Prop} {m : Nat} {Pv : Nat → Value → Prop} {St : Nat → Shared → Prop} {R : Result → Shared → Prop} (W : WalksS P w A.in1 I fp wr Gs m Pv St) (D : Addr) (Df : D ∉ fp) (ks : List κ) (hm : m = ks.length) (hb : ks.length + 1 < scanBound)
    (hv : ∀ i v, Pv i v → ∃ k, ks[i]? = some k ∧ kd.is k v = true ∧ v.scannable = true) : ∀ (q i : Nat) (s : Shared), m - i = q → i ≤ m → St i s → (∃ c, c ≤ i ∧ SetG kd s.heap D (fun j => decide (j ∈ ks.take i)) c) →
      (∀ s' c, Moved (D :: wr) Gs s s' → c ≤ m → SetG kd s'.heap D (fun j => decide (j ∈ ks)) c → R (.ok (.ret .none)) s') → codeAny (model P w) A (.builtin "set.update.loop" ⟨[.ref D, .ref I], []⟩) R s := by
  have Dw : D ∉ wr := fun h => Df (W.sub _ h)
  have sub : ∀ b ∈ wr, b ∈ D :: wr := fun b hb => List.mem_cons_of_mem _ hb
  intro q
  induction q with
  | zero =>
    intro i s hq hi st ⟨c, hc, hS⟩ hR
    have im : i = m := by omega
    subst im
    refine codeAny_builtin F.entry_set_update_loop ?_; rw [Around.under_plainId F.plain_set_update_loop _]
    show wpAny _ A.in1 (pyNext (.ref I) >>= _) _ _ s
    refine wpAny_bind (W.done s _ _ st fun s' hm => ?_); show wpAny _ A.in1 (ret Value.none) _ _ s'
    rw [show ks.take i = ks from List.take_of_length_le (by omega)] at hS
    exact wpAny_pure (hR s' c (hm.mono sub) hc (hS.at fun o e => hm.heap D o Dw e))
  | succ q ih =>
    intro i s hq hi st ⟨c, hc, hS⟩ hR
    have hlt : i < m := by omega
    refine codeAny_builtin F.entry_set_update_loop ?_; rw [Around.under_plainId F.plain_set_update_loop _]
    show wpAny _ A.in1 (pyNext (.ref I) >>= _) _ _ s
    refine wpAny_bind (W.item i s _ _ hlt st fun v s' hP st' hm => ?_)
    obtain ⟨k, hk, is, sc⟩ := hv i v hP
    have hS' : SetG kd s'.heap D (fun j => decide (j ∈ ks.take i)) c := hS.at fun o e => hm.heap D o Dw e
    show wpAny _ A.in1 (holding [v] (setAdd D v) >>= _) _ _ s'
    refine wpAny_bind (wpAny_holding ?_); unfold setAdd; refine wpAny_holding (wpAny_bind (kd.pyHash is ?_))
    refine setG_add (s := { s' with toks := s'.toks + 1 }) is sc hS' (by omega) fun h' sb hS2 => ?_
    have hS3 : SetG kd h' D (fun j => decide (j ∈ ks.take (i + 1))) (if decide (k ∈ ks.take i) = true then c else c + 1) := hS2.congr fun j => by
      rw [List.take_add_one, hk]; simp [List.mem_append]
    have c3 : (if decide (k ∈ ks.take i) = true then c else c + 1) ≤ i + 1 := by split <;> omega
    refine wpAny_pure ⟨plainId_quiet F.plain_set_update_loop _, ih (i + 1) _ (by omega) hlt (W.frame _ s' _ _ st' (Nat.le_succ _) fun b hb o e => ?_) ⟨_, c3, hS3⟩ fun s'' c2 hm2 hc2 hS4 => hR s'' c2 (Moved.trans W.gtrans ((hm.mono sub).then_heap (Nat.le_succ _) fun b o hb e => ?_) hm2) hc2 hS4⟩
    · rw [sb.2 b (fun h : b = D => Df (by rw [← h]; exact hb))]; exact e
    · rw [sb.2 b (fun h : b = D => hb (by rw [h]; exact List.mem_cons_self))]; exact e
/-- set(a tuple): what the set is at the end is the loop's word -/
theorem set_of_tup {l : Addr} {items : Array Value} {G : Heap → Prop} {Q : Value → Shared → Prop} (hh : A.handled = none) (hl : s.heap.IsTuple l items)
    (loop : ∀ (A' : Around) (I : Addr) (h2 : Heap) (R : Result → Shared → Prop), A'.in1.handled = none → A'.units ≤ A.units + 2 → I = s.heap.objs.size + 1 → (∀ b o, s.heap.get? b = some o → h2.get? b = some o) → h2.get? s.heap.objs.size = some (newSet w) → h2.IsTupleIter I l 0 → h2.IsTuple l items →
      (∀ h3 tk3, (∀ b o, b ≠ s.heap.objs.size → b ≠ I → h2.get? b = some o → h3.get? b = some o) → G h3 → R (.ok (.ret .none)) { s with heap := h3, toks := tk3 }) →
      codeAny (model P w) A' (.builtin "set.update.loop" ⟨[.ref s.heap.objs.size, .ref I], []⟩) R { s with heap := h2 })
    (h : ∀ (h' : Heap) (tk : Nat), G h' → (∀ b o, s.heap.get? b = some o → h'.get? b = some o) → Q (.ref s.heap.objs.size) { s with heap := h', toks := tk }) :
    wpAny (model P w) A (call (.type "set") [.ref l]) Q E s := by
  obtain ⟨c, tl, hmro⟩ := F.called_set.mro; have hmade := F.called_set.made; have hsub := F.called_set.sub
  refine wpAny_call (codeAny_of_tree ?_); show wpAny _ _ (callAny (.type "set") _) _ _ _
  refine wpAny_pure ⟨Code.quiet_builtin _ (by decide +kernel), codeAny_builtin F.entry_type_call ?_⟩; rw [Around.under_plain (weight_type_call_type "set" [.ref l] []) rfl]
  have h1 := F.called_set.notType; have h2 := F.called_set.canCreate
  have hct := F.typeCall_set_1 (.ref l); repeat (any_goals (first | assumption | wp_step))
  refine codeAny_mono (code_set_led1 (.ref l) (E := E) (Q₁ := fun obj s₁ => obj = .ref s.heap.objs.size ∧ s₁ = { s with heap := s.heap.push (newSet w) }) ⟨rfl, rfl⟩) fun r s₁ hr => ?_
  cases r with
  | error e => exact hr
  | ok fl =>
    cases fl with
    | ret obj =>
      obtain ⟨rfl, rfl⟩ := hr
      have hS : (s.heap.push (newSet w)).get? s.heap.objs.size = some (newSet w) := Heap.get?_push_size _ rfl
      have hT : Shared.TypeIs { s with heap := s.heap.push (newSet w) } (.ref s.heap.objs.size) "set" := ⟨_, hS, rfl⟩
      have hli := F.called_set.init.lookup; have hbi := F.called_set.init.bind (.ref s.heap.objs.size)
      repeat (any_goals (first | assumption | wp_step))
      refine codeAny_mono (codeAny_call_builtin (R := wants (fun r s₂ => r = .none ∧ ∃ h' tk, s₂ = { s with heap := h', toks := tk } ∧ G h' ∧ (∀ b o, s.heap.get? b = some o → h'.get? b = some o)) E) F.called_set.init.plain F.entry_set_init (check_set_init_1 hT ?_)) fun r₂ s₂ hr₂ => ?_
      · obtain ⟨ol, hol, hcl, nl, hdl⟩ := hl; obtain ⟨ocls, odict, odata, oslots⟩ := ol
        simp only at hcl hdl
        subst hcl; subst hdl
        have hol' : (s.heap.push (newSet w)).get? l = some { cls := .type "tuple", dict := odict, data := .seq items nl, slots := oslots } := Heap.get?_push_of_some _ hol
        have hsls := F.sub_tuple_set; have hslf := F.sub_tuple_frozenset
        have hne : (Value.type "tuple" == Value.type "dict") = false := by decide
        have hl1 : (s.heap.push (newSet w)).IsTuple l items := ⟨_, hol', rfl, nl, rfl⟩
        unfold Builtin.«set.__init__» noKeywords Builtin.Frozenset.updateFrom
        generalize hPI : pyIter = PI
        wp_walk
        subst hPI
        refine wpAny_pyIter_tuple hl1 ?_; refine wpAny_bind (wpAny_runValue ?_)
        have hz : (s.heap.push (newSet w)).objs.size = s.heap.objs.size + 1 := Heap.size_push ..
        refine loop _ (s.heap.push (newSet w)).objs.size _ _ (by simp [hh]) (by simp [Around.in1]) hz (fun b o e => Heap.get?_push_of_some _ (Heap.get?_push_of_some _ e)) (Heap.get?_push_of_some _ hS) ⟨_, Heap.get?_push_size _ rfl, rfl, rfl⟩ (hl1.push _) fun h3 tk3 k3 g3 => ?_
        show wpAny _ _ _ _ _ _
        refine wpAny_pure ?_; show wpAny _ _ (ret Value.none) _ _ _
        refine wpAny_pure ⟨rfl, h3, tk3, rfl, g3, fun b o e => ?_⟩
        have hb0 : b < s.heap.objs.size := Heap.lt_size e
        exact k3 b o (Nat.ne_of_lt hb0) (by rw [hz]; exact Nat.ne_of_lt (Nat.lt_succ_of_lt hb0)) (Heap.get?_push_of_some _ (Heap.get?_push_of_some _ e))
      · cases r₂ with
        | error e => exact hr₂
        | ok fl₂ =>
          cases fl₂ with
          | ret r =>
            obtain ⟨rfl, h', tk, rfl, g', hk'⟩ := hr₂
            repeat (any_goals (first | assumption | wp_step))
            exact h _ _ g' hk'
          | _ => exact hr₂.elim
    | _ => exact hr.elim
theorem setG_new {h : Heap} {ks : List κ} (ho : h.get? a = some (newSet w)) : SetG kd h a (fun j => decide (j ∈ ks.take 0)) 0 :=
  ⟨_, #[], 0, _, ho, ⟨rfl, rfl, rfl⟩, rfl, ⟨(fun e he => (by simp at he)), (by simp), (fun k => by simp), (by decide), (by rfl), rfl, List.Pairwise.nil, by
    show _ ∨ (!w.params.followText "set-order") = true
    cases w.params.followText "set-order"
    · exact .inr rfl
    · exact .inl rfl⟩⟩
/-- set(a list or a tuple of keys) -/
theorem set_keys {l : Addr} {items : Array Value} (ks : List κ) {Q : Value → Shared → Prop} (hh : A.handled = none) (hl : s.heap.IsList l items ∨ s.heap.IsTuple l items) (hsz : items.size = ks.length) (hv : ∀ (i : Nat) (v : Value), items[i]? = some v → ∃ k, ks[i]? = some k ∧ kd.is k v = true ∧ v.scannable = true) (hb : ks.length + 1 < scanBound)
    (h : ∀ (h' : Heap) (tk c : Nat), SetG kd h' s.heap.objs.size (fun j => decide (j ∈ ks)) c → c ≤ ks.length → (∀ b o, s.heap.get? b = some o → h'.get? b = some o) → Q (.ref s.heap.objs.size) { s with heap := h', toks := tk }) :
    wpAny (model P w) A (call (.type "set") [.ref l]) Q E s := by
  have hlS : l < s.heap.objs.size := by
    rcases hl with hl | hl
    · obtain ⟨o, ho, _⟩ := hl; exact Heap.lt_size ho
    · obtain ⟨o, ho, _⟩ := hl; exact Heap.lt_size ho
  have fin : ∀ {I : Addr} {h2 : Heap} {R : Result → Shared → Prop} {A' : Around} {St : Nat → Shared → Prop}, WalksS P w A'.in1 I [I, l] [I] (fun a b => b = a) items.size (fun i v => items[i]? = some v) St → I = s.heap.objs.size + 1 → h2.get? s.heap.objs.size = some (newSet w) → St 0 { s with heap := h2 } →
      (∀ h3 tk3, (∀ b o, b ≠ s.heap.objs.size → b ≠ I → h2.get? b = some o → h3.get? b = some o) → (∃ c, c ≤ ks.length ∧ SetG kd h3 s.heap.objs.size (fun j => decide (j ∈ ks)) c) → R (.ok (.ret .none)) { s with heap := h3, toks := tk3 }) →
      codeAny (model P w) A' (.builtin "set.update.loop" ⟨[.ref s.heap.objs.size, .ref I], []⟩) R { s with heap := h2 } := by
    intro I h2 R A' St W hI hS st hR
    have Sf : s.heap.objs.size ∉ [I, l] := by
      simp only [List.mem_cons, List.not_mem_nil, or_false, not_or]
      exact ⟨by rw [hI]; exact Nat.ne_of_lt (Nat.lt_succ_self _), Nat.ne_of_gt hlS⟩
    refine setG_loop W s.heap.objs.size Sf ks hsz hb hv (items.size - 0) 0 _ (by omega) (Nat.zero_le _) st ⟨0, Nat.le_refl 0, setG_new hS⟩ fun s' c' hm hc' hS' => ?_
    obtain ⟨h3, g3, d3, tk3, os3⟩ := s'
    have eg : g3 = s.gens := hm.gens; have ed : d3 = s.drawn := hm.drawn; have eo : os3 = s.os := hm.os
    subst eg; subst ed; subst eo
    exact hR h3 tk3 (fun b o n1 n2 e => hm.heap b o (by simp only [List.mem_cons, List.not_mem_nil, or_false, not_or]; exact ⟨n1, n2⟩) e) ⟨c', by rw [← hsz]; exact hc', hS'⟩
  rcases hl with hl | hl
  · refine set_of_list (G := fun h' => ∃ c, c ≤ ks.length ∧ SetG kd h' s.heap.objs.size (fun j => decide (j ∈ ks)) c) hh hl (fun A' I h2 R hA hu hI k hS hit hl2 hR => ?_) fun h' tk ⟨c, hc, g⟩ k => h h' tk c g hc k
    have hne : l ≠ I := by rw [hI]; exact Nat.ne_of_lt (Nat.lt_succ_of_lt hlS)
    exact fin (Walks.list hA _ l hne items).toS hI hS ⟨hit, hl2⟩ hR
  · refine set_of_tup (G := fun h' => ∃ c, c ≤ ks.length ∧ SetG kd h' s.heap.objs.size (fun j => decide (j ∈ ks)) c) hh hl (fun A' I h2 R hA hu hI k hS hit hl2 hR => ?_) fun h' tk ⟨c, hc, g⟩ k => h h' tk c g hc k
    have hne : l ≠ I := by rw [hI]; exact Nat.ne_of_lt (Nat.lt_succ_of_lt hlS)
    exact fin (Walks.tuple hA _ l hne items).toS hI hS ⟨hit, hl2⟩ hR
end
end
end DL

/-! Part 38: sorted(set(e)), len(set(e)) of ints and of texts. -/
namespace DL
open PySem PySem.Spec PyProof.Rows L2

/-- keys as data, as values -/
structure EncK {P : Program} {w : World} {κ : Type} [DecidableEq κ] (kd : KeyKind P w κ) (enc : κ → PyData) (vk : κ → V) : Prop where
  rel : ∀ {k u}, RelV (vk k) u → kd.is k u = true ∧ u.scannable = true
  back : ∀ {k u}, kd.is k u = true → RelV (vk k) u
  dp : ∀ {K : PySem.W.Frag} {F : Hp} {v : V} {k : κ}, Dp K F v (enc k) → v = vk k
  pd : ∀ {K : PySem.W.Frag} {F : Hp} (k : κ), Dp K F (vk k) (enc k)
  rd : ∀ {h : Heap} {k u}, kd.is k u = true → Reads h u (enc k) []
  dep : ∀ k, (enc k).depth = 0
  ali : ∀ a b, PySem.W.alike (enc a) (enc b) = true
  oth : ∀ k, enc k ≠ .none ∧ ∀ xs, enc k ≠ .tuple xs
section
variable {P : Program} {w : World}
theorem enc_str : EncK (strKind P w) PyData.str V.str where
  rel := fun {k u} ⟨t, e⟩ => by subst e; exact ⟨Froz.is_str k t, rfl⟩
  back := fun {k u} h => by obtain ⟨t, rfl⟩ := Value.isStrOf_shape h; exact ⟨t, rfl⟩
  dp := fun h => by cases h; rfl
  pd := fun k => .str k
  rd := fun {h k u} q => by obtain ⟨t, rfl⟩ := Value.isStrOf_shape q; exact .str _ _
  dep := fun _ => rfl
  ali := fun _ _ => rfl
  oth := fun _ => ⟨nofun, nofun⟩
theorem enc_int : EncK (intKind P w) PyData.int V.int where
  rel := fun {k u} ⟨t, e⟩ => by subst e; exact ⟨intKind_is P w k t, rfl⟩
  back := fun {k u} h => by
    cases u with
    | int j t => exact ⟨t, by rw [show j = k from (by simpa using (show (j == k) = true from h))]⟩
    | _ => cases h
  dp := fun h => by cases h; rfl
  pd := fun k => .int k
  rd := fun {h k u} q => by
    cases u with
    | int j t =>
      have : j = k := by simpa using (show (j == k) = true from q)
      subst this
      exact .int _ _
    | _ => cases q
  dep := fun _ => rfl
  ali := fun _ _ => rfl
  oth := fun _ => ⟨nofun, nofun⟩
end
section
variable {P : Program} {w : World} {κ : Type} [DecidableEq κ] [Inhabited κ] {kd : KeyKind P w κ} {enc : κ → PyData} {vk : κ → V}
def sortK (enc : κ → PyData) (ks : List κ) : List κ := ks.mergeSort (PySem.W.dataLe false enc)
theorem sortK_perm (ks : List κ) : (sortK enc ks).Perm ks := List.mergeSort_perm _ _
theorem dp_list (C : EncK kd enc vk) {K : PySem.W.Frag} {F : Hp} : ∀ {ks : List κ} {vs : List V}, DpAll K F vs (ks.map enc) → vs = ks.map vk
  | [], _, h => by cases h; rfl
  | k :: r, _, h => by
    rw [List.map_cons] at h
    cases h with
    | cons h1 h2 => rw [C.dp h1, dp_list C h2]; rfl
theorem pd_list (C : EncK kd enc vk) {K : PySem.W.Frag} {F : Hp} : ∀ ks : List κ, DpAll K F (ks.map vk) (ks.map enc)
  | [] => .nil
  | k :: r => .cons (C.pd k) (pd_list C r)
theorem vals_at (C : EncK kd enc vk) : ∀ {ks : List κ} {us : List Value}, Vals (ks.map vk) us → us.length = ks.length ∧ ∀ (i : Nat) (v : Value), us[i]? = some v → ∃ k, ks[i]? = some k ∧ kd.is k v = true ∧ v.scannable = true
  | [], _, h => by cases h; exact ⟨rfl, fun i v e => by simp at e⟩
  | k :: r, _, h => by
    rw [List.map_cons] at h
    cases h with
    | cons h1 h2 =>
      obtain ⟨l, q⟩ := vals_at C h2
      refine ⟨by simp [l], fun i v e => ?_⟩
      cases i with
      | zero => simp at e; subst e; exact ⟨k, rfl, C.rel h1⟩
      | succ i => obtain ⟨k', e', q'⟩ := q i v (by simpa using e); exact ⟨k', by simpa using e', q'⟩
theorem vals_each (C : EncK kd enc vk) : ∀ {us : List Value} {ks : List κ}, PySem.W.EachIs (fun v k => kd.is k v = true) us ks → Vals (ks.map vk) us
  | _, _, .nil => .nil
  | _, _, .cons h1 h2 => .cons (C.back h1) (vals_each C h2)
variable {A : Around} {E : Value → Shared → Prop} {s : Shared}
/-- sorted(a set) -/
theorem sorted_setG (C : EncK kd enc vk) {a : Addr} {S : κ → Bool} {n : Nat} {Q : Value → Shared → Prop} (R : SetG kd s.heap a S n) (hh : A.handled = none) (hu : A.units + 64 < cLine)
    (hQ : ∀ s' p (out : Array Value) (c : Nat) (ks : List κ), (∀ b o, s.heap.get? b = some o → s'.heap.get? b = some o) → s'.gens = s.gens → s'.os = s.os → s.heap.objs.size ≤ p →
      s'.heap.get? p = some (seqObj "list" out c) → PySem.W.EachIs (fun v k => kd.is k v = true) out.toList (sortK enc ks) → ks.Nodup → (∀ k, k ∈ ks ↔ S k = true) → ks.length < scanBound → Q (.ref p) s') :
    wpAny (model P w) A (call (.builtin "sorted") [.ref a]) Q E s := by
  obtain ⟨o, es, ep, t, ho, hex, hd, G⟩ := R
  refine Calls.call_function_entry kind_sorted plain_sorted entry_sorted (args_sorted1 _) ?_; unfold Builtin.«sorted»
  refine wpAny_bind (m := checkCount "sorted" 1 1 _) (wpAny_pure ?_); refine wpAny_bind (collect_set (A := A.in1) hh ⟨o, ho, hex.1, hd⟩ G.fit G.few G.ris G.led fun s1 vs k1 hz g1 o1 pm => ?_)
  have hvl : vs.length = es.size := by rw [pm.length_eq, List.length_map, Array.length_toList]
  have pk : (vs.map fun v => keyE kd (0, v)).Perm (es.toList.map (keyE kd)) := by
    have q := pm.map fun v => keyE kd (0, v)
    rw [List.map_map] at q
    exact q
  have e1 : PySem.W.EachIs (fun v k => kd.is k v = true) vs (vs.map fun v => keyE kd (0, v)) := by
    have all : ∀ v ∈ vs, kd.is (keyE kd (0, v)) v = true := fun v hv => by
      obtain ⟨e, he, q⟩ := List.mem_map.mp (pm.mem_iff.mp hv)
      obtain ⟨⟨k0, q1, _⟩, _⟩ := G.el e he
      subst q
      rw [keyE_of kd (e := (0, e.2)) q1]
      exact q1
    clear pk pm hvl
    induction vs with
    | nil => exact .nil
    | cons v r ih => exact .cons (all v (by simp)) (ih fun u hu => all u (List.mem_cons_of_mem _ hu))
  generalize (vs.map fun v => keyE kd (0, v)) = ks at pk e1
  have few := G.few
  have hsz : vs.length ≤ sizeLine := by rw [hvl, sizeLine_eq]; unfold scanBound at few; omega
  refine wpAny_bind (wpAny_newList ?_ hsz); have hoL : (s1.heap.push (seqObj "list" vs.toArray 0)).get? s1.heap.objs.size = some (seqObj "list" vs.toArray 0) := Heap.get?_push_size _ rfl
  refine wpAny_bind (wpAny_holding (PySem.W.list_sort_data (R := fun v (k : κ) => kd.is k v = true) (enc := enc) hoL e1 (e1.mono fun v k q => ⟨[], C.rd q, by simp⟩) (PySem.W.AllAlike.of fun a b => C.ali a b) (PySem.W.Sortable.others fun k => C.oth k) (by rw [← e1.length]; exact hsz) (fun b _ => ?_) fun out ho2 eo => ?_))
  · show A.in1.units + 1 + (enc b).depth < cLine
    rw [C.dep]
    have : A.in1.units = A.units + 1 := rfl
    omega
  · obtain ⟨c, hc⟩ := sortedHeap_at (vs := vs) (out := out.toArray) hoL
    refine wpAny_pure ⟨_, rfl, hQ _ s1.heap.objs.size out.toArray c ks (fun b u e => ?_) g1 o1 hz hc eo (pk.nodup_iff.mpr G.nd) (fun k => by rw [pk.mem_iff, ← G.mem k]) (by rw [← e1.length, hvl]; exact few)⟩
    have q := k1 b u e; have hlt := Heap.lt_size q
    show (sortedHeap (s1.heap.push (seqObj "list" vs.toArray 0)) s1.heap.objs.size vs out.toArray).get? b = some u
    rw [sortedHeap_old (Nat.ne_of_lt hlt) (by rw [size_push']; exact Nat.lt_succ_of_lt hlt)]; exact Heap.get?_push_of_some _ q
end
/-! ### the readings -/
def seqD : PyData → (List PyData → Prop) → Prop
  | .list xs, k => k xs
  | .tuple xs, k => k xs
  | _, _ => False
theorem seqD_rd {K : PySem.W.Frag} {M : MHp} {N : Hid} {H : Hp} {v : V} {d : PyData} {k : List PyData → Prop} (r1 : Rdd K M N H v d) (q : seqD d k) : ∃ p ws ds, v = .ref p ∧ (SqL K H p ws ∨ SqT K H p ws) ∧ DpAll K (fz M N H) ws ds ∧ k ds := by
  unfold seqD at q
  split at q
  · obtain ⟨p, ws, rfl, h1, h2⟩ := r1.list
    exact ⟨p, ws, _, rfl, .inl h1, h2, q⟩
  · obtain ⟨p, ws, rfl, h1, h2, _⟩ := r1.tuple
    exact ⟨p, ws, _, rfl, .inr h1, h2, q⟩
  · exact q.elim
/-- sorted(set(e)), e a list or a tuple of keys; len(set(e)) -/
def setS {κ : Type} [DecidableEq κ] (enc : κ → PyData) (d : PyData) (k : List κ → Prop) : Prop := seqD d fun xs => ∃ ns : List κ, xs = ns.map enc ∧ ns.length + 1 < scanBound ∧ ∀ ks : List κ, ks.Nodup → (∀ x, x ∈ ks ↔ x ∈ ns) → k ks
def eSrtSet {κ : Type} [DecidableEq κ] (enc : κ → PyData) (te : DTE) : DTE := fun ρ M P PX => te ρ M (fun x M1 => rd M1 x fun d => setS enc d fun ks => P (.d (.list ((sortK enc ks).map enc))) M1) PX
def eLenS {κ : Type} [DecidableEq κ] (enc : κ → PyData) (te : DTE) : DTE := fun ρ M P PX => te ρ M (fun x M1 => rd M1 x fun d => setS enc d fun ks => P (.d (.int ks.length)) M1) PX
section
variable {X : Cx} {W : WX} {a : Expr} {te : DTE} {p p2 q pos : Pos} {κ : Type} [DecidableEq κ] [Inhabited κ] {kd : KeyKind X.prog X.w κ} {enc : κ → PyData} {vk : κ → V}
/-- set(a): the set stands at the end of the heap -/
theorem setOf_run (C : EncK kd enc vk) (hc : X.calm = true) (hg2 : Gl X "set") (hm2 : X.mg "set" = none) (ha : DE X W a te)
    (na : starEach [a] X.env = (false, eval a X.env) :: starEach [] X.env) {pins : List (Addr × Obj)} {s : Shared} {σ : L2.St} {H : Hp} {Q2 : Value → Shared → Prop} (I : Inv X pins σ H s) {Z : List κ → Hp → Prop}
    (h : LE X.K W te σ H fun x H1 => ∃ l vs, x = .ref l ∧ (SqL X.K H1 l vs ∨ SqT X.K H1 l vs) ∧ ∃ ns : List κ, vs = ns.map vk ∧ ns.length + 1 < scanBound ∧ Z ns H1)
    (next : ∀ (s1 : Shared) (H1 : Hp) (ns : List κ) (h' : Heap) (tk c : Nat), Inv X pins σ H1 s1 → Z ns H1 → SetG kd h' s1.heap.objs.size (fun j => decide (j ∈ ns)) c → s1.heap.objs.size < h'.objs.size → (∀ b o, s1.heap.get? b = some o → h'.get? b = some o) → Q2 (.ref s1.heap.objs.size) { s1 with heap := h', toks := tk }) :
    wpAny (model X.prog X.w) X.A (eval (.Call (.Name "set" p2) [a] [] q) X.env) Q2 X.xe s := by
  refine Call_ (ld_blt I hg2 hm2 PyProof.Rows.boot_set ?_); refine PyProof.Rows.callWith_type1 (PyProof.Rows.args_cons (thn (ha.pe.run pins s σ H _ I h) fun v s1 ⟨x, H1, I1, r1, q1⟩ => PyProof.Rows.args_nil ?_) na) na rfl
  obtain ⟨l, vs, rfl, hq, ns, rfl, hb, q1⟩ := q1
  cases r1
  have hd := I1.ok.hd hc
  have go : ∀ {its : List Value}, Vals (ns.map vk) its → (s1.heap.IsList l its.toArray ∨ s1.heap.IsTuple l its.toArray) → wpAny (model X.prog X.w) X.A (call (.type "set") [.ref l]) Q2 X.xe s1 := fun {its} rv pl => by
    obtain ⟨l1, l2⟩ := vals_at C rv
    refine set_keys (kd := kd) ns hd pl (by rw [List.size_toArray]; exact l1) (fun i v e => l2 i v (by rw [List.getElem?_toArray] at e; exact e)) hb fun h' tk c R hcn k => ?_
    have lt : s1.heap.objs.size < h'.objs.size := by obtain ⟨o, _, _, _, e, _⟩ := R; exact Heap.lt_size e
    exact next s1 H1 ns h' tk c I1 q1 R lt k
  rcases hq with hq | hq
  · obtain ⟨its, rv, pl, hz⟩ := I1.list hq
    exact go rv (.inl pl.isList)
  · obtain ⟨its, rv, pl, hz⟩ := I1.tuple hq
    exact go rv (.inr pl)
theorem de_srtSet (C : EncK kd enc vk) (hc : X.calm = true) (hu : X.A.units + 64 < cLine) (ha : DE X W a te) (hm : X.mg "sorted" = none) (hm2 : X.mg "set" = none) (hg : Gl X "sorted" := by rfl) (hg2 : Gl X "set" := by rfl)
    (na : starEach [a] X.env = (false, eval a X.env) :: starEach [] X.env := by rfl) : DE X W (.Call (.Name "sorted" p) [.Call (.Name "set" p2) [a] [] q] [] pos) (eSrtSet enc te) :=
  ⟨⟨fun pins s σ H Q I h => by
    obtain ⟨ρ, M, N, P, PX, hs, hr, ht, hP, hX⟩ := h
    refine Call_ (ld_blt I hg hm PyProof.Rows.boot_sorted ?_); refine PyProof.Rows.callWith_builtin1 (PyProof.Rows.args_cons ?_ rfl) rfl rfl
    refine setOf_run C hc hg2 hm2 ha na I (Z := fun ns H1 => ∃ M1, HRel X.K M1 N H1 ∧ Af M N H M1 H1 ∧ ∀ ks : List κ, ks.Nodup → (∀ x, x ∈ ks ↔ x ∈ ns) → P (.d (.list ((sortK enc ks).map enc))) M1) ⟨ρ, M, N, _, PX, hs, hr, ht, fun x M1 v H1 p hr1 af1 iv => ?_, hX⟩ fun s1 H1 ns h' tk c I1 ⟨M1, hr1, af1, k1⟩ R lt k => PyProof.Rows.args_nil ?_
    · obtain ⟨d, r1, qq⟩ := rd_of hr1 iv p
      obtain ⟨l, ws, ds, rfl, h1, h2, ns, rfl, hb, qq⟩ := seqD_rd r1 qq
      exact ⟨l, ws, rfl, h1, ns, dp_list C h2, hb, M1, hr1, af1, qq⟩
    have hd := I1.ok.hd hc
    refine sorted_setG C (s := { s1 with heap := h', toks := tk }) R hd hu fun s' pa out c' ks k2 g2 o2 hp hgt hio nd hmem hnb => ?_
    have k3 : ∀ b o, s1.heap.get? b = some o → s'.heap.get? b = some o := fun b o e => k2 b o (k b o e)
    have hp1 : s1.heap.objs.size ≤ pa := Nat.le_trans (Nat.le_of_lt lt) hp
    have hn : H1 pa = none := I1.hok.fresh hp1
    have hlen : ((sortK enc ks).map vk).length ≤ sizeLine := by rw [List.length_map, (sortK_perm ks).length_eq, sizeLine_eq]; unfold scanBound at hnb; omega
    have J : Inv X pins σ (upd H1 pa (.lst ((sortK enc ks).map vk))) { s1 with heap := s'.heap, gens := s'.gens, drawn := s'.drawn, toks := s'.toks } :=
      I1.call (ch := []) (Un.laid k3 hp1 hn) (I1.hok.laid k3 hp1 ⟨hlen, out.toList, c', vals_each C hio, hgt⟩) (by rw [g2]; exact I1.bare) (fun _ z => nomatch z)
    have e : s' = { s1 with heap := s'.heap, gens := s'.gens, drawn := s'.drawn, toks := s'.toks } := by
      cases s'; cases s1; cases o2; rfl
    rw [e]
    exact ⟨.ref pa, _, J, rfl, hP _ M1 _ _ (k1 ks nd fun x => by rw [hmem x, decide_eq_true_eq]) (hr1.grow (same_new hn)) (af1.trans (.grow hr1 (same_new hn))) (fz_newLst hr1 hn (pd_list C _))⟩⟩⟩
theorem de_lenS (C : EncK kd enc vk) (hc : X.calm = true) (ha : DE X W a te) (hm : X.mg "len" = none) (hm2 : X.mg "set" = none) (hg : Gl X "len" := by rfl) (hg2 : Gl X "set" := by rfl)
    (na : starEach [a] X.env = (false, eval a X.env) :: starEach [] X.env := by rfl) : DE X W (.Call (.Name "len" p) [.Call (.Name "set" p2) [a] [] q] [] pos) (eLenS enc te) :=
  ⟨⟨fun pins s σ H Q I h => by
    obtain ⟨ρ, M, N, P, PX, hs, hr, ht, hP, hX⟩ := h
    refine Call_ (ld_blt I hg hm PySem.boot_len ?_); refine PyProof.Rows.callWith_builtin1 (PyProof.Rows.args_cons ?_ rfl) rfl rfl
    refine setOf_run C hc hg2 hm2 ha na I (Z := fun ns H1 => ∃ M1, HRel X.K M1 N H1 ∧ Af M N H M1 H1 ∧ ∀ ks : List κ, ks.Nodup → (∀ x, x ∈ ks ↔ x ∈ ns) → P (.d (.int ks.length)) M1) ⟨ρ, M, N, _, PX, hs, hr, ht, fun x M1 v H1 p hr1 af1 iv => ?_, hX⟩ fun s1 H1 ns h' tk c I1 ⟨M1, hr1, af1, k1⟩ R lt k => PyProof.Rows.args_nil ?_
    · obtain ⟨d, r1, qq⟩ := rd_of hr1 iv p
      obtain ⟨l, ws, ds, rfl, h1, h2, ns, rfl, hb, qq⟩ := seqD_rd r1 qq
      exact ⟨l, ws, rfl, h1, ns, dp_list C h2, hb, M1, hr1, af1, qq⟩
    obtain ⟨o, es, ep, t, ho, hex, hd, G⟩ := R
    have few := G.few
    have num := G.num
    have pz : P (.d (.int es.size)) M1 := by
      have := k1 (es.toList.map (keyE kd)) G.nd fun x => by rw [← G.mem x, decide_eq_true_eq]
      rw [List.length_map, Array.length_toList] at this
      exact this
    exact call_len_set (s := { s1 with heap := h', toks := tk }) ho hex hd G.fit (by unfold scanBound at few; omega) ⟨.int es.size, H1, I1.kept (t' := tk + 1 + 1) k, ⟨_, rfl⟩, hP (.d (.int es.size)) M1 (.int es.size) H1 pz hr1 af1 (show Dp _ _ _ _ from .int _)⟩⟩⟩
end
end DL

/-! Part 39: a def that is called with the exception in hand. -/
namespace DL
open PySem PySem.Spec PyProof.Rows L2

/-- what such a def promises: of an exception without attributes -/
abbrev ESp := XD → MHp → DK → Prop
def CRe (outer : List Env) (P : Program) (w : World) (H : Hp) (s : Shared) (Q : VK) (r : Result) (s' : Shared) : Prop := match r with
  | .ok (.ret u) => CE outer P w H s Q u s'
  | _ => False
structure FnE (P : Program) (w : World) (K : PySem.W.Frag) (mg : Str → Option Value) (base : Heap) (k : Nat) (f : Addr) (fd : FuncData) (ps : List Str) (sp : ESp) : Prop where
  one : ps.length = 1
  run : ∀ (A : Around) (outer : List Env) (s : Shared) (H : Hp) (args : Args) (cls : Value) (p : Addr × Obj) (M : MHp) (N : Hid) (Pk : DK) (Q : VK), L2H.RoomH k A → A.handled = some (.ref p.1) → L2H.PinOk outer H s p → Zc cls none p.2 → (∃ vs, p.2.data = .fields vs) →
    Env0 P w K mg base A outer s H → BindsTo s fd args (ps.zip [.ref p.1]) → HRel K M N H → sp { cls := cls } M Pk → Fol K M N H Pk Q → codeAny (model P w) A (.call (.ref f) args) (CRe outer P w H s Q) s
section
variable {P : Program} {w : World} {K : PySem.W.Frag} {mg : Str → Option Value} {base : Heap}
abbrev cxE (P : Program) (w : World) (K : PySem.W.Frag) (mg : Str → Option Value) (base : Heap) (N : List Str) (qual : Str) (st : Stmt) (f : Addr) (cdv : Value) (A : Around) (outer : List Env) (s : Shared) (H : Hp) (p : Addr × Obj) : Cx :=
  L2H.cxH (L2.CX P w) P w K mg base N qual (defScope st) f cdv A outer s H (fun _ _ _ => False) p
theorem okE {x qual : Str} {st : Stmt} {f : Addr} {fd : FuncData} {N ps : List Str} {k : Nat} {sp : ESp} {ts : DSu} (F : Fun K x qual st f fd) (S : FnScope N ps (defScope st)) (one : ps.length = 1)
    (hbody : ∀ (cdv : Value) (A : Around) (outer : List Env) (s : Shared) (H : Hp) (p : Addr × Obj), DSusp (cxE P w K mg base N qual st f cdv A outer s H p) (defBody st) ts)
    (hread : ∀ a x M Q, M a = none → x.fs = none → sp x M Q → ts a x (endD Q fun _ _ => False) (startD N [.r a]) M) : FnE P w K mg base (k + 1) f fd ps sp := by
  obtain ⟨oc, od, kV, doc, pm, an, cdv, ct, osl, rfl, lk, hcd⟩ := F.ex
  refine ⟨one, fun A outer s H args cls p M N' Pk Q hr hh hpin hz hf e0 hb hrel hsp fo => ?_⟩
  have KX : K.In s.heap := e0.mod.kin.keeps fun b o e => (e0.bs b o e).1
  have lim : s.heap.NoLimit := e0.mod.nolimit.keeps fun b o e => (e0.bs b o e).1
  have hl : ([V.ref p.1] : List V).length = ps.length := one.symm
  have hkind : ∀ y ∈ ps.zip ([.ref p.1] : List Value), (defScope st).names.lookup y.1 = some .local ∨ ((defScope st).names.lookup y.1 = some .cell ∧ ((cellsFrom (s.heap.objs.size + 1) (defScope st).names []).lookup y.1).isSome = true) := fun ⟨n, v⟩ hy => (S.par n (List.of_mem_zip hy).1).imp id fun q => ⟨q, PySem.W.cellsFrom_some _ _ _ (.inl q)⟩
  refine codeAny_call_function hr.depth (KX _ _ lk) rfl S.co S.gen rfl (PySem.W.codeRec_of KX hcd) (hb _ _ _ _ ?_); refine wpAny_newFunctionEnv_cells S.kind hkind fun env he s1 x => ?_
  subst he
  refine ⟨lim.keeps x.toInCall.keep, codeAny_func ?_⟩
  have I : Inv (cxE P w K mg base N qual st f cdv A outer s H p) [] (L2.start N [.ref p.1]) H s1 := L2H.inv_startH (us := [.ref p.1]) S hpin e0 hl (.cons rfl .nil) x
  have pin := I.pin p (List.mem_append_left _ (List.mem_singleton.mpr rfl))
  obtain ⟨vs, hvs⟩ := hf
  have I2 := I.suite (a := p.1) (oe := p.2) (vs := vs) pin.1 hvs pin.2.1 pin.2.2.1 pin.2.2.2.1
  have hA : ((cxE P w K mg base N qual st f cdv A outer s H p).A.mark (some (.ref p.1))) = (cxE P w K mg base N qual st f cdv A outer s H p).A := by
    show ({ (A.deeper (envOfC qual (defScope st) s.heap.objs.size f cdv)) with handled := some (.ref p.1) } : Around) = A.deeper _
    have : (A.deeper (envOfC qual (defScope st) s.heap.objs.size f cdv)).handled = some (.ref p.1) := hh
    rw [← this]
  have mn := (hrel.free hpin.free).1
  have run := ((hbody cdv A outer s H p).run p.1 p.2 cls none ([p] ++ []) hz ⟨vs, hvs⟩).run [] s1 (L2.start N [.ref p.1]) H { nx := fun _ H' => Q .non H', rt := Q } I2
    ⟨{ cls := cls }, startD N [.r p.1], M, N', endD Pk fun _ _ => False, rfl, rfl, hpin.free, start_rel (.cons (show IsD K _ (V.ref p.1) (.r p.1) from rfl) .nil) N, hrel, hread p.1 { cls := cls } M Pk mn rfl hsp,
      ⟨fun ρ' M' σ' H' q _ r a => fol_wk fo _ M' .non H' q r a .non, fun x M' v H' q r a i => fol_wk fo x M' v H' q r a i, fun _ _ _ _ z => z.elim, fun _ _ _ _ z => z.elim, fun _ _ _ _ _ _ z => z.elim⟩⟩
  rw [show ((cxE P w K mg base N qual st f cdv A outer s H p).suite p.1 ((p.1, p.2) :: ([p] ++ []))).A = (cxE P w K mg base N qual st f cdv A outer s H p).A from hA] at run
  refine wpAny_mono run (fun fl s' hs => ?_) fun e s' hs => hs.elim
  have fin : ∀ {σ' : L2.St} {H' : Hp} {v : V} {u : Value}, Inv ((cxE P w K mg base N qual st f cdv A outer s H p).suite p.1 ((p.1, p.2) :: ([p] ++ []))) [] σ' H' s' → RelV v u → Q v H' → CE outer P w H s Q u s' := fun {σ' H' v u} J rv q => ⟨v, H', J.os, J.bare, J.base, J.hok, rv, q⟩
  cases fl with
  | ret u =>
    obtain ⟨v, σ', H', J, rv, q⟩ := hs
    exact fin J rv q
  | next =>
    obtain ⟨σ', H', J, q⟩ := hs
    exact fin (v := V.non) (u := Value.none) J rfl q
  | brk =>
    obtain ⟨_, _, _, q⟩ := hs
    exact q.elim
  | cont =>
    obtain ⟨_, _, _, q⟩ := hs
    exact q.elim
/-- all that a call asks -/
def CalE (P : Program) (w : World) (K : PySem.W.Frag) (mg : Str → Option Value) (base : Heap) (k : Nat) (x : Str) (ps : List Str) (sp : ESp) : Prop := ∃ f fd, FnE P w K mg base k f fd ps sp ∧ PySem.W.keepIn K (.ref f) = true ∧ Binds K fd ps [] ∧ mg x = some (.ref f)
end
section
variable {X : Cx} {k i : Nat} {ps : List Str} {sp : ESp} {x n : Str} {p1 q pos : Pos}
/-- f(e), e the exception in hand -/
def xCallE (sp : ESp) (i : Nat) : DSE := fun a x ρ M P _ => ρ[i]? = some (some (.r a)) ∧ x.fs = none ∧ sp x M P
theorem dx_callE (C : CalE X.prog X.w X.K X.mg X.base k x ps sp) (hr : Room k X.A) (hN : X.N[i]? = some n := by rfl) (hv : Vis X.env.scope n := by first | exact Or.inl rfl | exact Or.inr (Or.inl rfl)) (hg : Gl X x := by rfl) (hd : (n == ("__debug__" : Str)) = false := by decide) (hcd : (n == ("__classdict__" : Str)) = false := by decide) (hdb : (x == ("__debug__" : Str)) = false := by decide)
    (he : starEach [.Name n p1] X.env = (false, eval (.Name n p1) X.env) :: starEach [] X.env := by rfl) (hpl : (backTo pos (starEach [] X.env)).any (·.1) = false := by rfl) : DXE X (.Call (.Name x q) [.Name n p1] [] pos) (xCallE sp i) := by
  obtain ⟨f, fd, F, hk, hb, hm⟩ := C
  refine ⟨fun a oe cls d pn hz hf => ⟨fun pins s σ H Q I h => ?_⟩⟩
  obtain ⟨y, ρ, M, N, P, PX, hx, hed, hs, hrel, ht, hP, hX⟩ := h
  obtain ⟨hi, hfs, hsp⟩ := ht
  have hd' : d = none := by
    unfold ExD at hed
    rw [hfs] at hed
    exact hed
  subst hd'
  have ey : y = { cls := cls } := by
    obtain ⟨c, fs⟩ := y
    cases hx; cases hfs
    rfl
  subst ey
  obtain ⟨v, ev, iv⟩ := hs.2 i _ hi
  have iv' : v = .ref a := iv
  subst iv'
  have PAs : PA (X.suite a ((a, oe) :: pn)) [.Name n p1] (tCons (tVar i) tNil) := pa_cons (pe_var (X := X.suite a ((a, oe) :: pn)) hN hv hd hcd) pa_nil he
  refine wpAny_Call_Name_kw (ld_glob I hg hm ?_ hdb)
  refine PySem.W.callWith_K (h₀ := X.base) I.ok.mod.kin hk (thn (PAs.run pos pins s σ H (fun vs H1 => vs = [.ref a] ∧ H1 = H) I ⟨.ref a, ev, rfl, rfl⟩) fun us s1 ⟨vs, H1, I1, r, e1, e2⟩ => ⟨I1.kIn, ?_⟩) he hpl
  subst e1 e2
  have eu : us = [.ref a] := by
    cases r with
    | cons r1 r2 => cases r2; cases r1; rfl
  subst eu
  have b := hb s1 [.ref a] I1.kIn (by rw [List.append_nil]; exact F.one.symm)
  rw [List.append_nil] at b
  have P1 := I1.pin (a, oe) (List.mem_append_left _ List.mem_cons_self)
  have hpin : L2H.PinOk X.stack H1 s1 (a, oe) := ⟨P1.1, P1.2.1, fun hm => (List.mem_cons.mp (I1.stkSub a hm)).elim P1.2.2.1 P1.2.2.2.1, P1.2.2.2.2⟩
  refine wpAny_call (codeAny_mono (F.run (X.A.mark (some (.ref a))) X.stack s1 H1 ⟨[.ref a], []⟩ cls (a, oe) M N P Q ⟨hr.dp, hr.un⟩ rfl hpin hz hf I1.env0 b hrel hsp hP) fun r s' hq => ?_)
  cases r with
  | error e => exact hq.elim
  | ok fl =>
    cases fl with
    | ret u => exact I1.after hq
    | next => exact hq.elim
    | brk => exact hq.elim
    | cont => exact hq.elim
theorem x_callE {a : Addr} {y : XD} {ρ : DEnv} {M : MHp} {P : DK} {PX : DX} (h : ρ[i]? = some (some (.r a))) (hf : y.fs = none) (q2 : sp y M P) : xCallE sp i a y ρ M P PX := ⟨h, hf, q2⟩
end
end DL

/-! Part 40: walking sets of ints and texts. -/
namespace DL
open PySem PySem.Spec PyProof.Rows L2
section
variable {κ : Type} [DecidableEq κ] {enc : κ → PyData} {te : DTE} {ρ : DEnv} {M : MHp} {P : DK} {PX : DX}
theorem x_eLenS (q : te ρ M (fun x M1 => rd M1 x fun d => setS enc d fun ks => P (.d (.int ks.length)) M1) PX) : eLenS enc te ρ M P PX := q
theorem x_eSrtS (q : te ρ M (fun x M1 => rd M1 x fun d => setS enc d fun ks => P (.d (.list ((sortK enc ks).map enc))) M1) PX) : eSrtSet enc te ρ M P PX := q
theorem x_setT {ns : List κ} {k : List κ → Prop} (h : ns.length < 4000) (q : ∀ ks : List κ, ks.Nodup → (∀ x, x ∈ ks ↔ x ∈ ns) → k ks) : setS enc (.tuple (ns.map enc)) k := ⟨ns, rfl, by unfold scanBound; omega, q⟩
theorem x_setL {ns : List κ} {k : List κ → Prop} (h : ns.length < 4000) (q : ∀ ks : List κ, ks.Nodup → (∀ x, x ∈ ks ↔ x ∈ ns) → k ks) : setS enc (.list (ns.map enc)) k := ⟨ns, rfl, by unfold scanBound; omega, q⟩
theorem nodup_le {α : Type} [DecidableEq α] {a b : List α} (h : a.Nodup) (hs : ∀ x ∈ a, x ∈ b) : a.length ≤ b.length := by
  induction a generalizing b with
  | nil => exact Nat.zero_le _
  | cons x r ih =>
    have hx := hs x (List.mem_cons_self ..)
    have nd := List.nodup_cons.mp h
    have := ih (b := b.erase x) nd.2 fun y hy => (List.mem_erase_of_ne (fun z : y = x => nd.1 (z ▸ hy))).mpr (hs y (List.mem_cons_of_mem _ hy))
    rw [List.length_erase_of_mem hx] at this
    have := List.length_pos_of_mem hx
    rw [List.length_cons]
    omega
theorem nodup_of_le {α : Type} [DecidableEq α] {a b : List α} (h : ∀ x ∈ b, x ∈ a) (hl : b.length ≤ a.length) (nd : b.Nodup) (hs : ∀ x ∈ a, x ∈ b) : a.Nodup ∨ b.length < a.length := by
  induction a generalizing b with
  | nil => exact .inl List.nodup_nil
  | cons x r ih =>
    have hx := hs x (List.mem_cons_self ..)
    by_cases hr : x ∈ r
    · have := nodup_le nd (b := r) fun y hy => (List.mem_cons.mp (h y hy)).elim (fun z => z ▸ hr) id
      exact .inr (by rw [List.length_cons]; omega)
    · have e := List.length_erase_of_mem hx
      have p := List.length_pos_of_mem hx
      rw [List.length_cons] at hl
      rcases ih (b := b.erase x) (fun y hy => ((List.mem_cons.mp (h y (List.mem_of_mem_erase hy))).resolve_left fun z => by subst z; exact (nd.not_mem_erase) hy)) (by omega) (nd.erase _) (fun y hy => (List.mem_erase_of_ne (fun z : y = x => hr (z ▸ hy))).mpr (hs y (List.mem_cons_of_mem _ hy))) with g | g
      · exact .inl (List.nodup_cons.mpr ⟨hr, g⟩)
      · exact .inr (by rw [List.length_cons]; omega)
theorem nodupK_len {α : Type} [DecidableEq α] {l ks : List α} (h : ks.Nodup) (hm : ∀ x, x ∈ ks ↔ x ∈ l) : ks.length = l.length ↔ l.Nodup := by
  have le := nodup_le h fun x hx => (hm x).mp hx
  constructor
  · intro e
    exact (nodup_of_le (fun x hx => (hm x).mp hx) le h fun x hx => (hm x).mpr hx).resolve_right (by omega)
  · intro nd
    have := nodup_le nd fun x hx => (hm x).mpr hx
    omega
end
end DL

local macro_rules | `(tactic| walk_at "ne") => `(tactic| first | assumption | exact Ne.symm (by assumption) | exact DL.ne_of_mn (by assumption) (by assumption) | exact Ne.symm (DL.ne_of_mn (by assumption) (by assumption)))
local macro_rules | `(tactic| walk_at "m") => `(tactic| first
  | exact DL.mu_same | assumption
  | (refine DL.mu_at (by walk_at "ne") ?_; walk_at "m")
  | (refine DL.delM_at (by walk_at "ne") ?_; walk_at "m"))
local macro_rules | `(tactic| walk_at "s1") => `(tactic| with_reducible first
  | (apply DL.x_var; next => with_unfolding_all exact rfl)
  | refine DL.x_op ?_ | refine DL.x_c ?_ | refine DL.x_gD ?_ | refine DL.x_rd ?_ | refine DL.x_seq ?_ | refine DL.x_set ?_ | refine DL.x_tB ?_ | refine DL.x_asB ?_ | refine DL.x_if ?_
  | refine DL.x_aCons ?_ | refine DL.x_aNil ?_ | refine DL.x_call ?_ | refine DL.x_cb ?_ | refine DL.x_brT ?_ | refine DL.x_brF ?_
  | refine DL.x_addI ?_ | refine DL.x_sub ?_ | refine DL.x_neg ?_ | refine DL.x_eqI ?_ | refine DL.x_neI ?_ | refine DL.x_ltI ?_ | refine DL.x_leI ?_ | refine DL.x_gtI ?_ | refine DL.x_geI ?_
  | refine DL.x_tAnd ?_ | refine DL.x_tOr ?_ | refine DL.x_tNot ?_ | refine DL.x_eAnd ?_ | refine DL.x_eOr ?_ | refine DL.x_eNotT ?_ | refine DL.x_eIf ?_ | refine DL.x_chain ?_ | refine DL.x_tTru ?_ | refine DL.x_brN ?_ | refine DL.x_brAnd ?_ | refine DL.x_brOr ?_
  | refine DL.x_ret ?_ | refine DL.x_retN ?_ | refine DL.x_next ?_ | refine DL.x_expr ?_ | refine DL.x_par ?_ | refine DL.x_asg ?_ | refine DL.x_for ?_ | refine DL.x_raise ?_ | refine DL.x_break ?_ | refine DL.x_cont ?_
  | refine DL.x_asI ?_ | refine DL.x_asD ?_ | refine DL.x_as2 ?_ | refine DL.x_asI1 ?_ | refine DL.x_asI2 ?_ | refine DL.x_asSqD ?_ | refine DL.x_walkL ?_ | refine DL.x_walkT ?_ | refine DL.x_iSeqM ?_ | refine DL.x_r1 ?_ | refine DL.x_r2 ?_
  | refine DL.x_un ?_ | refine DL.x_g1 ?_ | refine DL.x_g2 ?_ | refine DL.x_gcd ?_ | refine DL.x_gLenD ?_ | refine DL.x_lenL ?_ | refine DL.x_lenT ?_ | refine DL.x_int ?_ | refine DL.x_intB ?_ | refine DL.x_abs ?_ | refine DL.x_tupL ?_ | refine DL.x_tupT ?_ | refine DL.x_listD ?_ | refine DL.x_seqL ?_ | refine DL.x_seqT ?_
  | refine DL.x_allN ?_ | refine DL.x_allC ?_ | refine DL.x_tup ?_ | refine DL.x_lst ?_ | refine DL.x_lstM ?_ | refine DL.x_lstV ?_ | refine DL.x_bm ?_ | refine DL.x_isi ?_
  | refine DL.x_truI ?_ | refine DL.x_truB ?_ | refine DL.x_truN ?_ | refine DL.x_truL ?_ | refine DL.x_truT ?_ | refine DL.x_isNN ?_
  | refine DL.x_sl ?_ | refine DL.x_oN ?_ | refine DL.x_oS ?_ | refine DL.x_slL ?_ | refine DL.x_slT ?_
  | refine DL.x_is_int_int ?_  | refine DL.x_is_int_bool ?_  | refine DL.x_is_int_str ?_  | refine DL.x_is_int_list ?_  | refine DL.x_is_int_tuple ?_  | refine DL.x_is_bool_int ?_  | refine DL.x_is_bool_bool ?_  | refine DL.x_is_bool_str ?_  | refine DL.x_is_bool_list ?_  | refine DL.x_is_bool_tuple ?_  | refine DL.x_is_str_int ?_  | refine DL.x_is_str_bool ?_  | refine DL.x_is_str_str ?_  | refine DL.x_is_str_list ?_  | refine DL.x_is_str_tuple ?_  | refine DL.x_is_list_int ?_  | refine DL.x_is_list_bool ?_  | refine DL.x_is_list_str ?_  | refine DL.x_is_list_list ?_  | refine DL.x_is_list_tuple ?_  | refine DL.x_is_tuple_int ?_  | refine DL.x_is_tuple_bool ?_  | refine DL.x_is_tuple_str ?_  | refine DL.x_is_tuple_list ?_  | refine DL.x_is_tuple_tuple ?_  | refine DL.x_is_NoneType_int ?_  | refine DL.x_is_NoneType_bool ?_  | refine DL.x_is_NoneType_str ?_  | refine DL.x_is_NoneType_list ?_  | refine DL.x_is_NoneType_tuple ?_
  | refine DL.x_tryAs ?_ | refine DL.x_try ?_ | refine DL.x_xRet ?_ | refine DL.x_xSet ?_ | refine DL.x_fld ?_ | refine DL.x_sfld ?_ | refine DL.x_meth ?_ | refine DL.x_make ?_ | refine DL.x_dkM ?_ | refine DL.x_lc2 ?_ | refine DL.x_sput ?_ | refine DL.x_get2 ?_ | refine DL.x_ssetT ?_
  | refine DL.x_eLenS ?_ | refine DL.x_eSrtS ?_ | refine DL.x_sset ?_ | refine DL.x_ssetM ?_ | refine DL.x_lc ?_ | refine DL.x_yes ?_ | refine DL.x_inTI ?_ | refine DL.x_ninTI ?_
  | refine DL.x_rev ?_ | refine DL.x_revL ?_ | refine DL.x_revT ?_ | refine DL.x_strS ?_ | refine DL.x_xIf ?_ | refine DL.x_xAdd ?_ | refine DL.x_tupRg ?_ | refine DL.x_lstRg ?_ | refine DL.x_lstRgM ?_ | refine DL.x_rRg1 ?_ | refine DL.x_rRg2 ?_
  | refine DL.x_inS ?_ | refine DL.x_ninS ?_ | refine DL.x_walkS ?_ | refine DL.x_allM ?_ | refine DL.x_anyM ?_
  | refine DL.x_gTp1 ?_ | refine DL.x_gTp2 ?_ | refine DL.x_gTp3 ?_ | refine DL.x_gTp4 ?_ | refine DL.x_gTp5 ?_
  | refine DL.x_iteT ?_ | refine DL.x_iteF ?_ | refine DL.x_gAddM ?_ | refine DL.x_addLM (by first | assumption | omega) ?_ | refine DL.x_inLI ?_ | refine DL.x_ninLI ?_ | refine DL.x_augP ?_ | refine DL.x_augM ?_ | refine DL.x_iEnum ?_ | refine DL.x_enumL ?_ | refine DL.x_enumT ?_ | refine DL.x_dc ?_
  | refine DL.x_raiseG ?_ | refine DL.x_inTR ?_ | refine DL.x_ninTR ?_ | refine DL.x_inLR ?_ | refine DL.x_ninLR ?_ | refine DL.x_sumL ?_ | refine DL.x_sumT ?_ | refine DL.x_eqTI ?_ | refine DL.x_neTI ?_ | refine DL.x_eqLI ?_ | refine DL.x_neLI ?_ | refine DL.x_isB ?_ | refine DL.x_notB ?_ | refine DL.x_nnew ?_ | refine DL.x_nget2 ?_ | refine DL.x_nput ?_ | refine DL.x_gName ?_ | refine DL.x_gsN ?_ | refine DL.x_gsC ?_ | refine DL.x_gSetL ?_ | refine DL.x_pop1 ?_ | refine DL.x_keysL ?_)
local macro_rules | `(tactic| walk_at "s2") => `(tactic| first
  | ((with_reducible apply DL.x_rdM); next => walk_at "m")
  | ((with_reducible apply DL.x_mod); next => first | assumption | omega)
  | ((with_reducible apply DL.x_told); next => walk_at "m")
  | ((with_reducible apply DL.x_getNI); next => walk_at "m")
  | ((with_reducible apply DL.x_maxL); next => first | assumption | omega)
  | ((with_reducible apply DL.x_maxT); next => first | assumption | omega)
  | ((with_reducible apply DL.x_minL); next => first | assumption | omega)
  | ((with_reducible apply DL.x_minT); next => first | assumption | omega)
  | ((with_reducible apply DL.x_fdiv); next => first | assumption | exact DL.divOk_small (by omega) (by omega))
  | ((with_reducible apply DL.x_mul); next => first | assumption | exact DL.mulOk_left (by omega) (by omega) | exact DL.mulOk_right (by omega) (by omega))
  | ((with_reducible apply DL.x_pow); next => exact ⟨by omega, by omega, by decide⟩)
  | ((with_reducible apply DL.x_ixL); next => first | with_reducible rfl | assumption | with_unfolding_all exact rfl)
  | ((with_reducible apply DL.x_ixT); next => first | with_reducible rfl | assumption | with_unfolding_all exact rfl)
  | ((with_reducible apply DL.x_brY); next => first | assumption | omega | (simp only [List.length_cons, List.length_nil]; omega))
  | ((with_reducible apply DL.x_brZ); next => first | assumption | omega | (simp only [List.length_cons, List.length_nil]; omega))
  | ((with_reducible apply DL.x_gLenM); next => walk_at "m")
  | ((with_reducible apply DL.x_append); next => walk_at "m")
  | ((with_reducible apply DL.x_extend); (next => walk_at "m"); (next => walk_at "m"))
  | ((with_reducible apply DL.x_enumM); next => walk_at "m")
  | ((with_reducible apply DL.x_aug); next => with_unfolding_all exact rfl)
  | ((with_reducible apply DL.x_setLK); (next => walk_at "m"); (next => first | assumption | with_unfolding_all exact rfl))
  | ((with_reducible apply DL.x_asSqM); next => walk_at "m")
  | ((with_reducible apply DL.x_lenS); next => first | assumption | (rw [PySem.sizeLine_eq]; omega))
  | ((with_reducible apply DL.x_ixS); (next => first | assumption | (rw [PySem.sizeLine_eq]; omega)); (next => first | assumption | with_unfolding_all exact rfl))
  | ((with_reducible apply DL.x_fldR); (next => walk_at "m"); (next => first | assumption | with_unfolding_all exact rfl))
  | ((with_reducible apply DL.x_sfldR); (next => walk_at "m"); (next => first | assumption | exact Nat.le_of_ble_eq_true rfl))
  | ((with_reducible apply DL.x_methR); (next => walk_at "m"); (next => first | assumption | with_unfolding_all exact rfl))
  | ((with_reducible apply DL.x_inK); (next => exact rfl); (next => walk_at "m"))
  | ((with_reducible apply DL.x_ninK); (next => exact rfl); (next => walk_at "m"))
  | ((with_reducible apply DL.x_getK); (next => exact rfl); (next => walk_at "m"); (next => assumption))
  | ((with_reducible apply DL.x_putDK); (next => exact rfl); (next => walk_at "m"); (next => first | assumption | omega))
  | ((with_reducible apply DL.x_gSortKI); next => walk_at "m")
  | ((with_reducible apply DL.x_frz); (next => with_unfolding_all exact rfl); (next => walk_at "m"))
  | ((with_reducible apply DL.x_listK); next => walk_at "m")
  | ((with_reducible apply DL.x_asDl); next => walk_at "m")
  | (with_reducible refine And.intro (DL.x_isLst (by walk_at "m")) ?_)
  | ((with_reducible refine And.intro ?_ ?_); next => exact Nat.le_of_ble_eq_true rfl))
local macro_rules | `(tactic| walk_at "st") => `(tactic| repeat (first | walk_at "s1" | walk_at "s2"))

namespace DL.K17
open PySem PySem.Spec PyProof.Rows L2 DL
def topS (i : Nat) : Stmt := PySem.Challenge.pw_tableguild_k17_trees_of_parts_are_checke.main.body.getD i (.Pass ⟨0, 0, 0, 0⟩)
abbrev s_is_name : Stmt := topS 8
abbrev n_is_name : List Str := ["word", "sign"]
abbrev p_is_name : List Str := ["word"]
abbrev s_ascend : Stmt := topS 9
abbrev n_ascend : List Str := ["items", "k"]
abbrev p_ascend : List Str := ["items"]
abbrev s_all_variables : Stmt := topS 14
abbrev n_all_variables : List Str := ["pattern", "found", "name", "variables", "variable"]
abbrev p_all_variables : List Str := ["pattern"]
abbrev s_right_atoms : Stmt := topS 15
abbrev n_right_atoms : List Str := ["atoms", "columns", "name", "variables", "variable"]
abbrev p_right_atoms : List Str := ["atoms"]
abbrev s_check_pattern : Stmt := topS 16
abbrev n_check_pattern : List Str := ["pattern", "head", "atoms", "variables", "good", "variable", "k"]
abbrev p_check_pattern : List Str := ["pattern"]
abbrev s_right_tree : Stmt := topS 18
abbrev n_right_tree : List Str := ["parts", "k", "bag", "above"]
abbrev p_right_tree : List Str := ["parts"]
abbrev s_right_parts : Stmt := topS 19
abbrev n_right_parts : List Str := ["pattern", "parts", "variables", "bags", "name", "inner", "variable", "tops", "bag", "above", "k"]
abbrev p_right_parts : List Str := ["pattern", "parts"]
abbrev s_check_parts : Stmt := topS 20
abbrev n_check_parts : List Str := ["pattern", "parts"]
abbrev p_check_parts : List Str := ["pattern", "parts"]
abbrev s_width_of : Stmt := topS 21
abbrev n_width_of : List Str := ["parts", "bag", "above"]
abbrev p_width_of : List Str := ["parts"]
abbrev s_order_of : Stmt := topS 22
abbrev n_order_of : List Str := ["parts", "found", "bag", "above", "variable"]
abbrev p_order_of : List Str := ["parts"]
abbrev s_law_begin : Stmt := topS 24
abbrev n_law_begin : List Str := ["script", "seed", "cell"]
abbrev p_law_begin : List Str := ["script"]
abbrev s_law_take : Stmt := topS 25
abbrev n_law_take : List Str := ["d", "many", "small", "digit"]
abbrev p_law_take : List Str := ["d", "many"]
abbrev s_law_signed : Stmt := topS 26
abbrev n_law_signed : List Str := ["d", "most"]
abbrev p_law_signed : List Str := ["d", "most"]
abbrev s_law_rows : Stmt := topS 27
abbrev n_law_rows : List Str := ["d", "columns", "most", "reach", "rows", "k", "row", "j"]
abbrev p_law_rows : List Str := ["d", "columns", "most", "reach"]
abbrev s_law_catalogue : Stmt := topS 28
abbrev n_law_catalogue : List Str := ["d", "many", "most", "reach", "tables", "k", "columns"]
abbrev p_law_catalogue : List Str := ["d", "many", "most", "reach"]
abbrev s_law_variables : Stmt := topS 29
abbrev n_law_variables : List Str := ["pattern", "found", "name", "inner", "k"]
abbrev p_law_variables : List Str := ["pattern"]
abbrev s_law_pattern : Stmt := topS 30
abbrev n_law_pattern : List Str := ["d", "catalogue", "atoms", "many", "names", "body", "k", "table", "pattern", "variables", "head", "one", "j"]
abbrev p_law_pattern : List Str := ["d", "catalogue", "atoms", "many"]
abbrev s_law_shuffled : Stmt := topS 31
abbrev n_law_shuffled : List Str := ["d", "items", "left", "found", "k", "at"]
abbrev p_law_shuffled : List Str := ["d", "items"]
abbrev s_law_right_parts : Stmt := topS 32
abbrev n_law_right_parts : List Str := ["pattern", "parts", "variables", "k", "bag", "above", "name", "inner", "variable", "tops", "j"]
abbrev p_law_right_parts : List Str := ["pattern", "parts"]
abbrev s_law_bags : Stmt := topS 33
abbrev n_law_bags : List Str := ["pattern", "order", "near", "variable", "name", "inner", "one", "bags", "left", "around", "other"]
abbrev p_law_bags : List Str := ["pattern", "order"]
abbrev s_law_hung : Stmt := topS 34
abbrev n_law_hung : List Str := ["d", "bags", "parts", "bag", "best", "most", "j", "shared", "variable"]
abbrev p_law_hung : List Str := ["d", "bags"]
abbrev s_law_part_order : Stmt := topS 35
abbrev n_law_part_order : List Str := ["parts", "found", "bag", "above", "variable"]
abbrev p_law_part_order : List Str := ["parts"]
abbrev s_law_bent : Stmt := topS 36
abbrev n_law_bent : List Str := ["d", "parts", "at", "bag", "above", "menu"]
abbrev p_law_bent : List Str := ["d", "parts"]
abbrev s_law : Stmt := topS 37
abbrev n_law : List Str := ["script", "d", "catalogue", "pattern", "order", "parts", "turn", "told", "bag", "above"]
abbrev p_law : List Str := ["script"]
abbrev c_NAME_LIMIT : PyData := (.int 20)
abbrev c_LETTERS : PyData := (.str "abcdefghijklmnopqrstuvwxyz")
abbrev c_NAME_SIGNS : PyData := (.str "abcdefghijklmnopqrstuvwxyz0123456789")
abbrev c_ATOM_LIMIT : PyData := (.int 8)
abbrev c_VARIABLE_LIMIT : PyData := (.int 8)
abbrev c_PLACE_LIMIT : PyData := (.int 4)
section
variable (C_PatternError C_TooLarge : Addr)
end
abbrev tpI (r : List Int) : PyData := .tuple (r.map .int)
structure Tb where
  name : Str
  cols : Int
  rows : List (List Int)
abbrev rwsD (R : List (List Int)) : PyData := .tuple (R.map tpI)
abbrev Tb.d (t : Tb) : PyData := .tuple [.str t.name, .int t.cols, rwsD t.rows]
abbrev catD (c : List Tb) : PyData := .tuple (c.map Tb.d)
abbrev letters : Str := "abcdefghijklmnopqrstuvwxyz"
abbrev signs : Str := "abcdefghijklmnopqrstuvwxyz0123456789"
def isNm (w : Str) : Bool := match w.cps.toList with
  | [] => false
  | c :: r => decide (w.length ≤ 20) && decide (c ∈ letters.cps.toList) && (c :: r).all fun x => decide (x ∈ signs.cps.toList)
def rowOk (cols : Int) (r : List Int) : Bool := decide ((r.length : Int) = cols) && r.all fun n => decide (-999999999 ≤ n) && decide (n ≤ 999999999)
def ascD (xs : List PyData) : Bool := (List.range (xs.length - 1)).all fun k => PySem.W.dataLt (xs.getD k .none) (xs.getD (k + 1) .none)
def tabOk (t : Tb) : Bool := isNm t.name && decide (1 ≤ t.cols) && decide (t.cols ≤ 4) && (t.rows.all (rowOk t.cols)) && ascD (t.rows.map tpI)
def catOk (c : List Tb) : Bool := c.all tabOk && ascD (c.map fun t => .str t.name)
def big (c : List Tb) : Bool := decide (8 < c.length) || c.any fun t => decide (300 < t.rows.length)
def TbSz (t : Tb) : Prop := PyData.strOk t.name = true ∧ t.name.length ≤ 100 ∧ t.rows.length ≤ 1000 ∧ ∀ r ∈ t.rows, r.length ≤ 100
def CatSz (c : List Tb) : Prop := c.length ≤ 100 ∧ ∀ t ∈ c, TbSz t
def sp_is_name : DSp := fun xs M P _ => ∃ w : Str, xs = [.d (.str w)] ∧ PyData.strOk w = true ∧ w.length ≤ 100 ∧ P (.d (.bool (isNm w))) M
def sp_right_row : DSp := fun xs M P _ => ∃ (n : Int) (r : List Int), xs = [.d (.int n), .d (tpI r)] ∧ r.length ≤ 100 ∧ P (.d (.bool (rowOk n r))) M
def sp_ascend : DSp := fun xs M P _ => ∃ (x : DV) (l : List PyData), xs = [x] ∧ (x = .d (.tuple l) ∨ x = .d (.list l)) ∧ PySem.W.AllAlike l ∧ (∀ d ∈ l, d ≠ .none ∧ d.depth ≤ 60) ∧ l.length ≤ 1000 ∧ P (.d (.bool (ascD l))) M
def sp_right_table : DSp := fun xs M P _ => ∃ t : Tb, xs = [.d t.d] ∧ TbSz t ∧ P (.d (.bool (tabOk t))) M
def sp_check_catalogue (C1 C2 : Addr) : DSp := fun xs M P PX => ∃ c : List Tb, xs = [.d (catD c)] ∧ CatSz c ∧ (catOk c = false → PX { cls := .ref C1 } M) ∧ (catOk c = true → big c = true → PX { cls := .ref C2 } M) ∧ (catOk c = true → big c = false → P (.d .none) M)
def Sz (k : Nat) (c : List Tb) : Prop := c ≠ [] ∧ c.length ≤ 8 ∧ ∀ t ∈ c, PyData.strOk t.name = true ∧ t.name.length ≤ 30 ∧ t.rows.length ≤ 8 + k ∧ ∀ r ∈ t.rows, r.length ≤ 8 + k
def sp_law_rows : DSp := fun xs M P _ => ∃ (a : Addr) (st : List PyData) (n m q : Nat), xs = [.r a, .d (.int n), .d (.int m), .d (.int q)] ∧ M a = some (.ls st) ∧ DSt st ∧ 0 < n ∧ n ≤ 4 ∧ m ≤ 8 ∧ 0 < q ∧ q ≤ 100 ∧
  ∀ (R : List (List Int)) st', DSt st' → (∀ r ∈ R, r.length = n ∧ ∀ x ∈ r, (0 : Int) ≤ x ∧ x < q) → ascD (R.map tpI) = true → R.length ≤ m → P (.d (rwsD R)) (mu M a (.ls st'))
def nm (k : Nat) (c : Int) : Str := ⟨#[97 + k]⟩ ++ (toString c : String)
def Made (T : List Tb) : Prop := ∀ (j : Nat) (t : Tb), T[j]? = some t → t.cols ∈ ([1, 2, 3, 4] : List Int) ∧ t.name = nm j t.cols ∧ t.rows.length ≤ 8 ∧ ascD (t.rows.map tpI) = true ∧ ∀ r ∈ t.rows, (r.length : Int) = t.cols ∧ ∀ x ∈ r, (0 : Int) ≤ x ∧ x < 100
def sp_law_catalogue : DSp := fun xs M P _ => ∃ (a : Addr) (st : List PyData) (n m q : Nat), xs = [.r a, .d (.int n), .d (.int m), .d (.int q)] ∧ M a = some (.ls st) ∧ DSt st ∧ 0 < n ∧ n ≤ 4 ∧ m ≤ 8 ∧ 0 < q ∧ q ≤ 100 ∧
  ∀ c st', DSt st' → Sz 0 c → catOk c = true → big c = false → Made c → P (.d (catD c)) (mu M a (.ls st'))
/-! ### patterns -/
abbrev Atom := Str × List Str
abbrev atD (a : Atom) : PyData := .tuple [.str a.1, tpS a.2]
abbrev atsD (as : List Atom) : PyData := .tuple (as.map atD)
structure Pat where
  head : List Str
  atoms : List Atom
abbrev Pat.d (p : Pat) : PyData := .tuple [tpS p.head, atsD p.atoms]
def addN (acc : List Str) (v : Str) : List Str := if v ∈ acc then acc else acc ++ [v]
def varsA (as : List Atom) : List Str := as.foldl (fun acc a => a.2.foldl addN acc) []
def Pat.vars (p : Pat) : List Str := varsA p.atoms
def StOk (w : Str) : Prop := PyData.strOk w = true ∧ w.length ≤ 100
structure PatSz (p : Pat) : Prop where
  hl : p.head.length ≤ 200
  h : ∀ w ∈ p.head, StOk w
  al : p.atoms.length ≤ 100
  a : ∀ a ∈ p.atoms, StOk a.1 ∧ a.2.length ≤ 100 ∧ ∀ w ∈ a.2, StOk w
def colsP : (Str → Option Nat) → List Atom → Bool
  | _, [] => true
  | f, a :: r => isNm a.1 && decide (1 ≤ a.2.length) && decide (a.2.length ≤ 4) && a.2.all isNm && decide ((f a.1).getD a.2.length = a.2.length) && colsP (fun w => if w = a.1 then some a.2.length else f w) r
def ratoms (as : List Atom) : Bool := colsP (fun _ => none) as && !as.isEmpty
def patOk (p : Pat) : Bool := ratoms p.atoms && (p.head.all fun w => decide (w ∈ p.vars)) && decide p.head.Nodup
def patBig (p : Pat) : Bool := decide (8 < p.atoms.length) || decide (8 < p.vars.length)
/-- a result, or an error of a class -/
def ResE (o : Option Addr) (p : Prop) (PX : DX) (M : MHp) : Prop := match o with
  | none => p
  | some C => PX { cls := .ref C } M
def patErr (P L : Addr) (p : Pat) : Option Addr := if patOk p = true then (if patBig p = true then some L else none) else some P
def sp_all_variables : DSp := fun xs M P _ => ∃ p : Pat, xs = [.d p.d] ∧ PatSz p ∧ P (.d (tpS p.vars)) M
def sp_right_atoms : DSp := fun xs M P _ => ∃ as : List Atom, xs = [.d (atsD as)] ∧ as.length ≤ 100 ∧ (∀ a ∈ as, StOk a.1 ∧ a.2.length ≤ 100 ∧ ∀ w ∈ a.2, StOk w) ∧ P (.d (.bool (ratoms as))) M
def sp_check_pattern (C1 C2 : Addr) : DSp := fun xs M P PX => ∃ p : Pat, xs = [.d p.d] ∧ PatSz p ∧ ResE (patErr C1 C2 p) (P (.d .none) M) PX M
/-! ### drawn patterns -/
abbrev NM : List Str := ["x", "y", "z", "u", "v", "w"]
/-- a pattern as a law draws it over a catalogue: n atoms and m variables at the most -/
def PDrawn (n m : Nat) (c : List Tb) (p : Pat) : Prop := p.atoms ≠ [] ∧ p.atoms.length ≤ n ∧ p.head.length ≤ m ∧ p.head.Nodup ∧ (∀ v ∈ p.head, v ∈ p.vars) ∧ ∀ a ∈ p.atoms, (∀ v ∈ a.2, v ∈ NM.take m) ∧ ∃ t ∈ c, a.1 = t.name ∧ (a.2.length : Int) = t.cols
def sp_law_variables : DSp := sp_all_variables
def sp_law_pattern : DSp := fun xs M Q _ => ∃ (a : Addr) (st : List PyData) (c : List Tb) (n m : Nat), xs = [.r a, .d (catD c), .d (.int n), .d (.int m)] ∧ M a = some (.ls st) ∧ DSt st ∧ Sz 0 c ∧ catOk c = true ∧ 0 < n ∧ n ≤ 8 ∧ 0 < m ∧ m ≤ 6 ∧
  ∀ (p : Pat) st', DSt st' → PDrawn n m c p → Q (.d p.d) (mu M a (.ls st'))
/-! ### trees of parts -/
abbrev Prt := List Str × Int
abbrev prD (q : Prt) : PyData := .tuple [tpS q.1, .int q.2]
abbrev prsD (ps : List Prt) : PyData := .tuple (ps.map prD)
abbrev bgD (bs : List (List Str)) : PyData := .list (bs.map tpS)
def ascW (ws : List Str) : Bool := ascD (ws.map .str)
def nodeOk (k : Nat) (q : Prt) : Bool := !q.1.isEmpty && ascW q.1 && (if k = 0 then decide (q.2 = -1) else decide (0 ≤ q.2) && decide (q.2 < k))
def treeOk (ps : List Prt) : Bool := ((List.range ps.length).all fun k => nodeOk k (ps.getD k ([], 0))) && !ps.isEmpty
def topB (ps : List Prt) (v : Str) (k : Nat) : Bool := decide (v ∈ (ps.getD k ([], 0)).1) && (decide (k = 0) || !decide (v ∈ (ps.getD (ps.getD k ([], 0)).2.toNat ([], 0)).1))
def topsN (ps : List Prt) (v : Str) : Nat := ((List.range ps.length).filter (topB ps v)).length
def partsOk (as : List Atom) (ps : List Prt) : Bool := treeOk ps && (ps.all fun q => q.1.all fun v => decide (v ∈ varsA as)) && (as.all fun a => ps.any fun q => a.2.all fun v => decide (v ∈ q.1)) && (varsA as).all fun v => decide (topsN ps v = 1)
structure PrtSz (ps : List Prt) : Prop where
  l : ps.length ≤ 100
  b : ∀ q ∈ ps, q.1.length ≤ 100 ∧ ∀ w ∈ q.1, StOk w
def sp_right_tree : DSp := fun xs M P _ => ∃ ps : List Prt, xs = [.d (prsD ps)] ∧ PrtSz ps ∧ P (.d (.bool (treeOk ps))) M
def sp_right_parts : DSp := fun xs M P _ => ∃ (p : Pat) (ps : List Prt), xs = [.d p.d, .d (prsD ps)] ∧ PatSz p ∧ PrtSz ps ∧ P (.d (.bool (partsOk p.atoms ps))) M
def sp_check_parts (C1 C2 : Addr) : DSp := fun xs M P PX => ∃ (p : Pat) (ps : List Prt), xs = [.d p.d, .d (prsD ps)] ∧ PatSz p ∧ PrtSz ps ∧ ResE (patErr C1 C2 p) (P (.d (.bool (partsOk p.atoms ps))) M) PX M
def sp_law_right_parts : DSp := sp_right_parts

def sp_width_of : DSp := fun xs M P _ => ∃ ps : List Prt, xs = [.d (prsD ps)] ∧ PrtSz ps ∧ ps ≠ [] ∧ P (.d (.int (mxI (ps.map fun q => (q.1.length : Int))))) M
def orderP (ps : List Prt) : List Str := ps.foldl (fun acc q => acc ++ q.1.filter fun v => !decide (v ∈ acc)) []
def sp_order_of : DSp := fun xs M P _ => ∃ ps : List Prt, xs = [.d (prsD ps)] ∧ PrtSz ps ∧ P (.d (tpS (orderP ps))) M
def sp_law_part_order : DSp := sp_order_of
/-! ### the tree that a law hangs -/
def sp_law_signed : DSp := fun xs M Q _ => ∃ (a : Addr) (st : List PyData) (m : Nat), xs = [.r a, .d (.int m)] ∧ M a = some (.ls st) ∧ DSt st ∧ m ≤ 1000 ∧ ∀ (v : Int) st', DSt st' → -m ≤ v → v ≤ m → Q (.d (.int v)) (mu M a (.ls st'))
def sp_law_shuffled : DSp := fun xs M Q _ => ∃ (a : Addr) (st : List PyData) (ws : List Str), xs = [.r a, .d (tpS ws)] ∧ M a = some (.ls st) ∧ DSt st ∧ ws.length ≤ 100 ∧ ∀ (vs : List Str) st', DSt st' → vs.Perm ws → Q (.d (tpS vs)) (mu M a (.ls st'))
/-- bags as they come from an elimination, the last eliminated first: the k-th is that of w k -/
structure BagsOk (vs : List Str) (as : List Atom) (B : List (List Str)) : Prop where
  ln : B.length = vs.length
  ne : ∀ (k : Nat) (b : List Str), B[k]? = some b → b ≠ [] ∧ ascW b = true ∧ b.Nodup
  own : ∀ (k : Nat) (b : List Str) (w : Str), B[k]? = some b → vs.reverse[k]? = some w → w ∈ b
  low : ∀ (k : Nat) (b : List Str) u, B[k]? = some b → u ∈ b → ∃ j, j ≤ k ∧ vs.reverse[j]? = some u
  nest : ∀ (k : Nat) (b : List Str), B[k]? = some b → 0 < k → ∃ (j : Nat) (c : List Str), j < k ∧ B[j]? = some c ∧ ∀ u ∈ b, vs.reverse[k]? ≠ some u → u ∈ c
  cov : ∀ a ∈ as, ∃ b ∈ B, ∀ v ∈ a.2, v ∈ b
def sp_law_bags : DSp := fun xs M Q _ => ∃ (p : Pat) (vs : List Str), xs = [.d p.d, .d (tpS vs)] ∧ PatSz p ∧ vs.Perm p.vars ∧ vs ≠ [] ∧ vs.length ≤ 8 ∧ ∀ B, BagsOk vs p.atoms B → Q (.d (bgD B)) M
/-- where a bag is hung: nowhere shares it more -/
def sharedN (b c : List Str) : Nat := (b.filter fun v => decide (v ∈ c)).length
def Hung (B : List (List Str)) (ps : List Prt) : Prop := ps.map (·.1) = B ∧ ∀ (k : Nat) (q : Prt), ps[k]? = some q → (k = 0 → q.2 = -1) ∧ (0 < k → ∃ (j : Nat) (c : List Str), j < k ∧ q.2 = (j : Int) ∧ B[j]? = some c ∧ ∀ (i : Nat) (c' : List Str), i < k → B[i]? = some c' → sharedN q.1 c' ≤ sharedN q.1 c)
def sp_law_hung : DSp := fun xs M Q _ => ∃ (a : Addr) (st : List PyData) (B : List (List Str)), xs = [.r a, .d (bgD B)] ∧ M a = some (.ls st) ∧ DSt st ∧ B.length ≤ 8 ∧ (∀ b ∈ B, b.length ≤ 100 ∧ ∀ w ∈ b, StOk w) ∧ ∀ (ps : List Prt) st', DSt st' → Hung B ps → Q (.d (prsD ps)) (mu M a (.ls st'))
def sp_law_bent : DSp := fun xs M Q _ => ∃ (a : Addr) (st : List PyData) (k : Nat) (ps : List Prt), xs = [.r a, .d (prsD ps)] ∧ M a = some (.ls st) ∧ DSt st ∧ k ≤ 5 ∧ ps ≠ [] ∧ ps.length ≤ 8 + k ∧ (∀ q ∈ ps, q.1.length ≤ 8 + k ∧ (∀ w ∈ q.1, StOk w) ∧ -10 ≤ q.2 ∧ q.2 ≤ 20) ∧
  ∀ (ps' : List Prt) st', DSt st' → ps'.length ≤ 8 + (k + 1) → (∀ q ∈ ps', q.1.length ≤ 8 + (k + 1) ∧ (∀ w ∈ q.1, StOk w) ∧ -10 ≤ q.2 ∧ q.2 ≤ 20) → Q (.d (prsD ps')) (mu M a (.ls st'))
def sp_law : DSp := fun xs M Q _ => ∃ ns : List Int, xs = [.d (.list (ns.map .int))] ∧ (∀ a, M a = none) ∧ ∀ M', Q (.d (.bool true)) M'
section
variable (C_PatternError C_TooLarge : Addr)
def t_is_name : DTS := (sSeq (sIf (tOr (tB (eOp (gD eqD) (eVar 0) (eC (.str "")))) (tOr (tB (eOp (gD gtD) (eCB gLen (aCons (eVar 0) aNil)) (eC c_NAME_LIMIT))) (tB (eOp (inD true) (eOp (gD ixD) (eVar 0) (eC (.int 0))) (eC c_LETTERS))))) (sRet (eC (.bool false))) sNext)
    (sRet (eCB (g1 allDb) (aCons (eLc finD (iSeq (eVar 0)) (gN 1) tYes (eOp (inD false) (eVar 1) (eC c_NAME_SIGNS)) [1]) aNil))))
def t_ascend : DTS := (sRet (eCB (g1 allDb) (aCons (eLc finD (iRange2 (aCons (eC (.int 1)) (aCons (eCB gLen (aCons (eVar 0) aNil)) aNil))) (gN 1) tYes (eOp (gD ltD) (eOp (gD ixD) (eVar 0) (eOp (gD subD) (eVar 1) (eC (.int 1)))) (eOp (gD ixD) (eVar 0) (eVar 1))) [1]) aNil)))
def t_all_variables : DTS := (sSeq (sSet 1 (eLstM aNil))
    (sSeq (sFor (iSeq (eOp (gD ixD) (eVar 0) (eC (.int 1)))) (gTp 2 (gsCons (gN 2) (gsCons (gN 3) gsNil))) (sFor (iSeq (eVar 3)) (gN 4) (sIf (tB (eOp (inD true) (eVar 4) (eVar 1))) (sExpr (eBm isLst gAppend (eVar 1) (aCons (eVar 4) aNil))) sNext)))
    (sRet (eCB (g1 tupleD) (aCons (eVar 1) aNil)))))
def t_right_atoms : DTS := (sSeq (sSet 1 eDkM)
    (sSeq (sFor (iSeq (eVar 0)) (gTp 2 (gsCons (gN 2) (gsCons (gN 3) gsNil))) (sSeq (sIf (tOr (tNot (tTru (eCall sp_is_name (aCons (eVar 2) aNil)))) (tNot (tB (eChain (gD leD) (gD leD) (eC (.int 1)) (eCB gLen (aCons (eVar 3) aNil)) (eC c_PLACE_LIMIT))))) (sRet (eC (.bool false))) sNext)
    (sSeq (sIf (tNot (tTru (eCB (g1 allDb) (aCons (eLc finD (iSeq (eVar 3)) (gN 4) tYes (eCall sp_is_name (aCons (eVar 4) aNil)) [4]) aNil)))) (sRet (eC (.bool false))) sNext)
    (sSeq (sIf (tB (eOp (gD neD) (eGet2 (eVar 1) (eVar 2) (eCB gLen (aCons (eVar 3) aNil))) (eCB gLen (aCons (eVar 3) aNil)))) (sRet (eC (.bool false))) sNext)
    (sPutK (eVar 1) (eVar 2) (eCB gLen (aCons (eVar 3) aNil)))))))
    (sRet (eOp (gD gtD) (eCB gLen (aCons (eVar 0) aNil)) (eC (.int 0))))))
def t_check_pattern : DTS := (sSeq (sAsg (eVar 0) (gTp 2 (gsCons (gN 1) (gsCons (gN 2) gsNil))))
    (sSeq (sSet 3 (eCall sp_all_variables (aCons (eVar 0) aNil)))
    (sSeq (sSet 4 (eAnd (eCall sp_right_atoms (aCons (eVar 2) aNil)) (eCB (g1 allDb) (aCons (eLc finD (iSeq (eVar 1)) (gN 5) tYes (eOp (inD false) (eVar 5) (eVar 3)) [5]) aNil))))
    (sSeq (sIf (tOr (tNot (tTru (eVar 4))) (tTru (eCB (g1 anyDb) (aCons (eLc finD (iRange1 (aCons (eCB gLen (aCons (eVar 1) aNil)) aNil)) (gN 6) tYes (eOp (inD false) (eOp (gD ixD) (eVar 1) (eVar 6)) (eSl (eVar 1) oNone (oSome (eVar 6)))) [6]) aNil)))) (sRaise (.ref C_PatternError)) sNext)
    (sIf (tOr (tB (eOp (gD gtD) (eCB gLen (aCons (eVar 2) aNil)) (eC c_ATOM_LIMIT))) (tB (eOp (gD gtD) (eCB gLen (aCons (eVar 3) aNil)) (eC c_VARIABLE_LIMIT)))) (sRaise (.ref C_TooLarge)) sNext)))))
def t_right_tree : DTS := (sSeq (sFor (iRange1 (aCons (eCB gLen (aCons (eVar 0) aNil)) aNil)) (gN 1) (sSeq (sAsg (eOp (gD ixD) (eVar 0) (eVar 1)) (gTp 2 (gsCons (gN 2) (gsCons (gN 3) gsNil))))
    (sSeq (sIf (tOr (tB (eOp (gD eqD) (eCB gLen (aCons (eVar 2) aNil)) (eC (.int 0)))) (tNot (tTru (eCall sp_ascend (aCons (eVar 2) aNil))))) (sRet (eC (.bool false))) sNext)
    (sIf (tOr (tAnd (tB (eOp (gD eqD) (eVar 1) (eC (.int 0)))) (tB (eOp (gD neD) (eVar 3) (eUn negD (eC (.int 1)))))) (tAnd (tB (eOp (gD gtD) (eVar 1) (eC (.int 0)))) (tNot (tB (eChain (gD leD) (gD ltD) (eC (.int 0)) (eVar 3) (eVar 1)))))) (sRet (eC (.bool false))) sNext))))
    (sRet (eOp (gD gtD) (eCB gLen (aCons (eVar 0) aNil)) (eC (.int 0)))))
def t_right_parts_r3 : DTS := (sSeq (sIf (tNot (tTru (eCB (g1 allDb) (aCons (eLc2 finD (iSeq (eVar 3)) (gN 8) tYes (iSeq (eVar 8)) (gN 6) tYes (eOp (inD false) (eVar 6) (eVar 2)) [8, 6] [6]) aNil)))) (sRet (eC (.bool false))) sNext)
    (sSeq (sFor (iSeq (eOp (gD ixD) (eVar 0) (eC (.int 1)))) (gTp 2 (gsCons (gN 4) (gsCons (gN 5) gsNil))) (sIf (tNot (tTru (eCB (g1 anyDb) (aCons (eLc finD (iSeq (eVar 3)) (gN 8) tYes (eCB (g1 allDb) (aCons (eLc finD (iSeq (eVar 5)) (gN 6) tYes (eOp (inD false) (eVar 6) (eVar 8)) [6]) aNil)) [8]) aNil)))) (sRet (eC (.bool false))) sNext))
    (sSeq (sFor (iSeq (eVar 2)) (gN 6) (sSeq (sSet 7 (eLc finD (iRange1 (aCons (eCB gLen (aCons (eVar 1) aNil)) aNil)) (gN 10) (tAnd (tB (eOp (inD false) (eVar 6) (eOp (gD ixD) (eVar 3) (eVar 10)))) (tOr (tB (eOp (gD eqD) (eVar 10) (eC (.int 0)))) (tB (eOp (inD true) (eVar 6) (eOp (gD ixD) (eVar 3) (eOp (gD ixD) (eOp (gD ixD) (eVar 1) (eVar 10)) (eC (.int 1)))))))) (eVar 10) [10]))
    (sIf (tB (eOp (gD neD) (eCB gLen (aCons (eVar 7) aNil)) (eC (.int 1)))) (sRet (eC (.bool false))) sNext)))
    (sRet (eC (.bool true))))))
def t_right_parts : DTS := (sSeq (sIf (tNot (tTru (eCall sp_right_tree (aCons (eVar 1) aNil)))) (sRet (eC (.bool false))) sNext)
    (sSeq (sSet 2 (eCall sp_all_variables (aCons (eVar 0) aNil)))
    (sSeq (sSet 3 (eLc finD (iSeq (eVar 1)) (gTp 2 (gsCons (gN 8) (gsCons (gN 9) gsNil))) tYes (eVar 8) [8, 9]))
    (t_right_parts_r3))))
def t_check_parts : DTS := (sSeq (sExpr (eCall (sp_check_pattern C_PatternError C_TooLarge) (aCons (eVar 0) aNil)))
    (sRet (eCall sp_right_parts (aCons (eVar 0) (aCons (eVar 1) aNil)))))
def t_width_of : DTS := (sRet (eCB (g1 maxW) (aCons (eLc finD (iSeq (eVar 0)) (gTp 2 (gsCons (gN 1) (gsCons (gN 2) gsNil))) tYes (eCB gLen (aCons (eVar 1) aNil)) [1, 2]) aNil)))
def t_order_of : DTS := (sSeq (sSet 1 (eLst aNil))
    (sSeq (sFor (iSeq (eVar 0)) (gTp 2 (gsCons (gN 2) (gsCons (gN 3) gsNil))) (sSet 1 (eOp (gD addD) (eVar 1) (eLc finD (iSeq (eVar 2)) (gN 4) (tB (eOp (inD true) (eVar 4) (eVar 1))) (eVar 4) [4]))))
    (sRet (eCB (g1 tupleD) (aCons (eVar 1) aNil)))))
def t_law_begin : DTS := (sSeq (sSet 1 (eC (.int 1)))
    (sSeq (sFor (iSeq (eVar 0)) (gN 2) (sSet 1 (eOp (gD modD) (eOp (gD addD) (eOp (gD addD) (eOp (gD mulD) (eVar 1) (eC (.int 69621))) (eOp (gD modD) (eCB (g1 intD) (aCons (eVar 2) aNil)) (eC (.int 2147483629)))) (eC (.int 7))) (eC (.int 2147483647)))))
    (sRet (eLstM (aCons (eCB (g1 listD) (aCons (eVar 0) aNil)) (aCons (eC (.int 0)) (aCons (eC (.int 0)) (aCons (eVar 1) aNil))))))))
def t_law_take : DTS := (sSeq (sIf (tAnd (tB (eOp (gD eqD) (eOp (gD ixD) (eVar 0) (eC (.int 2))) (eC (.int 0)))) (tB (eOp (gD ltD) (eOp (gD ixD) (eVar 0) (eC (.int 1))) (eCB gLen (aCons (eOp (gD ixD) (eVar 0) (eC (.int 0))) aNil))))) (sSeq (sAsg (eCB (g1 absD) (aCons (eCB (g1 intD) (aCons (eOp (gD ixD) (eOp (gD ixD) (eVar 0) (eC (.int 0))) (eOp (gD ixD) (eVar 0) (eC (.int 1)))) aNil)) aNil)) (gSetL (eVar 0) (eC (.int 2))))
    (sSeq (sAsg (eOp (gD addD) (eOp (gD ixD) (eVar 0) (eC (.int 1))) (eC (.int 1))) (gSetL (eVar 0) (eC (.int 1))))
    (sIf (tB (eOp (gD ltD) (eOp (gD ixD) (eVar 0) (eC (.int 2))) (eOp (gD powD) (eC (.int 10)) (eC (.int 18))))) (sSeq (sSet 2 (eCB (g1 intD) (aCons (eOp (gD ixD) (eVar 0) (eC (.int 2))) aNil)))
    (sSeq (sAsg (eC (.int 0)) (gSetL (eVar 0) (eC (.int 2))))
    (sRet (eOp (gD modD) (eVar 2) (eVar 1))))) sNext))) sNext)
    (sSeq (sIf (tB (eOp (gD gtD) (eOp (gD ixD) (eVar 0) (eC (.int 2))) (eC (.int 0)))) (sSeq (sSet 3 (eOp (gD modD) (eCB (g1 intD) (aCons (eOp (gD ixD) (eVar 0) (eC (.int 2))) aNil)) (eVar 1)))
    (sSeq (sAsg (eOp (gD fdivD) (eCB (g1 intD) (aCons (eOp (gD ixD) (eVar 0) (eC (.int 2))) aNil)) (eVar 1)) (gSetL (eVar 0) (eC (.int 2))))
    (sRet (eVar 3)))) sNext)
    (sSeq (sAsg (eOp (gD modD) (eCB (g1 intD) (aCons (eOp (gD addD) (eOp (gD mulD) (eOp (gD ixD) (eVar 0) (eC (.int 3))) (eC (.int 48271))) (eC (.int 11))) aNil)) (eC (.int 2147483647))) (gSetL (eVar 0) (eC (.int 3))))
    (sRet (eOp (gD modD) (eCB (g1 intD) (aCons (eOp (gD fdivD) (eOp (gD ixD) (eVar 0) (eC (.int 3))) (eC (.int 3))) aNil)) (eVar 1))))))
def t_law_signed : DTS := (sRet (eOp (gD subD) (eCall sp_law_take (aCons (eVar 0) (aCons (eOp (gD addD) (eOp (gD mulD) (eC (.int 2)) (eVar 1)) (eC (.int 1))) aNil))) (eVar 1)))
def t_law_rows : DTS := (sSeq (sSet 4 (eLstM aNil))
    (sSeq (sFor (iRange1 (aCons (eCall sp_law_take (aCons (eVar 0) (aCons (eOp (gD addD) (eVar 2) (eC (.int 1))) aNil))) aNil)) (gN 5) (sSeq (sSet 6 (eCB (g1 tupleD) (aCons (eLc finD (iRange1 (aCons (eVar 1) aNil)) (gN 7) tYes (eCall sp_law_take (aCons (eVar 0) (aCons (eVar 3) aNil))) [7]) aNil)))
    (sIf (tB (eOp (inD true) (eVar 6) (eVar 4))) (sExpr (eBm isLst gAppend (eVar 4) (aCons (eVar 6) aNil))) sNext)))
    (sRet (eCB (g1 tupleD) (aCons (eCB (g1 sortD) (aCons (eVar 4) aNil)) aNil)))))
def t_law_catalogue : DTS := (sSeq (sSet 4 (eLstM aNil))
    (sSeq (sFor (iRange1 (aCons (eOp (gD addD) (eC (.int 1)) (eCall sp_law_take (aCons (eVar 0) (aCons (eVar 1) aNil)))) aNil)) (gN 5) (sSeq (sSet 6 (eOp (gD ixD) (eTup (aCons (eC (.int 2)) (aCons (eC (.int 2)) (aCons (eC (.int 2)) (aCons (eC (.int 1)) (aCons (eC (.int 3)) (aCons (eC (.int 4)) aNil))))))) (eCall sp_law_take (aCons (eVar 0) (aCons (eC (.int 6)) aNil)))))
    (sSeq (sIf (tAnd (tB (eOp (gD gtD) (eVar 6) (eC (.int 2)))) (tB (eOp (gD gtD) (eVar 2) (eC (.int 8))))) (sSet 6 (eC (.int 3))) sNext)
    (sExpr (eBm isLst gAppend (eVar 4) (aCons (eTup (aCons (eOp (gD addD) (eOp (gD ixD) (eC (.str "abcdefgh")) (eVar 5)) (eCB (g1 strD) (aCons (eVar 6) aNil))) (aCons (eVar 6) (aCons (eCall sp_law_rows (aCons (eVar 0) (aCons (eVar 6) (aCons (eVar 2) (aCons (eVar 3) aNil))))) aNil)))) aNil))))))
    (sRet (eCB (g1 tupleD) (aCons (eVar 4) aNil)))))
def t_law_variables : DTS := (sSeq (sSet 1 (eLst aNil))
    (sSeq (sFor (iSeq (eOp (gD ixD) (eVar 0) (eC (.int 1)))) (gTp 2 (gsCons (gN 2) (gsCons (gN 3) gsNil))) (sSet 1 (eOp (gD addD) (eVar 1) (eLc finD (iRange1 (aCons (eCB gLen (aCons (eVar 3) aNil)) aNil)) (gN 4) (tAnd (tB (eOp (inD true) (eOp (gD ixD) (eVar 3) (eVar 4)) (eVar 1))) (tB (eOp (inD true) (eOp (gD ixD) (eVar 3) (eVar 4)) (eSl (eVar 3) oNone (oSome (eVar 4)))))) (eOp (gD ixD) (eVar 3) (eVar 4)) [4]))))
    (sRet (eCB (g1 tupleD) (aCons (eVar 1) aNil)))))
def t_law_pattern : DTS := (sSeq (sSet 4 (eSl (eLst (aCons (eC (.str "x")) (aCons (eC (.str "y")) (aCons (eC (.str "z")) (aCons (eC (.str "u")) (aCons (eC (.str "v")) (aCons (eC (.str "w")) aNil))))))) oNone (oSome (eOp (gD addD) (eC (.int 1)) (eCall sp_law_take (aCons (eVar 0) (aCons (eVar 3) aNil)))))))
    (sSeq (sSet 5 (eLstM aNil))
    (sSeq (sFor (iRange1 (aCons (eOp (gD addD) (eC (.int 1)) (eCall sp_law_take (aCons (eVar 0) (aCons (eVar 2) aNil)))) aNil)) (gN 6) (sSeq (sSet 7 (eOp (gD ixD) (eVar 1) (eCall sp_law_take (aCons (eVar 0) (aCons (eCB gLen (aCons (eVar 1) aNil)) aNil)))))
    (sExpr (eBm isLst gAppend (eVar 5) (aCons (eTup (aCons (eOp (gD ixD) (eVar 7) (eC (.int 0))) (aCons (eCB (g1 tupleD) (aCons (eLc finD (iRange1 (aCons (eOp (gD ixD) (eVar 7) (eC (.int 1))) aNil)) (gN 12) tYes (eOp (gD ixD) (eVar 4) (eCall sp_law_take (aCons (eVar 0) (aCons (eCB gLen (aCons (eVar 4) aNil)) aNil)))) [12]) aNil)) aNil))) aNil)))))
    (sSeq (sSet 8 (eTup (aCons (eTup aNil) (aCons (eCB (g1 tupleD) (aCons (eVar 5) aNil)) aNil))))
    (sSeq (sSet 9 (eCall sp_law_variables (aCons (eVar 8) aNil)))
    (sSeq (sSet 10 (eLstM aNil))
    (sSeq (sFor (iRange1 (aCons (eCB gLen (aCons (eVar 9) aNil)) aNil)) (gN 6) (sSeq (sSet 11 (eOp (gD ixD) (eVar 9) (eCall sp_law_take (aCons (eVar 0) (aCons (eCB gLen (aCons (eVar 9) aNil)) aNil)))))
    (sIf (tAnd (tB (eOp (inD true) (eVar 11) (eVar 10))) (tB (eOp (gD gtD) (eCall sp_law_take (aCons (eVar 0) (aCons (eC (.int 3)) aNil))) (eC (.int 0))))) (sExpr (eBm isLst gAppend (eVar 10) (aCons (eVar 11) aNil))) sNext)))
    (sRet (eTup (aCons (eCB (g1 tupleD) (aCons (eVar 10) aNil)) (aCons (eCB (g1 tupleD) (aCons (eVar 5) aNil)) aNil)))))))))))
def t_law_shuffled : DTS := (sSeq (sSet 2 (eCB (g1 listD) (aCons (eVar 1) aNil)))
    (sSeq (sSet 3 (eLstM aNil))
    (sSeq (sFor (iRange1 (aCons (eCB gLen (aCons (eVar 1) aNil)) aNil)) (gN 4) (sSeq (sSet 5 (eCall sp_law_take (aCons (eVar 0) (aCons (eCB gLen (aCons (eVar 2) aNil)) aNil))))
    (sSeq (sExpr (eBm isLst gAppend (eVar 3) (aCons (eOp (gD ixD) (eVar 2) (eVar 5)) aNil)))
    (sSet 2 (eOp (gD addD) (eSl (eVar 2) oNone (oSome (eVar 5))) (eSl (eVar 2) (oSome (eOp (gD addD) (eVar 5) (eC (.int 1)))) oNone))))))
    (sRet (eCB (g1 tupleD) (aCons (eVar 3) aNil))))))
def t_law_right_parts : DTS := (sSeq (sSet 2 (eCall sp_law_variables (aCons (eVar 0) aNil)))
    (sSeq (sIf (tB (eOp (gD eqD) (eCB gLen (aCons (eVar 1) aNil)) (eC (.int 0)))) (sRet (eC (.bool false))) sNext)
    (sSeq (sFor (iRange1 (aCons (eCB gLen (aCons (eVar 1) aNil)) aNil)) (gN 3) (sSeq (sAsg (eOp (gD ixD) (eVar 1) (eVar 3)) (gTp 2 (gsCons (gN 4) (gsCons (gN 5) gsNil))))
    (sSeq (sIf (tOr (tB (eOp (gD eqD) (eCB gLen (aCons (eVar 4) aNil)) (eC (.int 0)))) (tB (eOp (gD gtD) (eCB gLen (aCons (eLc finD (iRange2 (aCons (eC (.int 1)) (aCons (eCB gLen (aCons (eVar 4) aNil)) aNil))) (gN 10) (tB (eOp (gD geD) (eOp (gD ixD) (eVar 4) (eOp (gD subD) (eVar 10) (eC (.int 1)))) (eOp (gD ixD) (eVar 4) (eVar 10)))) (eVar 10) [10]) aNil)) (eC (.int 0))))) (sRet (eC (.bool false))) sNext)
    (sIf (tOr (tNot (tTru (eCB (g1 allDb) (aCons (eLc finD (iSeq (eVar 4)) (gN 8) tYes (eOp (inD false) (eVar 8) (eVar 2)) [8]) aNil)))) (tOr (tB (eOp (gD neD) (eVar 5) (eIf (tB (eOp (gD eqD) (eVar 3) (eC (.int 0)))) (eOp (gD subD) (eC (.int 0)) (eC (.int 1))) (eVar 5)))) (tAnd (tB (eOp (gD gtD) (eVar 3) (eC (.int 0)))) (tOr (tB (eOp (gD ltD) (eVar 5) (eC (.int 0)))) (tB (eOp (gD geD) (eVar 5) (eVar 3))))))) (sRet (eC (.bool false))) sNext))))
    (sSeq (sFor (iSeq (eOp (gD ixD) (eVar 0) (eC (.int 1)))) (gTp 2 (gsCons (gN 6) (gsCons (gN 7) gsNil))) (sIf (tB (eOp (gD eqD) (eCB gLen (aCons (eLc finD (iSeq (eVar 1)) (gTp 2 (gsCons (gN 4) (gsCons (gN 5) gsNil))) (tTru (eCB (g1 allDb) (aCons (eLc finD (iSeq (eVar 7)) (gN 8) tYes (eOp (inD false) (eVar 8) (eVar 4)) [8]) aNil))) (eC (.int 1)) [4, 5]) aNil)) (eC (.int 0)))) (sRet (eC (.bool false))) sNext))
    (sSeq (sFor (iSeq (eVar 2)) (gN 8) (sSeq (sSet 9 (eC (.int 0)))
    (sSeq (sFor (iRange1 (aCons (eCB gLen (aCons (eVar 1) aNil)) aNil)) (gN 3) (sIf (tAnd (tB (eOp (inD false) (eVar 8) (eOp (gD ixD) (eOp (gD ixD) (eVar 1) (eVar 3)) (eC (.int 0))))) (tOr (tB (eOp (gD eqD) (eVar 3) (eC (.int 0)))) (tB (eOp (inD true) (eVar 8) (eOp (gD ixD) (eOp (gD ixD) (eVar 1) (eOp (gD ixD) (eOp (gD ixD) (eVar 1) (eVar 3)) (eC (.int 1)))) (eC (.int 0))))))) (sSet 9 (eOp (gD addD) (eVar 9) (eC (.int 1)))) sNext))
    (sIf (tB (eOp (gD neD) (eVar 9) (eC (.int 1)))) (sRet (eC (.bool false))) sNext))))
    (sRet (eC (.bool true))))))))
def t_law_bags : DTS := (sSeq (sSet 2 eDkM)
    (sSeq (sFor (iSeq (eVar 1)) (gN 3) (sPutK (eVar 2) (eVar 3) (eLst aNil)))
    (sSeq (sFor (iSeq (eOp (gD ixD) (eVar 0) (eC (.int 1)))) (gTp 2 (gsCons (gN 4) (gsCons (gN 5) gsNil))) (sFor (iSeq (eVar 5)) (gN 6) (sPutK (eVar 2) (eVar 6) (eOp (gD addD) (eOp gGetK (eVar 2) (eVar 6)) (eLc finD (iSeq (eSrtSet PyData.str (eVar 5))) (gN 10) (tAnd (tB (eOp (gD neD) (eVar 10) (eVar 6))) (tB (eOp (inD true) (eVar 10) (eOp gGetK (eVar 2) (eVar 6))))) (eVar 10) [10])))))
    (sSeq (sSet 7 (eLstM aNil))
    (sSeq (sSet 8 (eCB (g1 listD) (aCons (eVar 1) aNil)))
    (sSeq (sFor (iSeq (eVar 1)) (gN 3) (sSeq (sSet 9 (eLc finD (iSeq (eOp gGetK (eVar 2) (eVar 3))) (gN 10) (tB (eOp (inD false) (eVar 10) (eVar 8))) (eVar 10) [10]))
    (sSeq (sExpr (eBm isLst gAppend (eVar 7) (aCons (eCB (g1 tupleD) (aCons (eCB (g1 sortD) (aCons (eOp (gD addD) (eLst (aCons (eVar 3) aNil)) (eVar 9)) aNil)) aNil)) aNil)))
    (sSeq (sSet 8 (eLc finD (iSeq (eVar 8)) (gN 10) (tB (eOp (gD neD) (eVar 10) (eVar 3))) (eVar 10) [10]))
    (sFor (iSeq (eVar 9)) (gN 6) (sPutK (eVar 2) (eVar 6) (eOp (gD addD) (eOp gGetK (eVar 2) (eVar 6)) (eLc finD (iSeq (eVar 9)) (gN 10) (tAnd (tB (eOp (gD neD) (eVar 10) (eVar 6))) (tB (eOp (inD true) (eVar 10) (eOp gGetK (eVar 2) (eVar 6))))) (eVar 10) [10]))))))))
    (sRet (eRev (eVar 7)))))))))
def t_law_hung : DTS := (sSeq (sSet 2 (eLstM aNil))
    (sSeq (sFor (iSeq (eVar 1)) (gN 3) (sSeq (sSet 4 (eLstM aNil))
    (sSeq (sSet 5 (eOp (gD subD) (eC (.int 0)) (eC (.int 1))))
    (sSeq (sFor (iRange1 (aCons (eCB gLen (aCons (eVar 2) aNil)) aNil)) (gN 6) (sSeq (sSet 7 (eCB gLen (aCons (eLc finD (iSeq (eVar 3)) (gN 8) (tB (eOp (inD false) (eVar 8) (eOp (gD ixD) (eOp (gD ixD) (eVar 2) (eVar 6)) (eC (.int 0))))) (eVar 8) [8]) aNil)))
    (sSeq (sIf (tB (eOp (gD gtD) (eVar 7) (eVar 5))) (sSeq (sSet 4 (eLstM aNil))
    (sSet 5 (eVar 7))) sNext)
    (sIf (tB (eOp (gD eqD) (eVar 7) (eVar 5))) (sExpr (eBm isLst gAppend (eVar 4) (aCons (eVar 6) aNil))) sNext))))
    (sExpr (eBm isLst gAppend (eVar 2) (aCons (eTup (aCons (eVar 3) (aCons (eIf (tB (eOp (gD gtD) (eCB gLen (aCons (eVar 4) aNil)) (eC (.int 0)))) (eOp (gD ixD) (eVar 4) (eCall sp_law_take (aCons (eVar 0) (aCons (eCB gLen (aCons (eVar 4) aNil)) aNil)))) (eOp (gD subD) (eC (.int 0)) (eC (.int 1)))) aNil))) aNil)))))))
    (sRet (eCB (g1 tupleD) (aCons (eVar 2) aNil)))))
def t_law_part_order : DTS := (sSeq (sSet 1 (eLst aNil))
    (sSeq (sFor (iSeq (eVar 0)) (gTp 2 (gsCons (gN 2) (gsCons (gN 3) gsNil))) (sSet 1 (eOp (gD addD) (eVar 1) (eLc finD (iSeq (eVar 2)) (gN 4) (tB (eOp (inD true) (eVar 4) (eVar 1))) (eVar 4) [4]))))
    (sRet (eCB (g1 tupleD) (aCons (eVar 1) aNil)))))
def t_law_bent : DTS := (sSeq (sSet 2 (eCall sp_law_take (aCons (eVar 0) (aCons (eCB gLen (aCons (eVar 1) aNil)) aNil))))
    (sSeq (sAsg (eOp (gD ixD) (eVar 1) (eVar 2)) (gTp 2 (gsCons (gN 3) (gsCons (gN 4) gsNil))))
    (sSeq (sSet 5 (eCall sp_law_take (aCons (eVar 0) (aCons (eC (.int 8)) aNil))))
    (sSeq (sIf (tB (eOp (gD eqD) (eVar 5) (eC (.int 0)))) (sSet 3 (eSl (eVar 3) (oSome (eC (.int 1))) oNone)) (sIf (tB (eOp (gD eqD) (eVar 5) (eC (.int 1)))) (sSet 3 (eCB (g1 tupleD) (aCons (eSrtSet PyData.str (eOp (gD addD) (eVar 3) (eTup (aCons (eOp (gD ixD) (eC (.str "xyzuvw")) (eCall sp_law_take (aCons (eVar 0) (aCons (eC (.int 6)) aNil)))) aNil)))) aNil))) (sIf (tB (eOp (gD eqD) (eVar 5) (eC (.int 2)))) (sSet 3 (eRev (eVar 3))) (sIf (tB (eOp (gD eqD) (eVar 5) (eC (.int 3)))) (sSet 4 (eOp (gD ixD) (eTup (aCons (eVar 2) (aCons (eOp (gD addD) (eVar 2) (eC (.int 1))) (aCons (eCall sp_law_signed (aCons (eVar 0) (aCons (eC (.int 3)) aNil))) aNil)))) (eCall sp_law_take (aCons (eVar 0) (aCons (eC (.int 3)) aNil))))) (sIf (tB (eOp (gD eqD) (eVar 5) (eC (.int 4)))) (sRet (eOp (gD addD) (eVar 1) (eTup (aCons (eTup (aCons (eVar 3) (aCons (eOp (gD ixD) (eTup (aCons (eVar 2) (aCons (eCB gLen (aCons (eVar 1) aNil)) aNil))) (eCall sp_law_take (aCons (eVar 0) (aCons (eC (.int 2)) aNil)))) aNil))) aNil)))) (sIf (tB (eOp (gD eqD) (eVar 5) (eC (.int 5)))) (sRet (eSl (eVar 1) oNone (oSome (eUn negD (eC (.int 1)))))) (sIf (tB (eOp (gD eqD) (eVar 5) (eC (.int 6)))) (sRet (eOp (gD addD) (eVar 1) (eTup (aCons (eTup (aCons (eSl (eOp (gD addD) (eVar 3) (eTup (aCons (eC (.str "x")) aNil))) oNone (oSome (eC (.int 1)))) (aCons (eCall sp_law_take (aCons (eVar 0) (aCons (eCB gLen (aCons (eVar 1) aNil)) aNil))) aNil))) aNil)))) (sSet 3 (eOp (gD addD) (eVar 3) (eSl (eVar 3) (oSome (eUn negD (eC (.int 1)))) oNone))))))))))
    (sRet (eOp (gD addD) (eOp (gD addD) (eSl (eVar 1) oNone (oSome (eVar 2))) (eTup (aCons (eTup (aCons (eVar 3) (aCons (eVar 4) aNil))) aNil))) (eSl (eVar 1) (oSome (eOp (gD addD) (eVar 2) (eC (.int 1)))) oNone)))))))
def t_law_r5 : DTS := (sSeq (sFor (iRange1 (aCons (eC (.int 5)) aNil)) (gN 6) (sSeq (sSet 7 (eCall (sp_check_parts C_PatternError C_TooLarge) (aCons (eVar 3) (aCons (eVar 5) aNil))))
    (sSeq (sIf (tOr (tNot (tTru (eIsi "bool" (eVar 7)))) (tOr (tB (eOp (gD neD) (eVar 7) (eCall sp_law_right_parts (aCons (eVar 3) (aCons (eVar 5) aNil))))) (tAnd (tB (eOp (gD eqD) (eVar 6) (eC (.int 0)))) (tNot (tTru (eVar 7)))))) (sRet (eC (.bool false))) sNext)
    (sSeq (sIf (tAnd (tTru (eVar 7)) (tOr (tB (eOp (gD neD) (eCall sp_order_of (aCons (eVar 5) aNil)) (eCall sp_law_part_order (aCons (eVar 5) aNil)))) (tB (eOp (gD neD) (eCall sp_width_of (aCons (eVar 5) aNil)) (eCB (g1 maxW) (aCons (eLc finD (iSeq (eVar 5)) (gTp 2 (gsCons (gN 8) (gsCons (gN 9) gsNil))) tYes (eCB gLen (aCons (eVar 8) aNil)) [8, 9]) aNil)))))) (sRet (eC (.bool false))) sNext)
    (sSeq (sIf (tB (eOp (gD eqD) (eCB gLen (aCons (eVar 5) aNil)) (eC (.int 0)))) (sRet (eC (.bool true))) sNext)
    (sSet 5 (eCall sp_law_bent (aCons (eVar 1) (aCons (eVar 5) aNil)))))))))
    (sRet (eC (.bool true))))
def t_law : DTS := (sSeq (sSet 1 (eCall sp_law_begin (aCons (eVar 0) aNil)))
    (sSeq (sSet 2 (eCall sp_law_catalogue (aCons (eVar 1) (aCons (eC (.int 3)) (aCons (eC (.int 1)) (aCons (eC (.int 2)) aNil))))))
    (sSeq (sSet 3 (eCall sp_law_pattern (aCons (eVar 1) (aCons (eVar 2) (aCons (eOp (gD ixD) (eTup (aCons (eC (.int 5)) (aCons (eC (.int 8)) aNil))) (eCall sp_law_take (aCons (eVar 1) (aCons (eC (.int 2)) aNil)))) (aCons (eOp (gD ixD) (eTup (aCons (eC (.int 5)) (aCons (eC (.int 6)) aNil))) (eCall sp_law_take (aCons (eVar 1) (aCons (eC (.int 2)) aNil)))) aNil))))))
    (sSeq (sSet 4 (eCall sp_law_shuffled (aCons (eVar 1) (aCons (eCall sp_law_variables (aCons (eVar 3) aNil)) aNil))))
    (sSeq (sSet 5 (eCall sp_law_hung (aCons (eVar 1) (aCons (eCall sp_law_bags (aCons (eVar 3) (aCons (eVar 4) aNil))) aNil))))
    (t_law_r5 C_PatternError C_TooLarge))))))
end
/-! ### the draws -/
theorem len_law_begin : ∀ xs M P PX, sp_law_begin xs M P PX → xs.length = p_law_begin.length := by rintro _ M P PX ⟨_, rfl, _⟩; rfl
theorem len_law_take : ∀ xs M P PX, sp_law_take xs M P PX → xs.length = p_law_take.length := by rintro _ M P PX ⟨_, _, _, rfl, _⟩; rfl
theorem r_law_begin : ∀ xs M Q PX, sp_law_begin xs M Q PX → t_law_begin (endD Q PX) (startD n_law_begin xs) M := by
  rintro _ M Q PX ⟨ns, rfl, h⟩
  unfold t_law_begin
  walk_at "st"
  refine ⟨fun i ρ M1 => ∃ (v : Int) (w : Option DV), M = M1 ∧ ρ = [some (.d (.list (ns.map .int))), some (.d (.int v)), w] ∧ 0 ≤ v ∧ v < 2147483647, .of ⟨1, none, rfl, rfl, by decide, by decide⟩, fun _ _ _ _ _ => trivial, ?_, ?_⟩
  · rintro i _ _ x hx ⟨v, w, rfl, rfl, h0, h1⟩
    obtain ⟨n, _, rfl⟩ := getI hx
    walk_at "st"
    exact .of ⟨_, _, rfl, rfl, by omega, by omega⟩
  · rintro _ _ ⟨v, w, rfl, rfl, h0, h1⟩
    walk_at "st"
    exact fun p hp => .here (h p _ hp ⟨ns, 0, 0, v, rfl, by decide, by decide, h0, h1⟩)
theorem r_law_take : ∀ xs M Q PX, sp_law_take xs M Q PX → t_law_take (endD Q PX) (startD n_law_take xs) M := by
  rintro _ M Q PX ⟨a, m, st, rfl, hM, ⟨ns, pos, rest, seed, rfl, h1, h2, h3, h4⟩, hm, hQ⟩
  have m0 := hm.1
  unfold t_law_take
  -- the ends of the three ways
  have fin : ∀ (k : DEnv) (pos rest seed : Int) (v : Int) (M' : MHp), 0 ≤ pos → 0 ≤ rest → 0 ≤ seed → seed < 2147483647 → M' = mu M a (.ls [.list (ns.map .int), .int pos, .int rest, .int seed]) → WkV Q (.d (.int (v % m))) M' := by
    rintro k pos rest seed v M' g1 g2 g3 g4 rfl
    exact .here (hQ _ _ ⟨ns, pos, rest, seed, rfl, g1, g2, g3, g4⟩ (Int.emod_nonneg _ (by omega)) (Int.emod_lt_of_pos _ m0))
  walk_at "st"
  refine x_brD (fun e1 => ?_) (fun e1 => ?_)
  · walk_at "st"
    refine x_brD (fun e2 => ?_) (fun e2 => ?_)
    · rw [List.length_map] at e2
      obtain ⟨x, hx⟩ := atI_int h1 (by omega : pos < ns.length)
      walk_at "st"
      refine x_brD (fun e3 => ?_) (fun e3 => ?_)
      · walk_at "st"
        refine fin [] (pos + 1) 0 seed _ _ (by omega) (by omega) h3 h4 ?_
        simp only [mu_mu]
        rfl
      · walk_at "st"
        have g0 : 0 ≤ (if x < 0 then -x else x) / m := Int.ediv_nonneg (by split <;> omega) (by omega)
        have g1 : (if x < 0 then -x else x) > 0 := by
          have : (0 : Int) < 10 ^ Int.toNat 18 := by decide
          omega
        walk_at "st"
        refine fin [] (pos + 1) _ seed _ _ (by omega) g0 h3 h4 ?_
        simp only [mu_mu]
        rfl
    · walk_at "st"
      refine fin [] pos rest ((seed * 48271 + 11) % 2147483647) _ _ h1 h2 (Int.emod_nonneg _ (by decide)) (Int.emod_lt_of_pos _ (by decide)) ?_
      rfl
  · have g0 : 0 ≤ rest / m := Int.ediv_nonneg h2 (by omega)
    walk_at "st"
    refine fin [] pos _ seed _ _ h1 g0 h3 h4 ?_
    rfl

--%%SPLIT
theorem len_is_name : ∀ xs M P PX, sp_is_name xs M P PX → xs.length = p_is_name.length := by rintro _ M P PX ⟨_, rfl, _⟩; rfl
theorem r_is_name : ∀ xs M Q PX, sp_is_name xs M Q PX → t_is_name (endD Q PX) (startD n_is_name xs) M := by
  rintro _ M Q PX ⟨w, rfl, ho, hl, h⟩
  have hz : w.length ≤ sizeLine := by rw [sizeLine_eq]; omega
  unfold t_is_name
  walk_at "st"
  refine x_eqStr ho (by decide +kernel) ?_
  walk_at "st"
  refine x_brD (fun e => ?_) (fun e => ?_)
  · subst e
    walk_at "st"
    exact .here h
  · obtain ⟨c, r, hc⟩ : ∃ c r, w.cps.toList = c :: r := by
      cases hw : w.cps.toList with
      | nil =>
        refine absurd ?_ e
        cases w with
        | mk a =>
          have : a = #[] := Array.toList_inj.mp hw
          subst this
          rfl
      | cons c r => exact ⟨c, r, rfl⟩
    have h0 : atI w.cps.toList 0 = some c := by rw [hc]; exact atI_nn (by decide) rfl
    have hn : isNm w = (decide (w.length ≤ 20) && decide (c ∈ letters.cps.toList) && w.cps.toList.all fun x => decide (x ∈ signs.cps.toList)) := by
      unfold isNm
      rw [hc]
    walk_at "st"
    refine x_brD (fun e1 => ?_) (fun e1 => ?_)
    · have : isNm w = false := by rw [hn, decide_eq_false (by omega : ¬ w.length ≤ 20)]; rfl
      rw [this] at h
      walk_at "st"
      exact .here h
    · walk_at "st"
      refine x_brD (fun e2 => ?_) (fun e2 => ?_)
      · walk_at "st"
        refine lc_of (fun c => .bool (decide (c ∈ signs.cps.toList))) (by rw [Array.length_toList]; exact hz) trivial (fun a ha KT hK => ?_) (finD_of ?_)
        · walk_at "st"
          exact hK
        · walk_at "st"
          refine .here ?_
          rw [hn, decide_eq_true (by omega : w.length ≤ 20), decide_eq_true e2] at h
          exact h
      · have : isNm w = false := by rw [hn, decide_eq_false e2, Bool.and_false]; rfl
        rw [this] at h
        walk_at "st"
        exact .here h
theorem len_ascend : ∀ xs M P PX, sp_ascend xs M P PX → xs.length = p_ascend.length := by rintro _ M P PX ⟨_, _, rfl, _⟩; rfl
theorem getD_at {l : List PyData} {i : Nat} (h : i < l.length) {k : Int} (hk : k = i) : atI l k = some (l.getD i .none) := by
  subst hk
  refine atI_nn (by omega) ?_
  rw [Int.toNat_natCast, List.getD_eq_getElem?_getD, List.getElem?_eq_getElem h]
  rfl
theorem getD_mem {l : List PyData} {i : Nat} (h : i < l.length) : l.getD i .none ∈ l := by
  rw [List.getD_eq_getElem?_getD, List.getElem?_eq_getElem h]
  exact List.getElem_mem h
theorem r_ascend : ∀ xs M Q PX, sp_ascend xs M Q PX → t_ascend (endD Q PX) (startD n_ascend xs) M := by
  rintro _ M Q PX ⟨x, l, rfl, hx, ha, hd, hl, h⟩
  unfold t_ascend
  have body : ∀ K : DK, K (.d (.bool (ascD l))) M → forall (ρ0 : DEnv), ρ0 = startD n_ascend [x] → lcI finD (rangeD 1 (((l.length : Nat) : Int) - 1).toNat) (fun _ => True) (gN 1) tYes (eOp (gD ltD) (eOp (gD ixD) (eVar 0) (eOp (gD subD) (eVar 1) (eC (.int 1)))) (eOp (gD ixD) (eVar 0) (eVar 1))) [1] ρ0 M (fun x M1 => aNil ρ0 M1 (fun xs M2 => g1 allDb (x :: xs) M2 K) fun _ _ => False) := by
    rintro K hK _ rfl
    have hr : rangeD 1 (((l.length : Nat) : Int) - 1).toNat = (List.range (l.length - 1)).map fun i => DV.d (.int (1 + (i : Nat))) := by
      unfold rangeD
      have : (((l.length : Nat) : Int) - 1).toNat = l.length - 1 := by omega
      rw [this]
    rw [hr]
    refine lc_of (fun i => .bool (PySem.W.dataLt (l.getD i .none) (l.getD (i + 1) .none))) (by rw [List.length_range, sizeLine_eq]; omega) trivial (fun i hi KT hKT => ?_) (finD_of ?_)
    · have hi' := List.mem_range.mp hi
      have x1 := getD_at (l := l) (i := i) (by omega) (k := 1 + (i : Int) - 1) (by omega)
      have x2 := getD_at (l := l) (i := i + 1) (by omega) (k := 1 + (i : Int)) (by omega)
      have m1 := getD_mem (l := l) (i := i) (by omega)
      have m2 := getD_mem (l := l) (i := i + 1) (by omega)
      have ok : CmpOk (l.getD i .none) (l.getD (i + 1) .none) := ⟨ha _ m1 _ m2, (hd _ m1).1, by have := (hd _ m1).2; omega⟩
      rcases hx with rfl | rfl
      · walk_at "st"
        exact ⟨ok, hKT⟩
      · walk_at "st"
        exact ⟨ok, hKT⟩
    · walk_at "st"
      exact hK
  rcases hx with rfl | rfl
  · walk_at "st"
    refine ⟨⟨by omega, by omega, by omega, by omega⟩, ?_⟩
    exact body _ (.here h) _ rfl
  · walk_at "st"
    refine ⟨⟨by omega, by omega, by omega, by omega⟩, ?_⟩
    exact body _ (.here h) _ rfl
theorem cat_len {c : List Tb} : (c.map Tb.d).length = c.length := by simp
theorem alike_rows (R : List (List Int)) : PySem.W.AllAlike (R.map tpI) := PySem.W.AllAlike.of fun a b => by
  show PySem.W.alike (.tuple (a.map .int)) (.tuple (b.map .int)) = true
  rw [PySem.W.alike]
  exact PySem.W.alike_ints a b
theorem len_law_rows : ∀ xs M P PX, sp_law_rows xs M P PX → xs.length = p_law_rows.length := by rintro _ M P PX ⟨_, _, _, _, _, rfl, _⟩; rfl
theorem ascD_sort {R : List (List Int)} (hn : R.Nodup) : ascD ((sortR R).map tpI) = true := by
  have hp : (sortR R).Perm R := List.mergeSort_perm _ _
  have nd : (sortR R).Nodup := hp.nodup_iff.mpr hn
  have le : (sortR R).Pairwise (fun a b => a ≤ b) := by
    have := List.pairwise_mergeSort (le := fun a b : List Int => decide (a ≤ b)) (fun a b c h1 h2 => by
      have h1 := of_decide_eq_true h1
      have h2 := of_decide_eq_true h2
      exact decide_eq_true (List.le_trans h1 h2)) (fun a b => by
      rcases List.le_total a b with h | h
      · simp [h]
      · simp [h]) R
    exact this.imp fun h => of_decide_eq_true h
  have lt : (sortR R).Pairwise (fun a b => a < b) := by
    refine (List.Pairwise.and le nd).imp fun {a b} h => ?_
    apply Classical.byContradiction
    intro z
    exact h.2 (List.le_antisymm h.1 (List.not_lt.mp z))
  generalize sortR R = S at lt
  unfold ascD
  rw [List.all_eq_true]
  intro k hk
  have hk := List.mem_range.mp hk
  rw [List.length_map] at hk
  have e1 : (S.map tpI).getD k .none = tpI S[k] := by
    rw [List.getD_eq_getElem?_getD, List.getElem?_map, List.getElem?_eq_getElem (by omega)]; rfl
  have e2 : (S.map tpI).getD (k + 1) .none = tpI S[k + 1] := by
    rw [List.getD_eq_getElem?_getD, List.getElem?_map, List.getElem?_eq_getElem (by omega)]; rfl
  rw [e1, e2, dataLt_tpI]
  exact decide_eq_true (List.pairwise_iff_getElem.mp lt k (k + 1) (by omega) (by omega) (by omega))
theorem any_rows (R : List (List Int)) (r : List Int) : ((R.map tpI).any fun z => PyData.eqv z (tpI r)) = decide (r ∈ R) := by
  have key : ∀ a b : List Int, PyData.eqvAll (a.map .int) (b.map .int) = decide (a = b) := by
    intro a
    induction a with
    | nil => intro b; cases b <;> simp [PyData.eqvAll]
    | cons x a ih =>
      intro b
      cases b with
      | nil => simp [PyData.eqvAll]
      | cons y b =>
        rw [List.map_cons, List.map_cons, PySem.W.eqv_all_cons, ih b]
        show ((x == y) && decide (a = b)) = _
        by_cases h : x = y
        · subst h; simp
        · simp [h]
  induction R with
  | nil => rfl
  | cons a R ih =>
    rw [List.map_cons, List.any_cons, ih]
    show (PyData.eqvAll (a.map .int) (r.map .int) || decide (r ∈ R)) = _
    rw [key]
    by_cases h : a = r
    · subst h; simp
    · have h' : ¬ r = a := fun z => h z.symm
      simp [h, h']
theorem shaped_rows (R : List (List Int)) : SeqAt.shaped (.list (R.map tpI)) = true := by
  have h1 : PyData.canLayAll0 (R.map tpI) = true := by
    induction R with
    | nil => rfl
    | cons a R ih =>
      rw [List.map_cons]
      show (PyData.canLayAll0 (a.map .int) && PyData.canLayAll0 (R.map tpI)) = true
      rw [canLay_ints, ih]
      rfl
  have h2 : PyData.depthAll (R.map tpI) ≤ 1 := by
    induction R with
    | nil => simp [PyData.depthAll]
    | cons a R ih =>
      have ih := ih (by
        rw [List.map_cons] at h1
        have h1' : (PyData.canLayAll0 (a.map .int) && PyData.canLayAll0 (R.map tpI)) = true := h1
        exact (Bool.and_eq_true_iff.mp h1').2)
      rw [List.map_cons, PyData.depthAll, PyData.depth, PySem.W.depth_ints]
      omega
  unfold SeqAt.shaped
  rw [PyData.depth]
  show (PyData.canLayAll0 (R.map tpI) && _) = true
  rw [h1]
  exact decide_eq_true (by omega)
theorem x_ninRows {M : MHp} {P : DK} {r : Addr} {R : List (List Int)} {l : List Int} (h : M r = some (.ls (R.map tpI))) (q : P (.d (.bool (!decide (l ∈ R)))) M) : inD true (.d (tpI l)) (.r r) M P := by
  unfold inD
  simp only [h]
  refine ⟨shaped_tupI l, shaped_rows R, ?_⟩
  rw [any_rows]
  exact q
theorem r_law_rows : ∀ xs M Q PX, sp_law_rows xs M Q PX → t_law_rows (endD Q PX) (startD n_law_rows xs) M := by
  rintro _ M Q PX ⟨d, st, n, m, q, rfl, hM, hst, n0, n4, m8, q0, q1, h⟩
  unfold t_law_rows
  walk_at "st"
  intro r hr
  have dr : d ≠ r := ne_of_mn hM hr
  walk_at "st"
  refine ⟨d, (m : Int) + 1, st, rfl, by walk_at "m", hst, divOk_small (by omega) (by omega), fun v st1 hst1 v0 v1 => ?_⟩
  walk_at "st"
  refine ⟨by omega, by omega, ?_⟩
  refine ⟨fun i ρ M1 => ∃ (R : List (List Int)) (st : List PyData) (o5 o6 : Option DV), ρ = [some (.r d), some (.d (.int n)), some (.d (.int m)), some (.d (.int q)), some (.r r), o5, o6, none] ∧ M1 d = some (.ls st) ∧ DSt st ∧ M1 r = some (.ls (R.map tpI)) ∧ (∀ a, a ≠ d → a ≠ r → M1 a = M a) ∧ R.length ≤ i ∧ R.Nodup ∧ ∀ r ∈ R, r.length = n ∧ ∀ x ∈ r, (0 : Int) ≤ x ∧ x < q,
    .of ⟨[], st1, none, none, rfl, by walk_at "m", hst1, by walk_at "m", (fun a h1 h2 => by rw [mu_ne h1, mu_ne h2]), Nat.zero_le _, List.nodup_nil, fun x hx => by cases hx⟩, fun _ _ _ _ _ => trivial, ?_, ?_⟩
  · rintro i _ M1 x hx ⟨R, st, o5, o6, rfl, hd, hst, hr1, hoth, hl, hnd, hR⟩
    obtain ⟨hi, rfl⟩ := getR hx
    walk_at "st"
    refine ⟨by omega, by omega, ?_⟩
    refine ⟨fun j acc M' => ∃ (l : List Int) (st' : List PyData), acc = (l.map PyData.int).map DV.d ∧ l.length = j ∧ M' d = some (.ls st') ∧ DSt st' ∧ M' r = some (.ls (R.map tpI)) ∧ (∀ a, a ≠ d → a ≠ r → M' a = M a) ∧ ∀ x ∈ l, (0 : Int) ≤ x ∧ x < q, ⟨_, .refl, [], st, rfl, rfl, hd, hst, hr1, hoth, fun x hx => by cases hx⟩, fun _ _ _ _ _ => trivial, ?_, ?_⟩
    · rintro j _ M2 x hx ⟨l, st', rfl, hlj, hd2, hst2, hr2, ho2, hlx⟩
      obtain ⟨hj, rfl⟩ := getR hx
      walk_at "st"
      refine ⟨d, (q : Int), st', rfl, hd2, hst2, divOk_small (by omega) (by omega), fun v s5 hs5 w0 w1 => ⟨by simp; rw [sizeLine_eq]; omega, _, .refl, l ++ [v], s5, by simp, by simp [hlj], mu_same, hs5, by walk_at "m", fun a h1 h2 => by rw [mu_ne h1]; exact ho2 a h1 h2, fun x hx => ?_⟩⟩
      rcases List.mem_append.mp hx with hx | hx
      · exact hlx x hx
      · cases List.mem_singleton.mp hx
        exact ⟨w0, w1⟩
    rintro _ M2 ⟨l, st5, rfl, hlj, hd2, hst2, hr2, ho2, hlx⟩
    rw [rangeD_len] at hlj
    refine finD_of ?_
    walk_at "st"
    refine x_ninRows hr2 ?_
    walk_at "st"
    refine x_brD (fun e => ?_) (fun e => ?_)
    · walk_at "st"
      exact .of ⟨R, st5, _, _, rfl, hd2, hst2, hr2, ho2, by omega, hnd, hR⟩
    · walk_at "st"
      · rw [List.length_map, sizeLine_eq]; omega
      walk_at "st"
      refine .of ⟨R ++ [l], st5, _, _, rfl, by walk_at "m", hst2, by rw [mu_same, List.map_append]; rfl, fun a h1 h2 => by rw [mu_ne h2]; exact ho2 a h1 h2, by rw [List.length_append]; exact Nat.succ_le_succ hl, ?_, fun r' hr' => ?_⟩
      · refine List.nodup_append.mpr ⟨hnd, by simp, fun a ha b hb => ?_⟩
        cases List.mem_singleton.mp hb
        exact fun z => e (z ▸ ha)
      · rcases List.mem_append.mp hr' with h | h
        · exact hR r' h
        · cases List.mem_singleton.mp h
          exact ⟨by omega, hlx⟩
  · rintro _ M1 ⟨R, st, o5, o6, rfl, hd, hst, hr1, hoth, hl, hnd, hR⟩
    rw [rangeD_len] at hl
    walk_at "st"
    refine ⟨⟨alike_rows R, .inl fun d hd => ?_, fun d hd => ?_⟩, ?_⟩
    · obtain ⟨r', hr', rfl⟩ := List.mem_map.mp hd
      have := (hR r' hr').1
      cases r' with
      | nil => simp at this; omega
      | cons a b => exact ⟨_, _, rfl⟩
    · obtain ⟨r', hr', rfl⟩ := List.mem_map.mp hd
      rw [PyData.depth, PySem.W.depth_ints]
      decide
    · rw [sortL_rows]
      walk_at "st"
      have hp : (sortR R).Perm R := List.mergeSort_perm _ _
      refine .of (M' := mu M d (.ls st)) (fun a o e => ?_) (h (sortR R) st hst (fun r' hr' => hR r' (hp.mem_iff.mp hr')) (ascD_sort hnd) (by rw [hp.length_eq]; omega))
      by_cases ha : a = d
      · subst ha
        rw [mu_same] at e; cases e; exact hd
      · rw [mu_ne ha] at e
        rw [hoth a ha (fun z => by subst z; rw [hr] at e; cases e)]
        exact e
theorem nm_ok : ∀ k, k < 8 → ∀ c ∈ ([1, 2, 3, 4] : List Int), isNm (nm k c) = true ∧ PyData.strOk (nm k c) = true ∧ (nm k c).length = 2 := by decide +kernel
theorem nm_lt : ∀ k, k < 8 → ∀ c ∈ ([1, 2, 3, 4] : List Int), ∀ c' ∈ ([1, 2, 3, 4] : List Int), decide ((nm k c).cps.toList < (nm (k + 1) c').cps.toList) = true := by decide +kernel
theorem pick6 {n : Int} (h0 : 0 ≤ n) (h1 : n < 6) : ∃ m : Int, atI [PyData.int 2, .int 2, .int 2, .int 1, .int 3, .int 4] n = some (.int m) ∧ m ∈ ([1, 2, 3, 4] : List Int) := by
  have : n = 0 ∨ n = 1 ∨ n = 2 ∨ n = 3 ∨ n = 4 ∨ n = 5 := by omega
  rcases this with rfl | rfl | rfl | rfl | rfl | rfl
  · exact ⟨2, rfl, by simp⟩
  · exact ⟨2, rfl, by simp⟩
  · exact ⟨2, rfl, by simp⟩
  · exact ⟨1, rfl, by simp⟩
  · exact ⟨3, rfl, by simp⟩
  · exact ⟨4, rfl, by simp⟩
theorem letter_at : ∀ k : Nat, k < 8 → atI ("abcdefgh" : Str).cps.toList (k : Int) = some (97 + k) := by decide +kernel
theorem made_ok {T : List Tb} (h : Made T) (hl : T.length ≤ 8) (hn : T ≠ []) : Sz 0 T ∧ catOk T = true ∧ big T = false := by
  have at' : ∀ t ∈ T, ∃ j, j < T.length ∧ T[j]? = some t := fun t ht => by
    obtain ⟨j, hj, e⟩ := List.getElem_of_mem ht
    exact ⟨j, hj, by rw [List.getElem?_eq_getElem hj, e]⟩
  have col : ∀ c ∈ ([1, 2, 3, 4] : List Int), 1 ≤ c ∧ c ≤ 4 := by decide
  refine ⟨⟨hn, hl, fun t ht => ?_⟩, ?_, ?_⟩
  · obtain ⟨j, hj, e⟩ := at' t ht
    obtain ⟨h1, h2, h3, h4, h5⟩ := h j t e
    obtain ⟨a1, a2, a3⟩ := nm_ok j (by omega) _ h1
    rw [h2]
    refine ⟨a2, by omega, h3, fun r hr => ?_⟩
    have := (h5 r hr).1
    have := col _ h1
    omega
  · unfold catOk
    rw [Bool.and_eq_true]
    constructor
    · rw [List.all_eq_true]
      intro t ht
      obtain ⟨j, hj, e⟩ := at' t ht
      obtain ⟨h1, h2, h3, h4, h5⟩ := h j t e
      obtain ⟨a1, a2, a3⟩ := nm_ok j (by omega) _ h1
      have c := col _ h1
      unfold tabOk
      rw [h2, a1, decide_eq_true c.1, decide_eq_true c.2, h4]
      have : t.rows.all (rowOk t.cols) = true := by
        rw [List.all_eq_true]
        intro r hr
        obtain ⟨b1, b2⟩ := h5 r hr
        unfold rowOk
        rw [decide_eq_true b1, Bool.true_and, List.all_eq_true]
        intro x hx
        have := b2 x hx
        rw [decide_eq_true (by omega : -999999999 ≤ x), decide_eq_true (by omega : x ≤ 999999999)]
        rfl
      rw [this]
      rfl
    · unfold ascD
      rw [List.all_eq_true]
      intro k hk
      have hk := List.mem_range.mp hk
      rw [List.length_map] at hk
      have h1 : T[k]? = some T[k] := List.getElem?_eq_getElem (by omega)
      have h2 : T[k + 1]? = some T[k + 1] := List.getElem?_eq_getElem (by omega)
      have e1 : (T.map fun t => PyData.str t.name).getD k .none = .str T[k].name := by
        rw [List.getD_eq_getElem?_getD, List.getElem?_map, h1]; rfl
      have e2 : (T.map fun t => PyData.str t.name).getD (k + 1) .none = .str T[k + 1].name := by
        rw [List.getD_eq_getElem?_getD, List.getElem?_map, h2]; rfl
      rw [e1, e2, PySem.W.dataLt_str]
      obtain ⟨g1, g2, _⟩ := h k _ h1
      obtain ⟨g3, g4, _⟩ := h (k + 1) _ h2
      rw [g2, g4]
      exact nm_lt k (by omega) _ g1 _ g3
  · unfold big
    rw [decide_eq_false (by omega : ¬ 8 < T.length), Bool.false_or, List.any_eq_false]
    intro t ht
    obtain ⟨j, hj, e⟩ := at' t ht
    obtain ⟨h1, h2, h3, h4, h5⟩ := h j t e
    simp
    omega
theorem asc_iff {l : List PyData} : ascD l = true ↔ ∀ j, j + 1 < l.length → PySem.W.dataLt (l.getD j .none) (l.getD (j + 1) .none) = true := by
  unfold ascD
  rw [List.all_eq_true]
  constructor
  · intro h j hj
    exact h j (List.mem_range.mpr (by omega))
  · intro h k hk
    exact h k (by have := List.mem_range.mp hk; omega)
def nms (c : List Tb) : List PyData := c.map fun t => .str t.name
theorem bad_tab {c : List Tb} {t : Tb} (h : t ∈ c) (q : tabOk t = false) : catOk c = false := by
  have : c.all tabOk = false := by
    rw [List.all_eq_false]
    exact ⟨t, h, by rw [q]; exact Bool.false_ne_true⟩
  unfold catOk
  rw [this]; rfl
theorem bad_asc {l : List PyData} {i : Nat} (hi : i + 1 < l.length) (q : ¬ PySem.W.dataLt (l.getD i .none) (l.getD (i + 1) .none) = true) : ascD l = false := by
  cases e : ascD l
  · rfl
  · exact absurd (asc_iff.mp e i hi) q
theorem nms_at {c : List Tb} {i : Nat} {t : Tb} (h : c[i]? = some t) : (nms c).getD i .none = .str t.name := by
  unfold nms
  rw [List.getD_eq_getElem?_getD, List.getElem?_map, h]; rfl
theorem rws_at {R : List (List Int)} {i : Nat} {r : List Int} (h : R[i]? = some r) : (R.map tpI).getD i .none = tpI r := by
  rw [List.getD_eq_getElem?_getD, List.getElem?_map, h]; rfl
theorem tab_at {c : List Tb} {i : Nat} {t : Tb} {k : Int} (h : c[i]? = some t) (hk : k = i) : atI (c.map Tb.d) k = some t.d := by
  subst hk
  exact atI_nn (by omega) (by rw [Int.toNat_natCast, List.getElem?_map, h]; rfl)
theorem row_at {R : List (List Int)} {i : Nat} {r : List Int} {k : Int} (h : R[i]? = some r) (hk : k = i) : atI (R.map tpI) k = some (tpI r) := by
  subst hk
  exact atI_nn (by omega) (by rw [Int.toNat_natCast, List.getElem?_map, h]; rfl)
theorem sz_cat {k : Nat} {c : List Tb} (h : Sz k c) (hk : k ≤ 20) : CatSz c := ⟨by have := h.2.1; omega, fun t ht => by
  obtain ⟨a1, a2, a3, a4⟩ := h.2.2 t ht
  exact ⟨a1, by omega, by omega, fun r hr => by have := a4 r hr; omega⟩⟩
def ascS (ws : List Str) : Bool := (List.range (ws.length - 1)).all fun k => decide ((ws.getD k "").cps.toList < (ws.getD (k + 1) "").cps.toList)
theorem ascD_str {ws : List Str} (h : ascS ws = true) : ascD (ws.map .str) = true := by
  refine asc_iff.mpr fun j hj => ?_
  rw [List.length_map] at hj
  unfold ascS at h
  have := List.all_eq_true.mp h j (List.mem_range.mpr (by omega))
  have e : ∀ i, i < ws.length → (ws.map PyData.str).getD i .none = .str (ws.getD i "") := fun i hi => by
    rw [List.getD_eq_getElem?_getD, List.getD_eq_getElem?_getD, List.getElem?_map, List.getElem?_eq_getElem hi]; rfl
  rw [e j (by omega), e (j + 1) hj, PySem.W.dataLt_str]
  exact this
def ascR (ws : List (List Int)) : Bool := (List.range (ws.length - 1)).all fun k => decide ((ws.getD k []) < (ws.getD (k + 1) []))
theorem ascD_rows {ws : List (List Int)} (h : ascR ws = true) : ascD (ws.map tpI) = true := by
  refine asc_iff.mpr fun j hj => ?_
  rw [List.length_map] at hj
  unfold ascR at h
  have := List.all_eq_true.mp h j (List.mem_range.mpr (by omega))
  have e : ∀ i, i < ws.length → (ws.map tpI).getD i .none = tpI (ws.getD i []) := fun i hi => by
    rw [List.getD_eq_getElem?_getD, List.getD_eq_getElem?_getD, List.getElem?_map, List.getElem?_eq_getElem hi]; rfl
  rw [e j (by omega), e (j + 1) hj, dataLt_tpI]
  exact this
theorem cat_of {c : List Tb} (h1 : (c.all fun t => isNm t.name && decide (1 ≤ t.cols) && decide (t.cols ≤ 4) && (t.rows.all (rowOk t.cols)) && ascR t.rows) = true) (h2 : ascS (c.map fun t => t.name) = true) : catOk c = true := by
  unfold catOk
  rw [Bool.and_eq_true]
  constructor
  · rw [List.all_eq_true] at h1 ⊢
    intro t ht
    have := h1 t ht
    rw [Bool.and_eq_true] at this
    unfold tabOk
    rw [Bool.and_eq_true]
    exact ⟨this.1, ascD_rows this.2⟩
  · have := ascD_str h2
    rw [List.map_map] at this
    exact this
def szB (c : List Tb) : Bool := decide (c.length ≤ 100) && c.all fun t => PyData.strOk t.name && decide (t.name.length ≤ 100) && decide (t.rows.length ≤ 1000) && t.rows.all fun r => decide (r.length ≤ 100)
theorem sz_of {c : List Tb} (h : szB c = true) : CatSz c := by
  unfold szB at h
  rw [Bool.and_eq_true, List.all_eq_true] at h
  refine ⟨of_decide_eq_true h.1, fun t ht => ?_⟩
  have := h.2 t ht
  rw [Bool.and_eq_true, Bool.and_eq_true, Bool.and_eq_true, List.all_eq_true] at this
  exact ⟨this.1.1.1, of_decide_eq_true this.1.1.2, of_decide_eq_true this.1.2, fun r hr => of_decide_eq_true (this.2 r hr)⟩
--%%SPLIT
theorem len_law_catalogue : ∀ xs M P PX, sp_law_catalogue xs M P PX → xs.length = p_law_catalogue.length := by rintro _ M P PX ⟨_, _, _, _, _, rfl, _⟩; rfl
theorem made_add {T : List Tb} {t : Tb} (h : Made T) (q : t.cols ∈ ([1, 2, 3, 4] : List Int) ∧ t.name = nm T.length t.cols ∧ t.rows.length ≤ 8 ∧ ascD (t.rows.map tpI) = true ∧ ∀ r ∈ t.rows, (r.length : Int) = t.cols ∧ ∀ x ∈ r, (0 : Int) ≤ x ∧ x < 100) : Made (T ++ [t]) := fun j u e => by
  rcases Nat.lt_trichotomy j T.length with g | g | g
  · rw [List.getElem?_append_left g] at e
    exact h j u e
  · subst g
    rw [List.getElem?_append_right (Nat.le_refl _), Nat.sub_self] at e
    cases e
    exact q
  · rw [List.getElem?_append_right (by omega), List.getElem?_eq_none (by simp; omega)] at e
    cases e
theorem nm_of : ∀ k, k < 8 → ∀ c ∈ ([1, 2, 3, 4] : List Int), ((⟨#[97 + k]⟩ : Str) ++ (toString c : Str)) = nm k c ∧ (⟨#[97 + k]⟩ : Str).length + (toString c : Str).length ≤ 2 := by decide +kernel
theorem r_law_catalogue : ∀ xs M Q PX, sp_law_catalogue xs M Q PX → t_law_catalogue (endD Q PX) (startD n_law_catalogue xs) M := by
  rintro _ M Q PX ⟨d, st, n, m, q, rfl, hM, hst, n0, n4, m8, q0, q1, h⟩
  unfold t_law_catalogue
  walk_at "st"
  intro r hr
  have dr : d ≠ r := ne_of_mn hM hr
  walk_at "st"
  refine ⟨d, (n : Int), st, rfl, by walk_at "m", hst, divOk_small (by omega) (by omega), fun v st1 hst1 v0 v1 => ?_⟩
  walk_at "st"
  refine ⟨by omega, by omega, ?_⟩
  refine ⟨fun i ρ M1 => ∃ (T : List Tb) (st : List PyData) (o5 o6 : Option DV), ρ = [some (.r d), some (.d (.int n)), some (.d (.int m)), some (.d (.int q)), some (.r r), o5, o6] ∧ M1 d = some (.ls st) ∧ DSt st ∧ M1 r = some (.ls (T.map Tb.d)) ∧ (∀ a, a ≠ d → a ≠ r → M1 a = M a) ∧ T.length = i ∧ Made T,
    .of ⟨[], st1, none, none, rfl, by walk_at "m", hst1, by walk_at "m", (fun a h1 h2 => by rw [mu_ne h1, mu_ne h2]), rfl, fun j t e => by simp at e⟩, fun _ _ _ _ _ => trivial, ?_, ?_⟩
  · rintro i _ M1 x hx ⟨T, st, o5, o6, rfl, hd, hst, hr1, hoth, hl, hmd⟩
    obtain ⟨hi, rfl⟩ := getR hx
    have hi5 : i < 5 := by omega
    walk_at "st"
    refine ⟨d, 6, st, rfl, hd, hst, divOk_small (by decide) (by decide), fun w st2 hst2 w0 w1 => ?_⟩
    obtain ⟨c, hc, hc4⟩ := pick6 w0 w1
    have c14 : 1 ≤ c ∧ c ≤ 4 := (by decide : ∀ c ∈ ([1, 2, 3, 4] : List Int), 1 ≤ c ∧ c ≤ 4) c hc4
    have ci := nm_of i (by omega) c hc4
    have ni := nm_ok i (by omega) c hc4
    have la : atI ("abcdefgh" : Str).cps.toList (0 + (i : Int)) = some (97 + i) := by rw [Int.zero_add]; exact letter_at i (by omega)
    have lg : c.natAbs.log2 < 1920 := by
      have : c.natAbs < 2 ^ 1920 := Nat.lt_of_lt_of_le (by omega : c.natAbs < 2 ^ 3) (Nat.pow_le_pow_right (by decide) (by decide))
      rcases Nat.eq_zero_or_pos c.natAbs with z | z
      · rw [z]; decide
      · exact (Nat.log2_lt (by omega)).mpr this
    have rest : forall (o6 : Option DV), True := fun _ => trivial
    walk_at "st"
    refine x_brD (fun e => ?_) (fun e => ?_)
    all_goals
      walk_at "st"
      refine x_ixS (by decide +kernel) la ?_
      walk_at "st"
      refine x_strI lg ?_
      walk_at "st"
      refine x_addS (Nat.le_trans ci.2 (by rw [sizeLine_eq]; decide)) ?_
      rw [ci.1]
      walk_at "st"
      refine ⟨d, st2, c.toNat, m, q, by rw [Int.toNat_of_nonneg (by omega)], by walk_at "m", hst2, by omega, by omega, m8, q0, q1, fun R st3 hst3 hR hasc hlen => ?_⟩
      rw [mu_mu]
      walk_at "st"
      · rw [List.length_map, sizeLine_eq]; omega
      walk_at "st"
      refine .of ⟨T ++ [⟨nm i c, c, R⟩], st3, _, _, rfl, by walk_at "m", hst3, by rw [mu_same, List.map_append]; rfl, fun a h1 h2 => by rw [mu_ne h2, mu_ne h1]; exact hoth a h1 h2, by rw [List.length_append, hl]; rfl, made_add hmd ⟨hc4, by rw [hl], by show R.length ≤ 8; omega, hasc, fun r' hr' => ⟨?_, fun x hx => ?_⟩⟩⟩
      · rw [(hR r' hr').1, Int.toNat_of_nonneg (by omega)]
      · have := (hR r' hr').2 x hx
        omega
  · rintro _ M1 ⟨T, st, o5, o6, rfl, hd, hst, hr1, hoth, hl, hmd⟩
    rw [rangeD_len] at hl
    have ne : T ≠ [] := by rintro rfl; simp at hl; omega
    obtain ⟨a1, a2, a3⟩ := made_ok hmd (by omega) ne
    walk_at "st"
    refine .of (M' := mu M d (.ls st)) (fun a o e => ?_) (h T st hst a1 a2 a3 hmd)
    by_cases ha : a = d
    · subst ha
      rw [mu_same] at e; cases e; exact hd
    · rw [mu_ne ha] at e
      rw [hoth a ha (fun z => by subst z; rw [hr] at e; cases e)]
      exact e
--%%PAR
theorem resE_n {p : Prop} {PX : DX} {M : MHp} (q : p) : ResE none p PX M := q
theorem resE_bind {o o2 : Option Addr} {p : Prop} {PX : DX} {M : MHp} (h : ResE (match o with | some c => some c | none => o2) p PX M) : ResE o (ResE o2 p PX M) PX M := by
  cases o with
  | some c => exact h
  | none => exact h
theorem resE_imp {o : Option Addr} {p q : Prop} {PX : DX} {M : MHp} (h : ResE o p PX M) (i : o = none → p → q) : ResE o q PX M := by
  cases o with
  | some c => exact h
  | none => exact i rfl h
/-! ### variables -/
theorem addN_in {acc : List Str} {v : Str} (h : v ∈ acc) : addN acc v = acc := if_pos h
theorem addN_nin {acc : List Str} {v : Str} (h : v ∉ acc) : addN acc v = acc ++ [v] := if_neg h
theorem mem_addN {acc : List Str} {v x : Str} : x ∈ addN acc v ↔ x ∈ acc ∨ x = v := by
  unfold addN
  split
  · rename_i h
    exact ⟨.inl, fun z => z.elim id fun e => e ▸ h⟩
  · simp
theorem mem_fold {l : List Str} {acc : List Str} {x : Str} : x ∈ l.foldl addN acc ↔ x ∈ acc ∨ x ∈ l := by
  induction l generalizing acc with
  | nil => simp
  | cons v r ih => rw [List.foldl_cons, ih, mem_addN, List.mem_cons, or_assoc]
theorem nodup_addN {acc : List Str} {v : Str} (h : acc.Nodup) : (addN acc v).Nodup := by
  unfold addN
  split
  · exact h
  · rename_i n
    exact List.nodup_append.mpr ⟨h, by simp, fun a ha b hb => by cases List.mem_singleton.mp hb; exact fun z => n (z ▸ ha)⟩
theorem nodup_fold {l : List Str} {acc : List Str} (h : acc.Nodup) : (l.foldl addN acc).Nodup := by
  induction l generalizing acc with
  | nil => exact h
  | cons v r ih => exact ih (nodup_addN h)
theorem mem_varsF {as : List Atom} {acc : List Str} {x : Str} : x ∈ as.foldl (fun acc a => a.2.foldl addN acc) acc ↔ x ∈ acc ∨ ∃ a ∈ as, x ∈ a.2 := by
  induction as generalizing acc with
  | nil => simp
  | cons a r ih =>
    rw [List.foldl_cons, ih, mem_fold]
    simp only [List.mem_cons, exists_eq_or_imp, or_assoc]
theorem mem_vars {as : List Atom} {x : Str} : x ∈ varsA as ↔ ∃ a ∈ as, x ∈ a.2 := by
  unfold varsA
  rw [mem_varsF]
  simp
theorem nodup_varsF {as : List Atom} {acc : List Str} (h : acc.Nodup) : (as.foldl (fun acc a => a.2.foldl addN acc) acc).Nodup := by
  induction as generalizing acc with
  | nil => exact h
  | cons a r ih => exact ih (nodup_fold h)
theorem nodup_vars (as : List Atom) : (varsA as).Nodup := nodup_varsF List.nodup_nil
theorem vars_snoc (as : List Atom) (a : Atom) : varsA (as ++ [a]) = a.2.foldl addN (varsA as) := by
  unfold varsA
  rw [List.foldl_append]; rfl
theorem len_addN {acc : List Str} {v : Str} : (addN acc v).length ≤ acc.length + 1 := by
  unfold addN
  split
  · omega
  · simp
theorem len_fold {l : List Str} {acc : List Str} : (l.foldl addN acc).length ≤ acc.length + l.length := by
  induction l generalizing acc with
  | nil => simp
  | cons v r ih =>
    rw [List.foldl_cons, List.length_cons]
    have := ih (acc := addN acc v)
    have := len_addN (acc := acc) (v := v)
    omega
theorem len_varsF {as : List Atom} {acc : List Str} {n : Nat} (h : ∀ a ∈ as, a.2.length ≤ n) : (as.foldl (fun acc a => a.2.foldl addN acc) acc).length ≤ acc.length + as.length * n := by
  induction as generalizing acc with
  | nil => simp
  | cons a r ih =>
    rw [List.foldl_cons, List.length_cons, Nat.succ_mul]
    have := ih (acc := a.2.foldl addN acc) fun b hb => h b (List.mem_cons_of_mem _ hb)
    have := len_fold (l := a.2) (acc := acc)
    have := h a (List.mem_cons_self ..)
    omega
theorem len_vars {as : List Atom} {n : Nat} (h : ∀ a ∈ as, a.2.length ≤ n) : (varsA as).length ≤ as.length * n := by
  have := len_varsF (acc := []) h
  rw [List.length_nil, Nat.zero_add] at this
  exact this
theorem PatSz.vl {p : Pat} (h : PatSz p) : p.vars.length ≤ 10000 := by
  have := len_vars (as := p.atoms) (n := 100) fun a ha => (h.a a ha).2.1
  have : p.atoms.length * 100 ≤ 100 * 100 := Nat.mul_le_mul_right _ h.al
  unfold Pat.vars
  omega
theorem PatSz.vs {p : Pat} (h : PatSz p) : ∀ w ∈ p.vars, StOk w := fun w hw => by
  obtain ⟨a, ha, hx⟩ := mem_vars.mp hw
  exact (h.a a ha).2.2 w hx
theorem len_all_variables : ∀ xs M P PX, sp_all_variables xs M P PX → xs.length = p_all_variables.length := by rintro _ M P PX ⟨_, rfl, _⟩; rfl
theorem r_all_variables : ∀ xs M Q PX, sp_all_variables xs M Q PX → t_all_variables (endD Q PX) (startD n_all_variables xs) M := by
  rintro _ M Q PX ⟨p, rfl, hp, h⟩
  unfold t_all_variables
  walk_at "st"
  intro f hf
  walk_at "st"
  refine ⟨fun i ρ M1 => ∃ o2 o3 o4, M1 f = some (.ls ((varsA (p.atoms.take i)).map .str)) ∧ (∀ a, a ≠ f → M1 a = M a) ∧ ρ = [some (.d p.d), some (.r f), o2, o3, o4], .of ⟨_, _, _, mu_same, fun a h => mu_ne h, rfl⟩, fun _ _ _ _ _ => trivial, ?_, ?_⟩
  · rintro i _ M1 x hx ⟨o2, o3, o4, hM, ho, rfl⟩
    obtain ⟨a, ha, rfl⟩ := getM hx
    have am := List.mem_of_getElem? ha
    obtain ⟨a1, a2, a3⟩ := hp.a a am
    have vt : ∀ {acc : List Str}, (∀ w ∈ acc, w ∈ varsA (p.atoms.take i) ∨ w ∈ a.2) → ∀ w ∈ acc, StOk w := fun g w hw => by
      rcases g w hw with z | z
      · obtain ⟨b, hb, hx⟩ := mem_vars.mp z
        exact (hp.a b (List.mem_of_mem_take hb)).2.2 w hx
      · exact a3 w z
    have l0 : (varsA (p.atoms.take i)).length ≤ 10000 := by
      have := len_vars (as := p.atoms.take i) (n := 100) fun a ha => (hp.a a (List.mem_of_mem_take ha)).2.1
      have h2 : (p.atoms.take i).length * 100 ≤ 100 * 100 := Nat.mul_le_mul_right _ (by rw [List.length_take]; have := hp.al; omega)
      omega
    walk_at "st"
    refine ⟨fun j ρ M1 => ∃ o4, M1 f = some (.ls (((a.2.take j).foldl addN (varsA (p.atoms.take i))).map .str)) ∧ (∀ a, a ≠ f → M1 a = M a) ∧ ρ = [some (.d p.d), some (.r f), some (.d (.str a.1)), some (.d (tpS a.2)), o4], .of ⟨_, hM, ho, rfl⟩, fun _ _ _ _ _ => trivial, ?_, ?_⟩
    · rintro j _ M2 y hy ⟨o4, hM2, ho2, rfl⟩
      obtain ⟨v, hv, rfl⟩ := getM hy
      have vm := List.mem_of_getElem? hv
      have al : ((a.2.take j).foldl addN (varsA (p.atoms.take i))).length ≤ 10100 := by
        have := len_fold (l := a.2.take j) (acc := varsA (p.atoms.take i))
        rw [List.length_take] at this
        omega
      walk_at "st"
      refine x_ninMS hM2 (a3 v vm).1 (fun w hw => (vt (fun w hw => (mem_fold.mp hw).imp id List.mem_of_mem_take) w hw).1) ?_
      walk_at "st"
      have e2 : (a.2.take (j + 1)).foldl addN (varsA (p.atoms.take i)) = addN ((a.2.take j).foldl addN (varsA (p.atoms.take i))) v := by
        rw [take_succ_of hv, List.foldl_append]; rfl
      refine x_brD (fun e => ?_) (fun e => ?_)
      · walk_at "st"
        refine .of ⟨_, ?_, ho2, rfl⟩
        rw [e2, addN_in e]
        exact hM2
      · walk_at "st"
        · rw [List.length_map, sizeLine_eq]; omega
        walk_at "st"
        refine .of ⟨_, ?_, fun b hb => by rw [mu_ne hb]; exact ho2 b hb, rfl⟩
        rw [mu_same, e2, addN_nin e, List.map_append]
        rfl
    · rintro _ M2 ⟨o4, hM2, ho2, rfl⟩
      rw [List.length_map, List.length_map, List.take_length] at hM2
      refine .of ⟨_, _, _, ?_, ho2, rfl⟩
      rw [take_succ_of ha, vars_snoc]
      exact hM2
  · rintro _ M1 ⟨o2, o3, o4, hM, ho, rfl⟩
    rw [List.length_map, List.length_map, List.take_length] at hM
    walk_at "st"
    refine .of (M' := M) (fun b o e => ?_) h
    rw [ho b (by rintro rfl; rw [hf] at e; cases e)]
    exact e
/-! ### atoms -/
theorem len_right_atoms : ∀ xs M P PX, sp_right_atoms xs M P PX → xs.length = p_right_atoms.length := by rintro _ M P PX ⟨_, rfl, _⟩; rfl
theorem colsP_cons (f : Str → Option Nat) (a : Atom) (r : List Atom) : colsP f (a :: r) = (isNm a.1 && decide (1 ≤ a.2.length) && decide (a.2.length ≤ 4) && a.2.all isNm && decide ((f a.1).getD a.2.length = a.2.length) && colsP (fun w => if w = a.1 then some a.2.length else f w) r) := rfl
def ColsK (f : Str → Option Nat) (kvs : List (Key × DV)) : Prop := kvs.length ≤ 100 ∧ ∀ w, valD kvs (.inr w) = (f w).map fun n => .d (.int n)
theorem r_right_atoms : ∀ xs M Q PX, sp_right_atoms xs M Q PX → t_right_atoms (endD Q PX) (startD n_right_atoms xs) M := by
  rintro _ M Q PX ⟨as, rfl, hl, ha, h⟩
  unfold t_right_atoms
  walk_at "st"
  intro c hc
  walk_at "st"
  have back : ∀ {M1 : MHp}, (∀ a, a ≠ c → M1 a = M a) → MLe M M1 := fun ho b o e => by
    rw [ho b (by rintro rfl; rw [hc] at e; cases e)]
    exact e
  refine ⟨fun i ρ M1 => ∃ o2 o3 kvs f, M1 c = some (.dk kvs) ∧ kvs.length ≤ i ∧ (∀ w, valD kvs (.inr w) = (f w).map fun n : Nat => DV.d (.int (n : Int))) ∧ colsP (fun _ => none) as = colsP f (as.drop i) ∧ (∀ a, a ≠ c → M1 a = M a) ∧ ρ = [some (.d (atsD as)), some (.r c), o2, o3, none], .of ⟨_, _, [], fun _ => none, mu_same, Nat.le_refl _, fun _ => rfl, rfl, fun a h => mu_ne h, rfl⟩, fun _ _ _ _ _ => trivial, ?_, ?_⟩
  · rintro i _ M1 x hx ⟨o2, o3, kvs, f, hM, hk, hv, hcp, ho, rfl⟩
    obtain ⟨a, hai, rfl⟩ := getM hx
    have am := List.mem_of_getElem? hai
    obtain ⟨a1, a2, a3⟩ := ha a am
    have il : i < as.length := (List.getElem?_eq_some_iff.mp hai).1
    have dr : as.drop i = a :: as.drop (i + 1) := by
      obtain ⟨_, e⟩ := List.getElem?_eq_some_iff.mp hai
      rw [List.drop_eq_getElem_cons il, e]
    rw [dr, colsP_cons] at hcp
    have bad : colsP (fun _ => none) as = false → WkV Q (.d (.bool false)) M1 := fun e => by
      refine .of (back ho) ?_
      unfold ratoms at h
      rw [e] at h
      exact h
    walk_at "st"
    refine ⟨a.1, rfl, a1.1, a1.2, ?_⟩
    walk_at "st"
    refine x_br (fun e1 => ?_) (fun e1 => ?_)
    · walk_at "st"
      rw [List.length_map]
      refine x_brD (fun e2 => ?_) (fun e2 => ?_)
      · walk_at "st"
        refine x_brD (fun e3 => ?_) (fun e3 => ?_)
        · walk_at "st"
          rw [List.map_map]
          refine lc_of (e := DV.d ∘ PyData.str) (fun w => .bool (isNm w)) (by rw [sizeLine_eq]; omega) trivial (fun w hw KT hK => ?_) (finD_of ?_)
          · show gN 4 (.d (.str w)) _ _ _ _
            walk_at "st"
            exact ⟨w, rfl, (a3 w hw).1, (a3 w hw).2, hK⟩
          walk_at "st"
          refine x_br (fun e4 => ?_) (fun e4 => ?_)
          · walk_at "st"
            refine ⟨x_isDk hM, ?_⟩
            walk_at "st"
            refine x_getDK rfl hM ?_
            have eg : ((valD kvs (.inr a.1)).getD (.d (.int ((a.2.map PyData.str).length : Nat)))) = .d (.int (((f a.1).getD a.2.length : Nat) : Int)) := by
              rw [hv, List.length_map]
              cases f a.1 <;> rfl
            rw [eg]
            walk_at "st"
            rw [List.length_map]
            refine x_brD (fun e5 => ?_) (fun e5 => ?_)
            · walk_at "st"
              refine bad ?_
              rw [hcp, decide_eq_false (fun z : (f a.1).getD a.2.length = a.2.length => e5 (by rw [z])), Bool.and_false, Bool.false_and]
            · walk_at "st"
              refine x_putDK rfl hM (by rw [sizeLine_eq]; omega) ?_
              refine .of ⟨_, _, _, fun w => if w = a.1 then some a.2.length else f w, mu_same, ?_, fun w => ?_, ?_, fun b hb => by rw [mu_ne hb]; exact ho b hb, rfl⟩
              · have := len_putD kvs (.inr a.1) (.d (.int (a.2.map PyData.str).length))
                omega
              · rw [valD_put, List.length_map]
                show _ = Option.map _ (if w = a.1 then some a.2.length else f w)
                by_cases hw : w = a.1
                · subst hw
                  rw [if_pos rfl, if_pos rfl]; rfl
                · rw [if_neg (fun z => hw (Sum.inr.inj z)), if_neg hw]
                  exact hv w
              · rw [hcp, e1, e4, decide_eq_true (by omega : 1 ≤ a.2.length), decide_eq_true (by omega : a.2.length ≤ 4), decide_eq_true (by omega : (f a.1).getD a.2.length = a.2.length)]
                rfl
          · walk_at "st"
            refine bad ?_
            rw [hcp, e4]
            simp
        · walk_at "st"
          refine bad ?_
          rw [hcp, decide_eq_false (by omega : ¬ a.2.length ≤ 4)]
          simp
      · walk_at "st"
        refine bad ?_
        rw [hcp, decide_eq_false (by omega : ¬ 1 ≤ a.2.length)]
        simp
    · walk_at "st"
      refine bad ?_
      rw [hcp, e1]
      simp
  · rintro _ M1 ⟨o2, o3, kvs, f, hM, hk, hv, hcp, ho, rfl⟩
    rw [List.length_map, List.length_map, List.drop_length] at hcp
    walk_at "st"
    rw [List.length_map]
    refine .of (back ho) ?_
    unfold ratoms at h
    rw [hcp] at h
    have e : decide ((as.length : Int) > 0) = !as.isEmpty := by
      cases as with
      | nil => rfl
      | cons a r => exact decide_eq_true (by rw [List.length_cons]; omega)
    rw [e]
    exact h
/-! ### check_pattern -/
theorem len_check_pattern {C1 C2 : Addr} : ∀ xs M P PX, sp_check_pattern C1 C2 xs M P PX → xs.length = p_check_pattern.length := by rintro _ M P PX ⟨_, rfl, _⟩; rfl
theorem nodup_any (l : List Str) : ((List.range l.length).any fun k => decide (l.getD k "" ∈ l.take k)) = !decide l.Nodup := by
  rw [Bool.eq_iff_iff, List.any_eq_true]
  constructor
  · rintro ⟨k, hk, e⟩
    have hk := List.mem_range.mp hk
    have e := of_decide_eq_true e
    rw [List.getD_eq_getElem?_getD, List.getElem?_eq_getElem hk] at e
    obtain ⟨j, hj, ej⟩ := List.getElem_of_mem e
    rw [List.length_take] at hj
    rw [List.getElem_take] at ej
    have : ¬ l.Nodup := fun nd => by
      have := (List.getElem_inj (h₀ := by omega) (h₁ := hk) nd).mp ej
      omega
    rw [decide_eq_false this]; rfl
  · intro h
    have h : ¬ l.Nodup := by
      intro nd
      rw [decide_eq_true nd] at h
      cases h
    apply Classical.byContradiction
    intro z
    apply h
    rw [List.nodup_iff_pairwise_ne, List.pairwise_iff_getElem]
    intro i j hi hj hij e
    refine z ⟨j, List.mem_range.mpr hj, decide_eq_true ?_⟩
    rw [List.getD_eq_getElem?_getD, List.getElem?_eq_getElem hj]
    show l[j] ∈ _
    rw [← e]
    exact List.mem_take_iff_getElem.mpr ⟨i, by omega, rfl⟩
theorem r_check_pattern {C1 C2 : Addr} : ∀ xs M Q PX, sp_check_pattern C1 C2 xs M Q PX → t_check_pattern C1 C2 (endD Q PX) (startD n_check_pattern xs) M := by
  rintro _ M Q PX ⟨p, rfl, hp, h⟩
  have hl := hp.hl
  have al := hp.al
  have vl := hp.vl
  have bad : patOk p = false → PX { cls := .ref C1 } M := fun e => by
    unfold patErr at h
    rw [e] at h
    exact h
  have bad2 : patOk p = true → patBig p = true → PX { cls := .ref C2 } M := fun e e2 => by
    unfold patErr at h
    rw [e, e2] at h
    exact h
  unfold t_check_pattern
  walk_at "st"
  refine ⟨p, rfl, hp, ?_⟩
  walk_at "st"
  refine ⟨p.atoms, rfl, al, hp.a, ?_⟩
  walk_at "st"
  have tail : ∀ g : Bool, g = (ratoms p.atoms && p.head.all fun w => decide (w ∈ p.vars)) → ∀ ρ : DEnv, True := fun _ _ _ => trivial
  refine x_br (fun e1 => ?_) (fun e1 => ?_)
  · walk_at "st"
    rw [List.map_map]
    refine lc_of (e := DV.d ∘ PyData.str) (fun w => .bool (decide (w ∈ p.vars))) (by rw [sizeLine_eq]; omega) trivial (fun w hw KT hK => ?_) (finD_of ?_)
    · show gN 5 (.d (.str w)) _ _ _ _
      walk_at "st"
      exact x_inTS (hp.h w hw).1 (fun v hv => (hp.vs v hv).1) hK
    walk_at "st"
    refine x_br (fun e2 => ?_) (fun e2 => ?_)
    · walk_at "st"
      rw [List.length_map]
      refine ⟨by omega, by omega, ?_⟩
      unfold rangeD
      refine lc_of (l := List.range ((p.head.length : Int)).toNat) (fun k => .bool (decide (p.head.getD k "" ∈ p.head.take k))) (by rw [List.length_range, sizeLine_eq]; omega) trivial (fun k hk KT hK => ?_) (finD_of ?_)
      · have hk := List.mem_range.mp hk
        have hk2 : k < p.head.length := by omega
        have hg := List.getElem?_eq_getElem hk2
        have a1 := atM (e := PyData.str) hg (k := 0 + (k : Int)) (by omega)
        rw [List.getD_eq_getElem?_getD, hg] at hK
        walk_at "st"
        rw [Int.zero_add, cut_takeN]
        exact x_inTS (hp.h _ (List.getElem_mem hk2)).1 (fun v hv => (hp.h v (List.mem_of_mem_take hv)).1) hK
      walk_at "st"
      rw [Int.toNat_natCast, nodup_any]
      walk_at "st"
      refine x_brD (fun e3 => ?_) (fun e3 => ?_)
      · have ok : patOk p = true := by unfold patOk; rw [e1, e2, decide_eq_true e3]; rfl
        walk_at "st"
        rw [List.length_map]
        refine x_brD (fun e4 => ?_) (fun e4 => ?_)
        · walk_at "st"
          exact bad2 ok (by unfold patBig; rw [decide_eq_true (by omega : 8 < p.atoms.length)]; rfl)
        · walk_at "st"
          rw [List.length_map]
          refine x_brD (fun e5 => ?_) (fun e5 => ?_)
          · walk_at "st"
            exact bad2 ok (by unfold patBig; rw [decide_eq_true (by omega : 8 < p.vars.length), Bool.or_true])
          · walk_at "st"
            refine .here ?_
            unfold patErr at h
            rw [ok, show patBig p = false by unfold patBig; rw [decide_eq_false (by omega : ¬ 8 < p.atoms.length), decide_eq_false (by omega : ¬ 8 < p.vars.length)]; rfl] at h
            exact h
      · walk_at "st"
        exact bad (by unfold patOk; rw [decide_eq_false e3, Bool.and_false])
    · walk_at "st"
      exact bad (by unfold patOk; rw [e2]; simp)
  · walk_at "st"
    exact bad (by unfold patOk; rw [e1]; rfl)
--%%SPLIT
/-! ### right_tree -/
theorem alikeS (ws : List Str) : PySem.W.AllAlike (ws.map PyData.str) := PySem.W.AllAlike.of fun _ _ => rfl
theorem depS (ws : List Str) : ∀ d ∈ ws.map PyData.str, d ≠ .none ∧ d.depth ≤ 60 := fun d hd => by
  obtain ⟨w, _, rfl⟩ := List.mem_map.mp hd
  exact ⟨nofun, Nat.zero_le _⟩
theorem getP {ps : List Prt} {k : Nat} {q : Prt} (h : ps[k]? = some q) : ps.getD k ([], 0) = q := by rw [List.getD_eq_getElem?_getD, h]; rfl
theorem tree_bad {ps : List Prt} {k : Nat} (hk : k < ps.length) (h : nodeOk k (ps.getD k ([], 0)) = false) : treeOk ps = false := by
  unfold treeOk
  rw [Bool.and_eq_false_iff]
  left
  rw [List.all_eq_false]
  exact ⟨k, List.mem_range.mpr hk, by rw [h]; exact nofun⟩
theorem tree_good {ps : List Prt} (h : ∀ k, k < ps.length → nodeOk k (ps.getD k ([], 0)) = true) : treeOk ps = !ps.isEmpty := by
  unfold treeOk
  rw [List.all_eq_true.mpr fun k hk => h k (List.mem_range.mp hk)]
  rfl
theorem node_nil {k : Nat} {q : Prt} (h : q.1.length = 0) : nodeOk k q = false := by
  have : q.1 = [] := List.eq_nil_of_length_eq_zero h
  unfold nodeOk
  rw [this]
  rfl
theorem node_asc {k : Nat} {q : Prt} (h : ascW q.1 = false) : nodeOk k q = false := by
  unfold nodeOk
  rw [h]
  simp
theorem node_ab {k : Nat} {q : Prt} (h : (if k = 0 then decide (q.2 = -1) else decide (0 ≤ q.2) && decide (q.2 < k)) = false) : nodeOk k q = false := by
  unfold nodeOk
  rw [h]
  simp
theorem node_ok {k : Nat} {q : Prt} (h0 : q.1.length ≠ 0) (h1 : ascW q.1 = true) (h : (if k = 0 then decide (q.2 = -1) else decide (0 ≤ q.2) && decide (q.2 < k)) = true) : nodeOk k q = true := by
  unfold nodeOk
  rw [h, h1]
  cases z : q.1 with
  | nil => rw [z] at h0; exact absurd rfl h0
  | cons a b => rfl
theorem len_right_tree : ∀ xs M P PX, sp_right_tree xs M P PX → xs.length = p_right_tree.length := by rintro _ M P PX ⟨_, rfl, _⟩; rfl
theorem r_right_tree : ∀ xs M Q PX, sp_right_tree xs M Q PX → t_right_tree (endD Q PX) (startD n_right_tree xs) M := by
  rintro _ M Q PX ⟨ps, rfl, hs, h⟩
  have pl := hs.l
  unfold t_right_tree
  walk_at "st"
  rw [List.length_map]
  refine ⟨by omega, by omega, ?_⟩
  refine ⟨fun i ρ M1 => ∃ o1 o2 o3, M1 = M ∧ ρ = [some (.d (prsD ps)), o1, o2, o3] ∧ ∀ k, k < i → nodeOk k (ps.getD k ([], 0)) = true, .of ⟨none, none, none, rfl, rfl, fun k hk => (by omega)⟩, fun _ _ _ _ _ => trivial, ?_, ?_⟩
  · rintro i _ M1 x hx ⟨o1, o2, o3, rfl, rfl, hn⟩
    obtain ⟨hi, rfl⟩ := getR hx
    have hi : i < ps.length := by omega
    obtain ⟨q, hg⟩ : ∃ q, ps[i]? = some q := ⟨_, List.getElem?_eq_getElem hi⟩
    have gd := getP hg
    have a1 := atM (e := prD) hg (k := 0 + (i : Int)) (by omega)
    obtain ⟨b1, b2⟩ := hs.b q (List.mem_of_getElem? hg)
    have bad : nodeOk i q = false → WkV Q (.d (.bool false)) M1 := fun e => by
      refine .here ?_
      rw [tree_bad hi (by rw [gd]; exact e)] at h
      exact h
    have good : nodeOk i q = true → ∀ k, k < i + 1 → nodeOk k (ps.getD k ([], 0)) = true := fun e k hk => by
      rcases Nat.lt_succ_iff_lt_or_eq.mp hk with z | z
      · exact hn k z
      · subst z
        rw [gd]
        exact e
    walk_at "st"
    rw [List.length_map]
    refine x_brD (fun e1 => ?_) (fun e1 => ?_)
    · walk_at "st"
      exact bad (node_nil (by omega))
    · walk_at "st"
      refine ⟨_, q.1.map .str, rfl, .inl rfl, alikeS _, depS _, by rw [List.length_map]; omega, ?_⟩
      walk_at "st"
      refine x_br (fun e2 => ?_) (fun e2 => ?_)
      · rcases Nat.eq_zero_or_pos i with rfl | ip
        · walk_at "st"
          refine x_brD (fun e3 => ?_) (fun e3 => ?_)
          · walk_at "st"
            exact bad (node_ab (decide_eq_false e3))
          · walk_at "st"
            exact .of ⟨_, _, _, rfl, rfl, good (node_ok (by omega) e2 (decide_eq_true (Classical.not_not.mp e3)))⟩
        · walk_at "st"
          refine x_brD (fun e3 => ?_) (fun e3 => ?_)
          · walk_at "st"
            refine x_brD (fun e4 => ?_) (fun e4 => ?_)
            · walk_at "st"
              exact .of ⟨_, _, _, rfl, rfl, good (node_ok (by omega) e2 (by rw [if_neg (by omega), decide_eq_true e3, decide_eq_true (by omega)]; rfl))⟩
            · walk_at "st"
              exact bad (node_ab (by rw [if_neg (by omega), decide_eq_false (by omega : ¬ q.2 < (i : Int)), Bool.and_false]))
          · walk_at "st"
            exact bad (node_ab (by rw [if_neg (by omega), decide_eq_false e3, Bool.false_and]))
      · walk_at "st"
        exact bad (node_asc e2)
  · rintro _ _ ⟨o1, o2, o3, rfl, rfl, hn⟩
    rw [rangeD_len] at hn
    walk_at "st"
    rw [List.length_map]
    rw [tree_good fun k hk => hn k (by omega)] at h
    refine .here ?_
    have e : decide ((ps.length : Int) > 0) = !ps.isEmpty := by
      cases ps with
      | nil => rfl
      | cons a r => exact decide_eq_true (by rw [List.length_cons]; omega)
    rw [e]
    exact h
--%%PAR
/-! ### _law_variables -/
theorem fold_filter (acc : List Str) (l : List Str) : l.foldl addN acc = acc ++ ((List.range l.length).filter fun k => !decide (l.getD k "" ∈ acc) && !decide (l.getD k "" ∈ l.take k)).map (fun k => l.getD k "") := by
  refine snoc_ind (P := fun l => l.foldl addN acc = acc ++ ((List.range l.length).filter fun k => !decide (l.getD k "" ∈ acc) && !decide (l.getD k "" ∈ l.take k)).map (fun k => l.getD k "")) (by simp) (fun l v ih => ?_) l
  have g1 : ∀ k, k < l.length → (l ++ [v]).getD k "" = l.getD k "" ∧ (l ++ [v]).take k = l.take k := fun k hk => ⟨by
    rw [List.getD_eq_getElem?_getD, List.getD_eq_getElem?_getD, List.getElem?_append_left hk], List.take_append_of_le_length (by omega)⟩
  have g2 : (l ++ [v]).getD l.length "" = v := by
    rw [List.getD_eq_getElem?_getD, List.getElem?_append_right (Nat.le_refl _), Nat.sub_self]; rfl
  have g3 : (l ++ [v]).take l.length = l := by simp
  have e1 : (List.range l.length).filter (fun k => !decide ((l ++ [v]).getD k "" ∈ acc) && !decide ((l ++ [v]).getD k "" ∈ (l ++ [v]).take k)) = (List.range l.length).filter fun k => !decide (l.getD k "" ∈ acc) && !decide (l.getD k "" ∈ l.take k) := by
    refine List.filter_congr fun k hk => ?_
    obtain ⟨q1, q2⟩ := g1 k (List.mem_range.mp hk)
    rw [q1, q2]
  have e2 : ((List.range l.length).filter fun k => !decide (l.getD k "" ∈ acc) && !decide (l.getD k "" ∈ l.take k)).map (fun k => (l ++ [v]).getD k "") = ((List.range l.length).filter fun k => !decide (l.getD k "" ∈ acc) && !decide (l.getD k "" ∈ l.take k)).map (fun k => l.getD k "") := by
    refine List.map_congr_left fun k hk => ?_
    exact (g1 k (List.mem_range.mp (List.mem_filter.mp hk).1)).1
  rw [List.foldl_append, List.length_append, List.length_singleton, List.range_succ, List.filter_append, List.map_append, e1, e2, ← List.append_assoc, ← ih]
  show addN (l.foldl addN acc) v = _
  rw [List.filter_cons, g2, g3]
  by_cases h : v ∈ acc ∨ v ∈ l
  · have : v ∈ l.foldl addN acc := mem_fold.mpr h
    rw [addN_in this]
    rw [if_neg (by rcases h with h | h <;> simp [h])]
    simp
  · have : v ∉ l.foldl addN acc := fun z => h (mem_fold.mp z)
    rw [not_or] at h
    rw [addN_nin this, if_pos (by simp [h.1, h.2])]
    simp [g2]
theorem len_law_variables : ∀ xs M P PX, sp_law_variables xs M P PX → xs.length = p_law_variables.length := by rintro _ M P PX ⟨_, rfl, _⟩; rfl
theorem r_law_variables : ∀ xs M Q PX, sp_law_variables xs M Q PX → t_law_variables (endD Q PX) (startD n_law_variables xs) M := by
  rintro _ M Q PX ⟨p, rfl, hp, h⟩
  unfold t_law_variables
  walk_at "st"
  refine ⟨fun i ρ M1 => ∃ o2 o3, M1 = M ∧ ρ = [some (.d p.d), some (.d (lsS (varsA (p.atoms.take i)))), o2, o3, none], .of ⟨none, none, rfl, rfl⟩, fun _ _ _ _ _ => trivial, ?_, ?_⟩
  · rintro i _ _ x hx ⟨o2, o3, rfl, rfl⟩
    obtain ⟨a, ha, rfl⟩ := getM hx
    have am := List.mem_of_getElem? ha
    obtain ⟨a1, a2, a3⟩ := hp.a a am
    have vt : ∀ w ∈ varsA (p.atoms.take i), StOk w := fun w hw => by
      obtain ⟨b, hb, hx⟩ := mem_vars.mp hw
      exact (hp.a b (List.mem_of_mem_take hb)).2.2 w hx
    have l0 : (varsA (p.atoms.take i)).length ≤ 10000 := by
      have := len_vars (as := p.atoms.take i) (n := 100) fun a ha => (hp.a a (List.mem_of_mem_take ha)).2.1
      have h2 : (p.atoms.take i).length * 100 ≤ 100 * 100 := Nat.mul_le_mul_right _ (by rw [List.length_take]; have := hp.al; omega)
      omega
    walk_at "st"
    rw [List.length_map]
    refine ⟨by omega, by omega, ?_⟩
    unfold rangeD
    refine lc_sel (L := List.range ((a.2.length : Nat) : Int).toNat) (fun k => !decide (a.2.getD k "" ∈ varsA (p.atoms.take i)) && !decide (a.2.getD k "" ∈ a.2.take k)) (fun k => .str (a.2.getD k "")) (by rw [List.length_range, sizeLine_eq]; omega) trivial (fun k hk KT KF k1 k2 => ?_) (finD_of ?_)
    · have hk := List.mem_range.mp hk
      have hk2 : k < a.2.length := by omega
      have hg := List.getElem?_eq_getElem hk2
      have at1 := atM (e := PyData.str) hg (k := 0 + (k : Int)) (by omega)
      have gd : a.2.getD k "" = a.2[k] := by rw [List.getD_eq_getElem?_getD, hg]; rfl
      rw [gd] at k1 k2
      have so := a3 _ (List.getElem_mem hk2)
      walk_at "st"
      refine x_ninLS so.1 (fun w hw => (vt w hw).1) ?_
      walk_at "st"
      refine x_brD (fun e => ?_) (fun e => ?_)
      · walk_at "st"
        exact k2 (by simp [e])
      · walk_at "st"
        rw [Int.zero_add, cut_takeN]
        refine x_ninTS so.1 (fun w hw => (a3 w (List.mem_of_mem_take hw)).1) ?_
        walk_at "st"
        refine x_brD (fun e2 => ?_) (fun e2 => ?_)
        · rw [decide_eq_true e2] at k2
          walk_at "st"
          exact k2 (by simp)
        · rw [decide_eq_false e, decide_eq_false e2] at k1
          have at2 := atM (e := PyData.str) hg (k := (k : Int)) rfl
          walk_at "st"
          exact k1 rfl
    have fe := fold_filter (varsA (p.atoms.take i)) a.2
    rw [Int.toNat_natCast]
    walk_at "st"
    refine x_addL ?_ ?_
    · rw [sizeLine_eq]
      have := List.length_filter_le (fun k => !decide (a.2.getD k "" ∈ varsA (p.atoms.take i)) && !decide (a.2.getD k "" ∈ a.2.take k)) (List.range a.2.length)
      rw [List.length_range] at this
      rw [List.length_map, List.length_map]
      omega
    walk_at "st"
    refine .of ⟨some (.d (.str a.1)), some (.d (tpS a.2)), rfl, ?_⟩
    rw [take_succ_of ha, vars_snoc, fe]
    show _ = [_, some (DV.d (PyData.list (List.map PyData.str (_ ++ _)))), _, _, _]
    rw [List.map_append, List.map_map]
    rfl
  · rintro _ _ ⟨o2, o3, rfl, rfl⟩
    rw [List.length_map, List.length_map, List.take_length]
    walk_at "st"
    exact .here h
/-! ### _law_pattern -/
theorem nm_str : ∀ w ∈ NM, StOk w := by unfold StOk; decide +kernel
def AsOk (c : List Tb) (N : List Str) (as : List Atom) : Prop := ∀ a ∈ as, (∀ v ∈ a.2, v ∈ N) ∧ ∃ t ∈ c, a.1 = t.name ∧ (a.2.length : Int) = t.cols
theorem len_law_pattern : ∀ xs M P PX, sp_law_pattern xs M P PX → xs.length = p_law_pattern.length := by rintro _ M P PX ⟨_, _, _, _, _, rfl, _⟩; rfl
theorem r_law_pattern : ∀ xs M Q PX, sp_law_pattern xs M Q PX → t_law_pattern (endD Q PX) (startD n_law_pattern xs) M := by
  rintro _ M Q PX ⟨d, st, c, n, m, rfl, hM, hst, sz, ok, n0, n8, m0, m6, h⟩
  have c8 := sz.2.1
  have cl : 0 < c.length := List.length_pos_iff.mpr sz.1
  have cc : ∀ t ∈ c, 1 ≤ t.cols ∧ t.cols ≤ 4 := fun t ht => by
    unfold catOk at ok
    rw [Bool.and_eq_true, List.all_eq_true] at ok
    have := ok.1 t ht
    unfold tabOk at this
    simp only [Bool.and_eq_true, decide_eq_true_eq] at this
    omega
  unfold t_law_pattern
  walk_at "st"
  refine ⟨d, (m : Int), st, rfl, hM, hst, divOk_small (by omega) (by omega), fun v st1 hst1 v0 v1 => ?_⟩
  obtain ⟨N, hN⟩ : ∃ N, N = NM.take (v.toNat + 1) := ⟨_, rfl⟩
  have en : cutG [PyData.str "x", .str "y", .str "z", .str "u", .str "v", .str "w"] none (some (1 + v)) = N.map .str := by
    rw [cut_take (by omega), show (1 + v).toNat = v.toNat + 1 by omega, hN, List.map_take]
    rfl
  have nl : N.length = v.toNat + 1 := by rw [hN, List.length_take]; show min _ 6 = _; omega
  have nn : ∀ w ∈ N, w ∈ NM.take m := fun w hw => by
    rw [hN] at hw
    have : NM.take (v.toNat + 1) = (NM.take m).take (v.toNat + 1) := by rw [List.take_take]; congr 1; omega
    rw [this] at hw
    exact List.mem_of_mem_take hw
  have ns : ∀ w ∈ N, StOk w := fun w hw => nm_str w (List.mem_of_mem_take (nn w hw))
  walk_at "st"
  rw [en]
  walk_at "st"
  intro b hb
  have db : d ≠ b := by rintro rfl; rw [mu_same] at hb; cases hb
  have hb0 : M b = none := by rw [mu_ne db.symm] at hb; exact hb
  walk_at "st"
  refine ⟨d, (n : Int), st1, rfl, by walk_at "m", hst1, divOk_small (by omega) (by omega), fun v2 st2 hst2 w0 w1 => ?_⟩
  walk_at "st"
  refine ⟨by omega, by omega, ?_⟩
  refine ⟨fun i ρ M1 => ∃ (as : List Atom) (st : List PyData) (o6 o7 : Option DV), ρ = [some (.r d), some (.d (catD c)), some (.d (.int n)), some (.d (.int m)), some (.d (lsS N)), some (.r b), o6, o7, none, none, none, none, none] ∧ M1 d = some (.ls st) ∧ DSt st ∧ M1 b = some (.ls (as.map atD)) ∧ (∀ a, a ≠ d → a ≠ b → M1 a = M a) ∧ as.length = i ∧ AsOk c N as,
    .of ⟨[], st2, none, none, rfl, by walk_at "m", hst2, by walk_at "m", (fun a h1 h2 => by rw [mu_ne h1, mu_ne h2, mu_ne h1]), rfl, fun a ha => by cases ha⟩, fun _ _ _ _ _ => trivial, ?_, ?_⟩
  · rintro i _ M1 x hx ⟨as, st, o6, o7, rfl, hd, hst, hb1, hoth, hl, has⟩
    obtain ⟨hi, rfl⟩ := getR hx
    walk_at "st"
    rw [cat_len]
    refine ⟨d, (c.length : Int), st, rfl, hd, hst, divOk_small (by omega) (by omega), fun q st3 hst3 q0 q1 => ?_⟩
    obtain ⟨t, ht⟩ : ∃ t, c[q.toNat]? = some t := ⟨_, List.getElem?_eq_getElem (by omega)⟩
    have a1 : atI (c.map Tb.d) q = some t.d := tab_at ht (by omega)
    have tm := List.mem_of_getElem? ht
    have ct := cc t tm
    walk_at "st"
    refine ⟨by omega, by omega, ?_⟩
    refine ⟨fun j acc M' => ∃ (l : List Str) (st' : List PyData), acc = (l.map PyData.str).map DV.d ∧ l.length = j ∧ M' d = some (.ls st') ∧ DSt st' ∧ M' b = some (.ls (as.map atD)) ∧ (∀ a, a ≠ d → a ≠ b → M' a = M a) ∧ ∀ x ∈ l, x ∈ N, ⟨_, .refl, [], st3, rfl, rfl, mu_same, hst3, by walk_at "m", fun a h1 h2 => by rw [mu_ne h1]; exact hoth a h1 h2, fun x hx => by cases hx⟩, fun _ _ _ _ _ => trivial, ?_, ?_⟩
    · rintro j _ M2 x hx ⟨l, st', rfl, hlj, hd2, hst2, hr2, ho2, hlx⟩
      obtain ⟨hj, rfl⟩ := getR hx
      walk_at "st"
      rw [List.length_map]
      refine ⟨d, (N.length : Int), st', rfl, hd2, hst2, divOk_small (by omega) (by omega), fun u s5 hs5 u0 u1 => ?_⟩
      obtain ⟨w, hw⟩ : ∃ w, N[u.toNat]? = some w := ⟨_, List.getElem?_eq_getElem (by omega)⟩
      have a2 : atI (N.map PyData.str) u = some (.str w) := atM hw (by omega)
      walk_at "st"
      refine ⟨by simp; rw [sizeLine_eq]; omega, _, .refl, l ++ [w], s5, by simp, by simp [hlj], mu_same, hs5, by walk_at "m", fun a h1 h2 => by rw [mu_ne h1]; exact ho2 a h1 h2, fun x hx => ?_⟩
      rcases List.mem_append.mp hx with hx | hx
      · exact hlx x hx
      · cases List.mem_singleton.mp hx
        exact List.mem_of_getElem? hw
    rintro _ M2 ⟨l, st5, rfl, hlj, hd2, hst2, hr2, ho2, hlx⟩
    rw [rangeD_len] at hlj
    refine finD_of ?_
    walk_at "st"
    · rw [List.length_map, sizeLine_eq]; omega
    walk_at "st"
    refine .of ⟨as ++ [(t.name, l)], st5, _, _, rfl, by walk_at "m", hst2, by rw [mu_same, List.map_append]; rfl, fun a h1 h2 => by rw [mu_ne h2]; exact ho2 a h1 h2, by rw [List.length_append, hl]; rfl, fun a ha => ?_⟩
    rcases List.mem_append.mp ha with ha | ha
    · exact has a ha
    · cases List.mem_singleton.mp ha
      exact ⟨hlx, t, tm, rfl, by show (l.length : Int) = _; omega⟩
  rintro _ M1 ⟨as, st, o6, o7, rfl, hd, hst, hb1, hoth, hl, has⟩
  rw [rangeD_len] at hl
  have tn : ∀ t ∈ c, StOk t.name := fun t ht => ⟨(sz.2.2 t ht).1, by have := (sz.2.2 t ht).2.1; omega⟩
  have asz : ∀ a ∈ as, StOk a.1 ∧ a.2.length ≤ 100 ∧ ∀ w ∈ a.2, StOk w := fun a ha => by
    obtain ⟨h1, t, tm, h2, h3⟩ := has a ha
    have := cc t tm
    exact ⟨h2 ▸ tn t tm, by omega, fun w hw => ns w (h1 w hw)⟩
  walk_at "st"
  refine ⟨⟨[], as⟩, rfl, ⟨Nat.zero_le _, fun w hw => (by cases hw), (by show as.length ≤ 100; omega), asz⟩, ?_⟩
  obtain ⟨V, hV⟩ : ∃ V, V = varsA as := ⟨_, rfl⟩
  have vN : ∀ w ∈ V, w ∈ N := fun w hw => by
    rw [hV] at hw
    obtain ⟨a, ha, hx⟩ := mem_vars.mp hw
    exact (has a ha).1 w hx
  have vl : V.length ≤ m := by
    have := nodup_le (hV ▸ nodup_vars as) vN
    omega
  rw [show Pat.vars ⟨[], as⟩ = V from hV.symm]
  walk_at "st"
  intro g hg
  have dg : d ≠ g := ne_of_mn hd hg
  have bg : b ≠ g := ne_of_mn hb1 hg
  have hg0 : M g = none := by rw [← hoth g dg.symm bg.symm]; exact hg
  walk_at "st"
  rw [List.length_map]
  refine ⟨by omega, by omega, ?_⟩
  refine ⟨fun i ρ M2 => ∃ (hs : List Str) (st : List PyData) (o6 o11 : Option DV), ρ = [some (.r d), some (.d (catD c)), some (.d (.int n)), some (.d (.int m)), some (.d (lsS N)), some (.r b), o6, o7, some (.d (Pat.d ⟨[], as⟩)), some (.d (tpS V)), some (.r g), o11, none] ∧ M2 d = some (.ls st) ∧ DSt st ∧ M2 g = some (.ls (hs.map PyData.str)) ∧ (∀ a, a ≠ d → a ≠ g → M2 a = M1 a) ∧ hs.length ≤ i ∧ hs.Nodup ∧ ∀ v ∈ hs, v ∈ V,
    .of ⟨[], st, o6, none, rfl, by walk_at "m", hst, mu_same, (fun a h1 h2 => mu_ne h2), Nat.le_refl _, List.nodup_nil, fun v hv => (by cases hv)⟩, fun _ _ _ _ _ => trivial, ?_, ?_⟩
  · rintro i _ M2 x hx ⟨hs, st, o6, o11, rfl, hd2, hst2, hg2, ho2, hl2, hnd, hsV⟩
    obtain ⟨hi, rfl⟩ := getR hx
    walk_at "st"
    rw [List.length_map]
    refine ⟨d, (V.length : Int), st, rfl, hd2, hst2, divOk_small (by omega) (by omega), fun q st3 hst3 q0 q1 => ?_⟩
    obtain ⟨w, hw⟩ : ∃ w, V[q.toNat]? = some w := ⟨_, List.getElem?_eq_getElem (by omega)⟩
    have a1 : atI (V.map PyData.str) q = some (.str w) := atM hw (by omega)
    have wV := List.mem_of_getElem? hw
    have hg3 : mu M2 d (.ls st3) g = some (.ls (hs.map PyData.str)) := by walk_at "m"
    walk_at "st"
    refine x_ninMS hg3 (ns w (vN w wV)).1 (fun u hu => (ns u (vN u (hsV u hu))).1) ?_
    walk_at "st"
    refine x_brD (fun e => ?_) (fun e => ?_)
    · walk_at "st"
      exact .of ⟨hs, st3, _, _, rfl, mu_same, hst3, hg3, (fun a h1 h2 => by rw [mu_ne h1]; exact ho2 a h1 h2), by omega, hnd, hsV⟩
    · walk_at "st"
      refine ⟨d, 3, st3, rfl, mu_same, hst3, divOk_small (by decide) (by decide), fun u st4 hst4 u0 u1 => ?_⟩
      rw [mu_mu]
      have hg4 : mu M2 d (.ls st4) g = some (.ls (hs.map PyData.str)) := by walk_at "m"
      walk_at "st"
      refine x_brD (fun e2 => ?_) (fun e2 => ?_)
      · walk_at "st"
        · rw [List.length_map, sizeLine_eq]; omega
        walk_at "st"
        refine .of ⟨hs ++ [w], st4, _, _, rfl, by walk_at "m", hst4, by rw [mu_same, List.map_append]; rfl, (fun a h1 h2 => by rw [mu_ne h2, mu_ne h1]; exact ho2 a h1 h2), by rw [List.length_append]; exact Nat.succ_le_succ hl2, ?_, fun u hu => ?_⟩
        · refine List.nodup_append.mpr ⟨hnd, by simp, fun a ha b hb => ?_⟩
          cases List.mem_singleton.mp hb
          exact fun z => e (z ▸ ha)
        · rcases List.mem_append.mp hu with z | z
          · exact hsV u z
          · cases List.mem_singleton.mp z
            exact wV
      · walk_at "st"
        exact .of ⟨hs, st4, _, _, rfl, mu_same, hst4, hg4, (fun a h1 h2 => by rw [mu_ne h1]; exact ho2 a h1 h2), by omega, hnd, hsV⟩
  rintro _ M2 ⟨hs, st, o6, o11, rfl, hd2, hst2, hg2, ho2, hl2, hnd, hsV⟩
  rw [rangeD_len] at hl2
  have hb2 : M2 b = some (.ls (as.map atD)) := by rw [ho2 b db.symm bg]; exact hb1
  walk_at "st"
  refine .of (M' := mu M d (.ls st)) (fun a o e => ?_) (h ⟨hs, as⟩ st hst2 ⟨?_, ?_, ?_, hnd, fun v hv => ?_, fun a ha => ?_⟩)
  · by_cases ha : a = d
    · subst ha
      rw [mu_same] at e; cases e; exact hd2
    · rw [mu_ne ha] at e
      rw [ho2 a ha (fun z => by subst z; rw [hg0] at e; cases e), hoth a ha (fun z => by subst z; rw [hb0] at e; cases e)]
      exact e
  · rintro z
    have z : as = [] := z
    rw [z] at hl
    have : (0 : Nat) = _ := hl
    omega
  · show as.length ≤ n; omega
  · show hs.length ≤ m; omega
  · show v ∈ varsA as
    rw [← hV]
    exact hsV v hv
  · obtain ⟨h1, h2⟩ := has a ha
    exact ⟨fun v hv => nn v (h1 v hv), h2⟩
--%%PAR
/-! ### the law -/
theorem nm_inj : ∀ i, i < 8 → ∀ j, j < 8 → ∀ a ∈ ([1, 2, 3, 4] : List Int), ∀ b ∈ ([1, 2, 3, 4] : List Int), nm i a = nm j b → i = j := by decide +kernel
theorem same_tab {c : List Tb} (hm : Made c) (hl : c.length ≤ 8) {t t' : Tb} (h : t ∈ c) (h' : t' ∈ c) (e : t.name = t'.name) : t = t' := by
  obtain ⟨i, hi⟩ := List.mem_iff_getElem?.mp h
  obtain ⟨j, hj⟩ := List.mem_iff_getElem?.mp h'
  obtain ⟨a1, a2, _⟩ := hm i t hi
  obtain ⟨b1, b2, _⟩ := hm j t' hj
  have il := (List.getElem?_eq_some_iff.mp hi).1
  have jl := (List.getElem?_eq_some_iff.mp hj).1
  have := nm_inj i (by omega) j (by omega) _ a1 _ b1 (by rw [← a2, ← b2]; exact e)
  subst this
  rw [hi] at hj
  cases hj
  rfl
theorem cols_ok {c : List Tb} (hm : Made c) (hl : c.length ≤ 8) : ∀ (as : List Atom) (f : Str → Option Nat), (∀ a ∈ as, isNm a.1 = true ∧ 1 ≤ a.2.length ∧ a.2.length ≤ 4 ∧ a.2.all isNm = true ∧ ∃ t ∈ c, t.name = a.1 ∧ (a.2.length : Int) = t.cols) → (∀ w k, f w = some k → ∃ t ∈ c, t.name = w ∧ (k : Int) = t.cols) → colsP f as = true := by
  intro as
  induction as with
  | nil => intro f _ _; rfl
  | cons a r ih =>
    intro f h hf
    obtain ⟨h1, h2, h3, h4, t, tm, h5, h6⟩ := h a (List.mem_cons_self ..)
    have e : (f a.1).getD a.2.length = a.2.length := by
      cases q : f a.1 with
      | none => rfl
      | some k =>
        obtain ⟨t', tm', e1, e2⟩ := hf _ _ q
        have := same_tab hm hl tm tm' (by rw [h5, e1])
        subst this
        show k = _
        omega
    rw [colsP_cons, h1, decide_eq_true h2, decide_eq_true h3, h4, decide_eq_true e]
    refine ih _ (fun b hb => h b (List.mem_cons_of_mem _ hb)) fun w k hk => ?_
    by_cases z : w = a.1
    · have hk : (if w = a.1 then some a.2.length else f w) = some k := hk
      rw [if_pos z] at hk
      cases hk
      exact ⟨t, tm, h5.trans z.symm, h6⟩
    · have hk : (if w = a.1 then some a.2.length else f w) = some k := hk
      rw [if_neg z] at hk
      exact hf w k hk
theorem NM_ok : ∀ w ∈ NM, isNm w = true := by decide +kernel
theorem drawn_ok {c : List Tb} {p : Pat} (hm : Made c) (sz : Sz 0 c) (ok : catOk c = true) {n m : Nat} (n8 : n ≤ 8) (m6 : m ≤ 6) (pd : PDrawn n m c p) : patOk p = true ∧ patBig p = false ∧ p.vars.length ≤ m ∧ p.vars ≠ [] := by
  have hl := sz.2.1
  obtain ⟨p1, p2, p3, p4, p5, p6⟩ := pd
  have tn : ∀ t ∈ c, isNm t.name = true ∧ 1 ≤ t.cols ∧ t.cols ≤ 4 := fun t ht => by
    unfold catOk at ok
    rw [Bool.and_eq_true, List.all_eq_true] at ok
    have := ok.1 t ht
    unfold tabOk at this
    simp only [Bool.and_eq_true, decide_eq_true_eq] at this
    exact ⟨this.1.1.1.1, this.1.1.1.2, this.1.1.2⟩
  have r : ratoms p.atoms = true := by
    unfold ratoms
    rw [cols_ok hm hl p.atoms _ (fun a ha => ?_) (fun w k e => by cases e)]
    · cases q : p.atoms with
      | nil => exact absurd q p1
      | cons a r => rfl
    · obtain ⟨h1, t, tm, e, el⟩ := p6 a ha
      have := tn t tm
      exact ⟨e ▸ this.1, by omega, by omega, List.all_eq_true.mpr fun v hv => NM_ok v (List.mem_of_mem_take (h1 v hv)), t, tm, e.symm, el⟩
  have o : patOk p = true := by
    unfold patOk
    rw [r, decide_eq_true p4, List.all_eq_true.mpr fun v hv => decide_eq_true (p5 v hv)]
    rfl
  have vl : p.vars.length ≤ m := by
    have := nodup_le (nodup_vars p.atoms) (b := NM.take m) fun v hv => by
      obtain ⟨a, ha, hx⟩ := mem_vars.mp hv
      exact (p6 a ha).1 v hx
    rw [List.length_take] at this
    unfold Pat.vars
    omega
  have b : patBig p = false := by
    unfold patBig
    rw [decide_eq_false (by omega), decide_eq_false (by omega)]
    rfl
  refine ⟨o, b, vl, fun z => ?_⟩
  cases q : p.atoms with
  | nil => exact p1 q
  | cons a r =>
    have ha : a ∈ p.atoms := by rw [q]; exact List.mem_cons_self ..
    obtain ⟨h1, t, tm, e, el⟩ := p6 a ha
    have := tn t tm
    cases w : a.2 with
    | nil => rw [w] at el; simp at el; omega
    | cons v s =>
      have : v ∈ p.vars := mem_vars.mpr ⟨a, ha, by rw [w]; exact List.mem_cons_self ..⟩
      rw [z] at this
      cases this
--%%SPLIT
/-! ### right_parts -/
theorem flat_le {α β : Type} {l : List α} {F : α → List β} {n : Nat} (h : ∀ a ∈ l, (F a).length ≤ n) : (l.flatMap F).length ≤ l.length * n := by
  induction l with
  | nil => simp
  | cons a r ih =>
    rw [List.flatMap_cons, List.length_append, List.length_cons, Nat.succ_mul]
    have := ih fun b hb => h b (List.mem_cons_of_mem _ hb)
    have := h a (List.mem_cons_self ..)
    omega
def covB (ps : List Prt) (a : Atom) : Bool := ps.any fun q => a.2.all fun v => decide (v ∈ q.1)
theorem parts_eq (as : List Atom) (ps : List Prt) : partsOk as ps = (treeOk ps && (ps.all fun q => q.1.all fun v => decide (v ∈ varsA as)) && (as.all (covB ps)) && (varsA as).all fun v => decide (topsN ps v = 1)) := rfl
theorem node_above {ps : List Prt} (ht : treeOk ps = true) {k : Nat} {q : Prt} (h : ps[k]? = some q) (k0 : 0 < k) : 0 ≤ q.2 ∧ q.2 < k := by
  unfold treeOk at ht
  rw [Bool.and_eq_true, List.all_eq_true] at ht
  have := ht.1 k (List.mem_range.mpr (List.getElem?_eq_some_iff.mp h).1)
  rw [getP h] at this
  unfold nodeOk at this
  rw [if_neg (by omega)] at this
  simp only [Bool.and_eq_true, decide_eq_true_eq] at this
  exact this.2
theorem all_take {α : Type} {l : List α} {i : Nat} {a : α} {f : α → Bool} (h : l[i]? = some a) (g : (l.take i).all f = true) (e : f a = true) : (l.take (i + 1)).all f = true := by
  rw [take_succ_of h, List.all_append, g]
  simp [e]
theorem all_bad {α : Type} {l : List α} {a : α} {f : α → Bool} (h : a ∈ l) (e : f a = false) : l.all f = false := List.all_eq_false.mpr ⟨a, h, by rw [e]; exact nofun⟩
theorem len_right_parts : ∀ xs M P PX, sp_right_parts xs M P PX → xs.length = p_right_parts.length := by rintro _ M P PX ⟨_, _, rfl, _⟩; rfl
abbrev bagsD (ps : List Prt) : PyData := .list (ps.map fun q => tpS q.1)
theorem right_r3 {Q : DK} {PX : DX} {M : MHp} {p : Pat} {ps : List Prt} (hp : PatSz p) (hs : PrtSz ps) (ht : treeOk ps = true) (h : Q (.d (.bool (partsOk p.atoms ps))) M) :
    t_right_parts_r3 (endD Q PX) [some (.d p.d), some (.d (prsD ps)), some (.d (tpS p.vars)), some (.d (bagsD ps)), none, none, none, none, none, none, none] M := by
  have pl := hs.l
  have vl := hp.vl
  have al := hp.al
  rw [parts_eq, ht, Bool.true_and] at h
  have fl : (ps.flatMap fun q => q.1).length ≤ 100 * 100 := by
    have := flat_le (l := ps) (F := fun q => q.1) (n := 100) fun q hq => (hs.b q hq).1
    have : ps.length * 100 ≤ 100 * 100 := Nat.mul_le_mul_right _ pl
    omega
  have eb : (ps.flatMap fun q => q.1.map fun v => PyData.bool (decide (v ∈ p.vars))) = (ps.flatMap fun q => q.1).map fun v => PyData.bool (decide (v ∈ p.vars)) := by rw [List.map_flatMap]
  unfold t_right_parts_r3
  walk_at "st"
  rw [List.map_map]
  refine lc2_of (e := DV.d ∘ fun q : Prt => tpS q.1) (fun q => q.1.map fun v => .bool (decide (v ∈ p.vars))) (by rw [eb, List.length_map, sizeLine_eq]; omega) trivial (fun q hq acc K hz hK => ?_) (finD_of ?_)
  · show gN 8 (.d (tpS q.1)) _ _ _ _
    walk_at "st"
    rw [List.map_map]
    refine lcJ_of (e2 := DV.d ∘ PyData.str) (fun v => .bool (decide (v ∈ p.vars))) (by rw [List.length_map] at hz; exact hz) trivial (fun v hv KT hKT => ?_) hK
    show gN 6 (.d (.str v)) _ _ _ _
    walk_at "st"
    exact x_inTS ((hs.b q hq).2 v hv).1 (fun w hw => (hp.vs w hw).1) hKT
  rw [eb]
  walk_at "st"
  rw [List.all_flatMap]
  refine x_br (fun e1 => ?_) (fun e1 => ?_)
  · have e1' : (ps.all fun q => q.1.all fun v => decide (v ∈ varsA p.atoms)) = true := e1
    rw [e1', Bool.true_and] at h
    walk_at "st"
    refine ⟨fun i ρ M1 => ∃ o4 o5, M1 = M ∧ ρ = [some (.d p.d), some (.d (prsD ps)), some (.d (tpS p.vars)), some (.d (bagsD ps)), o4, o5, none, none, none, none, none] ∧ (p.atoms.take i).all (covB ps) = true, .of ⟨none, none, rfl, rfl, rfl⟩, fun _ _ _ _ _ => trivial, ?_, ?_⟩
    · rintro i _ M1 x hx ⟨o4, o5, rfl, rfl, hc⟩
      obtain ⟨a, ha, rfl⟩ := getM hx
      have am := List.mem_of_getElem? ha
      obtain ⟨a1, a2, a3⟩ := hp.a a am
      walk_at "st"
      rw [List.map_map]
      refine lc_of (e := DV.d ∘ fun q : Prt => tpS q.1) (fun q => .bool (a.2.all fun v => decide (v ∈ q.1))) (by rw [sizeLine_eq]; omega) trivial (fun q hq KT hK => ?_) (finD_of ?_)
      · show gN 8 (.d (tpS q.1)) _ _ _ _
        walk_at "st"
        rw [List.map_map]
        refine lc_of (e := DV.d ∘ PyData.str) (fun v => .bool (decide (v ∈ q.1))) (by rw [sizeLine_eq]; omega) trivial (fun v hv KT2 hK2 => ?_) (finD_of ?_)
        · show gN 6 (.d (.str v)) _ _ _ _
          walk_at "st"
          exact x_inTS (a3 v hv).1 (fun w hw => ((hs.b q hq).2 w hw).1) hK2
        walk_at "st"
        exact hK
      walk_at "st"
      refine x_br (fun e2 => ?_) (fun e2 => ?_)
      · walk_at "st"
        exact .of ⟨_, _, rfl, rfl, all_take ha hc e2⟩
      · walk_at "st"
        rw [all_bad am (f := covB ps) e2, Bool.false_and] at h
        exact .here h
    rintro _ M1 ⟨o4, o5, rfl, rfl, hc⟩
    rw [List.length_map, List.length_map, List.take_length] at hc
    rw [hc, Bool.true_and] at h
    walk_at "st"
    refine ⟨fun i ρ M2 => ∃ o6 o7, M2 = M1 ∧ ρ = [some (.d p.d), some (.d (prsD ps)), some (.d (tpS p.vars)), some (.d (bagsD ps)), o4, o5, o6, o7, none, none, none] ∧ (p.vars.take i).all (fun v => decide (topsN ps v = 1)) = true, .of ⟨none, none, rfl, rfl, rfl⟩, fun _ _ _ _ _ => trivial, ?_, ?_⟩
    · rintro i _ M2 x hx ⟨o6, o7, rfl, rfl, ht1⟩
      obtain ⟨v, hv, rfl⟩ := getM hx
      have vm := List.mem_of_getElem? hv
      have vo := hp.vs v vm
      walk_at "st"
      rw [List.length_map]
      refine ⟨by omega, by omega, ?_⟩
      unfold rangeD
      refine lc_sel (L := List.range ((ps.length : Nat) : Int).toNat) (topB ps v) (fun k => .int (0 + (k : Nat))) (by rw [List.length_range, sizeLine_eq]; omega) trivial (fun k hk KT KF k1 k2 => ?_) (finD_of ?_)
      · have hk := List.mem_range.mp hk
        have hk : k < ps.length := by omega
        obtain ⟨q, hg⟩ : ∃ q, ps[k]? = some q := ⟨_, List.getElem?_eq_getElem hk⟩
        have qm := List.mem_of_getElem? hg
        have b1 := atM (e := fun q : Prt => tpS q.1) hg (k := 0 + (k : Int)) (by omega)
        have b2 := atM (e := prD) hg (k := 0 + (k : Int)) (by omega)
        have te : topB ps v k = (decide (v ∈ q.1) && (decide (k = 0) || !decide (v ∈ (ps.getD q.2.toNat ([], 0)).1))) := by unfold topB; rw [getP hg]
        rw [te] at k1 k2
        walk_at "st"
        refine x_inTS vo.1 (fun w hw => ((hs.b q qm).2 w hw).1) ?_
        walk_at "st"
        refine x_brD (fun e3 => ?_) (fun e3 => ?_)
        · rw [decide_eq_true e3, Bool.true_and] at k1 k2
          walk_at "st"
          refine x_brD (fun e4 => ?_) (fun e4 => ?_)
          · walk_at "st"
            exact k1 (by rw [decide_eq_true (by omega : k = 0)]; rfl)
          · obtain ⟨c1, c2⟩ := node_above ht hg (by omega)
            obtain ⟨r, hr⟩ : ∃ r, ps[q.2.toNat]? = some r := ⟨_, List.getElem?_eq_getElem (by omega)⟩
            have rm := List.mem_of_getElem? hr
            have b3 := atM (e := fun q : Prt => tpS q.1) hr (k := q.2) (by omega)
            rw [decide_eq_false (by omega : ¬ k = 0), Bool.false_or, getP hr] at k1 k2
            walk_at "st"
            refine x_ninTS vo.1 (fun w hw => ((hs.b r rm).2 w hw).1) ?_
            walk_at "st"
            refine x_brD (fun e5 => ?_) (fun e5 => ?_)
            · walk_at "st"
              exact k2 (by rw [decide_eq_true e5]; rfl)
            · walk_at "st"
              exact k1 (by rw [decide_eq_false e5]; rfl)
        · walk_at "st"
          exact k2 (by rw [decide_eq_false e3]; rfl)
      rw [Int.toNat_natCast]
      walk_at "st"
      rw [List.length_map, show ((List.range ps.length).filter (topB ps v)).length = topsN ps v from rfl]
      refine x_brD (fun e6 => ?_) (fun e6 => ?_)
      · walk_at "st"
        have tb : (varsA p.atoms).all (fun v => decide (topsN ps v = 1)) = false := all_bad (f := fun v => decide (topsN ps v = 1)) vm (decide_eq_false (by omega))
        rw [tb] at h
        exact .here h
      · walk_at "st"
        exact .of ⟨_, _, rfl, rfl, all_take (f := fun v => decide (topsN ps v = 1)) hv ht1 (decide_eq_true (by omega))⟩
    rintro _ M2 ⟨o6, o7, rfl, rfl, ht1⟩
    rw [List.length_map, List.length_map, List.take_length] at ht1
    have ht1 : (varsA p.atoms).all (fun v => decide (topsN ps v = 1)) = true := ht1
    rw [ht1] at h
    walk_at "st"
    exact .here h
  · walk_at "st"
    have e1' : (ps.all fun q => q.1.all fun v => decide (v ∈ varsA p.atoms)) = false := e1
    rw [e1', Bool.false_and, Bool.false_and] at h
    exact .here h
theorem r_right_parts : ∀ xs M Q PX, sp_right_parts xs M Q PX → t_right_parts (endD Q PX) (startD n_right_parts xs) M := by
  rintro _ M Q PX ⟨p, ps, rfl, hp, hs, h⟩
  have pl := hs.l
  unfold t_right_parts
  walk_at "st"
  refine ⟨ps, rfl, hs, ?_⟩
  walk_at "st"
  refine x_br (fun e1 => ?_) (fun e1 => ?_)
  · walk_at "st"
    refine ⟨p, rfl, hp, ?_⟩
    walk_at "st"
    rw [List.map_map]
    refine lc_of (e := DV.d ∘ prD) (fun q => tpS q.1) (by rw [sizeLine_eq]; omega) trivial (fun q hq KT hK => ?_) (finD_of ?_)
    · show gTp 2 _ (.d (prD q)) _ _ _ _
      walk_at "st"
      exact hK
    walk_at "st"
    exact right_r3 hp hs e1 h
  · walk_at "st"
    rw [parts_eq, e1] at h
    exact .here h
theorem len_check_parts {C1 C2 : Addr} : ∀ xs M P PX, sp_check_parts C1 C2 xs M P PX → xs.length = p_check_parts.length := by rintro _ M P PX ⟨_, _, rfl, _⟩; rfl
theorem r_check_parts {P L : Addr} : ∀ xs M Q PX, sp_check_parts P L xs M Q PX → t_check_parts P L (endD Q PX) (startD n_check_parts xs) M := by
  rintro _ M Q PX ⟨p, ps, rfl, hp, hs, h⟩
  unfold t_check_parts
  walk_at "st"
  refine ⟨p, rfl, hp, resE_imp h fun _ h => ?_⟩
  walk_at "st"
  refine ⟨p, ps, rfl, hp, hs, ?_⟩
  walk_at "st"
  exact .here h
/-! ### width_of, order_of -/
theorem len_width_of : ∀ xs M P PX, sp_width_of xs M P PX → xs.length = p_width_of.length := by rintro _ M P PX ⟨_, rfl, _⟩; rfl
theorem r_width_of : ∀ xs M Q PX, sp_width_of xs M Q PX → t_width_of (endD Q PX) (startD n_width_of xs) M := by
  rintro _ M Q PX ⟨ps, rfl, hs, ne, h⟩
  have pl := hs.l
  unfold t_width_of
  walk_at "st"
  rw [List.map_map]
  refine lc_of (e := DV.d ∘ prD) (fun q => .int (q.1.length : Nat)) (by rw [sizeLine_eq]; omega) trivial (fun q hq KT hK => ?_) (finD_of ?_)
  · show gTp 2 _ (.d (prD q)) _ _ _ _
    walk_at "st"
    rw [List.length_map]
    exact hK
  rw [show ps.map (fun q : Prt => PyData.int (q.1.length : Nat)) = (ps.map fun q : Prt => (q.1.length : Int)).map .int by rw [List.map_map]; rfl]
  walk_at "st"
  refine x_maxL (by rw [List.length_map]; exact List.length_pos_iff.mpr ne) ?_
  walk_at "st"
  exact .here h
theorem ord_snoc (ps : List Prt) (q : Prt) : orderP (ps ++ [q]) = orderP ps ++ q.1.filter fun v => !decide (v ∈ orderP ps) := by
  unfold orderP
  rw [List.foldl_append]
  rfl
theorem ord_len {ps : List Prt} {n : Nat} (h : ∀ q ∈ ps, q.1.length ≤ n) : (orderP ps).length ≤ ps.length * n := by
  refine snoc_ind (P := fun ps => (∀ q ∈ ps, q.1.length ≤ n) → (orderP ps).length ≤ ps.length * n) (fun _ => by unfold orderP; simp) (fun l q ih h => ?_) ps h
  rw [ord_snoc, List.length_append, List.length_append, List.length_singleton, Nat.succ_mul]
  have := ih fun a ha => h a (List.mem_append_left _ ha)
  have := h q (by simp)
  have := List.length_filter_le (fun v => !decide (v ∈ orderP l)) q.1
  omega
theorem ord_mem {ps : List Prt} {v : Str} (h : v ∈ orderP ps) : ∃ q ∈ ps, v ∈ q.1 := by
  refine snoc_ind (P := fun ps => v ∈ orderP ps → ∃ q ∈ ps, v ∈ q.1) (fun h => by cases h) (fun l q ih h => ?_) ps h
  rw [ord_snoc] at h
  rcases List.mem_append.mp h with z | z
  · obtain ⟨a, ha, e⟩ := ih z
    exact ⟨a, List.mem_append_left _ ha, e⟩
  · exact ⟨q, by simp, (List.mem_filter.mp z).1⟩
theorem len_order_of : ∀ xs M P PX, sp_order_of xs M P PX → xs.length = p_order_of.length := by rintro _ M P PX ⟨_, rfl, _⟩; rfl
theorem r_order_of : ∀ xs M Q PX, sp_order_of xs M Q PX → t_order_of (endD Q PX) (startD n_order_of xs) M := by
  rintro _ M Q PX ⟨ps, rfl, hs, h⟩
  have pl := hs.l
  unfold t_order_of
  walk_at "st"
  refine ⟨fun i ρ M1 => ∃ o2 o3, M1 = M ∧ ρ = [some (.d (prsD ps)), some (.d (lsS (orderP (ps.take i)))), o2, o3, none], .of ⟨none, none, rfl, rfl⟩, fun _ _ _ _ _ => trivial, ?_, ?_⟩
  · rintro i _ M1 x hx ⟨o2, o3, rfl, rfl⟩
    obtain ⟨q, hq, rfl⟩ := getM hx
    have qm := List.mem_of_getElem? hq
    obtain ⟨b1, b2⟩ := hs.b q qm
    have ol := ord_len (ps := ps.take i) (n := 100) fun a ha => (hs.b a (List.mem_of_mem_take ha)).1
    have ol : (orderP (ps.take i)).length ≤ 10000 := by
      have : (ps.take i).length * 100 ≤ 100 * 100 := Nat.mul_le_mul_right _ (by rw [List.length_take]; omega)
      omega
    walk_at "st"
    rw [List.map_map]
    refine lc_sel (enc := DV.d ∘ PyData.str) (fun v => !decide (v ∈ orderP (ps.take i))) PyData.str (by rw [sizeLine_eq]; omega) trivial (fun v hv KT KF k1 k2 => ?_) (finD_of ?_)
    · show gN 4 (.d (.str v)) _ _ _ _
      walk_at "st"
      refine x_ninLS (b2 v hv).1 (fun w hw => ?_) ?_
      · obtain ⟨a, ha, e⟩ := ord_mem hw
        exact ((hs.b a (List.mem_of_mem_take ha)).2 w e).1
      walk_at "st"
      refine x_brD (fun e => ?_) (fun e => ?_)
      · walk_at "st"
        exact k2 (by rw [decide_eq_true e]; rfl)
      · walk_at "st"
        exact k1 (by rw [decide_eq_false e]; rfl)
    have fl := List.length_filter_le (fun v => !decide (v ∈ orderP (ps.take i))) q.1
    walk_at "st"
    refine x_addL (by rw [sizeLine_eq, List.length_map, List.length_map]; omega) ?_
    walk_at "st"
    refine .of ⟨some (.d (tpS q.1)), some (.d (.int q.2)), rfl, ?_⟩
    rw [take_succ_of hq, ord_snoc]
    show _ = [_, some (DV.d (PyData.list (List.map PyData.str (_ ++ _)))), _, _, _]
    rw [List.map_append]
    rfl
  · rintro _ M1 ⟨o2, o3, rfl, rfl⟩
    rw [List.length_map, List.length_map, List.take_length]
    walk_at "st"
    exact .here h
theorem len_law_part_order : ∀ xs M P PX, sp_law_part_order xs M P PX → xs.length = p_law_part_order.length := by rintro _ M P PX ⟨_, rfl, _⟩; rfl
theorem r_law_part_order : ∀ xs M Q PX, sp_law_part_order xs M Q PX → t_law_part_order (endD Q PX) (startD n_law_part_order xs) M := by
  rintro _ M Q PX ⟨ps, rfl, hs, h⟩
  have pl := hs.l
  unfold t_law_part_order
  walk_at "st"
  refine ⟨fun i ρ M1 => ∃ o2 o3, M1 = M ∧ ρ = [some (.d (prsD ps)), some (.d (lsS (orderP (ps.take i)))), o2, o3, none], .of ⟨none, none, rfl, rfl⟩, fun _ _ _ _ _ => trivial, ?_, ?_⟩
  · rintro i _ M1 x hx ⟨o2, o3, rfl, rfl⟩
    obtain ⟨q, hq, rfl⟩ := getM hx
    have qm := List.mem_of_getElem? hq
    obtain ⟨b1, b2⟩ := hs.b q qm
    have ol := ord_len (ps := ps.take i) (n := 100) fun a ha => (hs.b a (List.mem_of_mem_take ha)).1
    have ol : (orderP (ps.take i)).length ≤ 10000 := by
      have : (ps.take i).length * 100 ≤ 100 * 100 := Nat.mul_le_mul_right _ (by rw [List.length_take]; omega)
      omega
    walk_at "st"
    rw [List.map_map]
    refine lc_sel (enc := DV.d ∘ PyData.str) (fun v => !decide (v ∈ orderP (ps.take i))) PyData.str (by rw [sizeLine_eq]; omega) trivial (fun v hv KT KF k1 k2 => ?_) (finD_of ?_)
    · show gN 4 (.d (.str v)) _ _ _ _
      walk_at "st"
      refine x_ninLS (b2 v hv).1 (fun w hw => ?_) ?_
      · obtain ⟨a, ha, e⟩ := ord_mem hw
        exact ((hs.b a (List.mem_of_mem_take ha)).2 w e).1
      walk_at "st"
      refine x_brD (fun e => ?_) (fun e => ?_)
      · walk_at "st"
        exact k2 (by rw [decide_eq_true e]; rfl)
      · walk_at "st"
        exact k1 (by rw [decide_eq_false e]; rfl)
    have fl := List.length_filter_le (fun v => !decide (v ∈ orderP (ps.take i))) q.1
    walk_at "st"
    refine x_addL (by rw [sizeLine_eq, List.length_map, List.length_map]; omega) ?_
    walk_at "st"
    refine .of ⟨some (.d (tpS q.1)), some (.d (.int q.2)), rfl, ?_⟩
    rw [take_succ_of hq, ord_snoc]
    show _ = [_, some (DV.d (PyData.list (List.map PyData.str (_ ++ _)))), _, _, _]
    rw [List.map_append]
    rfl
  · rintro _ M1 ⟨o2, o3, rfl, rfl⟩
    rw [List.length_map, List.length_map, List.take_length]
    walk_at "st"
    exact .here h
--%%SPLIT
/-! ### what is hung so is right -/
theorem flt_le {α : Type} {f g : α → Bool} : ∀ {l : List α}, (∀ u ∈ l, f u = true → g u = true) → (l.filter f).length ≤ (l.filter g).length
  | [], _ => Nat.le_refl _
  | a :: r, h => by
    have ih := flt_le (l := r) fun u hu => h u (List.mem_cons_of_mem _ hu)
    rw [List.filter_cons, List.filter_cons]
    by_cases e : f a = true
    · rw [if_pos e, if_pos (h a (List.mem_cons_self ..) e), List.length_cons, List.length_cons]
      omega
    · rw [if_neg e]
      split
      · rw [List.length_cons]; omega
      · exact ih
theorem flt_lt {α : Type} {f g : α → Bool} {v : α} (hf : f v = false) (hg : g v = true) : ∀ {l : List α}, (∀ u ∈ l, f u = true → g u = true) → v ∈ l → (l.filter f).length < (l.filter g).length
  | [], _, hv => by cases hv
  | a :: r, h, hv => by
    have h' : ∀ u ∈ r, f u = true → g u = true := fun u hu => h u (List.mem_cons_of_mem _ hu)
    rw [List.filter_cons, List.filter_cons]
    rcases List.mem_cons.mp hv with z | z
    · subst z
      rw [if_neg (by rw [hf]; exact nofun), if_pos hg, List.length_cons]
      have := flt_le h'
      omega
    · have ih := flt_lt hf hg h' z
      by_cases e : f a = true
      · rw [if_pos e, if_pos (h a (List.mem_cons_self ..) e), List.length_cons, List.length_cons]
        omega
      · rw [if_neg e]
        split
        · rw [List.length_cons]; omega
        · exact ih
theorem cnt1 : ∀ (n m : Nat), m < n → ((List.range n).filter fun k => decide (k = m)).length = 1
  | 0, m, h => by omega
  | n + 1, m, h => by
    rw [List.range_succ, List.filter_append, List.length_append]
    by_cases e : m = n
    · subst e
      have : (List.range m).filter (fun k => decide (k = m)) = [] := List.filter_eq_nil_iff.mpr fun k hk => by
        have := List.mem_range.mp hk
        rw [decide_eq_false (by omega)]
        exact nofun
      rw [this]
      simp
    · rw [cnt1 n m (by omega)]
      have : [n].filter (fun k => decide (k = m)) = [] := List.filter_eq_nil_iff.mpr fun k hk => by
        cases List.mem_singleton.mp hk
        rw [decide_eq_false (by omega)]
        exact nofun
      rw [this]
      rfl
theorem nd_at {α : Type} {l : List α} (nd : l.Nodup) {i j : Nat} {v : α} (h1 : l[i]? = some v) (h2 : l[j]? = some v) : i = j := by
  obtain ⟨hi, e1⟩ := List.getElem?_eq_some_iff.mp h1
  obtain ⟨hj, e2⟩ := List.getElem?_eq_some_iff.mp h2
  exact (List.getElem_inj nd).mp (e1.trans e2.symm)
theorem hung_ok {vs : List Str} {as : List Atom} {B : List (List Str)} {ps : List Prt} (vp : vs.Perm (varsA as)) (vn : vs ≠ []) (bo : BagsOk vs as B) (hu : Hung B ps) : partsOk as ps = true := by
  obtain ⟨hb, hh⟩ := hu
  have nd : vs.reverse.Nodup := (List.reverse_perm vs).nodup_iff.mpr (vp.nodup_iff.mpr (nodup_vars as))
  have ln : ps.length = vs.length := by rw [← bo.ln, ← hb, List.length_map]
  have bg : ∀ {k : Nat} {q : Prt}, ps[k]? = some q → B[k]? = some q.1 := fun {k q} h => by rw [← hb, List.getElem?_map, h]; rfl
  have gb : ∀ {k : Nat} {b : List Str}, B[k]? = some b → ∃ q, ps[k]? = some q ∧ q.1 = b := fun {k b} h => by
    rw [← hb, List.getElem?_map] at h
    obtain ⟨q, e, z⟩ := Option.map_eq_some_iff.mp h
    exact ⟨q, e, z⟩
  have ht : treeOk ps = true := by
    rw [tree_good fun k hk => ?_]
    · cases z : ps with
      | nil => rw [z] at ln; exact absurd (List.eq_nil_of_length_eq_zero ln.symm) vn
      | cons a r => rfl
    · obtain ⟨q, hq⟩ : ∃ q, ps[k]? = some q := ⟨_, List.getElem?_eq_getElem hk⟩
      obtain ⟨n1, n2, _⟩ := bo.ne k _ (bg hq)
      obtain ⟨h0, h1⟩ := hh k q hq
      rw [getP hq]
      refine node_ok (fun z => n1 (List.eq_nil_of_length_eq_zero z)) n2 ?_
      by_cases k0 : k = 0
      · rw [if_pos k0]
        exact decide_eq_true (h0 k0)
      · obtain ⟨j, c, jk, e, _⟩ := h1 (by omega)
        rw [if_neg k0, e, decide_eq_true (by omega), decide_eq_true (by omega)]
        rfl
  have hv : (ps.all fun q => q.1.all fun v => decide (v ∈ varsA as)) = true := by
    rw [List.all_eq_true]
    intro q hq
    rw [List.all_eq_true]
    intro v hv
    obtain ⟨k, hk⟩ := List.mem_iff_getElem?.mp hq
    obtain ⟨j, _, e⟩ := bo.low k _ v (bg hk) hv
    exact decide_eq_true (vp.mem_iff.mp (List.mem_reverse.mp (List.mem_of_getElem? e)))
  have hc : as.all (covB ps) = true := by
    rw [List.all_eq_true]
    intro a ha
    obtain ⟨b, bm, hb'⟩ := bo.cov a ha
    obtain ⟨k, hk⟩ := List.mem_iff_getElem?.mp bm
    obtain ⟨q, hq, e⟩ := gb hk
    exact List.any_eq_true.mpr ⟨q, List.mem_of_getElem? hq, List.all_eq_true.mpr fun v hv => decide_eq_true (by rw [e]; exact hb' v hv)⟩
  have tp : (varsA as).all (fun v => decide (topsN ps v = 1)) = true := by
    rw [List.all_eq_true]
    intro v hv
    obtain ⟨m, hm⟩ := List.mem_iff_getElem?.mp (List.mem_reverse.mpr (vp.mem_iff.mpr hv))
    have ml : m < ps.length := by
      have := (List.getElem?_eq_some_iff.mp hm).1
      rw [List.length_reverse] at this
      omega
    refine decide_eq_true ?_
    unfold topsN
    rw [List.filter_congr (q := fun k => decide (k = m)) fun k hk => ?_]
    · exact cnt1 _ _ ml
    have hk := List.mem_range.mp hk
    obtain ⟨q, hq⟩ : ∃ q, ps[k]? = some q := ⟨_, List.getElem?_eq_getElem hk⟩
    have hB := bg hq
    obtain ⟨h0, h1⟩ := hh k q hq
    unfold topB
    rw [getP hq]
    by_cases km : k = m
    · subst km
      rw [decide_eq_true (bo.own k _ v hB hm), decide_eq_true rfl, Bool.true_and]
      by_cases k0 : k = 0
      · rw [decide_eq_true k0]; rfl
      · obtain ⟨j, c, jk, e, hc', _⟩ := h1 (by omega)
        obtain ⟨r, hr, er⟩ := gb hc'
        rw [show q.2.toNat = j by omega, getP hr, er, decide_eq_false (fun z : v ∈ c => ?_)]
        · simp
        · obtain ⟨i, ij, e2⟩ := bo.low j c v hc' z
          have := nd_at nd e2 hm
          omega
    · rw [decide_eq_false km]
      by_cases vq : v ∈ q.1
      · obtain ⟨j0, j0k, e0⟩ := bo.low k _ v hB vq
        have := nd_at nd e0 hm
        subst this
        obtain ⟨j, c, jk, e, hc', mx⟩ := h1 (by omega)
        obtain ⟨r, hr, er⟩ := gb hc'
        rw [decide_eq_true vq, decide_eq_false (by omega : ¬ k = 0), show q.2.toNat = j by omega, getP hr, er, decide_eq_true ?_]
        · rfl
        obtain ⟨i, c0, ik, hc0, sub⟩ := bo.nest k _ hB (by omega)
        obtain ⟨w, hw⟩ : ∃ w, vs.reverse[k]? = some w := ⟨_, List.getElem?_eq_getElem (by rw [List.length_reverse]; omega)⟩
        apply Classical.byContradiction
        intro vc
        have vw : v ≠ w := fun z => km (by
          subst z
          exact nd_at nd hw hm)
        have wc : w ∉ c := fun z => by
          obtain ⟨i', ij', e'⟩ := bo.low j c w hc' z
          have := nd_at nd e' hw
          omega
        have l1 : (q.1.filter fun u => decide (u ∈ c)).length < (q.1.filter fun u => !decide (u = w)).length := flt_lt (v := v) (decide_eq_false vc) (by rw [decide_eq_false vw]; rfl) (fun u _ hu => by rw [decide_eq_false (fun z : u = w => wc (z ▸ of_decide_eq_true hu))]; rfl) vq
        have l2 : (q.1.filter fun u => !decide (u = w)).length ≤ (q.1.filter fun u => decide (u ∈ c0)).length := flt_le fun u hu hg => decide_eq_true (sub u hu (by
          rw [hw]
          intro z
          rw [decide_eq_true (Option.some.inj z).symm] at hg
          cases hg))
        have l3 := mx i c0 ik hc0
        unfold sharedN at l3
        omega
      · rw [decide_eq_false vq]
        rfl
  rw [parts_eq, ht, hv, hc, tp]
  rfl
--%%PAR
/-! ### _law_right_parts -/
theorem len_law_right_parts : ∀ xs M P PX, sp_law_right_parts xs M P PX → xs.length = p_law_right_parts.length := by rintro _ M P PX ⟨_, _, rfl, _⟩; rfl
theorem asc_flt (ws : List Str) : decide ((((List.range (ws.length - 1)).filter fun i => !PySem.W.dataLt ((ws.map PyData.str).getD i .none) ((ws.map PyData.str).getD (i + 1) .none)).length : Int) > 0) = !ascW ws := by
  unfold ascW ascD
  rw [List.length_map]
  cases z : (List.range (ws.length - 1)).all fun k => PySem.W.dataLt ((ws.map PyData.str).getD k .none) ((ws.map PyData.str).getD (k + 1) .none) with
  | true =>
    rw [List.all_eq_true] at z
    rw [List.filter_eq_nil_iff.mpr fun k hk => by rw [z k hk]; exact nofun]
    rfl
  | false =>
    obtain ⟨k, hk, e⟩ := List.all_eq_false.mp z
    refine decide_eq_true ?_
    have : 0 < ((List.range (ws.length - 1)).filter fun i => !PySem.W.dataLt ((ws.map PyData.str).getD i .none) ((ws.map PyData.str).getD (i + 1) .none)).length := List.length_pos_of_mem (List.mem_filter.mpr ⟨hk, by rw [Bool.eq_false_iff.mpr e]; rfl⟩)
    omega
theorem r_law_right_parts : ∀ xs M Q PX, sp_law_right_parts xs M Q PX → t_law_right_parts (endD Q PX) (startD n_law_right_parts xs) M := by
  rintro _ M Q PX ⟨p, ps, rfl, hp, hs, h⟩
  have pl := hs.l
  have vl := hp.vl
  have al := hp.al
  unfold t_law_right_parts
  walk_at "st"
  refine ⟨p, rfl, hp, ?_⟩
  walk_at "st"
  rw [List.length_map]
  refine x_brD (fun e0 => ?_) (fun e0 => ?_)
  · walk_at "st"
    have : ps = [] := List.eq_nil_of_length_eq_zero (by omega)
    subst this
    exact .here h
  walk_at "st"
  rw [List.length_map]
  refine ⟨by omega, by omega, ?_⟩
  refine ⟨fun i ρ M1 => ∃ o3 o4 o5, M1 = M ∧ ρ = [some (.d p.d), some (.d (prsD ps)), some (.d (tpS p.vars)), o3, o4, o5, none, none, none, none, none] ∧ (∀ k, k < i → nodeOk k (ps.getD k ([], 0)) = true) ∧ (ps.take i).all (fun q => q.1.all fun v => decide (v ∈ varsA p.atoms)) = true, .of ⟨none, none, none, rfl, rfl, fun k hk => (by omega), rfl⟩, fun _ _ _ _ _ => trivial, ?_, ?_⟩
  · rintro i _ M1 x hx ⟨o3, o4, o5, rfl, rfl, hn, hv⟩
    obtain ⟨hi, rfl⟩ := getR hx
    have hi : i < ps.length := by omega
    obtain ⟨q, hg⟩ : ∃ q, ps[i]? = some q := ⟨_, List.getElem?_eq_getElem hi⟩
    have gd := getP hg
    have qm := List.mem_of_getElem? hg
    have a1 := atM (e := prD) hg (k := 0 + (i : Int)) (by omega)
    obtain ⟨b1, b2⟩ := hs.b q qm
    have bad : nodeOk i q = false → WkV Q (.d (.bool false)) M1 := fun e => by
      refine .here ?_
      rw [parts_eq, tree_bad hi (by rw [gd]; exact e)] at h
      exact h
    have badv : (q.1.all fun v => decide (v ∈ varsA p.atoms)) = false → WkV Q (.d (.bool false)) M1 := fun e => by
      refine .here ?_
      rw [parts_eq, all_bad (f := fun q : Prt => q.1.all fun v => decide (v ∈ varsA p.atoms)) qm e] at h
      simp at h
      exact h
    have good : nodeOk i q = true → ∀ k, k < i + 1 → nodeOk k (ps.getD k ([], 0)) = true := fun e k hk => by
      rcases Nat.lt_succ_iff_lt_or_eq.mp hk with z | z
      · exact hn k z
      · subst z
        rw [gd]
        exact e
    have goodv : (q.1.all fun v => decide (v ∈ varsA p.atoms)) = true → (ps.take (i + 1)).all (fun q => q.1.all fun v => decide (v ∈ varsA p.atoms)) = true := fun e => all_take (f := fun q : Prt => q.1.all fun v => decide (v ∈ varsA p.atoms)) hg hv e
    walk_at "st"
    rw [List.length_map]
    refine x_brD (fun e1 => ?_) (fun e1 => ?_)
    · walk_at "st"
      exact bad (node_nil (by omega))
    · walk_at "st"
      rw [List.length_map]
      refine ⟨⟨by omega, by omega, by omega, by omega⟩, ?_⟩
      have hr : rangeD 1 (((q.1.length : Nat) : Int) - 1).toNat = (List.range (q.1.length - 1)).map fun i => DV.d (.int (1 + (i : Nat))) := by
        unfold rangeD
        rw [show (((q.1.length : Nat) : Int) - 1).toNat = q.1.length - 1 by omega]
      rw [hr]
      refine lc_sel (fun i => !PySem.W.dataLt ((q.1.map PyData.str).getD i .none) ((q.1.map PyData.str).getD (i + 1) .none)) (fun i => .int (1 + (i : Nat))) (by rw [List.length_range, sizeLine_eq]; omega) trivial (fun j hj KT KF k1 k2 => ?_) (finD_of ?_)
      · have hj := List.mem_range.mp hj
        have x1 := getD_at (l := q.1.map PyData.str) (i := j) (by rw [List.length_map]; omega) (k := 1 + (j : Int) - 1) (by omega)
        have x2 := getD_at (l := q.1.map PyData.str) (i := j + 1) (by rw [List.length_map]; omega) (k := 1 + (j : Int)) (by omega)
        have m1 := getD_mem (l := q.1.map PyData.str) (i := j) (by rw [List.length_map]; omega)
        have m2 := getD_mem (l := q.1.map PyData.str) (i := j + 1) (by rw [List.length_map]; omega)
        have ok : CmpOk ((q.1.map PyData.str).getD j .none) ((q.1.map PyData.str).getD (j + 1) .none) := ⟨alikeS _ _ m1 _ m2, (depS _ _ m1).1, by have := (depS _ _ m1).2; omega⟩
        walk_at "st"
        refine ⟨ok, ?_⟩
        walk_at "st"
        refine x_br (fun e => ?_) (fun e => ?_)
        · walk_at "st"
          exact k2 (by rw [e]; rfl)
        · walk_at "st"
          exact k1 (by rw [e]; rfl)
      walk_at "st"
      rw [List.length_map, asc_flt]
      refine x_br (fun e2 => ?_) (fun e2 => ?_)
      · walk_at "st"
        exact bad (node_asc (by rw [Bool.not_eq_true'] at e2; exact e2))
      · have e2 : ascW q.1 = true := by rw [Bool.not_eq_false'] at e2; exact e2
        walk_at "st"
        rw [List.map_map]
        refine lc_of (e := DV.d ∘ PyData.str) (fun v => .bool (decide (v ∈ p.vars))) (by rw [sizeLine_eq]; omega) trivial (fun v hv KT hK => ?_) (finD_of ?_)
        · show gN 8 (.d (.str v)) _ _ _ _
          walk_at "st"
          exact x_inTS (b2 v hv).1 (fun w hw => (hp.vs w hw).1) hK
        walk_at "st"
        refine x_br (fun e3 => ?_) (fun e3 => ?_)
        · have e3 : (q.1.all fun v => decide (v ∈ varsA p.atoms)) = true := e3
          rcases Nat.eq_zero_or_pos i with rfl | ip
          · walk_at "st"
            refine x_brD (fun e4 => ?_) (fun e4 => ?_)
            · walk_at "st"
              exact bad (node_ab (decide_eq_false (by omega)))
            · walk_at "st"
              exact .of ⟨_, _, _, rfl, rfl, good (node_ok (by omega) e2 (decide_eq_true (by omega))), goodv e3⟩
          · walk_at "st"
            refine x_brD (fun e4 => ?_) (fun e4 => ?_)
            · walk_at "st"
              exact bad (node_ab (by rw [if_neg (by omega), decide_eq_false (by omega), Bool.false_and]))
            · walk_at "st"
              refine x_brD (fun e5 => ?_) (fun e5 => ?_)
              · walk_at "st"
                exact bad (node_ab (by rw [if_neg (by omega), decide_eq_false (by omega : ¬ q.2 < (i : Int)), Bool.and_false]))
              · walk_at "st"
                exact .of ⟨_, _, _, rfl, rfl, good (node_ok (by omega) e2 (by rw [if_neg (by omega), decide_eq_true (by omega), decide_eq_true (by omega)]; rfl)), goodv e3⟩
        · walk_at "st"
          exact badv e3
  rintro _ M1 ⟨o3, o4, o5, rfl, rfl, hn, hv⟩
  rw [rangeD_len] at hn hv
  rw [show ((ps.length : Int)).toNat = ps.length by omega, List.take_length] at hv
  have ht : treeOk ps = true := by
    rw [tree_good fun k hk => hn k (by omega)]
    cases ps with
    | nil => exact absurd rfl e0
    | cons a r => rfl
  rw [parts_eq, ht, hv, Bool.true_and, Bool.true_and] at h
  walk_at "st"
  refine ⟨fun i ρ M2 => ∃ o4 o5 o6 o7, M2 = M1 ∧ ρ = [some (.d p.d), some (.d (prsD ps)), some (.d (tpS p.vars)), o3, o4, o5, o6, o7, none, none, none] ∧ (p.atoms.take i).all (covB ps) = true, .of ⟨o4, o5, none, none, rfl, rfl, rfl⟩, fun _ _ _ _ _ => trivial, ?_, ?_⟩
  · rintro i _ M2 x hx ⟨o4, o5, o6, o7, rfl, rfl, hc⟩
    obtain ⟨a, ha, rfl⟩ := getM hx
    have am := List.mem_of_getElem? ha
    obtain ⟨a1, a2, a3⟩ := hp.a a am
    walk_at "st"
    rw [List.map_map]
    refine lc_sel (enc := DV.d ∘ prD) (fun q => a.2.all fun v => decide (v ∈ q.1)) (fun q => .int 1) (by rw [sizeLine_eq]; omega) trivial (fun q hq KT KF k1 k2 => ?_) (finD_of ?_)
    · show gTp 2 _ (.d (prD q)) _ _ _ _
      walk_at "st"
      rw [List.map_map]
      refine lc_of (e := DV.d ∘ PyData.str) (fun v => .bool (decide (v ∈ q.1))) (by rw [sizeLine_eq]; omega) trivial (fun v hv KT2 hK2 => ?_) (finD_of ?_)
      · show gN 8 (.d (.str v)) _ _ _ _
        walk_at "st"
        exact x_inTS (a3 v hv).1 (fun w hw => ((hs.b q hq).2 w hw).1) hK2
      walk_at "st"
      refine x_br (fun e => ?_) (fun e => ?_)
      · walk_at "st"
        exact k1 e
      · exact k2 e
    walk_at "st"
    rw [List.length_map]
    refine x_brD (fun e2 => ?_) (fun e2 => ?_)
    · have nc : covB ps a = false := List.any_eq_false.mpr fun q hq z => by
        have : 0 < (ps.filter fun q => a.2.all fun v => decide (v ∈ q.1)).length := List.length_pos_of_mem (List.mem_filter.mpr ⟨hq, z⟩)
        omega
      walk_at "st"
      rw [all_bad am nc, Bool.false_and] at h
      exact .here h
    · have yc : covB ps a = true := by
        have : 0 < (ps.filter fun q => a.2.all fun v => decide (v ∈ q.1)).length := by omega
        obtain ⟨q, hq⟩ := List.exists_mem_of_length_pos this
        exact List.any_eq_true.mpr ⟨q, (List.mem_filter.mp hq).1, (List.mem_filter.mp hq).2⟩
      walk_at "st"
      exact .of ⟨_, _, _, _, rfl, rfl, all_take ha hc yc⟩
  rintro _ M2 ⟨o4, o5, o6, o7, rfl, rfl, hc⟩
  rw [List.length_map, List.length_map, List.take_length] at hc
  rw [hc, Bool.true_and] at h
  walk_at "st"
  refine ⟨fun i ρ M3 => ∃ o3 o8 o9, M3 = M2 ∧ ρ = [some (.d p.d), some (.d (prsD ps)), some (.d (tpS p.vars)), o3, o4, o5, o6, o7, o8, o9, none] ∧ (p.vars.take i).all (fun v => decide (topsN ps v = 1)) = true, .of ⟨o3, none, none, rfl, rfl, rfl⟩, fun _ _ _ _ _ => trivial, ?_, ?_⟩
  · rintro i _ M3 x hx ⟨o3, o8, o9, rfl, rfl, ht1⟩
    obtain ⟨v, hv, rfl⟩ := getM hx
    have vm := List.mem_of_getElem? hv
    have vo := hp.vs v vm
    walk_at "st"
    rw [List.length_map]
    refine ⟨by omega, by omega, ?_⟩
    refine ⟨fun j ρ M4 => ∃ o3, M4 = M3 ∧ ρ = [some (.d p.d), some (.d (prsD ps)), some (.d (tpS p.vars)), o3, o4, o5, o6, o7, some (.d (.str v)), some (.d (.int (((List.range j).filter (topB ps v)).length : Nat))), none], .of ⟨o3, rfl, rfl⟩, fun _ _ _ _ _ => trivial, ?_, ?_⟩
    · rintro k _ M4 y hy ⟨o3, rfl, rfl⟩
      obtain ⟨hk, rfl⟩ := getR hy
      have hk : k < ps.length := by omega
      obtain ⟨q, hg⟩ : ∃ q, ps[k]? = some q := ⟨_, List.getElem?_eq_getElem hk⟩
      have qm := List.mem_of_getElem? hg
      have b2 := atM (e := prD) hg (k := 0 + (k : Int)) (by omega)
      have te : topB ps v k = (decide (v ∈ q.1) && (decide (k = 0) || !decide (v ∈ (ps.getD q.2.toNat ([], 0)).1))) := by unfold topB; rw [getP hg]
      have nx : (((List.range (k + 1)).filter (topB ps v)).length : Nat) = ((List.range k).filter (topB ps v)).length + (if topB ps v k = true then 1 else 0) := by
        rw [List.range_succ, List.filter_append, List.length_append]
        congr 1
        rw [List.filter_cons]
        split <;> rfl
      rw [te] at nx
      walk_at "st"
      refine x_inTS vo.1 (fun w hw => ((hs.b q qm).2 w hw).1) ?_
      walk_at "st"
      refine x_brD (fun e3 => ?_) (fun e3 => ?_)
      · rw [decide_eq_true e3, Bool.true_and] at nx
        walk_at "st"
        refine x_brD (fun e4 => ?_) (fun e4 => ?_)
        · rw [decide_eq_true (by omega : k = 0), Bool.true_or, if_pos rfl] at nx
          walk_at "st"
          exact .of ⟨_, rfl, by rw [nx]; rfl⟩
        · obtain ⟨c1, c2⟩ := node_above ht hg (by omega)
          obtain ⟨r, hr⟩ : ∃ r, ps[q.2.toNat]? = some r := ⟨_, List.getElem?_eq_getElem (by omega)⟩
          have rm := List.mem_of_getElem? hr
          have b3 := atM (e := prD) hr (k := q.2) (by omega)
          rw [decide_eq_false (by omega : ¬ k = 0), Bool.false_or, getP hr] at nx
          walk_at "st"
          refine x_ninTS vo.1 (fun w hw => ((hs.b r rm).2 w hw).1) ?_
          walk_at "st"
          refine x_brD (fun e5 => ?_) (fun e5 => ?_)
          · rw [decide_eq_true e5] at nx
            walk_at "st"
            exact .of ⟨_, rfl, by rw [nx]; rfl⟩
          · rw [decide_eq_false e5] at nx
            walk_at "st"
            exact .of ⟨_, rfl, by rw [nx]; rfl⟩
      · rw [decide_eq_false e3] at nx
        walk_at "st"
        exact .of ⟨_, rfl, by rw [nx]; rfl⟩
    rintro _ M4 ⟨o3, rfl, rfl⟩
    rw [rangeD_len, show ((ps.length : Int)).toNat = ps.length by omega, show ((List.range ps.length).filter (topB ps v)).length = topsN ps v from rfl]
    walk_at "st"
    refine x_brD (fun e6 => ?_) (fun e6 => ?_)
    · walk_at "st"
      have tb : (varsA p.atoms).all (fun v => decide (topsN ps v = 1)) = false := all_bad (f := fun v => decide (topsN ps v = 1)) vm (decide_eq_false (by omega))
      rw [tb] at h
      exact .here h
    · walk_at "st"
      exact .of ⟨_, _, _, rfl, rfl, all_take (f := fun v => decide (topsN ps v = 1)) hv ht1 (decide_eq_true (by omega))⟩
  rintro _ M3 ⟨o3, o8, o9, rfl, rfl, ht1⟩
  rw [List.length_map, List.length_map, List.take_length] at ht1
  have ht1 : (varsA p.atoms).all (fun v => decide (topsN ps v = 1)) = true := ht1
  rw [ht1] at h
  walk_at "st"
  exact .here h
--%%PAR
/-! ### draws -/
theorem len_law_signed : ∀ xs M P PX, sp_law_signed xs M P PX → xs.length = p_law_signed.length := by rintro _ M P PX ⟨_, _, _, rfl, _⟩; rfl
theorem r_law_signed : ∀ xs M Q PX, sp_law_signed xs M Q PX → t_law_signed (endD Q PX) (startD n_law_signed xs) M := by
  rintro _ M Q PX ⟨d, st, m, rfl, hM, hst, hm, h⟩
  unfold t_law_signed
  walk_at "st"
  refine ⟨d, 2 * (m : Int) + 1, st, rfl, hM, hst, divOk_small (by omega) (by omega), fun v st1 hst1 v0 v1 => ?_⟩
  walk_at "st"
  exact .here (h _ _ hst1 (by omega) (by omega))
theorem len_law_shuffled : ∀ xs M P PX, sp_law_shuffled xs M P PX → xs.length = p_law_shuffled.length := by rintro _ M P PX ⟨_, _, _, rfl, _⟩; rfl
theorem r_law_shuffled : ∀ xs M Q PX, sp_law_shuffled xs M Q PX → t_law_shuffled (endD Q PX) (startD n_law_shuffled xs) M := by
  rintro _ M Q PX ⟨d, st, ws, rfl, hM, hst, wl, h⟩
  unfold t_law_shuffled
  walk_at "st"
  intro b hb
  have db : d ≠ b := ne_of_mn hM hb
  walk_at "st"
  rw [List.length_map]
  refine ⟨by omega, by omega, ?_⟩
  refine ⟨fun i ρ M1 => ∃ (lf fd : List Str) (st : List PyData) (o4 o5 : Option DV), ρ = [some (.r d), some (.d (tpS ws)), some (.d (lsS lf)), some (.r b), o4, o5] ∧ M1 d = some (.ls st) ∧ DSt st ∧ M1 b = some (.ls (fd.map PyData.str)) ∧ (∀ a, a ≠ d → a ≠ b → M1 a = M a) ∧ fd.length = i ∧ (fd ++ lf).Perm ws,
    .of ⟨ws, [], st, none, none, rfl, by walk_at "m", hst, mu_same, (fun a h1 h2 => mu_ne h2), rfl, .refl _⟩, fun _ _ _ _ _ => trivial, ?_, ?_⟩
  · rintro i _ M1 x hx ⟨lf, fd, st, o4, o5, rfl, hd, hst, hb1, hoth, hl, hp⟩
    obtain ⟨hi, rfl⟩ := getR hx
    have pl := hp.length_eq
    rw [List.length_append] at pl
    have ll : (lf.map PyData.str).length = lf.length := List.length_map _
    walk_at "st"
    rw [ll]
    refine ⟨d, (lf.length : Int), st, rfl, hd, hst, divOk_small (by omega) (by omega), fun u st2 hst2 u0 u1 => ?_⟩
    obtain ⟨w, hw⟩ : ∃ w, lf[u.toNat]? = some w := ⟨_, List.getElem?_eq_getElem (by omega)⟩
    have a2 : atI (lf.map PyData.str) u = some (.str w) := atM hw (by omega)
    walk_at "st"
    · rw [List.length_map, sizeLine_eq]; omega
    walk_at "st"
    refine x_addL (by have q1 := cut_len (xs := lf.map PyData.str) (lo := none) (hi := some u); have q2 := cut_len (xs := lf.map PyData.str) (lo := some (u + 1)) (hi := none); rw [sizeLine_eq]; omega) ?_
    walk_at "st"
    have ec : cutG (lf.map PyData.str) none (some u) ++ cutG (lf.map PyData.str) (some (u + 1)) none = (lf.take u.toNat ++ lf.drop (u.toNat + 1)).map .str := by
      rw [cut_take u0, cut_drop (by omega), show (u + 1).toNat = u.toNat + 1 by omega, List.map_append, List.map_take, List.map_drop]
    rw [ec]
    refine .of ⟨lf.take u.toNat ++ lf.drop (u.toNat + 1), fd ++ [w], st2, _, _, rfl, by walk_at "m", hst2, by rw [mu_same, List.map_append]; rfl, fun a h1 h2 => by rw [mu_ne h2, mu_ne h1]; exact hoth a h1 h2, by rw [List.length_append, hl]; rfl, ?_⟩
    refine List.Perm.trans ?_ hp
    rw [List.append_assoc]
    refine List.Perm.append_left _ ?_
    obtain ⟨hu, e⟩ := List.getElem?_eq_some_iff.mp hw
    have e3 : lf = lf.take u.toNat ++ (w :: lf.drop (u.toNat + 1)) := by
      rw [← e, ← List.drop_eq_getElem_cons hu, List.take_append_drop]
    refine List.Perm.trans ?_ (List.Perm.of_eq e3.symm)
    show (w :: (lf.take u.toNat ++ lf.drop (u.toNat + 1))).Perm _
    exact List.perm_middle.symm
  · rintro _ M1 ⟨lf, fd, st, o4, o5, rfl, hd, hst, hb1, hoth, hl, hp⟩
    rw [rangeD_len] at hl
    have pl := hp.length_eq
    rw [List.length_append] at pl
    have : lf = [] := List.eq_nil_of_length_eq_zero (by omega)
    subst this
    rw [List.append_nil] at hp
    walk_at "st"
    refine .of (M' := mu M d (.ls st)) (fun a o e => ?_) (h fd st hst hp)
    by_cases ha : a = d
    · subst ha
      rw [mu_same] at e; cases e; exact hd
    · rw [mu_ne ha] at e
      rw [hoth a ha (fun z => by subst z; rw [hb] at e; cases e)]
      exact e
/-! ### _law_hung -/
theorem len_law_hung : ∀ xs M P PX, sp_law_hung xs M P PX → xs.length = p_law_hung.length := by rintro _ M P PX ⟨_, _, _, rfl, _⟩; rfl
/-- the best places below n -/
def BestAt (B : List (List Str)) (b : List Str) (n : Nat) (bs : List Int) (most : Int) : Prop := bs.length ≤ n ∧ (n = 0 → bs = [] ∧ most = -1) ∧ (0 < n → bs ≠ [] ∧ 0 ≤ most) ∧ (∀ x ∈ bs, ∃ (j : Nat) (c : List Str), j < n ∧ x = (j : Int) ∧ B[j]? = some c ∧ (sharedN b c : Int) = most) ∧ ∀ (i : Nat) (c : List Str), i < n → B[i]? = some c → (sharedN b c : Int) ≤ most
theorem hung_snoc {B : List (List Str)} {ps : List Prt} {b : List Str} {x : Int} (hm : ps.map (·.1) = B.take ps.length) (hb : B[ps.length]? = some b) : (ps ++ [(b, x)]).map (·.1) = B.take (ps.length + 1) := by
  rw [List.map_append, hm, take_succ_of hb]
  rfl
def HungP (B : List (List Str)) (ps : List Prt) : Prop := ∀ (k : Nat) (q : Prt), ps[k]? = some q → (k = 0 → q.2 = -1) ∧ (0 < k → ∃ (j : Nat) (c : List Str), j < k ∧ q.2 = (j : Int) ∧ B[j]? = some c ∧ ∀ (i : Nat) (c' : List Str), i < k → B[i]? = some c' → sharedN q.1 c' ≤ sharedN q.1 c)
theorem hungP_snoc {B : List (List Str)} {ps : List Prt} {b : List Str} {x : Int} (h : HungP B ps) (q : (ps.length = 0 → x = -1) ∧ (0 < ps.length → ∃ (j : Nat) (c : List Str), j < ps.length ∧ x = (j : Int) ∧ B[j]? = some c ∧ ∀ (i : Nat) (c' : List Str), i < ps.length → B[i]? = some c' → sharedN b c' ≤ sharedN b c)) : HungP B (ps ++ [(b, x)]) := fun k r hr => by
  rcases Nat.lt_trichotomy k ps.length with g | g | g
  · rw [List.getElem?_append_left g] at hr
    exact h k r hr
  · subst g
    rw [List.getElem?_append_right (Nat.le_refl _), Nat.sub_self] at hr
    cases hr
    exact q
  · rw [List.getElem?_append_right (by omega), List.getElem?_eq_none (by simp; omega)] at hr
    cases hr
theorem r_law_hung : ∀ xs M Q PX, sp_law_hung xs M Q PX → t_law_hung (endD Q PX) (startD n_law_hung xs) M := by
  rintro _ M Q PX ⟨d, st, B, rfl, hM, hst, bl, hB, h⟩
  unfold t_law_hung
  walk_at "st"
  intro r hr
  have dr : d ≠ r := ne_of_mn hM hr
  walk_at "st"
  refine ⟨fun i ρ M1 => ∃ (ps : List Prt) (st : List PyData) (o3 o4 o5 o6 o7 : Option DV), ρ = [some (.r d), some (.d (bgD B)), some (.r r), o3, o4, o5, o6, o7, none] ∧ M1 d = some (.ls st) ∧ DSt st ∧ M1 r = some (.ls (ps.map prD)) ∧ (∀ a, a ≠ d → a ≠ r → M a ≠ none → M1 a = M a) ∧ ps.length = i ∧ ps.map (·.1) = B.take i ∧ HungP B ps,
    .of ⟨[], st, none, none, none, none, none, rfl, by walk_at "m", hst, mu_same, (fun a h1 h2 _ => mu_ne h2), rfl, rfl, fun k q e => (by simp at e)⟩, fun _ _ _ _ _ => trivial, ?_, ?_⟩
  · rintro i _ M1 x hx ⟨ps, st, o3, o4, o5, o6, o7, rfl, hd, hst, hr1, hoth, hl, hm, hH⟩
    obtain ⟨b, hb, rfl⟩ := getM hx
    have bm := List.mem_of_getElem? hb
    have iB : i < B.length := (List.getElem?_eq_some_iff.mp hb).1
    obtain ⟨b1, b2⟩ := hB b bm
    subst hl
    walk_at "st"
    intro g hg
    have dg : d ≠ g := ne_of_mn hd hg
    have rg : r ≠ g := ne_of_mn hr1 hg
    have hr2 : mu M1 g (.ls []) r = some (.ls (ps.map prD)) := by walk_at "m"
    walk_at "st"
    rw [List.length_map]
    refine ⟨by omega, by omega, ?_⟩
    refine ⟨fun j ρ M2 => ∃ (bs : List Int) (most : Int) (g : Addr) (o6 o7 : Option DV), ρ = [some (.r d), some (.d (bgD B)), some (.r r), some (.d (tpS b)), some (.r g), some (.d (.int most)), o6, o7, none] ∧ M2 g = some (.ls (bs.map .int)) ∧ g ≠ d ∧ g ≠ r ∧ M1 g = none ∧ M2 d = some (.ls st) ∧ M2 r = some (.ls (ps.map prD)) ∧ (∀ a, M1 a ≠ none → M2 a = M1 a) ∧ BestAt B b j bs most,
      .of ⟨[], -1, g, o6, o7, rfl, mu_same, dg.symm, rg.symm, hg, by walk_at "m", hr2, (fun a h1 => mu_ne fun z => h1 (z ▸ hg)), Nat.le_refl _, fun _ => ⟨rfl, rfl⟩, fun z => (by omega), fun x hx => (by cases hx), fun i c z => (by omega)⟩, fun _ _ _ _ _ => trivial, ?_, ?_⟩
    · rintro j _ M2 y hy ⟨bs, most, g, o6, o7, rfl, hg2, gd, gr, hg0, hd2, hr2, ho2, s1, s2, s3, s4, s5⟩
      obtain ⟨hj, rfl⟩ := getR hy
      have hj : j < ps.length := by omega
      obtain ⟨q, hq⟩ : ∃ q, ps[j]? = some q := ⟨_, List.getElem?_eq_getElem hj⟩
      have qB : B[j]? = some q.1 := by
        have : (B.take ps.length)[j]? = some q.1 := by rw [← hm, List.getElem?_map, hq]; rfl
        rw [List.getElem?_take_of_lt hj] at this
        exact this
      obtain ⟨c1, c2⟩ := hB q.1 (List.mem_of_getElem? qB)
      have aq := atM (e := prD) hq (k := 0 + (j : Int)) (by omega)
      walk_at "st"
      rw [List.map_map]
      refine lc_sel (enc := DV.d ∘ PyData.str) (fun v => decide (v ∈ q.1)) PyData.str (by rw [sizeLine_eq]; omega) trivial (fun v hv KT KF k1 k2 => ?_) (finD_of ?_)
      · show gN 8 (.d (.str v)) _ _ _ _
        walk_at "st"
        refine x_inTS (b2 v hv).1 (fun w hw => (c2 w hw).1) ?_
        walk_at "st"
        refine x_brD (fun e => ?_) (fun e => ?_)
        · walk_at "st"
          exact k1 (decide_eq_true e)
        · walk_at "st"
          exact k2 (decide_eq_false e)
      walk_at "st"
      rw [List.length_map, show (b.filter fun v => decide (v ∈ q.1)).length = sharedN b q.1 from rfl]
      have old : ∀ (m' : Int), most ≤ m' → (sharedN b q.1 : Int) ≤ m' → ∀ (i : Nat) (c : List Str), i < j + 1 → B[i]? = some c → (sharedN b c : Int) ≤ m' := fun m' h1 h2 i c hi hc => by
        rcases Nat.lt_succ_iff_lt_or_eq.mp hi with z | z
        · have := s5 i c z hc
          omega
        · subst z
          rw [qB] at hc
          cases hc
          exact h2
      refine x_brD (fun e => ?_) (fun e => ?_)
      · walk_at "st"
        intro g' hg'
        have d' : d ≠ g' := ne_of_mn hd2 hg'
        have r' : r ≠ g' := ne_of_mn hr2 hg'
        have g1 : M1 g' = none := by
          apply Classical.byContradiction
          intro z
          rw [ho2 g' z] at hg'
          exact z hg'
        walk_at "st"
        · rw [sizeLine_eq, List.length_nil]; decide
        walk_at "st"
        refine .of ⟨[(j : Int)], (sharedN b q.1 : Nat), g', _, _, rfl, by rw [mu_same, Int.zero_add]; rfl, d'.symm, r'.symm, g1, by walk_at "m", by walk_at "m", fun a h1 => ?_, ?_, fun z => (by omega), fun _ => ⟨nofun, by omega⟩, fun x hx => ?_, old _ (by omega) (Int.le_refl _)⟩
        · have ne : a ≠ g' := fun z => h1 (z ▸ g1)
          rw [mu_ne ne, mu_ne ne]
          exact ho2 a h1
        · show 1 ≤ j + 1; omega
        · cases List.mem_singleton.mp hx
          exact ⟨j, q.1, by omega, rfl, qB, rfl⟩
      · walk_at "st"
        refine x_brD (fun e2 => ?_) (fun e2 => ?_)
        · walk_at "st"
          · rw [sizeLine_eq, List.length_map]; omega
          walk_at "st"
          refine .of ⟨bs ++ [(j : Int)], most, g, _, _, rfl, by rw [mu_same, List.map_append, Int.zero_add]; rfl, gd, gr, hg0, by walk_at "m", by walk_at "m", fun a h1 => ?_, ?_, fun z => (by omega), fun _ => ⟨(by simp), ?_⟩, fun x hx => ?_, old _ (Int.le_refl _) (by omega)⟩
          · rw [mu_ne fun z : a = g => h1 (z ▸ hg0)]
            exact ho2 a h1
          · rw [List.length_append, List.length_singleton]; omega
          · omega
          · rcases List.mem_append.mp hx with z | z
            · obtain ⟨j', c, h1, h2, h3, h4⟩ := s4 x z
              exact ⟨j', c, by omega, h2, h3, h4⟩
            · cases List.mem_singleton.mp z
              exact ⟨j, q.1, by omega, rfl, qB, e2⟩
        · walk_at "st"
          refine .of ⟨bs, most, g, _, _, rfl, hg2, gd, gr, hg0, hd2, hr2, ho2, by omega, fun z => (by omega), fun _ => ?_, fun x hx => ?_, old _ (Int.le_refl _) (by omega)⟩
          · rcases Nat.eq_zero_or_pos j with z | z
            · obtain ⟨_, h2⟩ := s2 z
              omega
            · exact s3 z
          · obtain ⟨j', c, h1, h2, h3, h4⟩ := s4 x hx
            exact ⟨j', c, by omega, h2, h3, h4⟩
    rintro _ M2 ⟨bs, most, g, o6, o7, rfl, hg2, gd, gr, hg0, hd2, hr2, ho2, s1, s2, s3, s4, s5⟩
    rw [rangeD_len, show ((ps.length : Int)).toNat = ps.length by omega] at s1 s2 s3 s4 s5
    have bl2 : (bs.map PyData.int).length = bs.length := List.length_map _
    walk_at "st"
    rw [bl2]
    refine x_brD (fun e => ?_) (fun e => ?_)
    · have p0 : 0 < ps.length := by
        rcases Nat.eq_zero_or_pos ps.length with z | z
        · rw [(s2 z).1] at e; simp at e
        · exact z
      walk_at "st"
      rw [bl2]
      refine ⟨d, (bs.length : Int), st, rfl, hd2, hst, divOk_small (by omega) (by omega), fun u st2 hst2 u0 u1 => ?_⟩
      obtain ⟨w, hw⟩ : ∃ w, bs[u.toNat]? = some w := ⟨_, List.getElem?_eq_getElem (by omega)⟩
      have a2 : atI (bs.map PyData.int) u = some (.int w) := atM hw (by omega)
      obtain ⟨j, c, h1, h2, h3, h4⟩ := s4 w (List.mem_of_getElem? hw)
      have hr3 : mu M2 d (.ls st2) r = some (.ls (ps.map prD)) := by walk_at "m"
      walk_at "st"
      · rw [List.length_map, sizeLine_eq]; omega
      walk_at "st"
      refine .of ⟨ps ++ [(b, w)], st2, _, _, _, _, _, rfl, by walk_at "m", hst2, by rw [mu_same, List.map_append]; rfl, fun a n1 n2 n3 => ?_, by rw [List.length_append]; rfl, hung_snoc hm hb, hungP_snoc hH ⟨fun z => (by omega), fun _ => ⟨j, c, h1, h2, h3, fun i c' hi hc' => ?_⟩⟩⟩
      · rw [mu_ne n2, mu_ne n1, ho2 a (by rw [hoth a n1 n2 n3]; exact n3)]
        exact hoth a n1 n2 n3
      · have := s5 i c' hi hc'
        omega
    · have p0 : ps.length = 0 := by
        rcases Nat.eq_zero_or_pos ps.length with z | z
        · exact z
        · have := List.length_pos_iff.mpr (s3 z).1
          omega
      walk_at "st"
      · rw [List.length_map, sizeLine_eq]; omega
      walk_at "st"
      refine .of ⟨ps ++ [(b, -1)], st, _, _, _, _, _, rfl, by walk_at "m", hst, by rw [mu_same, List.map_append]; rfl, fun a n1 n2 n3 => ?_, by rw [List.length_append]; rfl, hung_snoc hm hb, hungP_snoc hH ⟨fun _ => rfl, fun z => (by omega)⟩⟩
      rw [mu_ne n2, ho2 a (by rw [hoth a n1 n2 n3]; exact n3)]
      exact hoth a n1 n2 n3
  · rintro _ M1 ⟨ps, st, o3, o4, o5, o6, o7, rfl, hd, hst, hr1, hoth, hl, hm, hH⟩
    rw [List.length_map, List.length_map] at hl hm
    rw [List.take_length] at hm
    walk_at "st"
    refine .of (M' := mu M d (.ls st)) (fun a o e => ?_) (h ps st hst ⟨hm, hH⟩)
    by_cases ha : a = d
    · subst ha
      rw [mu_same] at e; cases e; exact hd
    · rw [mu_ne ha] at e
      rw [hoth a ha (fun z => by subst z; rw [hr] at e; cases e) (by rw [e]; exact nofun)]
      exact e
--%%SPLIT
/-! ### eliminations -/
abbrev Nr := Str → Option (List Str)
def extN (N : Nr) (x : Str) (S : List Str) : Nr := fun w => if w = x then (N w).map fun l => l ++ S.filter fun o => !decide (o = x) && !decide (o ∈ l) else N w
def Dom (vs : List Str) (N : Nr) : Prop := ∀ w ∈ vs, ∃ l, N w = some l ∧ l.Nodup ∧ w ∉ l ∧ ∀ u ∈ l, u ∈ vs
def AdjN (N : Nr) (x y : Str) : Prop := ∃ l, N x = some l ∧ y ∈ l
theorem extN_mono {N : Nr} {z : Str} {S : List Str} {x y : Str} (h : AdjN N x y) : AdjN (extN N z S) x y := by
  obtain ⟨l, e, hy⟩ := h
  unfold AdjN extN
  by_cases xz : x = z
  · rw [if_pos xz, e]
    exact ⟨_, rfl, List.mem_append_left _ hy⟩
  · rw [if_neg xz]
    exact ⟨l, e, hy⟩
theorem extN_new {vs : List Str} {N : Nr} {x y : Str} {S : List Str} (d : Dom vs N) (hx : x ∈ vs) (hy : y ∈ S) (ne : y ≠ x) : AdjN (extN N x S) x y := by
  obtain ⟨l, e, _⟩ := d x hx
  unfold AdjN extN
  rw [if_pos rfl, e]
  refine ⟨_, rfl, ?_⟩
  by_cases z : y ∈ l
  · exact List.mem_append_left _ z
  · exact List.mem_append_right _ (List.mem_filter.mpr ⟨hy, by rw [decide_eq_false ne, decide_eq_false z]; rfl⟩)
theorem extN_dom {vs : List Str} {N : Nr} {x : Str} {S : List Str} (d : Dom vs N) (nd : S.Nodup) (hS : ∀ y ∈ S, y ∈ vs) : Dom vs (extN N x S) := fun w hw => by
  obtain ⟨l, e, h1, h2, h3⟩ := d w hw
  unfold extN
  by_cases wx : w = x
  · rw [if_pos wx, e]
    refine ⟨_, rfl, List.nodup_append.mpr ⟨h1, nd.filter _, fun a ha b hb z => ?_⟩, fun z => ?_, fun u hu => ?_⟩
    · subst z
      have := (List.mem_filter.mp hb).2
      rw [decide_eq_true ha] at this
      simp at this
    · rcases List.mem_append.mp z with z | z
      · exact h2 z
      · have := (List.mem_filter.mp z).2
        rw [decide_eq_true wx] at this
        simp at this
    · rcases List.mem_append.mp hu with z | z
      · exact h3 u z
      · exact hS u (List.mem_filter.mp z).1
  · rw [if_neg wx]
    exact ⟨l, e, h1, h2, h3⟩
structure Elim (vs : List Str) (as : List Atom) (i : Nat) (N : Nr) (BL : List (List Str)) : Prop where
  dom : Dom vs N
  adj : ∀ a ∈ as, ∀ x ∈ a.2, ∀ y ∈ a.2, x ≠ y → AdjN N x y
  ln : BL.length = i
  ne : ∀ (k : Nat) (b : List Str), BL[k]? = some b → b ≠ [] ∧ ascW b = true ∧ b.Nodup
  own : ∀ (k : Nat) (b : List Str) (w : Str), BL[k]? = some b → vs[k]? = some w → w ∈ b
  low : ∀ (k : Nat) (b : List Str) (u : Str), BL[k]? = some b → u ∈ b → ∃ j, k ≤ j ∧ vs[j]? = some u
  fil : ∀ (k : Nat) (b : List Str) (w : Str), BL[k]? = some b → vs[k]? = some w → ∀ x ∈ b, ∀ y ∈ b, x ≠ w → y ≠ w → x ≠ y → AdjN N x y
  nst : ∀ (k j : Nat) (b c : List Str) (w : Str), BL[k]? = some b → BL[j]? = some c → k < j → vs[j]? = some w → w ∈ b → ∀ u ∈ b, (∃ m, j ≤ m ∧ vs[m]? = some u) → u ∈ c
  cov : ∀ a ∈ as, ∀ (k : Nat) (b : List Str) (w : Str), BL[k]? = some b → vs[k]? = some w → w ∈ a.2 → (∀ u ∈ a.2, ∃ m, k ≤ m ∧ vs[m]? = some u) → ∀ u ∈ a.2, u ∈ b
theorem at_snoc {α : Type} {l : List α} {a : α} {k : Nat} {x : α} (h : (l ++ [a])[k]? = some x) : (k < l.length ∧ l[k]? = some x) ∨ (k = l.length ∧ x = a) := by
  rcases Nat.lt_trichotomy k l.length with g | g | g
  · rw [List.getElem?_append_left g] at h
    exact .inl ⟨g, h⟩
  · subst g
    rw [List.getElem?_append_right (Nat.le_refl _), Nat.sub_self] at h
    cases h
    exact .inr ⟨rfl, rfl⟩
  · rw [List.getElem?_append_right (by omega), List.getElem?_eq_none (by simp; omega)] at h
    cases h
theorem elim_step {vs : List Str} {as : List Atom} {i : Nat} {N N' : Nr} {BL : List (List Str)} {v : Str} {l b : List Str} (nd : vs.Nodup) (E : Elim vs as i N BL) (hv : vs[i]? = some v) (hl : N v = some l)
    (hb : b.Perm (v :: l.filter fun u => decide (u ∈ vs.drop i))) (ha : ascW b = true) (d' : Dom vs N') (mono : ∀ x y, AdjN N x y → AdjN N' x y) (fill : ∀ x ∈ b, ∀ y ∈ b, x ≠ v → y ≠ v → x ≠ y → AdjN N' x y) : Elim vs as (i + 1) N' (BL ++ [b]) := by
  have vm := List.mem_of_getElem? hv
  obtain ⟨l', e', l1, l2, l3⟩ := E.dom v vm
  rw [hl] at e'
  cases e'
  have mb : ∀ u, u ∈ b ↔ u = v ∨ (u ∈ l ∧ u ∈ vs.drop i) := fun u => by
    rw [hb.mem_iff, List.mem_cons, List.mem_filter, decide_eq_true_eq]
  have dr : ∀ u, u ∈ vs.drop i ↔ ∃ m, i ≤ m ∧ vs[m]? = some u := fun u => by
    constructor
    · intro h
      obtain ⟨k, hk⟩ := List.mem_iff_getElem?.mp h
      rw [List.getElem?_drop] at hk
      exact ⟨i + k, by omega, hk⟩
    · rintro ⟨m, hm, e⟩
      refine List.mem_iff_getElem?.mpr ⟨m - i, ?_⟩
      rw [List.getElem?_drop, show i + (m - i) = m by omega]
      exact e
  have il := E.ln
  refine ⟨d', fun a ha x hx y hy ne => mono x y (E.adj a ha x hx y hy ne), by rw [List.length_append, il]; rfl, fun k c hc => ?_, fun k c w hc hw => ?_, fun k c u hc hu => ?_, fun k c w hc hw => ?_, fun k j c c2 w hc hc2 kj hw wc u hu hm => ?_, fun a haa k c w hc hw wa hall u hu => ?_⟩
  · rcases at_snoc hc with ⟨_, h⟩ | ⟨_, rfl⟩
    · exact E.ne k c h
    · refine ⟨fun z => ?_, ha, hb.nodup_iff.mpr (List.nodup_cons.mpr ⟨fun z => l2 (List.mem_filter.mp z).1, l1.filter _⟩)⟩
      have := (mb v).mpr (.inl rfl)
      rw [z] at this
      cases this
  · rcases at_snoc hc with ⟨_, h⟩ | ⟨rfl, rfl⟩
    · exact E.own k c w h hw
    · rw [il, hv] at hw
      cases hw
      exact (mb v).mpr (.inl rfl)
  · rcases at_snoc hc with ⟨_, h⟩ | ⟨rfl, rfl⟩
    · exact E.low k c u h hu
    · rw [il]
      rcases (mb u).mp hu with rfl | ⟨_, z⟩
      · exact ⟨i, Nat.le_refl _, hv⟩
      · exact (dr u).mp z
  · rcases at_snoc hc with ⟨_, h⟩ | ⟨rfl, rfl⟩
    · intro x hx y hy n1 n2 n3
      exact mono x y (E.fil k c w h hw x hx y hy n1 n2 n3)
    · rw [il, hv] at hw
      cases hw
      exact fill
  · rcases at_snoc hc with ⟨kl, h⟩ | ⟨rfl, rfl⟩
    · rcases at_snoc hc2 with ⟨_, h2⟩ | ⟨rfl, rfl⟩
      · exact E.nst k j c c2 w h h2 kj hw wc u hu hm
      · rw [il] at hw hm
        rw [hv] at hw
        cases hw
        by_cases uv : u = v
        · exact (mb u).mpr (.inl uv)
        obtain ⟨vk, hvk⟩ : ∃ vk, vs[k]? = some vk := ⟨_, List.getElem?_eq_getElem (by have := (List.getElem?_eq_some_iff.mp hv).1; omega)⟩
        have nv : v ≠ vk := fun z => by
          subst z
          have := nd_at nd hv hvk
          omega
        have nu : u ≠ vk := fun z => by
          subst z
          obtain ⟨m, hm1, hm2⟩ := hm
          have := nd_at nd hm2 hvk
          omega
        obtain ⟨l', e', q⟩ := E.fil k c vk h hvk v wc u hu nv nu (fun z => uv z.symm)
        rw [hl] at e'
        cases e'
        exact (mb u).mpr (.inr ⟨q, (dr u).mpr hm⟩)
    · rcases at_snoc hc2 with ⟨jl, _⟩ | ⟨rfl, _⟩
      · omega
      · omega
  · rcases at_snoc hc with ⟨_, h⟩ | ⟨rfl, rfl⟩
    · exact E.cov a haa k c w h hw wa hall u hu
    · rw [il] at hw hall
      rw [hv] at hw
      cases hw
      by_cases uv : u = v
      · exact (mb u).mpr (.inl uv)
      obtain ⟨l', e', q⟩ := E.adj a haa v wa u hu (fun z => uv z.symm)
      rw [hl] at e'
      cases e'
      exact (mb u).mpr (.inr ⟨q, (dr u).mpr (hall u hu)⟩)
theorem least_ex {p : Nat → Prop} {n : Nat} (h : p n) : ∃ k, k ≤ n ∧ p k ∧ ∀ m, m < k → ¬ p m := by
  induction n using Nat.strongRecOn with
  | ind n ih =>
    by_cases z : ∃ m, m < n ∧ p m
    · obtain ⟨m, hm, pm⟩ := z
      obtain ⟨k, h1, h2, h3⟩ := ih m hm pm
      exact ⟨k, by omega, h2, h3⟩
    · exact ⟨n, Nat.le_refl _, h, fun m hm pm => z ⟨m, hm, pm⟩⟩
theorem rev_at {α : Type} {l : List α} {k : Nat} (h : k < l.length) : l.reverse[k]? = l[l.length - 1 - k]? := List.getElem?_reverse h
theorem elim_bags {vs : List Str} {as : List Atom} {N : Nr} {BL : List (List Str)} (nd : vs.Nodup) (vn : vs ≠ []) (sub : ∀ a ∈ as, ∀ u ∈ a.2, u ∈ vs) (E : Elim vs as vs.length N BL) : BagsOk vs as BL.reverse := by
  have il := E.ln
  have v0 : 0 < vs.length := List.length_pos_iff.mpr vn
  have atB : ∀ {k : Nat} {b : List Str}, BL.reverse[k]? = some b → k < vs.length ∧ BL[vs.length - 1 - k]? = some b := fun {k b} h => by
    have kl := (List.getElem?_eq_some_iff.mp h).1
    rw [List.length_reverse] at kl
    rw [rev_at kl, il] at h
    exact ⟨by omega, h⟩
  have toB : ∀ {k : Nat} {b : List Str}, BL[k]? = some b → BL.reverse[vs.length - 1 - k]? = some b := fun {k b} h => by
    have kl := (List.getElem?_eq_some_iff.mp h).1
    rw [rev_at (by omega), il, show vs.length - 1 - (vs.length - 1 - k) = k by omega]
    exact h
  have toV : ∀ {k : Nat} {w : Str}, vs[k]? = some w → vs.reverse[vs.length - 1 - k]? = some w := fun {k w} h => by
    have kl := (List.getElem?_eq_some_iff.mp h).1
    rw [rev_at (by omega), show vs.length - 1 - (vs.length - 1 - k) = k by omega]
    exact h
  refine ⟨by rw [List.length_reverse, il], fun k b h => E.ne _ b (atB h).2, fun k b w h hw => ?_, fun k b u h hu => ?_, fun k b h k0 => ?_, fun a ha => ?_⟩
  · obtain ⟨kl, hb⟩ := atB h
    rw [rev_at kl] at hw
    exact E.own _ b w hb hw
  · obtain ⟨kl, hb⟩ := atB h
    obtain ⟨j, kj, e⟩ := E.low _ b u hb hu
    have jl := (List.getElem?_eq_some_iff.mp e).1
    exact ⟨vs.length - 1 - j, by omega, toV e⟩
  · obtain ⟨kl, hb⟩ := atB h
    obtain ⟨w, hw⟩ : ∃ w, vs[vs.length - 1 - k]? = some w := ⟨_, List.getElem?_eq_getElem (by omega)⟩
    have wk : vs.reverse[k]? = some w := by rw [rev_at kl]; exact hw
    rw [wk]
    by_cases z : ∃ u ∈ b, u ≠ w
    · obtain ⟨u, hu, uw⟩ := z
      obtain ⟨j, kj, e⟩ := E.low _ b u hb hu
      have jk : vs.length - 1 - k < j := by
        rcases Nat.lt_or_ge (vs.length - 1 - k) j with g | g
        · exact g
        · have : j = vs.length - 1 - k := by omega
          subst this
          rw [hw] at e
          cases e
          exact absurd rfl uw
      obtain ⟨j0, h1, ⟨h2, x, h3, h4⟩, h5⟩ := least_ex (p := fun j => vs.length - 1 - k < j ∧ ∃ x, vs[j]? = some x ∧ x ∈ b) (n := j) ⟨jk, u, e, hu⟩
      have j0l := (List.getElem?_eq_some_iff.mp h3).1
      obtain ⟨c, hc⟩ : ∃ c, BL[j0]? = some c := ⟨_, List.getElem?_eq_getElem (by omega)⟩
      refine ⟨vs.length - 1 - j0, c, by omega, toB hc, fun y hy ne => ?_⟩
      have yw : y ≠ w := fun z => ne (by rw [z])
      obtain ⟨m, km, em⟩ := E.low _ b y hb hy
      refine E.nst _ j0 b c x hb hc h2 h3 h4 y hy ⟨m, ?_, em⟩
      rcases Nat.lt_or_ge m j0 with g | g
      · have mk : vs.length - 1 - k < m := by
          rcases Nat.lt_or_ge (vs.length - 1 - k) m with g | g
          · exact g
          · have : m = vs.length - 1 - k := by omega
            subst this
            rw [hw] at em
            cases em
            exact absurd rfl yw
        exact absurd ⟨mk, y, em, hy⟩ (h5 m g)
      · exact g
    · obtain ⟨c, hc⟩ : ∃ c, BL.reverse[k - 1]? = some c := ⟨_, List.getElem?_eq_getElem (by rw [List.length_reverse]; omega)⟩
      exact ⟨k - 1, c, by omega, hc, fun y hy ne => absurd ⟨y, hy, fun q => ne (by rw [q])⟩ z⟩
  · cases q : a.2 with
    | nil =>
      obtain ⟨b, hb⟩ : ∃ b, BL[0]? = some b := ⟨_, List.getElem?_eq_getElem (by omega)⟩
      exact ⟨b, List.mem_reverse.mpr (List.mem_of_getElem? hb), fun v hv => (by cases hv)⟩
    | cons x r =>
      rw [← q]
      have hx : x ∈ a.2 := by rw [q]; exact List.mem_cons_self ..
      obtain ⟨k1, hk1⟩ := List.mem_iff_getElem?.mp (sub a ha x hx)
      obtain ⟨k, h1, ⟨w, h2, h3⟩, h4⟩ := least_ex (p := fun k => ∃ w, vs[k]? = some w ∧ w ∈ a.2) (n := k1) ⟨x, hk1, hx⟩
      have kl := (List.getElem?_eq_some_iff.mp h2).1
      obtain ⟨b, hb⟩ : ∃ b, BL[k]? = some b := ⟨_, List.getElem?_eq_getElem (by omega)⟩
      refine ⟨b, List.mem_reverse.mpr (List.mem_of_getElem? hb), E.cov a ha k b w hb h2 h3 fun u hu => ?_⟩
      obtain ⟨m, hm⟩ := List.mem_iff_getElem?.mp (sub a ha u hu)
      refine ⟨m, ?_, hm⟩
      rcases Nat.lt_or_ge m k with g | g
      · exact absurd ⟨u, hm, hu⟩ (h4 m g)
      · exact g
--%%SPLIT
/-! ### _law_bags -/
def sortT (ws : List Str) : List Str := ws.mergeSort fun a b => decide (a.cps.toList ≤ b.cps.toList)
theorem sortT_perm (ws : List Str) : (sortT ws).Perm ws := List.mergeSort_perm _ _
theorem sortL_strs (ws : List Str) : sortL (ws.map PyData.str) = (sortT ws).map PyData.str := by
  rw [sortL_map]
  unfold sortT
  congr 2
  funext a b
  rw [PySem.W.dataLe_eq]
  show (!PySem.W.dataLt (.str b) (.str a)) = _
  rw [PySem.W.dataLt_str, ← decide_not]
  exact decide_eq_decide.mpr List.not_lt
theorem sortOk_str (ws : List Str) : SortOk (ws.map PyData.str) := ⟨alikeS ws, PySem.W.Sortable.others fun _ => ⟨nofun, nofun⟩, fun d hd => (depS ws d hd).2⟩
theorem str_inj {a b : Str} (h : a.cps.toList = b.cps.toList) : a = b := by
  cases a; cases b
  congr 1
  exact Array.toList_inj.mp h
theorem asc_sortT {ws : List Str} (hn : ws.Nodup) : ascW (sortT ws) = true := by
  have nd : (sortT ws).Nodup := (sortT_perm ws).nodup_iff.mpr hn
  have le : (sortT ws).Pairwise (fun a b => a.cps.toList ≤ b.cps.toList) := by
    have := List.pairwise_mergeSort (le := fun a b : Str => decide (a.cps.toList ≤ b.cps.toList)) (fun a b c h1 h2 => by
      have h1 := of_decide_eq_true h1
      have h2 := of_decide_eq_true h2
      exact decide_eq_true (List.le_trans h1 h2)) (fun a b => by
      rcases List.le_total a.cps.toList b.cps.toList with h | h
      · simp [h]
      · simp [h]) ws
    exact this.imp fun h => of_decide_eq_true h
  have lt : (sortT ws).Pairwise (fun a b => a.cps.toList < b.cps.toList) := by
    refine (List.Pairwise.and le nd).imp fun {a b} h => ?_
    apply Classical.byContradiction
    intro z
    exact h.2 (str_inj (List.le_antisymm h.1 (List.not_lt.mp z)))
  generalize sortT ws = S at lt
  unfold ascW ascD
  rw [List.all_eq_true]
  intro k hk
  have hk := List.mem_range.mp hk
  rw [List.length_map] at hk
  have e1 : (S.map PyData.str).getD k .none = .str S[k] := by
    rw [List.getD_eq_getElem?_getD, List.getElem?_map, List.getElem?_eq_getElem (by omega)]; rfl
  have e2 : (S.map PyData.str).getD (k + 1) .none = .str S[k + 1] := by
    rw [List.getD_eq_getElem?_getD, List.getElem?_map, List.getElem?_eq_getElem (by omega)]; rfl
  rw [e1, e2, PySem.W.dataLt_str]
  exact decide_eq_true (List.pairwise_iff_getElem.mp lt k (k + 1) (by omega) (by omega) (by omega))
def KN (kvs : List (Key × DV)) (N : Nr) : Prop := ∀ w, valD kvs (.inr w) = (N w).map fun l => DV.d (lsS l)
theorem putD_same {kvs : List (Key × DV)} {k : Key} {x v : DV} (h : valD kvs k = some x) : (putD kvs k v).length = kvs.length := by
  unfold putD
  rw [if_pos, List.length_map]
  unfold valD at h
  obtain ⟨p, hp, _⟩ := Option.map_eq_some_iff.mp h
  exact List.any_eq_true.mpr ⟨p, List.mem_of_find?_eq_some hp, by simpa using List.find?_some hp⟩
theorem kn_ext {kvs : List (Key × DV)} {N : Nr} {x : Str} {l S : List Str} {d : DV} (h : KN kvs N) (e : N x = some l) (hd : d = .d (lsS (l ++ S.filter fun o => !decide (o = x) && !decide (o ∈ l)))) : KN (putD kvs (.inr x) d) (extN N x S) := fun w => by
  subst hd
  rw [valD_put]
  unfold extN
  by_cases wx : w = x
  · subst wx
    rw [if_pos rfl, if_pos rfl, e]
    rfl
  · rw [if_neg (fun z => wx (Sum.inr.inj z)), if_neg wx]
    exact h w
theorem len_law_bags : ∀ xs M P PX, sp_law_bags xs M P PX → xs.length = p_law_bags.length := by rintro _ M P PX ⟨_, _, rfl, _⟩; rfl
theorem r_law_bags : ∀ xs M Q PX, sp_law_bags xs M Q PX → t_law_bags (endD Q PX) (startD n_law_bags xs) M := by
  rintro _ M Q PX ⟨p, vs, rfl, hp, vp, vn, vl, h⟩
  have nd : vs.Nodup := vp.nodup_iff.mpr (nodup_vars _)
  have vo : ∀ w ∈ vs, StOk w := fun w hw => hp.vs w (vp.mem_iff.mp hw)
  have sub : ∀ a ∈ p.atoms, ∀ u ∈ a.2, u ∈ vs := fun a ha u hu => vp.mem_iff.mpr (mem_vars.mpr ⟨a, ha, hu⟩)
  have al := hp.al
  have ld : ∀ {N : Nr} {x : Str} {l : List Str}, Dom vs N → x ∈ vs → N x = some l → l.Nodup ∧ x ∉ l ∧ (∀ u ∈ l, u ∈ vs) ∧ l.length ≤ 8 := fun {N x l} d hx e => by
    obtain ⟨l', e', h1, h2, h3⟩ := d x hx
    rw [e] at e'
    cases e'
    exact ⟨h1, h2, h3, by have := nodup_le h1 h3; omega⟩
  unfold t_law_bags
  walk_at "st"
  intro c hc
  walk_at "st"
  refine ⟨fun i ρ M1 => ∃ kvs o3, M1 c = some (.dk kvs) ∧ kvs.length ≤ i ∧ KN kvs (fun w => if w ∈ vs.take i then some [] else none) ∧ (∀ a, a ≠ c → M1 a = M a) ∧ ρ = [some (.d p.d), some (.d (tpS vs)), some (.r c), o3, none, none, none, none, none, none, none], .of ⟨[], none, mu_same, Nat.le_refl _, fun _ => rfl, fun a h => mu_ne h, rfl⟩, fun _ _ _ _ _ => trivial, ?_, ?_⟩
  · rintro i _ M1 x hx ⟨kvs, o3, hM, hk, hv, ho, rfl⟩
    obtain ⟨v, hvi, rfl⟩ := getM hx
    have il := (List.getElem?_eq_some_iff.mp hvi).1
    walk_at "st"
    refine x_putDK rfl hM (by rw [sizeLine_eq]; omega) ?_
    refine .of ⟨_, _, mu_same, ?_, fun w => ?_, fun b hb => by rw [mu_ne hb]; exact ho b hb, rfl⟩
    · have := len_putD kvs (.inr v) (.d (.list []))
      omega
    · rw [valD_put, take_succ_of hvi]
      by_cases wv : w = v
      · subst wv
        rw [if_pos rfl]
        show _ = Option.map _ (if w ∈ vs.take i ++ [w] then some [] else none)
        rw [if_pos (List.mem_append_right _ (List.mem_singleton.mpr rfl))]
        rfl
      · rw [if_neg (fun z => wv (Sum.inr.inj z)), hv w]
        show Option.map _ (if w ∈ vs.take i then some [] else none) = Option.map _ (if w ∈ vs.take i ++ [v] then some [] else none)
        by_cases z : w ∈ vs.take i
        · rw [if_pos z, if_pos (List.mem_append_left _ z)]
        · rw [if_neg z, if_neg fun q => (List.mem_append.mp q).elim z fun q => wv (List.mem_singleton.mp q)]
  rintro _ M1 ⟨kvs, o3, hM, hk, hv, ho, rfl⟩
  rw [List.length_map, List.length_map] at hk
  rw [List.length_map, List.length_map, List.take_length] at hv
  have d0 : Dom vs (fun w => if w ∈ vs then some [] else none) := fun w hw => ⟨[], if_pos hw, List.nodup_nil, nofun, fun u hu => (by cases hu)⟩
  walk_at "st"
  refine ⟨fun i ρ M1 => ∃ kvs N o4 o5 o6, M1 c = some (.dk kvs) ∧ kvs.length ≤ 8 ∧ KN kvs N ∧ Dom vs N ∧ (∀ a ∈ p.atoms.take i, ∀ x ∈ a.2, ∀ y ∈ a.2, y ≠ x → AdjN N x y) ∧ (∀ a, a ≠ c → M1 a = M a) ∧ ρ = [some (.d p.d), some (.d (tpS vs)), some (.r c), o3, o4, o5, o6, none, none, none, none], .of ⟨kvs, _, none, none, none, hM, by omega, hv, d0, fun a ha => (by cases ha), ho, rfl⟩, fun _ _ _ _ _ => trivial, ?_, ?_⟩
  · rintro i _ M1 x hx ⟨kvs, N, o4, o5, o6, hM, hk, hv, hd, hA, ho, rfl⟩
    obtain ⟨a, hai, rfl⟩ := getM hx
    have am := List.mem_of_getElem? hai
    obtain ⟨a1, a2, a3⟩ := hp.a a am
    walk_at "st"
    refine ⟨fun j ρ M2 => ∃ kvs N o6, M2 c = some (.dk kvs) ∧ kvs.length ≤ 8 ∧ KN kvs N ∧ Dom vs N ∧ (∀ a ∈ p.atoms.take i, ∀ x ∈ a.2, ∀ y ∈ a.2, y ≠ x → AdjN N x y) ∧ (∀ x ∈ a.2.take j, ∀ y ∈ a.2, y ≠ x → AdjN N x y) ∧ (∀ a, a ≠ c → M2 a = M a) ∧ ρ = [some (.d p.d), some (.d (tpS vs)), some (.r c), o3, some (.d (.str a.1)), some (.d (tpS a.2)), o6, none, none, none, none], .of ⟨kvs, N, o6, hM, hk, hv, hd, hA, fun x hx => (by cases hx), ho, rfl⟩, fun _ _ _ _ _ => trivial, ?_, ?_⟩
    · rintro j _ M2 y hy ⟨kvs, N, o6, hM, hk, hv, hd, hA, hB, ho, rfl⟩
      obtain ⟨x, hxj, rfl⟩ := getM hy
      have xm := List.mem_of_getElem? hxj
      have xv := sub a am x xm
      obtain ⟨l, hl, _⟩ := hd x xv
      obtain ⟨l1, l2, l3, l4⟩ := ld hd xv hl
      have vx : valD kvs (.inr x) = some (.d (lsS l)) := by rw [hv, hl]; rfl
      walk_at "st"
      refine x_setT (by omega) fun ks kd km => ?_
      obtain ⟨S, hS⟩ : ∃ S, S = sortK PyData.str ks := ⟨_, rfl⟩
      have sp : S.Perm ks := hS ▸ sortK_perm ks
      have sm : ∀ y, y ∈ S ↔ y ∈ a.2 := fun y => sp.mem_iff.trans (km y)
      have sn : S.Nodup := sp.nodup_iff.mpr kd
      have sl : S.length ≤ 8 := by have := nodup_le sn fun y hy => sub a am y ((sm y).mp hy); omega
      rw [← hS]
      walk_at "st"
      rw [List.map_map]
      refine lc_sel (enc := DV.d ∘ PyData.str) (fun o => !decide (o = x) && !decide (o ∈ l)) PyData.str (by rw [sizeLine_eq]; omega) trivial (fun o hoS KT KF k1 k2 => ?_) (finD_of ?_)
      · have oo := a3 o ((sm o).mp hoS)
        show gN 10 (.d (.str o)) _ _ _ _
        walk_at "st"
        refine x_neStr oo.1 (a3 x xm).1 ?_
        walk_at "st"
        refine x_brD (fun e => ?_) (fun e => ?_)
        · walk_at "st"
          refine x_ninLS oo.1 (fun w hw => (vo w (l3 w hw)).1) ?_
          walk_at "st"
          refine x_brD (fun e2 => ?_) (fun e2 => ?_)
          · walk_at "st"
            exact k2 (by rw [decide_eq_true e2]; simp)
          · walk_at "st"
            exact k1 (by rw [decide_eq_false e, decide_eq_false e2]; rfl)
        · walk_at "st"
          exact k2 (by rw [decide_eq_true (Classical.not_not.mp e)]; rfl)
      have fl := List.length_filter_le (fun o => !decide (o = x) && !decide (o ∈ l)) S
      walk_at "st"
      refine x_addL (by rw [sizeLine_eq, List.length_map, List.length_map]; omega) ?_
      walk_at "st"
      refine x_putDK rfl hM (by rw [sizeLine_eq]; omega) ?_
      refine .of ⟨_, extN N x S, _, mu_same, by rw [putD_same vx]; exact hk, kn_ext hv hl (by show _ = DV.d (PyData.list (List.map PyData.str (_ ++ _))); rw [List.map_append]), extN_dom hd sn (fun y hy => sub a am y ((sm y).mp hy)), fun b hb x' hx' y' hy' ne => extN_mono (hA b hb x' hx' y' hy' ne), fun x' hx' y' hy' ne => ?_, fun b hb => by rw [mu_ne hb]; exact ho b hb, rfl⟩
      rw [take_succ_of hxj] at hx'
      rcases List.mem_append.mp hx' with z | z
      · exact extN_mono (hB x' z y' hy' ne)
      · cases List.mem_singleton.mp z
        exact extN_new hd xv ((sm y').mpr hy') ne
    rintro _ M2 ⟨kvs, N, o6, hM, hk, hv, hd, hA, hB, ho, rfl⟩
    rw [List.length_map, List.length_map, List.take_length] at hB
    refine .of ⟨kvs, N, _, _, _, hM, hk, hv, hd, fun b hb => ?_, ho, rfl⟩
    rw [take_succ_of hai] at hb
    rcases List.mem_append.mp hb with z | z
    · exact hA b z
    · cases List.mem_singleton.mp z
      exact hB
  rintro _ M1 ⟨kvs, N, o4, o5, o6, hM, hk, hv, hd, hA, ho, rfl⟩
  rw [List.length_map, List.length_map, List.take_length] at hA
  walk_at "st"
  intro b hb
  have cb : c ≠ b := ne_of_mn hM hb
  have hb0 : M b = none := by rw [← ho b cb.symm]; exact hb
  walk_at "st"
  refine ⟨fun i ρ M2 => ∃ kvs N BL o3 o6 o9, M2 c = some (.dk kvs) ∧ M2 b = some (.ls (BL.map tpS)) ∧ kvs.length ≤ 8 ∧ KN kvs N ∧ Elim vs p.atoms i N BL ∧ (∀ a, a ≠ c → a ≠ b → M2 a = M a) ∧ ρ = [some (.d p.d), some (.d (tpS vs)), some (.r c), o3, o4, o5, o6, some (.r b), some (.d (lsS (vs.drop i))), o9, none],
    .of ⟨kvs, N, [], o3, o6, none, by walk_at "m", mu_same, hk, hv, ⟨hd, fun a ha x hx y hy ne => hA a ha x hx y hy fun z => ne z.symm, rfl, fun k b h => (by simp at h), fun k b w h => (by simp at h), fun k b u h => (by simp at h), fun k b w h => (by simp at h), fun k j b c w h => (by simp at h), fun a ha k b w h => (by simp at h)⟩, fun a h1 h2 => (by rw [mu_ne h2]; exact ho a h1), rfl⟩, fun _ _ _ _ _ => trivial, ?_, ?_⟩
  · rintro i _ M2 x hx ⟨kvs, N, BL, o3, o6, o9, hM, hb2, hk, hv, hE, ho, rfl⟩
    obtain ⟨v, hvi, rfl⟩ := getM hx
    have il := (List.getElem?_eq_some_iff.mp hvi).1
    have vm := List.mem_of_getElem? hvi
    obtain ⟨l, hl, _⟩ := hE.dom v vm
    obtain ⟨l1, l2, l3, l4⟩ := ld hE.dom vm hl
    have vx : valD kvs (.inr v) = some (.d (lsS l)) := by rw [hv, hl]; rfl
    have dv : ∀ w ∈ vs.drop i, StOk w := fun w hw => vo w (List.mem_of_mem_drop hw)
    walk_at "st"
    rw [List.map_map]
    refine lc_sel (enc := DV.d ∘ PyData.str) (fun u => decide (u ∈ vs.drop i)) PyData.str (by rw [sizeLine_eq]; omega) trivial (fun o hol KT KF k1 k2 => ?_) (finD_of ?_)
    · show gN 10 (.d (.str o)) _ _ _ _
      walk_at "st"
      refine x_inLS (vo o (l3 o hol)).1 (fun w hw => (dv w hw).1) ?_
      walk_at "st"
      refine x_brD (fun e => ?_) (fun e => ?_)
      · walk_at "st"
        exact k1 (decide_eq_true e)
      · walk_at "st"
        exact k2 (decide_eq_false e)
    obtain ⟨ar, har⟩ : ∃ ar, ar = l.filter fun u => decide (u ∈ vs.drop i) := ⟨_, rfl⟩
    have arn : ar.Nodup := har ▸ l1.filter _
    have arl : ∀ u ∈ ar, u ∈ l := fun u hu => by rw [har] at hu; exact (List.mem_filter.mp hu).1
    have ars : ar.length ≤ 8 := by have := nodup_le arn arl; omega
    have bn : (v :: ar).Nodup := List.nodup_cons.mpr ⟨fun z => l2 (arl v z), arn⟩
    rw [← har]
    walk_at "st"
    refine x_addL (by rw [sizeLine_eq, List.length_map]; simp; omega) ?_
    walk_at "st"
    have ec : ([PyData.str v] ++ ar.map PyData.str) = (v :: ar).map PyData.str := rfl
    rw [ec]
    refine ⟨sortOk_str _, ?_⟩
    rw [sortL_strs]
    have bml : BL.length ≤ 8 := by have := hE.ln; omega
    walk_at "st"
    · rw [List.length_map, sizeLine_eq]; omega
    walk_at "st"
    rw [List.map_map]
    refine lc_sel (enc := DV.d ∘ PyData.str) (fun u => !decide (u = v)) PyData.str (by rw [sizeLine_eq, List.length_drop]; omega) trivial (fun o hol KT KF k1 k2 => ?_) (finD_of ?_)
    · show gN 10 (.d (.str o)) _ _ _ _
      walk_at "st"
      refine x_neStr (dv o hol).1 (vo v vm).1 ?_
      walk_at "st"
      refine x_brD (fun e => ?_) (fun e => ?_)
      · walk_at "st"
        exact k1 (by rw [decide_eq_false e]; rfl)
      · walk_at "st"
        exact k2 (by rw [decide_eq_true (Classical.not_not.mp e)]; rfl)
    have ed : (vs.drop i).filter (fun u => !decide (u = v)) = vs.drop (i + 1) := by
      have e1 : vs.drop i = v :: vs.drop (i + 1) := by
        obtain ⟨hi, e⟩ := List.getElem?_eq_some_iff.mp hvi
        rw [List.drop_eq_getElem_cons hi, e]
      have n1 : (v :: vs.drop (i + 1)).Nodup := by rw [← e1]; exact nd.sublist (List.drop_sublist _ _)
      rw [e1, List.filter_cons, decide_eq_true rfl]
      show (vs.drop (i + 1)).filter _ = _
      exact List.filter_eq_self.mpr fun u hu => by
        rw [decide_eq_false (fun z : u = v => (List.nodup_cons.mp n1).1 (z ▸ hu))]; rfl
    rw [ed]
    have hM3 : mu M2 b (.ls (BL.map tpS ++ [tpS (sortT (v :: ar))])) c = some (.dk kvs) := by walk_at "m"
    walk_at "st"
    refine ⟨fun j ρ M3 => ∃ kvs N' o6, M3 c = some (.dk kvs) ∧ M3 b = some (.ls ((BL ++ [sortT (v :: ar)]).map tpS)) ∧ kvs.length ≤ 8 ∧ KN kvs N' ∧ Dom vs N' ∧ (∀ x y, AdjN N x y → AdjN N' x y) ∧ (∀ x ∈ ar.take j, ∀ y ∈ ar, y ≠ x → AdjN N' x y) ∧ (∀ a, a ≠ c → a ≠ b → M3 a = M a) ∧ ρ = [some (.d p.d), some (.d (tpS vs)), some (.r c), some (.d (.str v)), o4, o5, o6, some (.r b), some (.d (lsS (vs.drop (i + 1)))), some (.d (lsS ar)), none],
      .of ⟨kvs, N, o6, hM3, by rw [mu_same, List.map_append]; rfl, hk, hv, hE.dom, fun _ _ h => h, fun x hx => (by cases hx), fun a h1 h2 => (by rw [mu_ne h2]; exact ho a h1 h2), rfl⟩, fun _ _ _ _ _ => trivial, ?_, ?_⟩
    · rintro j _ M3 y hy ⟨kvs, N', o6, hM, hb3, hk, hv, hd, hmo, hB, ho, rfl⟩
      obtain ⟨x, hxj, rfl⟩ := getM hy
      have xm := List.mem_of_getElem? hxj
      have xv := l3 x (arl x xm)
      obtain ⟨lx, hlx, _⟩ := hd x xv
      obtain ⟨m1, m2, m3, m4⟩ := ld hd xv hlx
      have vx : valD kvs (.inr x) = some (.d (lsS lx)) := by rw [hv, hlx]; rfl
      walk_at "st"
      rw [List.map_map]
      refine lc_sel (enc := DV.d ∘ PyData.str) (fun o => !decide (o = x) && !decide (o ∈ lx)) PyData.str (by rw [sizeLine_eq]; omega) trivial (fun o hoS KT KF k1 k2 => ?_) (finD_of ?_)
      · have oo := vo o (l3 o (arl o hoS))
        show gN 10 (.d (.str o)) _ _ _ _
        walk_at "st"
        refine x_neStr oo.1 (vo x xv).1 ?_
        walk_at "st"
        refine x_brD (fun e => ?_) (fun e => ?_)
        · walk_at "st"
          refine x_ninLS oo.1 (fun w hw => (vo w (m3 w hw)).1) ?_
          walk_at "st"
          refine x_brD (fun e2 => ?_) (fun e2 => ?_)
          · walk_at "st"
            exact k2 (by rw [decide_eq_true e2]; simp)
          · walk_at "st"
            exact k1 (by rw [decide_eq_false e, decide_eq_false e2]; rfl)
        · walk_at "st"
          exact k2 (by rw [decide_eq_true (Classical.not_not.mp e)]; rfl)
      have fl := List.length_filter_le (fun o => !decide (o = x) && !decide (o ∈ lx)) ar
      walk_at "st"
      refine x_addL (by rw [sizeLine_eq, List.length_map, List.length_map]; omega) ?_
      walk_at "st"
      refine x_putDK rfl hM (by rw [sizeLine_eq]; omega) ?_
      refine .of ⟨_, extN N' x ar, _, mu_same, by rw [mu_ne cb.symm]; exact hb3, by rw [putD_same vx]; exact hk, kn_ext hv hlx (by show _ = DV.d (PyData.list (List.map PyData.str (_ ++ _))); rw [List.map_append]), extN_dom hd arn (fun y hy => l3 y (arl y hy)), fun x' y' h => extN_mono (hmo x' y' h), fun x' hx' y' hy' ne => ?_, fun a h1 h2 => by rw [mu_ne h1]; exact ho a h1 h2, rfl⟩
      rw [take_succ_of hxj] at hx'
      rcases List.mem_append.mp hx' with z | z
      · exact extN_mono (hB x' z y' hy' ne)
      · cases List.mem_singleton.mp z
        exact extN_new hd xv hy' ne
    rintro _ M3 ⟨kvs, N', o6, hM, hb3, hk, hv, hd, hmo, hB, ho, rfl⟩
    rw [List.length_map, List.length_map, List.take_length] at hB
    have bp : (sortT (v :: ar)).Perm (v :: l.filter fun u => decide (u ∈ vs.drop i)) := har ▸ sortT_perm _
    refine .of ⟨kvs, N', BL ++ [sortT (v :: ar)], _, _, _, hM, hb3, hk, hv, elim_step nd hE hvi hl bp (asc_sortT bn) hd hmo (fun x hx y hy n1 n2 n3 => ?_), ho, rfl⟩
    rw [(sortT_perm _).mem_iff] at hx hy
    exact hB x ((List.mem_cons.mp hx).resolve_left n1) y ((List.mem_cons.mp hy).resolve_left n2) fun z => n3 z.symm
  rintro _ M2 ⟨kvs, N, BL, o3, o6, o9, hM, hb2, hk, hv, hE, ho, rfl⟩
  rw [List.length_map, List.length_map] at hE
  walk_at "st"
  rw [← List.map_reverse]
  refine .of (M' := M) (fun a o e => ?_) (h BL.reverse (elim_bags nd vn sub hE))
  rw [ho a (by rintro rfl; rw [hc] at e; cases e) (by rintro rfl; rw [hb0] at e; cases e)]
  exact e
--%%PAR
/-! ### _law_bent -/
def PrtOk (k : Nat) (q : Prt) : Prop := q.1.length ≤ 8 + k ∧ (∀ w ∈ q.1, StOk w) ∧ -10 ≤ q.2 ∧ q.2 ≤ 20
theorem six_at : ∀ k : Nat, k < 6 → ∃ c, atI ("xyzuvw" : Str).cps.toList ((k : Nat) : Int) = some c ∧ PyData.strOk ⟨#[c]⟩ = true ∧ (⟨#[c]⟩ : Str).length ≤ 100 := by
  intro k hk
  have : (match atI ("xyzuvw" : Str).cps.toList ((k : Nat) : Int) with | some c => PyData.strOk ⟨#[c]⟩ && decide ((⟨#[c]⟩ : Str).length ≤ 100) | none => false) = true := by
    revert k
    decide +kernel
  cases z : atI ("xyzuvw" : Str).cps.toList ((k : Nat) : Int) with
  | none => rw [z] at this; cases this
  | some c =>
    rw [z] at this
    have this : (PyData.strOk ⟨#[c]⟩ && decide ((⟨#[c]⟩ : Str).length ≤ 100)) = true := this
    rw [Bool.and_eq_true] at this
    exact ⟨c, rfl, this.1, of_decide_eq_true this.2⟩
theorem x_stok : StOk "x" := by unfold StOk; decide +kernel
theorem cut_last {α : Type} {xs : List α} : cutG xs (some (-1)) none = xs.drop (xs.length - 1) := by
  unfold cutG
  have e : HT.sIx xs.length 0 (some (-1)) = xs.length - 1 := by
    show (if (-1 : Int) < 0 then (-1 + (xs.length : Int)).toNat else min (-1 : Int).toNat xs.length) = _
    rw [if_pos (by decide)]
    omega
  rw [e, show HT.sIx xs.length xs.length none = xs.length from rfl]
  exact List.take_of_length_le (by rw [List.length_drop]; omega)
theorem at3 {a b c : Int} {n : Int} (h0 : 0 ≤ n) (h1 : n < 3) : ∃ x, atI [PyData.int a, .int b, .int c] n = some (.int x) ∧ (x = a ∨ x = b ∨ x = c) := by
  rcases (by omega : n = 0 ∨ n = 1 ∨ n = 2) with rfl | rfl | rfl
  · exact ⟨a, rfl, .inl rfl⟩
  · exact ⟨b, rfl, .inr (.inl rfl)⟩
  · exact ⟨c, rfl, .inr (.inr rfl)⟩
theorem at2 {a b : Int} {n : Int} (h0 : 0 ≤ n) (h1 : n < 2) : ∃ x, atI [PyData.int a, .int b] n = some (.int x) ∧ (x = a ∨ x = b) := by
  rcases (by omega : n = 0 ∨ n = 1) with rfl | rfl
  · exact ⟨a, rfl, .inl rfl⟩
  · exact ⟨b, rfl, .inr rfl⟩
theorem len_law_bent : ∀ xs M P PX, sp_law_bent xs M P PX → xs.length = p_law_bent.length := by rintro _ M P PX ⟨_, _, _, _, rfl, _⟩; rfl
theorem r_law_bent : ∀ xs M Q PX, sp_law_bent xs M Q PX → t_law_bent (endD Q PX) (startD n_law_bent xs) M := by
  rintro _ M Q PX ⟨d, st, k, ps, rfl, hM, hst, hk, pn, pl, hps, h⟩
  have p0 : 0 < ps.length := List.length_pos_iff.mpr pn
  have al : (ps.map prD).length = ps.length := List.length_map _
  have up : ∀ q ∈ ps, PrtOk (k + 1) q := fun q hq => by
    obtain ⟨h1, h2, h3⟩ := hps q hq
    exact ⟨by omega, h2, h3⟩
  have fin : ∀ (x : PyData) (ps' : List Prt) (st' : List PyData) (M' : MHp), x = prsD ps' → ps'.length ≤ 8 + (k + 1) → (∀ q ∈ ps', PrtOk (k + 1) q) → DSt st' → M' = mu M d (.ls st') → WkV Q (.d x) M' := by
    rintro _ ps' st' _ rfl h1 h2 hs rfl
    exact .here (h ps' st' hs h1 h2)
  unfold t_law_bent
  walk_at "st"
  rw [al]
  refine ⟨d, (ps.length : Int), st, rfl, hM, hst, divOk_small (by omega) (by omega), fun n st1 hst1 n0 n1 => ?_⟩
  have nl : n.toNat < ps.length := by omega
  obtain ⟨q, hq⟩ : ∃ q, ps[n.toNat]? = some q := ⟨_, List.getElem?_eq_getElem nl⟩
  have aq : atI (ps.map prD) n = some (prD q) := atM hq (by omega)
  obtain ⟨b1, b2, b3, b4⟩ := hps q (List.mem_of_getElem? hq)
  have ql : (q.1.map PyData.str).length = q.1.length := List.length_map _
  have fin2 : ∀ (b : List Str) (v : Int) (x : PyData) (st' : List PyData) (M' : MHp), x = tpS b → PrtOk (k + 1) (b, v) → DSt st' → M' = mu M d (.ls st') → WkV Q (.d (.tuple (cutG (ps.map prD) none (some n) ++ [.tuple [x, .int v]] ++ cutG (ps.map prD) (some (n + 1)) none))) M' := by
    rintro b v _ st' M' rfl hok hs hm
    refine fin _ (ps.take n.toNat ++ [(b, v)] ++ ps.drop (n.toNat + 1)) st' _ ?_ ?_ (fun r hr => ?_) hs hm
    · show _ = PyData.tuple (List.map prD (ps.take n.toNat ++ [(b, v)] ++ ps.drop (n.toNat + 1)))
      rw [cut_take n0, cut_drop (by omega), show (n + 1).toNat = n.toNat + 1 by omega, List.map_append, List.map_append, List.map_take, List.map_drop]
      rfl
    · rw [List.length_append, List.length_append, List.length_take, List.length_drop, List.length_singleton]
      omega
    · rcases List.mem_append.mp hr with z | z
      · rcases List.mem_append.mp z with z | z
        · exact up r (List.mem_of_mem_take z)
        · cases List.mem_singleton.mp z
          exact hok
      · exact up r (List.mem_of_mem_drop z)
  have r1 : (cutG (ps.map prD) none (some n)).length + 1 ≤ sizeLine := by
    have := cut_len (xs := ps.map prD) (lo := none) (hi := some n)
    rw [sizeLine_eq]; omega
  have r2 : ∀ x : PyData, (cutG (ps.map prD) none (some n) ++ [x]).length + (cutG (ps.map prD) (some (n + 1)) none).length ≤ sizeLine := fun x => by
    have := cut_len (xs := ps.map prD) (lo := none) (hi := some n)
    have := cut_len (xs := ps.map prD) (lo := some (n + 1)) (hi := none)
    rw [sizeLine_eq, List.length_append, List.length_singleton]; omega
  have addp : ∀ (b : List Str) (v : Int) (x : PyData) (st' : List PyData) (M' : MHp), x = tpS b → PrtOk (k + 1) (b, v) → DSt st' → M' = mu M d (.ls st') → WkV Q (.d (.tuple (ps.map prD ++ [.tuple [x, .int v]]))) M' := by
    rintro b v _ st' M' rfl hok hs hm
    refine fin _ (ps ++ [(b, v)]) st' _ (congrArg PyData.tuple (List.map_append (f := prD) (l₁ := ps) (l₂ := [(b, v)])).symm) (by rw [List.length_append, List.length_singleton]; omega) (fun r hr => ?_) hs hm
    rcases List.mem_append.mp hr with z | z
    · exact up r z
    · cases List.mem_singleton.mp z
      exact hok
  walk_at "st"
  refine ⟨d, 8, st1, rfl, by walk_at "m", hst1, divOk_small (by decide) (by decide), fun v st2 hst2 v0 v1 => ?_⟩
  rw [mu_mu]
  walk_at "st"
  refine x_brD (fun e0 => ?_) (fun e0 => ?_)
  · walk_at "st"
    refine x_addT r1 ?_
    walk_at "st"
    refine x_addT (r2 _) ?_
    walk_at "st"
    refine fin2 (q.1.drop 1) q.2 _ st2 _ (by rw [cut_drop (by decide)]; exact congrArg PyData.tuple (List.map_drop (f := PyData.str)).symm) ⟨?_, fun w hw => b2 w (List.mem_of_mem_drop hw), b3, b4⟩ hst2 rfl
    show (q.1.drop 1).length ≤ _
    rw [List.length_drop]; omega
  walk_at "st"
  refine x_brD (fun e1 => ?_) (fun e1 => ?_)
  · walk_at "st"
    refine ⟨d, 6, st2, rfl, by walk_at "m", hst2, divOk_small (by decide) (by decide), fun u st3 hst3 u0 u1 => ?_⟩
    rw [mu_mu]
    obtain ⟨c, hc, co⟩ := six_at u.toNat (by omega)
    rw [show ((u.toNat : Nat) : Int) = u by omega] at hc
    walk_at "st"
    refine x_ixS (by rw [sizeLine_eq]; decide +kernel) hc ?_
    walk_at "st"
    refine x_addT (by rw [ql, sizeLine_eq, List.length_singleton]; omega) ?_
    walk_at "st"
    have ec : (q.1.map PyData.str ++ [PyData.str ⟨#[c]⟩]) = (q.1 ++ [(⟨#[c]⟩ : Str)]).map PyData.str := by rw [List.map_append]; rfl
    rw [ec]
    refine x_setT (by rw [List.length_append, List.length_singleton]; omega) fun ks kd km => ?_
    have sp := sortK_perm (enc := PyData.str) ks
    have kl := nodup_le kd fun x hx => (km x).mp hx
    rw [List.length_append, List.length_singleton] at kl
    walk_at "st"
    refine x_addT r1 ?_
    walk_at "st"
    refine x_addT (r2 _) ?_
    walk_at "st"
    refine fin2 (sortK PyData.str ks) q.2 _ st3 _ rfl ⟨?_, fun w hw => ?_, b3, b4⟩ hst3 rfl
    · show (sortK PyData.str ks).length ≤ _
      rw [sp.length_eq]; omega
    · rcases List.mem_append.mp ((km w).mp (sp.mem_iff.mp hw)) with z | z
      · exact b2 w z
      · cases List.mem_singleton.mp z
        exact co
  walk_at "st"
  refine x_brD (fun e2 => ?_) (fun e2 => ?_)
  · walk_at "st"
    refine x_addT r1 ?_
    walk_at "st"
    refine x_addT (r2 _) ?_
    walk_at "st"
    refine fin2 q.1.reverse q.2 _ st2 _ (by rw [← List.map_reverse]) ⟨?_, fun w hw => b2 w (List.mem_reverse.mp hw), b3, b4⟩ hst2 rfl
    show q.1.reverse.length ≤ _
    rw [List.length_reverse]; omega
  walk_at "st"
  refine x_brD (fun e3 => ?_) (fun e3 => ?_)
  · walk_at "st"
    refine ⟨d, st2, 3, rfl, by walk_at "m", hst2, by decide, fun s st3 hst3 s0 s1 => ?_⟩
    rw [mu_mu]
    walk_at "st"
    refine ⟨d, 3, st3, rfl, by walk_at "m", hst3, divOk_small (by decide) (by decide), fun u st4 hst4 u0 u1 => ?_⟩
    rw [mu_mu]
    obtain ⟨x, hx, xo⟩ := at3 (a := n) (b := n + 1) (c := s) u0 u1
    walk_at "st"
    refine x_addT r1 ?_
    walk_at "st"
    refine x_addT (r2 _) ?_
    walk_at "st"
    exact fin2 q.1 x _ st4 _ rfl ⟨by show q.1.length ≤ _; omega, b2, by show -10 ≤ x; omega, by show x ≤ 20; omega⟩ hst4 rfl
  walk_at "st"
  refine x_brD (fun e4 => ?_) (fun e4 => ?_)
  · walk_at "st"
    rw [al]
    refine ⟨d, 2, st2, rfl, by walk_at "m", hst2, divOk_small (by decide) (by decide), fun u st3 hst3 u0 u1 => ?_⟩
    rw [mu_mu]
    obtain ⟨x, hx, xo⟩ := at2 (a := n) (b := (ps.length : Int)) u0 u1
    walk_at "st"
    refine x_addT (by rw [al, sizeLine_eq, List.length_singleton]; omega) ?_
    walk_at "st"
    exact addp q.1 x _ st3 _ rfl ⟨by show q.1.length ≤ _; omega, b2, by show -10 ≤ x; omega, by show x ≤ 20; omega⟩ hst3 rfl
  walk_at "st"
  refine x_brD (fun e5 => ?_) (fun e5 => ?_)
  · walk_at "st"
    exact fin _ ps.dropLast st2 _ (congrArg PyData.tuple (cut_m1.trans (List.map_dropLast ..).symm)) (by rw [List.length_dropLast]; omega) (fun r hr => up r ((List.dropLast_sublist ps).subset hr)) hst2 rfl
  walk_at "st"
  refine x_brD (fun e6 => ?_) (fun e6 => ?_)
  · walk_at "st"
    refine x_addT (by rw [ql, sizeLine_eq, List.length_singleton]; omega) ?_
    walk_at "st"
    rw [al]
    refine ⟨d, (ps.length : Int), st2, rfl, by walk_at "m", hst2, divOk_small (by omega) (by omega), fun u st3 hst3 u0 u1 => ?_⟩
    rw [mu_mu]
    walk_at "st"
    refine x_addT (by rw [al, sizeLine_eq, List.length_singleton]; omega) ?_
    walk_at "st"
    have ec : (q.1.map PyData.str ++ [PyData.str "x"]) = (q.1 ++ (["x"] : List Str)).map PyData.str := by rw [List.map_append]; rfl
    refine addp ((q.1 ++ (["x"] : List Str)).take 1) u _ st3 _ (by rw [ec, cut_take (by decide), ← List.map_take]; rfl) ⟨?_, fun w hw => ?_, by show -10 ≤ u; omega, by show u ≤ 20; omega⟩ hst3 rfl
    · show ((q.1 ++ (["x"] : List Str)).take 1).length ≤ _
      rw [List.length_take]; omega
    · rcases List.mem_append.mp (List.mem_of_mem_take hw) with z | z
      · exact b2 w z
      · cases List.mem_singleton.mp z
        exact x_stok
  walk_at "st"
  have cl := cut_len (xs := q.1.map PyData.str) (lo := some (-1)) (hi := none)
  refine x_addT (by rw [ql] at cl; rw [ql, sizeLine_eq]; omega) ?_
  walk_at "st"
  refine x_addT r1 ?_
  walk_at "st"
  refine x_addT (r2 _) ?_
  walk_at "st"
  obtain ⟨t, ht, tl, ts⟩ : ∃ t : List Str, cutG (q.1.map PyData.str) (some (-1)) none = t.map .str ∧ t.length ≤ 1 ∧ ∀ w ∈ t, w ∈ q.1 := ⟨q.1.drop (q.1.length - 1), by rw [cut_last, List.length_map, List.map_drop], by rw [List.length_drop]; omega, fun w hw => List.mem_of_mem_drop hw⟩
  refine fin2 (q.1 ++ t) q.2 _ st2 _ (by rw [ht]; exact congrArg PyData.tuple (List.map_append (f := PyData.str)).symm) ⟨?_, fun w hw => ?_, b3, b4⟩ hst2 rfl
  · show (q.1 ++ t).length ≤ _
    rw [List.length_append]; omega
  · rcases List.mem_append.mp hw with z | z
    · exact b2 w z
    · exact b2 w (ts w z)
--%%SPLIT
/-! ### the law -/
theorem drawn_psz {n m : Nat} (n8 : n ≤ 8) (m6 : m ≤ 6) {c : List Tb} {p : Pat} (sz : Sz 0 c) (ok : catOk c = true) (pd : PDrawn n m c p) : PatSz p := by
  obtain ⟨p1, p2, p3, p4, p5, p6⟩ := pd
  have vs : ∀ v ∈ p.vars, StOk v := fun v hv => by
    obtain ⟨a, ha, hx⟩ := mem_vars.mp hv
    exact nm_str v (List.mem_of_mem_take ((p6 a ha).1 v hx))
  refine ⟨by omega, fun w hw => vs w (p5 w hw), by omega, fun a ha => ?_⟩
  obtain ⟨h1, t, tm, e, el⟩ := p6 a ha
  have tt := sz.2.2 t tm
  have : t.cols ≤ 4 := by
    unfold catOk at ok
    rw [Bool.and_eq_true, List.all_eq_true] at ok
    have := ok.1 t tm
    unfold tabOk at this
    simp only [Bool.and_eq_true, decide_eq_true_eq] at this
    omega
  exact ⟨⟨e ▸ tt.1, by have := tt.2.1; rw [e]; omega⟩, by omega, fun w hw => nm_str w (List.mem_of_mem_take (h1 w hw))⟩
theorem patErr_ok {C1 C2 : Addr} {p : Pat} (h : patOk p = true) (g : patBig p = false) : patErr C1 C2 p = none := by unfold patErr; rw [h, g]; rfl
theorem prt_sz {k : Nat} {ps : List Prt} (hk : k ≤ 20) (hl : ps.length ≤ 8 + k) (h : ∀ q ∈ ps, PrtOk k q) : PrtSz ps := ⟨by omega, fun q hq => ⟨by have := (h q hq).1; omega, (h q hq).2.1⟩⟩
theorem len_law : ∀ xs M P PX, sp_law xs M P PX → xs.length = p_law.length := by rintro _ M P PX ⟨_, rfl, _⟩; rfl
theorem r3_ok {P L : Addr} {Q : DK} {PX : DX} {M : MHp} {s0 s2 s4 : Option DV} {d : Addr} {p : Pat} {ps : List Prt} {st : List PyData} (hM : M d = some (.ls st)) (hst : DSt st) (hp : PatSz p) (pe : patErr P L p = none) (pl : ps.length ≤ 8) (pk : ∀ q ∈ ps, PrtOk 0 q) (pok : partsOk p.atoms ps = true) (h : ∀ M', Q (.d (.bool true)) M') :
    t_law_r5 P L (endD Q PX) [s0, some (.r d), s2, some (.d p.d), s4, some (.d (prsD ps)), none, none, none, none] M := by
  unfold t_law_r5
  walk_at "st"
  refine ⟨by decide, by decide, ?_⟩
  refine ⟨fun i ρ M1 => ∃ (ps : List Prt) (st : List PyData) (o6 o7 : Option DV), ρ = [s0, some (.r d), s2, some (.d p.d), s4, some (.d (prsD ps)), o6, o7, none, none] ∧ M1 d = some (.ls st) ∧ DSt st ∧ ps.length ≤ 8 + i ∧ (∀ q ∈ ps, PrtOk i q) ∧ (i = 0 → partsOk p.atoms ps = true), .of ⟨ps, st, none, none, rfl, hM, hst, pl, pk, fun _ => pok⟩, fun _ _ _ _ _ => trivial, ?_, ?_⟩
  · rintro i _ M1 x hx ⟨ps, st, o6, o7, rfl, hd, hst, pl, pk, pok⟩
    obtain ⟨hi, rfl⟩ := getR hx
    have hi : i < 5 := hi
    have hs := prt_sz (by omega) pl pk
    have pl' := hs.l
    walk_at "st"
    refine ⟨p, ps, rfl, hp, hs, ?_⟩
    rw [pe]
    refine resE_n ?_
    walk_at "st"
    refine ⟨p, ps, rfl, hp, hs, ?_⟩
    have ords : ∀ w ∈ orderP ps, PyData.strOk w = true := fun w hw => by
      obtain ⟨q, hq, e⟩ := ord_mem hw
      exact ((hs.b q hq).2 w e).1
    cases hb : partsOk p.atoms ps with
    | true =>
      have ne : ps ≠ [] := fun z => by
        subst z
        cases hb
      walk_at "st"
      refine x_neSelf rfl ?_
      walk_at "st"
      refine x_brD (fun e0 => ?_) (fun e0 => ?_)
      all_goals
        walk_at "st"
        refine ⟨ps, rfl, hs, ?_⟩
        walk_at "st"
        refine ⟨ps, rfl, hs, ?_⟩
        walk_at "st"
        refine x_neSelf (shaped_tupS ords) ?_
        walk_at "st"
        refine ⟨ps, rfl, hs, ne, ?_⟩
        walk_at "st"
        rw [List.map_map]
        refine lc_of (e := DV.d ∘ prD) (fun q => .int (q.1.length : Nat)) (by rw [sizeLine_eq]; omega) trivial (fun q hq KT hK => ?_) (finD_of ?_)
        · show gTp 2 _ (.d (prD q)) _ _ _ _
          walk_at "st"
          rw [List.length_map]
          exact hK
        rw [show ps.map (fun q : Prt => PyData.int (q.1.length : Nat)) = (ps.map fun q : Prt => (q.1.length : Int)).map .int by rw [List.map_map]; rfl]
        walk_at "st"
        refine x_maxL (by rw [List.length_map]; exact List.length_pos_iff.mpr ne) ?_
        walk_at "st"
        rw [List.length_map]
        refine x_brD (fun z => absurd (List.eq_nil_of_length_eq_zero (by omega)) ne) (fun _ => ?_)
        walk_at "st"
        refine ⟨d, st, i, ps, rfl, hd, hst, by omega, ne, pl, pk, fun ps' st' hst' h1 h2 => ?_⟩
        walk_at "st"
        exact .of ⟨ps', st', _, _, rfl, mu_same, hst', h1, h2, fun z => (by omega)⟩
    | false =>
      have i0 : i ≠ 0 := fun z => by rw [pok z] at hb; cases hb
      walk_at "st"
      refine x_neSelf rfl ?_
      walk_at "st"
      rw [List.length_map]
      refine x_brD (fun z => ?_) (fun z => ?_)
      · walk_at "st"
        exact .here (h _)
      · walk_at "st"
        refine ⟨d, st, i, ps, rfl, hd, hst, by omega, fun e => z (by rw [e]; rfl), pl, pk, fun ps' st' hst' h1 h2 => ?_⟩
        walk_at "st"
        exact .of ⟨ps', st', _, _, rfl, mu_same, hst', h1, h2, fun z => (by omega)⟩
  rintro _ M1 ⟨ps, st, o6, o7, rfl, hd, hst, pl, pk, pok⟩
  walk_at "st"
  exact .here (h _)
theorem r_law {P L : Addr} : ∀ xs M Q PX, sp_law xs M Q PX → t_law P L (endD Q PX) (startD n_law xs) M := by
  rintro _ M Q PX ⟨ns, rfl, hM, h⟩
  unfold t_law
  walk_at "st"
  refine ⟨ns, rfl, fun d st hd hst => ?_⟩
  walk_at "st"
  refine ⟨d, st, 3, 1, 2, rfl, by walk_at "m", hst, by decide, by decide, by decide, by decide, by decide, fun c st1 hst1 sz0 ok nb made => ?_⟩
  rw [mu_mu]
  walk_at "st"
  refine ⟨d, 2, st1, rfl, by walk_at "m", hst1, divOk_small (by decide) (by decide), fun u1 st2 hst2 u10 u11 => ?_⟩
  rw [mu_mu]
  obtain ⟨n, hn, no⟩ := at2 (a := 5) (b := 8) u10 u11
  walk_at "st"
  refine ⟨d, 2, st2, rfl, by walk_at "m", hst2, divOk_small (by decide) (by decide), fun u2 st3 hst3 u20 u21 => ?_⟩
  rw [mu_mu]
  obtain ⟨m, hm, mo⟩ := at2 (a := 5) (b := 6) u20 u21
  walk_at "st"
  refine ⟨d, st3, c, n.toNat, m.toNat, by rw [Int.toNat_of_nonneg (by omega), Int.toNat_of_nonneg (by omega)], by walk_at "m", hst3, sz0, ok, by omega, by omega, by omega, by omega, fun p st4 hst4 pd => ?_⟩
  rw [mu_mu]
  have hp := drawn_psz (n := n.toNat) (m := m.toNat) (by omega) (by omega) sz0 ok pd
  obtain ⟨o1, o2, o3, o4⟩ := drawn_ok made sz0 ok (n := n.toNat) (m := m.toNat) (by omega) (by omega) pd
  walk_at "st"
  refine ⟨p, rfl, hp, ?_⟩
  walk_at "st"
  refine ⟨d, st4, p.vars, rfl, by walk_at "m", hst4, by omega, fun vs st5 hst5 vp => ?_⟩
  rw [mu_mu]
  have vl := vp.length_eq
  have vn : vs ≠ [] := fun z => by
    subst z
    exact o4 (List.eq_nil_of_length_eq_zero vl.symm)
  walk_at "st"
  refine ⟨p, vs, rfl, hp, vp, vn, by omega, fun B bo => ?_⟩
  have bw : ∀ b ∈ B, b.length ≤ 8 ∧ ∀ w ∈ b, StOk w := fun b hb => by
    obtain ⟨k, hk⟩ := List.mem_iff_getElem?.mp hb
    have inv : ∀ w ∈ b, w ∈ vs := fun w hw => by
      obtain ⟨j, _, e⟩ := bo.low k b w hk hw
      exact List.mem_reverse.mp (List.mem_of_getElem? e)
    exact ⟨by have := nodup_le (bo.ne k b hk).2.2 inv; omega, fun w hw => hp.vs w (vp.mem_iff.mp (inv w hw))⟩
  walk_at "st"
  refine ⟨d, st5, B, rfl, by walk_at "m", hst5, by rw [bo.ln]; omega, fun b hb => ⟨by have := (bw b hb).1; omega, (bw b hb).2⟩, fun ps st6 hst6 hu => ?_⟩
  rw [mu_mu]
  have pl : ps.length = B.length := by rw [← hu.1, List.length_map]
  walk_at "st"
  refine r3_ok mu_same hst6 hp (patErr_ok o1 o2) (by rw [pl, bo.ln]; omega) (fun q hq => ?_) (hung_ok vp vn bo hu) h
  obtain ⟨k, hk⟩ := List.mem_iff_getElem?.mp hq
  have qb : q.1 ∈ B := by rw [← hu.1]; exact List.mem_map_of_mem hq
  have kl := (List.getElem?_eq_some_iff.mp hk).1
  have bl := bo.ln
  obtain ⟨g1, g2⟩ := hu.2 k q hk
  refine ⟨(bw q.1 qb).1, (bw q.1 qb).2, ?_⟩
  rcases Nat.eq_zero_or_pos k with z | z
  · rw [g1 z]
    exact ⟨by decide, by decide⟩
  · obtain ⟨j, c', jk, e, _⟩ := g2 z
    rw [e]
    exact ⟨by omega, by omega⟩
theorem law_in (ns : List Int) (hl : ns.length ≤ 63) {P : DK} {PX : DX} (h : ∀ M, P (.d (.bool true)) M) : sp_law [.d (.list (ns.map .int))] (fun _ => none) P PX := ⟨ns, rfl, fun _ => rfl, h⟩
--CUTD
structure Blt (mg : Str → Option Value) : Prop where
  abs_ : mg "abs" = none
  all_ : mg "all" = none
  any_ : mg "any" = none
  bool_ : mg "bool" = none
  int_ : mg "int" = none
  isinstance_ : mg "isinstance" = none
  len_ : mg "len" = none
  list_ : mg "list" = none
  max_ : mg "max" = none
  range_ : mg "range" = none
  set_ : mg "set" = none
  sorted_ : mg "sorted" = none
  str_ : mg "str" = none
  tuple_ : mg "tuple" = none
structure Tops (K : PySem.W.Frag) (mg : Str → Option Value) : Prop where
  triv : True
  ATOM_LIMIT_x : ∃ t, mg "ATOM_LIMIT" = some (.int 8 t)
  LETTERS_x : ∃ t, mg "LETTERS" = some (.str "abcdefghijklmnopqrstuvwxyz" t)
  NAME_LIMIT_x : ∃ t, mg "NAME_LIMIT" = some (.int 20 t)
  NAME_SIGNS_x : ∃ t, mg "NAME_SIGNS" = some (.str "abcdefghijklmnopqrstuvwxyz0123456789" t)
  PLACE_LIMIT_x : ∃ t, mg "PLACE_LIMIT" = some (.int 4 t)
  VARIABLE_LIMIT_x : ∃ t, mg "VARIABLE_LIMIT" = some (.int 8 t)
abbrev Tops.ATOM_LIMIT_e {K : PySem.W.Frag} {mg : Str → Option Value} (T : Tops K mg) := T.ATOM_LIMIT_x
abbrev Tops.LETTERS_e {K : PySem.W.Frag} {mg : Str → Option Value} (T : Tops K mg) := T.LETTERS_x
abbrev Tops.NAME_LIMIT_e {K : PySem.W.Frag} {mg : Str → Option Value} (T : Tops K mg) := T.NAME_LIMIT_x
abbrev Tops.NAME_SIGNS_e {K : PySem.W.Frag} {mg : Str → Option Value} (T : Tops K mg) := T.NAME_SIGNS_x
abbrev Tops.PLACE_LIMIT_e {K : PySem.W.Frag} {mg : Str → Option Value} (T : Tops K mg) := T.PLACE_LIMIT_x
abbrev Tops.VARIABLE_LIMIT_e {K : PySem.W.Frag} {mg : Str → Option Value} (T : Tops K mg) := T.VARIABLE_LIMIT_x
/-- the error classes -/
structure Errs (K : PySem.W.Frag) (mg : Str → Option Value) (C_PatternError C_TooLarge : Addr) : Prop where
  e_PatternError : ErrC K mg "PatternError" C_PatternError
  e_TooLarge : ErrC K mg "TooLarge" C_TooLarge
section
variable {P : Program} {w : World} {K : PySem.W.Frag} {mg : Str → Option Value} {base : Heap} {C_PatternError C_TooLarge : Addr}
theorem sc_is_name : FnScope n_is_name p_is_name (defScope s_is_name) := ⟨rfl, rfl, rfl, by decide +kernel, rfl, by decide +kernel, by decide +kernel⟩
theorem fn_is_name {f : Addr} {fd : FuncData} (F : Fun K "is_name" "is_name" s_is_name f fd) (b : Binds K fd p_is_name []) (g : mg "is_name" = some (.ref f)) (B : Blt mg) (T : Tops K mg) (Z : Errs K mg C_PatternError C_TooLarge) : DFn P w K mg base 1 f fd p_is_name sp_is_name := by
  refine okD (N := n_is_name) (t := t_is_name) F sc_is_name len_is_name (fun cdv A outer s H E hr tk hp => ?_) r_is_name
  have nd := sc_is_name.nd
  have hu := hr.units
  have hu5 := room5 hr
  have hu1 := L2.hu_of hr
  exact (dss_cons (ds_if (DW.dt (dw_or (dt_cmp (dop_eq hu) (de_var 0) de_str (nomark _)) (dw_or (dt_cmp (dop_gt hu) (de_callB dc_len (by rfl) B.len_ (by decide +kernel) (da_cons (de_var 0) da_nil)) (de_glob (v := .int 20) (by rfl) T.NAME_LIMIT_x.choose_spec ⟨_, rfl⟩ (fun _ => .int _)) (nomark _)) (dw_or1 (dt_cmp (dop_notin hu5) (de_ix (de_var 0) de_int (fun _ _ => rfl)) (de_glob (v := .str "abcdefghijklmnopqrstuvwxyz") (by rfl) T.LETTERS_x.choose_spec ⟨_, rfl⟩ (fun _ => .str _)) (by with_unfolding_all rfl)))))) (dss_one (ds_ret de_bl)) dss_nil)
    (dss_one (ds_ret (de_callB (dc_all rfl) (by rfl) B.all_ (by decide +kernel) (da_cons (de_lc finD_at rfl nd (vs := [1]) (di_seq (de_var 0)) (blkOk_by (own := [("sign", 1)]) (N := n_is_name) (sc := defScope s_is_name) (by decide +kernel)) (fun _ _ _ _ _ => (dg_name (i := 1) nd)) (by decide) (fun _ _ _ _ _ => dts_nil) (fun _ _ _ _ _ => (de_cmp (dop_in hu5) (de_var 1) (de_glob (v := .str "abcdefghijklmnopqrstuvwxyz0123456789") (by rfl) T.NAME_SIGNS_x.choose_spec ⟨_, rfl⟩ (fun _ => .str _)) (by with_unfolding_all rfl)))) da_nil)))))
theorem ok_is_name {f : Addr} {fd : FuncData} (F : Fun K "is_name" "is_name" s_is_name f fd) (b : Binds K fd p_is_name []) (g : mg "is_name" = some (.ref f)) (B : Blt mg) (T : Tops K mg) (Z : Errs K mg C_PatternError C_TooLarge) : Cal P w K mg base 1 "is_name" p_is_name sp_is_name :=
  ⟨f, fd, fn_is_name F b g B T Z, F.kp, b, g⟩
theorem sc_ascend : FnScope n_ascend p_ascend (defScope s_ascend) := ⟨rfl, rfl, rfl, by decide +kernel, rfl, by decide +kernel, by decide +kernel⟩
theorem fn_ascend {f : Addr} {fd : FuncData} (F : Fun K "ascend" "ascend" s_ascend f fd) (b : Binds K fd p_ascend []) (g : mg "ascend" = some (.ref f)) (B : Blt mg) (T : Tops K mg) (Z : Errs K mg C_PatternError C_TooLarge) : DFn P w K mg base 1 f fd p_ascend sp_ascend := by
  refine okD (N := n_ascend) (t := t_ascend) F sc_ascend len_ascend (fun cdv A outer s H E hr tk hp => ?_) r_ascend
  have nd := sc_ascend.nd
  have hu := hr.units
  have hu5 := room5 hr
  have hu1 := L2.hu_of hr
  exact (dss_one (ds_ret (de_callB (dc_all rfl) (by rfl) B.all_ (by decide +kernel) (da_cons (de_lc finD_at rfl nd (vs := [1]) (di_range2 B.range_ (da_cons de_int (da_cons (de_callB dc_len (by rfl) B.len_ (by decide +kernel) (da_cons (de_var 0) da_nil)) da_nil))) (blkOk_by (own := [("k", 1)]) (N := n_ascend) (sc := defScope s_ascend) (by decide +kernel)) (fun _ _ _ _ _ => (dg_name (i := 1) nd)) (by decide) (fun _ _ _ _ _ => dts_nil) (fun _ _ _ _ _ => (de_cmp (dop_lt hu) (de_ix (de_var 0) (de_op dop_sub (de_var 1) de_int) (fun _ _ => rfl)) (de_ix (de_var 0) (de_var 1) (fun _ _ => rfl)) (nomark _)))) da_nil))))
theorem ok_ascend {f : Addr} {fd : FuncData} (F : Fun K "ascend" "ascend" s_ascend f fd) (b : Binds K fd p_ascend []) (g : mg "ascend" = some (.ref f)) (B : Blt mg) (T : Tops K mg) (Z : Errs K mg C_PatternError C_TooLarge) : Cal P w K mg base 1 "ascend" p_ascend sp_ascend :=
  ⟨f, fd, fn_ascend F b g B T Z, F.kp, b, g⟩
theorem sc_all_variables : FnScope n_all_variables p_all_variables (defScope s_all_variables) := ⟨rfl, rfl, rfl, by decide +kernel, rfl, by decide +kernel, by decide +kernel⟩
theorem fn_all_variables {f : Addr} {fd : FuncData} (F : Fun K "all_variables" "all_variables" s_all_variables f fd) (b : Binds K fd p_all_variables []) (g : mg "all_variables" = some (.ref f)) (B : Blt mg) (T : Tops K mg) (Z : Errs K mg C_PatternError C_TooLarge) : DFn P w K mg base 1 f fd p_all_variables sp_all_variables := by
  refine okD (N := n_all_variables) (t := t_all_variables) F sc_all_variables len_all_variables (fun cdv A outer s H E hr tk hp => ?_) r_all_variables
  have nd := sc_all_variables.nd
  have hu := hr.units
  have hu5 := room5 hr
  have hu1 := L2.hu_of hr
  exact (dss_cons (ds_set (i := 1) nd (de_lstM da_nil))
    (dss_cons (ds_for hp rfl (di_seq (de_ix (de_var 0) de_int (fun _ _ => rfl))) (dg_tup rfl (dgs_cons (dg_name (i := 2) nd) gm_name (dgs_cons (dg_name (i := 3) nd) gm_name dgs_nil gm_nil) (gm_cons gm_name gm_nil))) (dss_one (ds_for hp rfl (di_seq (de_var 3)) (dg_name (i := 4) nd) (dss_one (ds_if (dt_cmp (dop_notin hu5) (de_var 4) (de_var 1) (by with_unfolding_all rfl)) (dss_one (ds_expr (de_bm ty_lst PySem.F.plainAttrs_list PySem.F.slot_list_append PySem.F.type_list_append dm_append (de_var 1) (da_cons (de_var 4) da_nil)))) dss_nil)))))
    (dss_one (ds_ret (de_callTy dc_tuple (by rfl) B.tuple_ (by decide +kernel) (da_cons (de_var 1) da_nil))))))
theorem ok_all_variables {f : Addr} {fd : FuncData} (F : Fun K "all_variables" "all_variables" s_all_variables f fd) (b : Binds K fd p_all_variables []) (g : mg "all_variables" = some (.ref f)) (B : Blt mg) (T : Tops K mg) (Z : Errs K mg C_PatternError C_TooLarge) : Cal P w K mg base 1 "all_variables" p_all_variables sp_all_variables :=
  ⟨f, fd, fn_all_variables F b g B T Z, F.kp, b, g⟩
theorem sc_width_of : FnScope n_width_of p_width_of (defScope s_width_of) := ⟨rfl, rfl, rfl, by decide +kernel, rfl, by decide +kernel, by decide +kernel⟩
theorem fn_width_of {f : Addr} {fd : FuncData} (F : Fun K "width_of" "width_of" s_width_of f fd) (b : Binds K fd p_width_of []) (g : mg "width_of" = some (.ref f)) (B : Blt mg) (T : Tops K mg) (Z : Errs K mg C_PatternError C_TooLarge) : DFn P w K mg base 1 f fd p_width_of sp_width_of := by
  refine okD (N := n_width_of) (t := t_width_of) F sc_width_of len_width_of (fun cdv A outer s H E hr tk hp => ?_) r_width_of
  have nd := sc_width_of.nd
  have hu := hr.units
  have hu5 := room5 hr
  have hu1 := L2.hu_of hr
  exact (dss_one (ds_ret (de_callB (dc_maxW rfl) (by rfl) B.max_ (by decide +kernel) (da_cons (de_lc finD_at rfl nd (vs := [1, 2]) (di_seq (de_var 0)) (blkOk_by (own := [("bag", 1), ("above", 2)]) (N := n_width_of) (sc := defScope s_width_of) (by decide +kernel)) (fun _ _ _ _ _ => (dg_tup rfl (dgs_cons (dg_name (i := 1) nd) gm_name (dgs_cons (dg_name (i := 2) nd) gm_name dgs_nil gm_nil) (gm_cons gm_name gm_nil)))) (by decide) (fun _ _ _ _ _ => dts_nil) (fun _ _ _ _ _ => (de_callB dc_len (by rfl) B.len_ (by decide +kernel) (da_cons (de_var 1) da_nil)))) da_nil))))
theorem ok_width_of {f : Addr} {fd : FuncData} (F : Fun K "width_of" "width_of" s_width_of f fd) (b : Binds K fd p_width_of []) (g : mg "width_of" = some (.ref f)) (B : Blt mg) (T : Tops K mg) (Z : Errs K mg C_PatternError C_TooLarge) : Cal P w K mg base 1 "width_of" p_width_of sp_width_of :=
  ⟨f, fd, fn_width_of F b g B T Z, F.kp, b, g⟩
theorem sc_order_of : FnScope n_order_of p_order_of (defScope s_order_of) := ⟨rfl, rfl, rfl, by decide +kernel, rfl, by decide +kernel, by decide +kernel⟩
theorem fn_order_of {f : Addr} {fd : FuncData} (F : Fun K "order_of" "order_of" s_order_of f fd) (b : Binds K fd p_order_of []) (g : mg "order_of" = some (.ref f)) (B : Blt mg) (T : Tops K mg) (Z : Errs K mg C_PatternError C_TooLarge) : DFn P w K mg base 1 f fd p_order_of sp_order_of := by
  refine okD (N := n_order_of) (t := t_order_of) F sc_order_of len_order_of (fun cdv A outer s H E hr tk hp => ?_) r_order_of
  have nd := sc_order_of.nd
  have hu := hr.units
  have hu5 := room5 hr
  have hu1 := L2.hu_of hr
  exact (dss_cons (ds_set (i := 1) nd (de_lst da_nil))
    (dss_cons (ds_for hp rfl (di_seq (de_var 0)) (dg_tup rfl (dgs_cons (dg_name (i := 2) nd) gm_name (dgs_cons (dg_name (i := 3) nd) gm_name dgs_nil gm_nil) (gm_cons gm_name gm_nil))) (dss_one (ds_set (i := 1) nd (de_op dop_add (de_var 1) (de_lc finD_at rfl nd (vs := [4]) (di_seq (de_var 2)) (blkOk_by (own := [("variable", 4)]) (N := n_order_of) (sc := defScope s_order_of) (by decide +kernel)) (fun _ _ _ _ _ => (dg_name (i := 4) nd)) (by decide) (fun _ _ _ _ _ => (dts_one (dt_cmp (dop_notin hu5) (de_var 4) (de_var 1) (by with_unfolding_all rfl)))) (fun _ _ _ _ _ => (de_var 4)))))))
    (dss_one (ds_ret (de_callTy dc_tuple (by rfl) B.tuple_ (by decide +kernel) (da_cons (de_var 1) da_nil))))))
theorem ok_order_of {f : Addr} {fd : FuncData} (F : Fun K "order_of" "order_of" s_order_of f fd) (b : Binds K fd p_order_of []) (g : mg "order_of" = some (.ref f)) (B : Blt mg) (T : Tops K mg) (Z : Errs K mg C_PatternError C_TooLarge) : Cal P w K mg base 1 "order_of" p_order_of sp_order_of :=
  ⟨f, fd, fn_order_of F b g B T Z, F.kp, b, g⟩
theorem sc_law_begin : FnScope n_law_begin p_law_begin (defScope s_law_begin) := ⟨rfl, rfl, rfl, by decide +kernel, rfl, by decide +kernel, by decide +kernel⟩
theorem fn_law_begin {f : Addr} {fd : FuncData} (F : Fun K "_law_begin" "_law_begin" s_law_begin f fd) (b : Binds K fd p_law_begin []) (g : mg "_law_begin" = some (.ref f)) (B : Blt mg) (T : Tops K mg) (Z : Errs K mg C_PatternError C_TooLarge) : DFn P w K mg base 1 f fd p_law_begin sp_law_begin := by
  refine okD (N := n_law_begin) (t := t_law_begin) F sc_law_begin len_law_begin (fun cdv A outer s H E hr tk hp => ?_) r_law_begin
  have nd := sc_law_begin.nd
  have hu := hr.units
  have hu5 := room5 hr
  have hu1 := L2.hu_of hr
  exact (dss_cons (ds_set (i := 1) nd de_int)
    (dss_cons (ds_for hp rfl (di_seq (de_var 0)) (dg_name (i := 2) nd) (dss_one (ds_set (i := 1) nd (de_op dop_mod (de_op dop_add (de_op dop_add (de_op dop_mul (de_var 1) de_int) (de_op dop_mod (de_callTy dc_int (by rfl) B.int_ (by decide +kernel) (da_cons (de_var 2) da_nil)) de_int)) de_int) de_int))))
    (dss_one (ds_ret (de_lstM (da_cons (de_callTy dc_list (by rfl) B.list_ (by decide +kernel) (da_cons (de_var 0) da_nil)) (da_cons de_int (da_cons de_int (da_cons (de_var 1) da_nil)))))))))
theorem ok_law_begin {f : Addr} {fd : FuncData} (F : Fun K "_law_begin" "_law_begin" s_law_begin f fd) (b : Binds K fd p_law_begin []) (g : mg "_law_begin" = some (.ref f)) (B : Blt mg) (T : Tops K mg) (Z : Errs K mg C_PatternError C_TooLarge) : Cal P w K mg base 1 "_law_begin" p_law_begin sp_law_begin :=
  ⟨f, fd, fn_law_begin F b g B T Z, F.kp, b, g⟩
theorem sc_law_take : FnScope n_law_take p_law_take (defScope s_law_take) := ⟨rfl, rfl, rfl, by decide +kernel, rfl, by decide +kernel, by decide +kernel⟩
theorem fn_law_take {f : Addr} {fd : FuncData} (F : Fun K "_law_take" "_law_take" s_law_take f fd) (b : Binds K fd p_law_take []) (g : mg "_law_take" = some (.ref f)) (B : Blt mg) (T : Tops K mg) (Z : Errs K mg C_PatternError C_TooLarge) : DFn P w K mg base 1 f fd p_law_take sp_law_take := by
  refine okD (N := n_law_take) (t := t_law_take) F sc_law_take len_law_take (fun cdv A outer s H E hr tk hp => ?_) r_law_take
  have nd := sc_law_take.nd
  have hu := hr.units
  have hu5 := room5 hr
  have hu1 := L2.hu_of hr
  exact (dss_cons (ds_if (DW.dt (dw_and (dt_cmp (dop_eq hu) (de_ix (de_var 0) de_int (fun _ _ => rfl)) de_int (nomark _)) (dw_and1 (dt_cmp (dop_lt hu) (de_ix (de_var 0) de_int (fun _ _ => rfl)) (de_callB dc_len (by rfl) B.len_ (by decide +kernel) (da_cons (de_ix (de_var 0) de_int (fun _ _ => rfl)) da_nil)) (nomark _))))) (dss_cons (ds_asg (de_callB dc_abs (by rfl) B.abs_ (by decide +kernel) (da_cons (de_callTy dc_int (by rfl) B.int_ (by decide +kernel) (da_cons (de_ix (de_ix (de_var 0) de_int (fun _ _ => rfl)) (de_ix (de_var 0) de_int (fun _ _ => rfl)) (fun _ _ => rfl)) da_nil)) da_nil)) (dg_setL (de_var 0) de_int))
    (dss_cons (ds_asg (de_op dop_add (de_ix (de_var 0) de_int (fun _ _ => rfl)) de_int) (dg_setL (de_var 0) de_int))
    (dss_one (ds_if (dt_cmp (dop_lt hu) (de_ix (de_var 0) de_int (fun _ _ => rfl)) (de_op dop_pow de_int de_int) (nomark _)) (dss_cons (ds_set (i := 2) nd (de_callTy dc_int (by rfl) B.int_ (by decide +kernel) (da_cons (de_ix (de_var 0) de_int (fun _ _ => rfl)) da_nil)))
    (dss_cons (ds_asg de_int (dg_setL (de_var 0) de_int))
    (dss_one (ds_ret (de_op dop_mod (de_var 2) (de_var 1)))))) dss_nil)))) dss_nil)
    (dss_cons (ds_if (dt_cmp (dop_gt hu) (de_ix (de_var 0) de_int (fun _ _ => rfl)) de_int (nomark _)) (dss_cons (ds_set (i := 3) nd (de_op dop_mod (de_callTy dc_int (by rfl) B.int_ (by decide +kernel) (da_cons (de_ix (de_var 0) de_int (fun _ _ => rfl)) da_nil)) (de_var 1)))
    (dss_cons (ds_asg (de_op dop_fdiv (de_callTy dc_int (by rfl) B.int_ (by decide +kernel) (da_cons (de_ix (de_var 0) de_int (fun _ _ => rfl)) da_nil)) (de_var 1)) (dg_setL (de_var 0) de_int))
    (dss_one (ds_ret (de_var 3))))) dss_nil)
    (dss_cons (ds_asg (de_op dop_mod (de_callTy dc_int (by rfl) B.int_ (by decide +kernel) (da_cons (de_op dop_add (de_op dop_mul (de_ix (de_var 0) de_int (fun _ _ => rfl)) de_int) de_int) da_nil)) de_int) (dg_setL (de_var 0) de_int))
    (dss_one (ds_ret (de_op dop_mod (de_callTy dc_int (by rfl) B.int_ (by decide +kernel) (da_cons (de_op dop_fdiv (de_ix (de_var 0) de_int (fun _ _ => rfl)) de_int) da_nil)) (de_var 1)))))))
theorem ok_law_take {f : Addr} {fd : FuncData} (F : Fun K "_law_take" "_law_take" s_law_take f fd) (b : Binds K fd p_law_take []) (g : mg "_law_take" = some (.ref f)) (B : Blt mg) (T : Tops K mg) (Z : Errs K mg C_PatternError C_TooLarge) : Cal P w K mg base 1 "_law_take" p_law_take sp_law_take :=
  ⟨f, fd, fn_law_take F b g B T Z, F.kp, b, g⟩
theorem sc_law_variables : FnScope n_law_variables p_law_variables (defScope s_law_variables) := ⟨rfl, rfl, rfl, by decide +kernel, rfl, by decide +kernel, by decide +kernel⟩
theorem fn_law_variables {f : Addr} {fd : FuncData} (F : Fun K "_law_variables" "_law_variables" s_law_variables f fd) (b : Binds K fd p_law_variables []) (g : mg "_law_variables" = some (.ref f)) (B : Blt mg) (T : Tops K mg) (Z : Errs K mg C_PatternError C_TooLarge) : DFn P w K mg base 1 f fd p_law_variables sp_law_variables := by
  refine okD (N := n_law_variables) (t := t_law_variables) F sc_law_variables len_law_variables (fun cdv A outer s H E hr tk hp => ?_) r_law_variables
  have nd := sc_law_variables.nd
  have hu := hr.units
  have hu5 := room5 hr
  have hu1 := L2.hu_of hr
  exact (dss_cons (ds_set (i := 1) nd (de_lst da_nil))
    (dss_cons (ds_for hp rfl (di_seq (de_ix (de_var 0) de_int (fun _ _ => rfl))) (dg_tup rfl (dgs_cons (dg_name (i := 2) nd) gm_name (dgs_cons (dg_name (i := 3) nd) gm_name dgs_nil gm_nil) (gm_cons gm_name gm_nil))) (dss_one (ds_set (i := 1) nd (de_op dop_add (de_var 1) (de_lc finD_at rfl nd (vs := [4]) (di_range1 B.range_ (da_cons (de_callB dc_len (by rfl) B.len_ (by decide +kernel) (da_cons (de_var 3) da_nil)) da_nil)) (blkOk_by (own := [("k", 4)]) (N := n_law_variables) (sc := defScope s_law_variables) (by decide +kernel)) (fun _ _ _ _ _ => (dg_name (i := 4) nd)) (by decide) (fun _ _ _ _ _ => (dts_one (DW.dt (dw_and (dt_cmp (dop_notin hu5) (de_ix (de_var 3) (de_var 4) (fun _ _ => rfl)) (de_var 1) (by with_unfolding_all rfl)) (dw_and1 (dt_cmp (dop_notin hu5) (de_ix (de_var 3) (de_var 4) (fun _ _ => rfl)) (de_slice (de_var 3) do_none (do_some (de_var 4))) (by with_unfolding_all rfl))))))) (fun _ _ _ _ _ => (de_ix (de_var 3) (de_var 4) (fun _ _ => rfl))))))))
    (dss_one (ds_ret (de_callTy dc_tuple (by rfl) B.tuple_ (by decide +kernel) (da_cons (de_var 1) da_nil))))))
theorem ok_law_variables {f : Addr} {fd : FuncData} (F : Fun K "_law_variables" "_law_variables" s_law_variables f fd) (b : Binds K fd p_law_variables []) (g : mg "_law_variables" = some (.ref f)) (B : Blt mg) (T : Tops K mg) (Z : Errs K mg C_PatternError C_TooLarge) : Cal P w K mg base 1 "_law_variables" p_law_variables sp_law_variables :=
  ⟨f, fd, fn_law_variables F b g B T Z, F.kp, b, g⟩
theorem sc_law_bags : FnScope n_law_bags p_law_bags (defScope s_law_bags) := ⟨rfl, rfl, rfl, by decide +kernel, rfl, by decide +kernel, by decide +kernel⟩
theorem fn_law_bags {f : Addr} {fd : FuncData} (F : Fun K "_law_bags" "_law_bags" s_law_bags f fd) (b : Binds K fd p_law_bags []) (g : mg "_law_bags" = some (.ref f)) (B : Blt mg) (T : Tops K mg) (Z : Errs K mg C_PatternError C_TooLarge) : DFn P w K mg base 1 f fd p_law_bags sp_law_bags := by
  refine okD (N := n_law_bags) (t := t_law_bags) F sc_law_bags len_law_bags (fun cdv A outer s H E hr tk hp => ?_) r_law_bags
  have nd := sc_law_bags.nd
  have hu := hr.units
  have hu5 := room5 hr
  have hu1 := L2.hu_of hr
  exact (dss_cons (ds_set (i := 2) nd de_dkM)
    (dss_cons (ds_for hp rfl (di_seq (de_var 1)) (dg_name (i := 3) nd) (dss_one (ds_putK hu1 (de_var 2) (de_var 3) (de_lst da_nil))))
    (dss_cons (ds_for hp rfl (di_seq (de_ix (de_var 0) de_int (fun _ _ => rfl))) (dg_tup rfl (dgs_cons (dg_name (i := 4) nd) gm_name (dgs_cons (dg_name (i := 5) nd) gm_name dgs_nil gm_nil) (gm_cons gm_name gm_nil))) (dss_one (ds_for hp rfl (di_seq (de_var 5)) (dg_name (i := 6) nd) (dss_one (ds_putK hu1 (de_var 2) (de_var 6) (de_op dop_add (de_getK hu1 (de_var 2) (de_var 6) (fun _ _ => rfl)) (de_lc finD_at rfl nd (vs := [10]) (di_seq (de_srtSet enc_str rfl hu (de_var 5) B.sorted_ B.set_)) (blkOk_by (own := [("other", 10)]) (N := n_law_bags) (sc := defScope s_law_bags) (by decide +kernel)) (fun _ _ _ _ _ => (dg_name (i := 10) nd)) (by decide) (fun _ _ _ _ _ => (dts_one (DW.dt (dw_and (dt_cmp (dop_ne hu) (de_var 10) (de_var 6) (nomark _)) (dw_and1 (dt_cmp (dop_notin hu5) (de_var 10) (de_getK hu1 (de_var 2) (de_var 6) (fun _ _ => rfl)) (by with_unfolding_all rfl))))))) (fun _ _ _ _ _ => (de_var 10)))))))))
    (dss_cons (ds_set (i := 7) nd (de_lstM da_nil))
    (dss_cons (ds_set (i := 8) nd (de_callTy dc_list (by rfl) B.list_ (by decide +kernel) (da_cons (de_var 1) da_nil)))
    (dss_cons (ds_for hp rfl (di_seq (de_var 1)) (dg_name (i := 3) nd) (dss_cons (ds_setLc (i := 9) finD_at rfl nd (vs := [10]) (di_seq (de_getK hu1 (de_var 2) (de_var 3) (fun _ _ => rfl))) (blkOk_by (own := [("other", 10)]) (N := n_law_bags) (sc := defScope s_law_bags) (by decide +kernel)) (fun _ _ _ _ _ => (dg_name (i := 10) nd)) (by decide) (fun _ _ _ _ _ => (dts_one (dt_cmp (dop_in hu5) (de_var 10) (de_var 8) (by with_unfolding_all rfl)))) (fun _ _ _ _ _ => (de_var 10)) (sw_true rfl rfl rfl (by decide +kernel)))
    (dss_cons (ds_expr (de_bm ty_lst PySem.F.plainAttrs_list PySem.F.slot_list_append PySem.F.type_list_append dm_append (de_var 7) (da_cons (de_callTy dc_tuple (by rfl) B.tuple_ (by decide +kernel) (da_cons (de_callB (dc_sorted hu) (by rfl) B.sorted_ (by decide +kernel) (da_cons (de_op dop_add (de_lst (da_cons (de_var 3) da_nil)) (de_var 9)) da_nil)) da_nil)) da_nil)))
    (dss_cons (ds_set (i := 8) nd (de_lc finD_at rfl nd (vs := [10]) (di_seq (de_var 8)) (blkOk_by (own := [("other", 10)]) (N := n_law_bags) (sc := defScope s_law_bags) (by decide +kernel)) (fun _ _ _ _ _ => (dg_name (i := 10) nd)) (by decide) (fun _ _ _ _ _ => (dts_one (dt_cmp (dop_ne hu) (de_var 10) (de_var 3) (nomark _)))) (fun _ _ _ _ _ => (de_var 10))))
    (dss_one (ds_for hp rfl (di_seq (de_var 9)) (dg_name (i := 6) nd) (dss_one (ds_putK hu1 (de_var 2) (de_var 6) (de_op dop_add (de_getK hu1 (de_var 2) (de_var 6) (fun _ _ => rfl)) (de_lc finD_at rfl nd (vs := [10]) (di_seq (de_var 9)) (blkOk_by (own := [("other", 10)]) (N := n_law_bags) (sc := defScope s_law_bags) (by decide +kernel)) (fun _ _ _ _ _ => (dg_name (i := 10) nd)) (by decide) (fun _ _ _ _ _ => (dts_one (DW.dt (dw_and (dt_cmp (dop_ne hu) (de_var 10) (de_var 6) (nomark _)) (dw_and1 (dt_cmp (dop_notin hu5) (de_var 10) (de_getK hu1 (de_var 2) (de_var 6) (fun _ _ => rfl)) (by with_unfolding_all rfl))))))) (fun _ _ _ _ _ => (de_var 10))))))))))))
    (dss_one (ds_ret (de_rev (de_var 7))))))))))
theorem ok_law_bags {f : Addr} {fd : FuncData} (F : Fun K "_law_bags" "_law_bags" s_law_bags f fd) (b : Binds K fd p_law_bags []) (g : mg "_law_bags" = some (.ref f)) (B : Blt mg) (T : Tops K mg) (Z : Errs K mg C_PatternError C_TooLarge) : Cal P w K mg base 1 "_law_bags" p_law_bags sp_law_bags :=
  ⟨f, fd, fn_law_bags F b g B T Z, F.kp, b, g⟩
theorem sc_law_part_order : FnScope n_law_part_order p_law_part_order (defScope s_law_part_order) := ⟨rfl, rfl, rfl, by decide +kernel, rfl, by decide +kernel, by decide +kernel⟩
theorem fn_law_part_order {f : Addr} {fd : FuncData} (F : Fun K "_law_part_order" "_law_part_order" s_law_part_order f fd) (b : Binds K fd p_law_part_order []) (g : mg "_law_part_order" = some (.ref f)) (B : Blt mg) (T : Tops K mg) (Z : Errs K mg C_PatternError C_TooLarge) : DFn P w K mg base 1 f fd p_law_part_order sp_law_part_order := by
  refine okD (N := n_law_part_order) (t := t_law_part_order) F sc_law_part_order len_law_part_order (fun cdv A outer s H E hr tk hp => ?_) r_law_part_order
  have nd := sc_law_part_order.nd
  have hu := hr.units
  have hu5 := room5 hr
  have hu1 := L2.hu_of hr
  exact (dss_cons (ds_set (i := 1) nd (de_lst da_nil))
    (dss_cons (ds_for hp rfl (di_seq (de_var 0)) (dg_tup rfl (dgs_cons (dg_name (i := 2) nd) gm_name (dgs_cons (dg_name (i := 3) nd) gm_name dgs_nil gm_nil) (gm_cons gm_name gm_nil))) (dss_one (ds_set (i := 1) nd (de_op dop_add (de_var 1) (de_lc finD_at rfl nd (vs := [4]) (di_seq (de_var 2)) (blkOk_by (own := [("variable", 4)]) (N := n_law_part_order) (sc := defScope s_law_part_order) (by decide +kernel)) (fun _ _ _ _ _ => (dg_name (i := 4) nd)) (by decide) (fun _ _ _ _ _ => (dts_one (dt_cmp (dop_notin hu5) (de_var 4) (de_var 1) (by with_unfolding_all rfl)))) (fun _ _ _ _ _ => (de_var 4)))))))
    (dss_one (ds_ret (de_callTy dc_tuple (by rfl) B.tuple_ (by decide +kernel) (da_cons (de_var 1) da_nil))))))
theorem ok_law_part_order {f : Addr} {fd : FuncData} (F : Fun K "_law_part_order" "_law_part_order" s_law_part_order f fd) (b : Binds K fd p_law_part_order []) (g : mg "_law_part_order" = some (.ref f)) (B : Blt mg) (T : Tops K mg) (Z : Errs K mg C_PatternError C_TooLarge) : Cal P w K mg base 1 "_law_part_order" p_law_part_order sp_law_part_order :=
  ⟨f, fd, fn_law_part_order F b g B T Z, F.kp, b, g⟩
theorem sc_right_atoms : FnScope n_right_atoms p_right_atoms (defScope s_right_atoms) := ⟨rfl, rfl, rfl, by decide +kernel, rfl, by decide +kernel, by decide +kernel⟩
theorem fn_right_atoms {f : Addr} {fd : FuncData} (F : Fun K "right_atoms" "right_atoms" s_right_atoms f fd) (b : Binds K fd p_right_atoms []) (g : mg "right_atoms" = some (.ref f)) (B : Blt mg) (T : Tops K mg) (Z : Errs K mg C_PatternError C_TooLarge) (c_is_name : Cal P w K mg base 1 "is_name" p_is_name sp_is_name) : DFn P w K mg base 2 f fd p_right_atoms sp_right_atoms := by
  refine okD (N := n_right_atoms) (t := t_right_atoms) F sc_right_atoms len_right_atoms (fun cdv A outer s H E hr tk hp => ?_) r_right_atoms
  have nd := sc_right_atoms.nd
  have hu := hr.units
  have hu5 := room5 hr
  have hu1 := L2.hu_of hr
  exact (dss_cons (ds_set (i := 1) nd de_dkM)
    (dss_cons (ds_for hp rfl (di_seq (de_var 0)) (dg_tup rfl (dgs_cons (dg_name (i := 2) nd) gm_name (dgs_cons (dg_name (i := 3) nd) gm_name dgs_nil gm_nil) (gm_cons gm_name gm_nil))) (dss_cons (ds_if (DW.dt (dw_or (dt_not (dt_tru (de_calC c_is_name (hr.mono (by decide)) tk (da_cons (de_var 2) da_nil)) (fun _ => rfl))) (dw_or1 (dt_not (dt_chain (dop_le hu) (dop_le hu) de_int (de_callB dc_len (by rfl) B.len_ (by decide +kernel) (da_cons (de_var 3) da_nil)) (de_glob (v := .int 4) (by rfl) T.PLACE_LIMIT_x.choose_spec ⟨_, rfl⟩ (fun _ => .int _))))))) (dss_one (ds_ret de_bl)) dss_nil)
    (dss_cons (ds_if (dt_not (dt_tru (de_callB (dc_all rfl) (by rfl) B.all_ (by decide +kernel) (da_cons (de_lc finD_at rfl nd (vs := [4]) (di_seq (de_var 3)) (blkOk_by (own := [("variable", 4)]) (N := n_right_atoms) (sc := defScope s_right_atoms) (by decide +kernel)) (fun _ _ _ _ _ => (dg_name (i := 4) nd)) (by decide) (fun _ _ _ _ _ => dts_nil) (fun _ _ _ _ _ => (de_calC c_is_name (hr.mono (by decide)) takes0' (da_cons (de_var 4) da_nil)))) da_nil)) (fun _ => rfl))) (dss_one (ds_ret de_bl)) dss_nil)
    (dss_cons (ds_if (dt_cmp (dop_ne hu) (de_get2 hu1 (de_var 1) (de_var 2) (de_callB dc_len (by rfl) B.len_ (by decide +kernel) (da_cons (de_var 3) da_nil)) ⟨rfl, rfl, rfl, rfl⟩) (de_callB dc_len (by rfl) B.len_ (by decide +kernel) (da_cons (de_var 3) da_nil)) (nomark _)) (dss_one (ds_ret de_bl)) dss_nil)
    (dss_one (ds_putK hu1 (de_var 1) (de_var 2) (de_callB dc_len (by rfl) B.len_ (by decide +kernel) (da_cons (de_var 3) da_nil))))))))
    (dss_one (ds_ret (de_cmp (dop_gt hu) (de_callB dc_len (by rfl) B.len_ (by decide +kernel) (da_cons (de_var 0) da_nil)) de_int (nomark _))))))
theorem ok_right_atoms {f : Addr} {fd : FuncData} (F : Fun K "right_atoms" "right_atoms" s_right_atoms f fd) (b : Binds K fd p_right_atoms []) (g : mg "right_atoms" = some (.ref f)) (B : Blt mg) (T : Tops K mg) (Z : Errs K mg C_PatternError C_TooLarge) (c_is_name : Cal P w K mg base 1 "is_name" p_is_name sp_is_name) : Cal P w K mg base 2 "right_atoms" p_right_atoms sp_right_atoms :=
  ⟨f, fd, fn_right_atoms F b g B T Z c_is_name, F.kp, b, g⟩
theorem sc_right_tree : FnScope n_right_tree p_right_tree (defScope s_right_tree) := ⟨rfl, rfl, rfl, by decide +kernel, rfl, by decide +kernel, by decide +kernel⟩
theorem fn_right_tree {f : Addr} {fd : FuncData} (F : Fun K "right_tree" "right_tree" s_right_tree f fd) (b : Binds K fd p_right_tree []) (g : mg "right_tree" = some (.ref f)) (B : Blt mg) (T : Tops K mg) (Z : Errs K mg C_PatternError C_TooLarge) (c_ascend : Cal P w K mg base 1 "ascend" p_ascend sp_ascend) : DFn P w K mg base 2 f fd p_right_tree sp_right_tree := by
  refine okD (N := n_right_tree) (t := t_right_tree) F sc_right_tree len_right_tree (fun cdv A outer s H E hr tk hp => ?_) r_right_tree
  have nd := sc_right_tree.nd
  have hu := hr.units
  have hu5 := room5 hr
  have hu1 := L2.hu_of hr
  exact (dss_cons (ds_for hp rfl (di_range1 B.range_ (da_cons (de_callB dc_len (by rfl) B.len_ (by decide +kernel) (da_cons (de_var 0) da_nil)) da_nil)) (dg_name (i := 1) nd) (dss_cons (ds_asg (de_ix (de_var 0) (de_var 1) (fun _ _ => rfl)) (dg_tup rfl (dgs_cons (dg_name (i := 2) nd) gm_name (dgs_cons (dg_name (i := 3) nd) gm_name dgs_nil gm_nil) (gm_cons gm_name gm_nil))))
    (dss_cons (ds_if (DW.dt (dw_or (dt_cmp (dop_eq hu) (de_callB dc_len (by rfl) B.len_ (by decide +kernel) (da_cons (de_var 2) da_nil)) de_int (nomark _)) (dw_or1 (dt_not (dt_tru (de_calC c_ascend (hr.mono (by decide)) tk (da_cons (de_var 2) da_nil)) (fun _ => rfl)))))) (dss_one (ds_ret de_bl)) dss_nil)
    (dss_one (ds_if (DW.dt (dw_or (DW.dt (dw_and (dt_cmp (dop_eq hu) (de_var 1) de_int (nomark _)) (dw_and1 (dt_cmp (dop_ne hu) (de_var 3) (de_un dun_neg de_int) (nomark _))))) (dw_or1 (DW.dt (dw_and (dt_cmp (dop_gt hu) (de_var 1) de_int (nomark _)) (dw_and1 (dt_not (dt_chain (dop_le hu) (dop_lt hu) de_int (de_var 3) (de_var 1))))))))) (dss_one (ds_ret de_bl)) dss_nil)))))
    (dss_one (ds_ret (de_cmp (dop_gt hu) (de_callB dc_len (by rfl) B.len_ (by decide +kernel) (da_cons (de_var 0) da_nil)) de_int (nomark _)))))
theorem ok_right_tree {f : Addr} {fd : FuncData} (F : Fun K "right_tree" "right_tree" s_right_tree f fd) (b : Binds K fd p_right_tree []) (g : mg "right_tree" = some (.ref f)) (B : Blt mg) (T : Tops K mg) (Z : Errs K mg C_PatternError C_TooLarge) (c_ascend : Cal P w K mg base 1 "ascend" p_ascend sp_ascend) : Cal P w K mg base 2 "right_tree" p_right_tree sp_right_tree :=
  ⟨f, fd, fn_right_tree F b g B T Z c_ascend, F.kp, b, g⟩
theorem sc_law_signed : FnScope n_law_signed p_law_signed (defScope s_law_signed) := ⟨rfl, rfl, rfl, by decide +kernel, rfl, by decide +kernel, by decide +kernel⟩
theorem fn_law_signed {f : Addr} {fd : FuncData} (F : Fun K "_law_signed" "_law_signed" s_law_signed f fd) (b : Binds K fd p_law_signed []) (g : mg "_law_signed" = some (.ref f)) (B : Blt mg) (T : Tops K mg) (Z : Errs K mg C_PatternError C_TooLarge) (c__law_take : Cal P w K mg base 1 "_law_take" p_law_take sp_law_take) : DFn P w K mg base 2 f fd p_law_signed sp_law_signed := by
  refine okD (N := n_law_signed) (t := t_law_signed) F sc_law_signed len_law_signed (fun cdv A outer s H E hr tk hp => ?_) r_law_signed
  have nd := sc_law_signed.nd
  have hu := hr.units
  have hu5 := room5 hr
  have hu1 := L2.hu_of hr
  exact (dss_one (ds_ret (de_op dop_sub (de_calC c__law_take (hr.mono (by decide)) tk (da_cons (de_var 0) (da_cons (de_op dop_add (de_op dop_mul de_int (de_var 1)) de_int) da_nil))) (de_var 1))))
theorem ok_law_signed {f : Addr} {fd : FuncData} (F : Fun K "_law_signed" "_law_signed" s_law_signed f fd) (b : Binds K fd p_law_signed []) (g : mg "_law_signed" = some (.ref f)) (B : Blt mg) (T : Tops K mg) (Z : Errs K mg C_PatternError C_TooLarge) (c__law_take : Cal P w K mg base 1 "_law_take" p_law_take sp_law_take) : Cal P w K mg base 2 "_law_signed" p_law_signed sp_law_signed :=
  ⟨f, fd, fn_law_signed F b g B T Z c__law_take, F.kp, b, g⟩
theorem sc_law_rows : FnScope n_law_rows p_law_rows (defScope s_law_rows) := ⟨rfl, rfl, rfl, by decide +kernel, rfl, by decide +kernel, by decide +kernel⟩
theorem fn_law_rows {f : Addr} {fd : FuncData} (F : Fun K "_law_rows" "_law_rows" s_law_rows f fd) (b : Binds K fd p_law_rows []) (g : mg "_law_rows" = some (.ref f)) (B : Blt mg) (T : Tops K mg) (Z : Errs K mg C_PatternError C_TooLarge) (c__law_take : Cal P w K mg base 1 "_law_take" p_law_take sp_law_take) : DFn P w K mg base 2 f fd p_law_rows sp_law_rows := by
  refine okD (N := n_law_rows) (t := t_law_rows) F sc_law_rows len_law_rows (fun cdv A outer s H E hr tk hp => ?_) r_law_rows
  have nd := sc_law_rows.nd
  have hu := hr.units
  have hu5 := room5 hr
  have hu1 := L2.hu_of hr
  exact (dss_cons (ds_set (i := 4) nd (de_lstM da_nil))
    (dss_cons (ds_for hp rfl (di_range1 B.range_ (da_cons (de_calC c__law_take (hr.mono (by decide)) tk (da_cons (de_var 0) (da_cons (de_op dop_add (de_var 2) de_int) da_nil))) da_nil)) (dg_name (i := 5) nd) (dss_cons (ds_set (i := 6) nd (de_callTy dc_tuple (by rfl) B.tuple_ (by decide +kernel) (da_cons (de_lc finD_at rfl nd (vs := [7]) (di_range1 B.range_ (da_cons (de_var 1) da_nil)) (blkOk_by (own := [("j", 7)]) (N := n_law_rows) (sc := defScope s_law_rows) (by decide +kernel)) (fun _ _ _ _ _ => (dg_name (i := 7) nd)) (by decide) (fun _ _ _ _ _ => dts_nil) (fun _ _ _ _ _ => (de_calC c__law_take (hr.mono (by decide)) takes0' (da_cons (de_var 0) (da_cons (de_var 3) da_nil))))) da_nil)))
    (dss_one (ds_if (dt_cmp (dop_notin hu5) (de_var 6) (de_var 4) (by with_unfolding_all rfl)) (dss_one (ds_expr (de_bm ty_lst PySem.F.plainAttrs_list PySem.F.slot_list_append PySem.F.type_list_append dm_append (de_var 4) (da_cons (de_var 6) da_nil)))) dss_nil))))
    (dss_one (ds_ret (de_callTy dc_tuple (by rfl) B.tuple_ (by decide +kernel) (da_cons (de_callB (dc_sorted hu) (by rfl) B.sorted_ (by decide +kernel) (da_cons (de_var 4) da_nil)) da_nil))))))
theorem ok_law_rows {f : Addr} {fd : FuncData} (F : Fun K "_law_rows" "_law_rows" s_law_rows f fd) (b : Binds K fd p_law_rows []) (g : mg "_law_rows" = some (.ref f)) (B : Blt mg) (T : Tops K mg) (Z : Errs K mg C_PatternError C_TooLarge) (c__law_take : Cal P w K mg base 1 "_law_take" p_law_take sp_law_take) : Cal P w K mg base 2 "_law_rows" p_law_rows sp_law_rows :=
  ⟨f, fd, fn_law_rows F b g B T Z c__law_take, F.kp, b, g⟩
theorem sc_law_pattern : FnScope n_law_pattern p_law_pattern (defScope s_law_pattern) := ⟨rfl, rfl, rfl, by decide +kernel, rfl, by decide +kernel, by decide +kernel⟩
theorem fn_law_pattern {f : Addr} {fd : FuncData} (F : Fun K "_law_pattern" "_law_pattern" s_law_pattern f fd) (b : Binds K fd p_law_pattern []) (g : mg "_law_pattern" = some (.ref f)) (B : Blt mg) (T : Tops K mg) (Z : Errs K mg C_PatternError C_TooLarge) (c__law_take : Cal P w K mg base 1 "_law_take" p_law_take sp_law_take) (c__law_variables : Cal P w K mg base 1 "_law_variables" p_law_variables sp_law_variables) : DFn P w K mg base 2 f fd p_law_pattern sp_law_pattern := by
  refine okD (N := n_law_pattern) (t := t_law_pattern) F sc_law_pattern len_law_pattern (fun cdv A outer s H E hr tk hp => ?_) r_law_pattern
  have nd := sc_law_pattern.nd
  have hu := hr.units
  have hu5 := room5 hr
  have hu1 := L2.hu_of hr
  exact (dss_cons (ds_set (i := 4) nd (de_slice (de_lst (da_cons de_str (da_cons de_str (da_cons de_str (da_cons de_str (da_cons de_str (da_cons de_str da_nil))))))) do_none (do_some (de_op dop_add de_int (de_calC c__law_take (hr.mono (by decide)) tk (da_cons (de_var 0) (da_cons (de_var 3) da_nil)))))))
    (dss_cons (ds_set (i := 5) nd (de_lstM da_nil))
    (dss_cons (ds_for hp rfl (di_range1 B.range_ (da_cons (de_op dop_add de_int (de_calC c__law_take (hr.mono (by decide)) tk (da_cons (de_var 0) (da_cons (de_var 2) da_nil)))) da_nil)) (dg_name (i := 6) nd) (dss_cons (ds_set (i := 7) nd (de_ix (de_var 1) (de_calC c__law_take (hr.mono (by decide)) tk (da_cons (de_var 0) (da_cons (de_callB dc_len (by rfl) B.len_ (by decide +kernel) (da_cons (de_var 1) da_nil)) da_nil))) (fun _ _ => rfl)))
    (dss_one (ds_expr (de_bm ty_lst PySem.F.plainAttrs_list PySem.F.slot_list_append PySem.F.type_list_append dm_append (de_var 5) (da_cons (de_tup (da_cons (de_ix (de_var 7) de_int (fun _ _ => rfl)) (da_cons (de_callTy dc_tuple (by rfl) B.tuple_ (by decide +kernel) (da_cons (de_lc finD_at rfl nd (vs := [12]) (di_range1 B.range_ (da_cons (de_ix (de_var 7) de_int (fun _ _ => rfl)) da_nil)) (blkOk_by (own := [("j", 12)]) (N := n_law_pattern) (sc := defScope s_law_pattern) (by decide +kernel)) (fun _ _ _ _ _ => (dg_name (i := 12) nd)) (by decide) (fun _ _ _ _ _ => dts_nil) (fun _ _ _ _ _ => (de_ix (de_var 4) (de_calC c__law_take (hr.mono (by decide)) takes0' (da_cons (de_var 0) (da_cons (de_callB dc_len (by rfl) B.len_ (by decide +kernel) (da_cons (de_var 4) da_nil)) da_nil))) (fun _ _ => rfl)))) da_nil)) da_nil))) da_nil))))))
    (dss_cons (ds_set (i := 8) nd (de_tup (da_cons (de_tup da_nil) (da_cons (de_callTy dc_tuple (by rfl) B.tuple_ (by decide +kernel) (da_cons (de_var 5) da_nil)) da_nil))))
    (dss_cons (ds_set (i := 9) nd (de_calC c__law_variables (hr.mono (by decide)) tk (da_cons (de_var 8) da_nil)))
    (dss_cons (ds_set (i := 10) nd (de_lstM da_nil))
    (dss_cons (ds_for hp rfl (di_range1 B.range_ (da_cons (de_callB dc_len (by rfl) B.len_ (by decide +kernel) (da_cons (de_var 9) da_nil)) da_nil)) (dg_name (i := 6) nd) (dss_cons (ds_set (i := 11) nd (de_ix (de_var 9) (de_calC c__law_take (hr.mono (by decide)) tk (da_cons (de_var 0) (da_cons (de_callB dc_len (by rfl) B.len_ (by decide +kernel) (da_cons (de_var 9) da_nil)) da_nil))) (fun _ _ => rfl)))
    (dss_one (ds_if (DW.dt (dw_and (dt_cmp (dop_notin hu5) (de_var 11) (de_var 10) (by with_unfolding_all rfl)) (dw_and1 (dt_cmp (dop_gt hu) (de_calC c__law_take (hr.mono (by decide)) tk (da_cons (de_var 0) (da_cons de_int da_nil))) de_int (nomark _))))) (dss_one (ds_expr (de_bm ty_lst PySem.F.plainAttrs_list PySem.F.slot_list_append PySem.F.type_list_append dm_append (de_var 10) (da_cons (de_var 11) da_nil)))) dss_nil))))
    (dss_one (ds_ret (de_tup (da_cons (de_callTy dc_tuple (by rfl) B.tuple_ (by decide +kernel) (da_cons (de_var 10) da_nil)) (da_cons (de_callTy dc_tuple (by rfl) B.tuple_ (by decide +kernel) (da_cons (de_var 5) da_nil)) da_nil))))))))))))
theorem ok_law_pattern {f : Addr} {fd : FuncData} (F : Fun K "_law_pattern" "_law_pattern" s_law_pattern f fd) (b : Binds K fd p_law_pattern []) (g : mg "_law_pattern" = some (.ref f)) (B : Blt mg) (T : Tops K mg) (Z : Errs K mg C_PatternError C_TooLarge) (c__law_take : Cal P w K mg base 1 "_law_take" p_law_take sp_law_take) (c__law_variables : Cal P w K mg base 1 "_law_variables" p_law_variables sp_law_variables) : Cal P w K mg base 2 "_law_pattern" p_law_pattern sp_law_pattern :=
  ⟨f, fd, fn_law_pattern F b g B T Z c__law_take c__law_variables, F.kp, b, g⟩
theorem sc_law_shuffled : FnScope n_law_shuffled p_law_shuffled (defScope s_law_shuffled) := ⟨rfl, rfl, rfl, by decide +kernel, rfl, by decide +kernel, by decide +kernel⟩
theorem fn_law_shuffled {f : Addr} {fd : FuncData} (F : Fun K "_law_shuffled" "_law_shuffled" s_law_shuffled f fd) (b : Binds K fd p_law_shuffled []) (g : mg "_law_shuffled" = some (.ref f)) (B : Blt mg) (T : Tops K mg) (Z : Errs K mg C_PatternError C_TooLarge) (c__law_take : Cal P w K mg base 1 "_law_take" p_law_take sp_law_take) : DFn P w K mg base 2 f fd p_law_shuffled sp_law_shuffled := by
  refine okD (N := n_law_shuffled) (t := t_law_shuffled) F sc_law_shuffled len_law_shuffled (fun cdv A outer s H E hr tk hp => ?_) r_law_shuffled
  have nd := sc_law_shuffled.nd
  have hu := hr.units
  have hu5 := room5 hr
  have hu1 := L2.hu_of hr
  exact (dss_cons (ds_set (i := 2) nd (de_callTy dc_list (by rfl) B.list_ (by decide +kernel) (da_cons (de_var 1) da_nil)))
    (dss_cons (ds_set (i := 3) nd (de_lstM da_nil))
    (dss_cons (ds_for hp rfl (di_range1 B.range_ (da_cons (de_callB dc_len (by rfl) B.len_ (by decide +kernel) (da_cons (de_var 1) da_nil)) da_nil)) (dg_name (i := 4) nd) (dss_cons (ds_set (i := 5) nd (de_calC c__law_take (hr.mono (by decide)) tk (da_cons (de_var 0) (da_cons (de_callB dc_len (by rfl) B.len_ (by decide +kernel) (da_cons (de_var 2) da_nil)) da_nil))))
    (dss_cons (ds_expr (de_bm ty_lst PySem.F.plainAttrs_list PySem.F.slot_list_append PySem.F.type_list_append dm_append (de_var 3) (da_cons (de_ix (de_var 2) (de_var 5) (fun _ _ => rfl)) da_nil)))
    (dss_one (ds_set (i := 2) nd (de_op dop_add (de_slice (de_var 2) do_none (do_some (de_var 5))) (de_slice (de_var 2) (do_some (de_op dop_add (de_var 5) de_int)) do_none)))))))
    (dss_one (ds_ret (de_callTy dc_tuple (by rfl) B.tuple_ (by decide +kernel) (da_cons (de_var 3) da_nil)))))))
theorem ok_law_shuffled {f : Addr} {fd : FuncData} (F : Fun K "_law_shuffled" "_law_shuffled" s_law_shuffled f fd) (b : Binds K fd p_law_shuffled []) (g : mg "_law_shuffled" = some (.ref f)) (B : Blt mg) (T : Tops K mg) (Z : Errs K mg C_PatternError C_TooLarge) (c__law_take : Cal P w K mg base 1 "_law_take" p_law_take sp_law_take) : Cal P w K mg base 2 "_law_shuffled" p_law_shuffled sp_law_shuffled :=
  ⟨f, fd, fn_law_shuffled F b g B T Z c__law_take, F.kp, b, g⟩
theorem sc_law_right_parts : FnScope n_law_right_parts p_law_right_parts (defScope s_law_right_parts) := ⟨rfl, rfl, rfl, by decide +kernel, rfl, by decide +kernel, by decide +kernel⟩
theorem fn_law_right_parts {f : Addr} {fd : FuncData} (F : Fun K "_law_right_parts" "_law_right_parts" s_law_right_parts f fd) (b : Binds K fd p_law_right_parts []) (g : mg "_law_right_parts" = some (.ref f)) (B : Blt mg) (T : Tops K mg) (Z : Errs K mg C_PatternError C_TooLarge) (c__law_variables : Cal P w K mg base 1 "_law_variables" p_law_variables sp_law_variables) : DFn P w K mg base 2 f fd p_law_right_parts sp_law_right_parts := by
  refine okD (N := n_law_right_parts) (t := t_law_right_parts) F sc_law_right_parts len_law_right_parts (fun cdv A outer s H E hr tk hp => ?_) r_law_right_parts
  have nd := sc_law_right_parts.nd
  have hu := hr.units
  have hu5 := room5 hr
  have hu1 := L2.hu_of hr
  exact (dss_cons (ds_set (i := 2) nd (de_calC c__law_variables (hr.mono (by decide)) tk (da_cons (de_var 0) da_nil)))
    (dss_cons (ds_if (dt_cmp (dop_eq hu) (de_callB dc_len (by rfl) B.len_ (by decide +kernel) (da_cons (de_var 1) da_nil)) de_int (nomark _)) (dss_one (ds_ret de_bl)) dss_nil)
    (dss_cons (ds_for hp rfl (di_range1 B.range_ (da_cons (de_callB dc_len (by rfl) B.len_ (by decide +kernel) (da_cons (de_var 1) da_nil)) da_nil)) (dg_name (i := 3) nd) (dss_cons (ds_asg (de_ix (de_var 1) (de_var 3) (fun _ _ => rfl)) (dg_tup rfl (dgs_cons (dg_name (i := 4) nd) gm_name (dgs_cons (dg_name (i := 5) nd) gm_name dgs_nil gm_nil) (gm_cons gm_name gm_nil))))
    (dss_cons (ds_if (DW.dt (dw_or (dt_cmp (dop_eq hu) (de_callB dc_len (by rfl) B.len_ (by decide +kernel) (da_cons (de_var 4) da_nil)) de_int (nomark _)) (dw_or1 (dt_cmp (dop_gt hu) (de_callB dc_len (by rfl) B.len_ (by decide +kernel) (da_cons (de_lc finD_at rfl nd (vs := [10]) (di_range2 B.range_ (da_cons de_int (da_cons (de_callB dc_len (by rfl) B.len_ (by decide +kernel) (da_cons (de_var 4) da_nil)) da_nil))) (blkOk_by (own := [("j", 10)]) (N := n_law_right_parts) (sc := defScope s_law_right_parts) (by decide +kernel)) (fun _ _ _ _ _ => (dg_name (i := 10) nd)) (by decide) (fun _ _ _ _ _ => (dts_one (dt_cmp (dop_ge hu) (de_ix (de_var 4) (de_op dop_sub (de_var 10) de_int) (fun _ _ => rfl)) (de_ix (de_var 4) (de_var 10) (fun _ _ => rfl)) (nomark _)))) (fun _ _ _ _ _ => (de_var 10))) da_nil)) de_int (nomark _))))) (dss_one (ds_ret de_bl)) dss_nil)
    (dss_one (ds_if (DW.dt (dw_or (dt_not (dt_tru (de_callB (dc_all rfl) (by rfl) B.all_ (by decide +kernel) (da_cons (de_lc finD_at rfl nd (vs := [8]) (di_seq (de_var 4)) (blkOk_by (own := [("variable", 8)]) (N := n_law_right_parts) (sc := defScope s_law_right_parts) (by decide +kernel)) (fun _ _ _ _ _ => (dg_name (i := 8) nd)) (by decide) (fun _ _ _ _ _ => dts_nil) (fun _ _ _ _ _ => (de_cmp (dop_in hu5) (de_var 8) (de_var 2) (by with_unfolding_all rfl)))) da_nil)) (fun _ => rfl))) (dw_or (dt_cmp (dop_ne hu) (de_var 5) (de_if (dt_cmp (dop_eq hu) (de_var 3) de_int (nomark _)) (de_op dop_sub de_int de_int) (de_var 5)) (nomark _)) (dw_or1 (DW.dt (dw_and (dt_cmp (dop_gt hu) (de_var 3) de_int (nomark _)) (dw_and1 (DW.dt (dw_or (dt_cmp (dop_lt hu) (de_var 5) de_int (nomark _)) (dw_or1 (dt_cmp (dop_ge hu) (de_var 5) (de_var 3) (nomark _)))))))))))) (dss_one (ds_ret de_bl)) dss_nil)))))
    (dss_cons (ds_for hp rfl (di_seq (de_ix (de_var 0) de_int (fun _ _ => rfl))) (dg_tup rfl (dgs_cons (dg_name (i := 6) nd) gm_name (dgs_cons (dg_name (i := 7) nd) gm_name dgs_nil gm_nil) (gm_cons gm_name gm_nil))) (dss_one (ds_if (dt_cmp (dop_eq hu) (de_callB dc_len (by rfl) B.len_ (by decide +kernel) (da_cons (de_lc finD_at rfl nd (vs := [4, 5]) (di_seq (de_var 1)) (blkOk_by (own := [("bag", 4), ("above", 5)]) (N := n_law_right_parts) (sc := defScope s_law_right_parts) (by decide +kernel)) (fun _ _ _ _ _ => (dg_tup rfl (dgs_cons (dg_name (i := 4) nd) gm_name (dgs_cons (dg_name (i := 5) nd) gm_name dgs_nil gm_nil) (gm_cons gm_name gm_nil)))) (by decide) (fun _ _ _ _ _ => (dts_one (dt_tru (de_callB (dc_all rfl) (by rfl) B.all_ (by decide +kernel) (da_cons (de_lc finD_at rfl nd (vs := [8]) (di_seq (de_var 7)) (blkOk_by (own := [("variable", 8)]) (by kernel_rfl)) (fun _ _ _ _ _ => (dg_name (i := 8) nd)) (by decide) (fun _ _ _ _ _ => dts_nil) (fun _ _ _ _ _ => (de_cmp (dop_in hu5) (de_var 8) (de_var 4) (by with_unfolding_all rfl)))) da_nil)) (fun _ => rfl)))) (fun _ _ _ _ _ => de_int)) da_nil)) de_int (nomark _)) (dss_one (ds_ret de_bl)) dss_nil)))
    (dss_cons (ds_for hp rfl (di_seq (de_var 2)) (dg_name (i := 8) nd) (dss_cons (ds_set (i := 9) nd de_int)
    (dss_cons (ds_for hp rfl (di_range1 B.range_ (da_cons (de_callB dc_len (by rfl) B.len_ (by decide +kernel) (da_cons (de_var 1) da_nil)) da_nil)) (dg_name (i := 3) nd) (dss_one (ds_if (DW.dt (dw_and (dt_cmp (dop_in hu5) (de_var 8) (de_ix (de_ix (de_var 1) (de_var 3) (fun _ _ => rfl)) de_int (fun _ _ => rfl)) (by with_unfolding_all rfl)) (dw_and1 (DW.dt (dw_or (dt_cmp (dop_eq hu) (de_var 3) de_int (nomark _)) (dw_or1 (dt_cmp (dop_notin hu5) (de_var 8) (de_ix (de_ix (de_var 1) (de_ix (de_ix (de_var 1) (de_var 3) (fun _ _ => rfl)) de_int (fun _ _ => rfl)) (fun _ _ => rfl)) de_int (fun _ _ => rfl)) (by with_unfolding_all rfl)))))))) (dss_one (ds_set (i := 9) nd (de_op dop_add (de_var 9) de_int))) dss_nil)))
    (dss_one (ds_if (dt_cmp (dop_ne hu) (de_var 9) de_int (nomark _)) (dss_one (ds_ret de_bl)) dss_nil)))))
    (dss_one (ds_ret de_bl)))))))
theorem ok_law_right_parts {f : Addr} {fd : FuncData} (F : Fun K "_law_right_parts" "_law_right_parts" s_law_right_parts f fd) (b : Binds K fd p_law_right_parts []) (g : mg "_law_right_parts" = some (.ref f)) (B : Blt mg) (T : Tops K mg) (Z : Errs K mg C_PatternError C_TooLarge) (c__law_variables : Cal P w K mg base 1 "_law_variables" p_law_variables sp_law_variables) : Cal P w K mg base 2 "_law_right_parts" p_law_right_parts sp_law_right_parts :=
  ⟨f, fd, fn_law_right_parts F b g B T Z c__law_variables, F.kp, b, g⟩
theorem sc_law_hung : FnScope n_law_hung p_law_hung (defScope s_law_hung) := ⟨rfl, rfl, rfl, by decide +kernel, rfl, by decide +kernel, by decide +kernel⟩
theorem fn_law_hung {f : Addr} {fd : FuncData} (F : Fun K "_law_hung" "_law_hung" s_law_hung f fd) (b : Binds K fd p_law_hung []) (g : mg "_law_hung" = some (.ref f)) (B : Blt mg) (T : Tops K mg) (Z : Errs K mg C_PatternError C_TooLarge) (c__law_take : Cal P w K mg base 1 "_law_take" p_law_take sp_law_take) : DFn P w K mg base 2 f fd p_law_hung sp_law_hung := by
  refine okD (N := n_law_hung) (t := t_law_hung) F sc_law_hung len_law_hung (fun cdv A outer s H E hr tk hp => ?_) r_law_hung
  have nd := sc_law_hung.nd
  have hu := hr.units
  have hu5 := room5 hr
  have hu1 := L2.hu_of hr
  exact (dss_cons (ds_set (i := 2) nd (de_lstM da_nil))
    (dss_cons (ds_for hp rfl (di_seq (de_var 1)) (dg_name (i := 3) nd) (dss_cons (ds_set (i := 4) nd (de_lstM da_nil))
    (dss_cons (ds_set (i := 5) nd (de_op dop_sub de_int de_int))
    (dss_cons (ds_for hp rfl (di_range1 B.range_ (da_cons (de_callB dc_len (by rfl) B.len_ (by decide +kernel) (da_cons (de_var 2) da_nil)) da_nil)) (dg_name (i := 6) nd) (dss_cons (ds_set (i := 7) nd (de_callB dc_len (by rfl) B.len_ (by decide +kernel) (da_cons (de_lc finD_at rfl nd (vs := [8]) (di_seq (de_var 3)) (blkOk_by (own := [("variable", 8)]) (N := n_law_hung) (sc := defScope s_law_hung) (by decide +kernel)) (fun _ _ _ _ _ => (dg_name (i := 8) nd)) (by decide) (fun _ _ _ _ _ => (dts_one (dt_cmp (dop_in hu5) (de_var 8) (de_ix (de_ix (de_var 2) (de_var 6) (fun _ _ => rfl)) de_int (fun _ _ => rfl)) (by with_unfolding_all rfl)))) (fun _ _ _ _ _ => (de_var 8))) da_nil)))
    (dss_cons (ds_if (dt_cmp (dop_gt hu) (de_var 7) (de_var 5) (nomark _)) (dss_cons (ds_set (i := 4) nd (de_lstM da_nil))
    (dss_one (ds_set (i := 5) nd (de_var 7)))) dss_nil)
    (dss_one (ds_if (dt_cmp (dop_eq hu) (de_var 7) (de_var 5) (nomark _)) (dss_one (ds_expr (de_bm ty_lst PySem.F.plainAttrs_list PySem.F.slot_list_append PySem.F.type_list_append dm_append (de_var 4) (da_cons (de_var 6) da_nil)))) dss_nil)))))
    (dss_one (ds_expr (de_bm ty_lst PySem.F.plainAttrs_list PySem.F.slot_list_append PySem.F.type_list_append dm_append (de_var 2) (da_cons (de_tup (da_cons (de_var 3) (da_cons (de_if (dt_cmp (dop_gt hu) (de_callB dc_len (by rfl) B.len_ (by decide +kernel) (da_cons (de_var 4) da_nil)) de_int (nomark _)) (de_ix (de_var 4) (de_calC c__law_take (hr.mono (by decide)) tk (da_cons (de_var 0) (da_cons (de_callB dc_len (by rfl) B.len_ (by decide +kernel) (da_cons (de_var 4) da_nil)) da_nil))) (fun _ _ => rfl)) (de_op dop_sub de_int de_int)) da_nil))) da_nil))))))))
    (dss_one (ds_ret (de_callTy dc_tuple (by rfl) B.tuple_ (by decide +kernel) (da_cons (de_var 2) da_nil))))))
theorem ok_law_hung {f : Addr} {fd : FuncData} (F : Fun K "_law_hung" "_law_hung" s_law_hung f fd) (b : Binds K fd p_law_hung []) (g : mg "_law_hung" = some (.ref f)) (B : Blt mg) (T : Tops K mg) (Z : Errs K mg C_PatternError C_TooLarge) (c__law_take : Cal P w K mg base 1 "_law_take" p_law_take sp_law_take) : Cal P w K mg base 2 "_law_hung" p_law_hung sp_law_hung :=
  ⟨f, fd, fn_law_hung F b g B T Z c__law_take, F.kp, b, g⟩
theorem sc_check_pattern : FnScope n_check_pattern p_check_pattern (defScope s_check_pattern) := ⟨rfl, rfl, rfl, by decide +kernel, rfl, by decide +kernel, by decide +kernel⟩
theorem fn_check_pattern {f : Addr} {fd : FuncData} (F : Fun K "check_pattern" "check_pattern" s_check_pattern f fd) (b : Binds K fd p_check_pattern []) (g : mg "check_pattern" = some (.ref f)) (B : Blt mg) (T : Tops K mg) (Z : Errs K mg C_PatternError C_TooLarge) (c_all_variables : Cal P w K mg base 1 "all_variables" p_all_variables sp_all_variables) (c_right_atoms : Cal P w K mg base 2 "right_atoms" p_right_atoms sp_right_atoms) : DFn P w K mg base 3 f fd p_check_pattern (sp_check_pattern C_PatternError C_TooLarge) := by
  refine okD (N := n_check_pattern) (t := t_check_pattern C_PatternError C_TooLarge) F sc_check_pattern len_check_pattern (fun cdv A outer s H E hr tk hp => ?_) r_check_pattern
  have nd := sc_check_pattern.nd
  have hu := hr.units
  have hu5 := room5 hr
  have hu1 := L2.hu_of hr
  exact (dss_cons (ds_asg (de_var 0) (dg_tup rfl (dgs_cons (dg_name (i := 1) nd) gm_name (dgs_cons (dg_name (i := 2) nd) gm_name dgs_nil gm_nil) (gm_cons gm_name gm_nil))))
    (dss_cons (ds_set (i := 3) nd (de_calC c_all_variables (hr.mono (by decide)) tk (da_cons (de_var 0) da_nil)))
    (dss_cons (ds_set (i := 4) nd (de_and (de_calC c_right_atoms (hr.mono (by decide)) tk (da_cons (de_var 2) da_nil)) (de_one (de_callB (dc_all rfl) (by rfl) B.all_ (by decide +kernel) (da_cons (de_lc finD_at rfl nd (vs := [5]) (di_seq (de_var 1)) (blkOk_by (own := [("variable", 5)]) (N := n_check_pattern) (sc := defScope s_check_pattern) (by decide +kernel)) (fun _ _ _ _ _ => (dg_name (i := 5) nd)) (by decide) (fun _ _ _ _ _ => dts_nil) (fun _ _ _ _ _ => (de_cmp (dop_in hu5) (de_var 5) (de_var 3) (by with_unfolding_all rfl)))) da_nil)))))
    (dss_cons (ds_if (DW.dt (dw_or (dt_not (dt_tru (de_var 4) (fun _ => rfl))) (dw_or1 (dt_tru (de_callB (dc_any rfl) (by rfl) B.any_ (by decide +kernel) (da_cons (de_lc finD_at rfl nd (vs := [6]) (di_range1 B.range_ (da_cons (de_callB dc_len (by rfl) B.len_ (by decide +kernel) (da_cons (de_var 1) da_nil)) da_nil)) (blkOk_by (own := [("k", 6)]) (N := n_check_pattern) (sc := defScope s_check_pattern) (by decide +kernel)) (fun _ _ _ _ _ => (dg_name (i := 6) nd)) (by decide) (fun _ _ _ _ _ => dts_nil) (fun _ _ _ _ _ => (de_cmp (dop_in hu5) (de_ix (de_var 1) (de_var 6) (fun _ _ => rfl)) (de_slice (de_var 1) do_none (do_some (de_var 6))) (by with_unfolding_all rfl)))) da_nil)) (fun _ => rfl))))) (dss_one (ds_raise Z.e_PatternError rfl tk)) dss_nil)
    (dss_one (ds_if (DW.dt (dw_or (dt_cmp (dop_gt hu) (de_callB dc_len (by rfl) B.len_ (by decide +kernel) (da_cons (de_var 2) da_nil)) (de_glob (v := .int 8) (by rfl) T.ATOM_LIMIT_x.choose_spec ⟨_, rfl⟩ (fun _ => .int _)) (nomark _)) (dw_or1 (dt_cmp (dop_gt hu) (de_callB dc_len (by rfl) B.len_ (by decide +kernel) (da_cons (de_var 3) da_nil)) (de_glob (v := .int 8) (by rfl) T.VARIABLE_LIMIT_x.choose_spec ⟨_, rfl⟩ (fun _ => .int _)) (nomark _))))) (dss_one (ds_raise Z.e_TooLarge rfl tk)) dss_nil))))))
theorem ok_check_pattern {f : Addr} {fd : FuncData} (F : Fun K "check_pattern" "check_pattern" s_check_pattern f fd) (b : Binds K fd p_check_pattern []) (g : mg "check_pattern" = some (.ref f)) (B : Blt mg) (T : Tops K mg) (Z : Errs K mg C_PatternError C_TooLarge) (c_all_variables : Cal P w K mg base 1 "all_variables" p_all_variables sp_all_variables) (c_right_atoms : Cal P w K mg base 2 "right_atoms" p_right_atoms sp_right_atoms) : Cal P w K mg base 3 "check_pattern" p_check_pattern (sp_check_pattern C_PatternError C_TooLarge) :=
  ⟨f, fd, fn_check_pattern F b g B T Z c_all_variables c_right_atoms, F.kp, b, g⟩
theorem sc_right_parts : FnScope n_right_parts p_right_parts (defScope s_right_parts) := ⟨rfl, rfl, rfl, by decide +kernel, rfl, by decide +kernel, by decide +kernel⟩
theorem fn_right_parts {f : Addr} {fd : FuncData} (F : Fun K "right_parts" "right_parts" s_right_parts f fd) (b : Binds K fd p_right_parts []) (g : mg "right_parts" = some (.ref f)) (B : Blt mg) (T : Tops K mg) (Z : Errs K mg C_PatternError C_TooLarge) (c_right_tree : Cal P w K mg base 2 "right_tree" p_right_tree sp_right_tree) (c_all_variables : Cal P w K mg base 1 "all_variables" p_all_variables sp_all_variables) : DFn P w K mg base 3 f fd p_right_parts sp_right_parts := by
  refine okD (N := n_right_parts) (t := t_right_parts) F sc_right_parts len_right_parts (fun cdv A outer s H E hr tk hp => ?_) r_right_parts
  have nd := sc_right_parts.nd
  have hu := hr.units
  have hu5 := room5 hr
  have hu1 := L2.hu_of hr
  exact (dss_cons (ds_if (dt_not (dt_tru (de_calC c_right_tree (hr.mono (by decide)) tk (da_cons (de_var 1) da_nil)) (fun _ => rfl))) (dss_one (ds_ret de_bl)) dss_nil)
    (dss_cons (ds_set (i := 2) nd (de_calC c_all_variables (hr.mono (by decide)) tk (da_cons (de_var 0) da_nil)))
    (dss_cons (ds_set (i := 3) nd (de_lc finD_at rfl nd (vs := [8, 9]) (di_seq (de_var 1)) (blkOk_by (own := [("bag", 8), ("above", 9)]) (N := n_right_parts) (sc := defScope s_right_parts) (by decide +kernel)) (fun _ _ _ _ _ => (dg_tup rfl (dgs_cons (dg_name (i := 8) nd) gm_name (dgs_cons (dg_name (i := 9) nd) gm_name dgs_nil gm_nil) (gm_cons gm_name gm_nil)))) (by decide) (fun _ _ _ _ _ => dts_nil) (fun _ _ _ _ _ => (de_var 8))))
    (dss_cons (ds_if (dt_not (dt_tru (de_callB (dc_all rfl) (by rfl) B.all_ (by decide +kernel) (da_cons (de_lc2 finD_at rfl nd (vs := [8, 6]) (vs1 := [6]) (di_seq (de_var 3)) (blkOk_by (own := [("bag", 8), ("variable", 6)]) (N := n_right_parts) (sc := defScope s_right_parts) (by decide +kernel)) (by decide) (fun _ _ _ _ _ => (dg_name (i := 8) nd)) (by decide) (fun _ _ _ _ _ => dts_nil) (fun _ _ _ _ _ => (di_seq (de_var 8))) (fun _ _ _ _ _ => (dg_name (i := 6) nd)) (by decide) (fun _ _ _ _ _ => dts_nil) (fun _ _ _ _ _ => (de_cmp (dop_in hu5) (de_var 6) (de_var 2) (by with_unfolding_all rfl)))) da_nil)) (fun _ => rfl))) (dss_one (ds_ret de_bl)) dss_nil)
    (dss_cons (ds_for hp rfl (di_seq (de_ix (de_var 0) de_int (fun _ _ => rfl))) (dg_tup rfl (dgs_cons (dg_name (i := 4) nd) gm_name (dgs_cons (dg_name (i := 5) nd) gm_name dgs_nil gm_nil) (gm_cons gm_name gm_nil))) (dss_one (ds_if (dt_not (dt_tru (de_callB (dc_any rfl) (by rfl) B.any_ (by decide +kernel) (da_cons (de_lc finD_at rfl nd (vs := [8]) (di_seq (de_var 3)) (blkOk_by (own := [("bag", 8)]) (N := n_right_parts) (sc := defScope s_right_parts) (by decide +kernel)) (fun _ _ _ _ _ => (dg_name (i := 8) nd)) (by decide) (fun _ _ _ _ _ => dts_nil) (fun _ _ _ _ _ => (de_callB (dc_all rfl) (by rfl) B.all_ (by decide +kernel) (da_cons (de_lc finD_at rfl nd (vs := [6]) (di_seq (de_var 5)) (blkOk_by (own := [("variable", 6)]) (by kernel_rfl)) (fun _ _ _ _ _ => (dg_name (i := 6) nd)) (by decide) (fun _ _ _ _ _ => dts_nil) (fun _ _ _ _ _ => (de_cmp (dop_in hu5) (de_var 6) (de_var 8) (by with_unfolding_all rfl)))) da_nil)))) da_nil)) (fun _ => rfl))) (dss_one (ds_ret de_bl)) dss_nil)))
    (dss_cons (ds_for hp rfl (di_seq (de_var 2)) (dg_name (i := 6) nd) (dss_cons (ds_setLc (i := 7) finD_at rfl nd (vs := [10]) (di_range1 B.range_ (da_cons (de_callB dc_len (by rfl) B.len_ (by decide +kernel) (da_cons (de_var 1) da_nil)) da_nil)) (blkOk_by (own := [("k", 10)]) (N := n_right_parts) (sc := defScope s_right_parts) (by decide +kernel)) (fun _ _ _ _ _ => (dg_name (i := 10) nd)) (by decide) (fun _ _ _ _ _ => (dts_one (DW.dt (dw_and (dt_cmp (dop_in hu5) (de_var 6) (de_ix (de_var 3) (de_var 10) (fun _ _ => rfl)) (by with_unfolding_all rfl)) (dw_and1 (DW.dt (dw_or (dt_cmp (dop_eq hu) (de_var 10) de_int (nomark _)) (dw_or1 (dt_cmp (dop_notin hu5) (de_var 6) (de_ix (de_var 3) (de_ix (de_ix (de_var 1) (de_var 10) (fun _ _ => rfl)) de_int (fun _ _ => rfl)) (fun _ _ => rfl)) (by with_unfolding_all rfl)))))))))) (fun _ _ _ _ _ => (de_var 10)) (sw_true rfl rfl rfl (by decide +kernel)))
    (dss_one (ds_if (dt_cmp (dop_ne hu) (de_callB dc_len (by rfl) B.len_ (by decide +kernel) (da_cons (de_var 7) da_nil)) de_int (nomark _)) (dss_one (ds_ret de_bl)) dss_nil))))
    (dss_one (ds_ret de_bl))))))))
theorem ok_right_parts {f : Addr} {fd : FuncData} (F : Fun K "right_parts" "right_parts" s_right_parts f fd) (b : Binds K fd p_right_parts []) (g : mg "right_parts" = some (.ref f)) (B : Blt mg) (T : Tops K mg) (Z : Errs K mg C_PatternError C_TooLarge) (c_right_tree : Cal P w K mg base 2 "right_tree" p_right_tree sp_right_tree) (c_all_variables : Cal P w K mg base 1 "all_variables" p_all_variables sp_all_variables) : Cal P w K mg base 3 "right_parts" p_right_parts sp_right_parts :=
  ⟨f, fd, fn_right_parts F b g B T Z c_right_tree c_all_variables, F.kp, b, g⟩
theorem sc_law_catalogue : FnScope n_law_catalogue p_law_catalogue (defScope s_law_catalogue) := ⟨rfl, rfl, rfl, by decide +kernel, rfl, by decide +kernel, by decide +kernel⟩
theorem fn_law_catalogue {f : Addr} {fd : FuncData} (F : Fun K "_law_catalogue" "_law_catalogue" s_law_catalogue f fd) (b : Binds K fd p_law_catalogue []) (g : mg "_law_catalogue" = some (.ref f)) (B : Blt mg) (T : Tops K mg) (Z : Errs K mg C_PatternError C_TooLarge) (c__law_take : Cal P w K mg base 1 "_law_take" p_law_take sp_law_take) (c__law_rows : Cal P w K mg base 2 "_law_rows" p_law_rows sp_law_rows) : DFn P w K mg base 3 f fd p_law_catalogue sp_law_catalogue := by
  refine okD (N := n_law_catalogue) (t := t_law_catalogue) F sc_law_catalogue len_law_catalogue (fun cdv A outer s H E hr tk hp => ?_) r_law_catalogue
  have nd := sc_law_catalogue.nd
  have hu := hr.units
  have hu5 := room5 hr
  have hu1 := L2.hu_of hr
  exact (dss_cons (ds_set (i := 4) nd (de_lstM da_nil))
    (dss_cons (ds_for hp rfl (di_range1 B.range_ (da_cons (de_op dop_add de_int (de_calC c__law_take (hr.mono (by decide)) tk (da_cons (de_var 0) (da_cons (de_var 1) da_nil)))) da_nil)) (dg_name (i := 5) nd) (dss_cons (ds_set (i := 6) nd (de_ix (de_tup (da_cons de_int (da_cons de_int (da_cons de_int (da_cons de_int (da_cons de_int (da_cons de_int da_nil))))))) (de_calC c__law_take (hr.mono (by decide)) tk (da_cons (de_var 0) (da_cons de_int da_nil))) (fun _ _ => rfl)))
    (dss_cons (ds_if (DW.dt (dw_and (dt_cmp (dop_gt hu) (de_var 6) de_int (nomark _)) (dw_and1 (dt_cmp (dop_gt hu) (de_var 2) de_int (nomark _))))) (dss_one (ds_set (i := 6) nd de_int)) dss_nil)
    (dss_one (ds_expr (de_bm ty_lst PySem.F.plainAttrs_list PySem.F.slot_list_append PySem.F.type_list_append dm_append (de_var 4) (da_cons (de_tup (da_cons (de_op dop_add (de_ix de_str (de_var 5) (fun _ _ => rfl)) (de_callTy dc_str (by rfl) B.str_ (by decide +kernel) (da_cons (de_var 6) da_nil))) (da_cons (de_var 6) (da_cons (de_calC c__law_rows (hr.mono (by decide)) tk (da_cons (de_var 0) (da_cons (de_var 6) (da_cons (de_var 2) (da_cons (de_var 3) da_nil))))) da_nil)))) da_nil)))))))
    (dss_one (ds_ret (de_callTy dc_tuple (by rfl) B.tuple_ (by decide +kernel) (da_cons (de_var 4) da_nil))))))
theorem ok_law_catalogue {f : Addr} {fd : FuncData} (F : Fun K "_law_catalogue" "_law_catalogue" s_law_catalogue f fd) (b : Binds K fd p_law_catalogue []) (g : mg "_law_catalogue" = some (.ref f)) (B : Blt mg) (T : Tops K mg) (Z : Errs K mg C_PatternError C_TooLarge) (c__law_take : Cal P w K mg base 1 "_law_take" p_law_take sp_law_take) (c__law_rows : Cal P w K mg base 2 "_law_rows" p_law_rows sp_law_rows) : Cal P w K mg base 3 "_law_catalogue" p_law_catalogue sp_law_catalogue :=
  ⟨f, fd, fn_law_catalogue F b g B T Z c__law_take c__law_rows, F.kp, b, g⟩
theorem sc_law_bent : FnScope n_law_bent p_law_bent (defScope s_law_bent) := ⟨rfl, rfl, rfl, by decide +kernel, rfl, by decide +kernel, by decide +kernel⟩
theorem fn_law_bent {f : Addr} {fd : FuncData} (F : Fun K "_law_bent" "_law_bent" s_law_bent f fd) (b : Binds K fd p_law_bent []) (g : mg "_law_bent" = some (.ref f)) (B : Blt mg) (T : Tops K mg) (Z : Errs K mg C_PatternError C_TooLarge) (c__law_take : Cal P w K mg base 1 "_law_take" p_law_take sp_law_take) (c__law_signed : Cal P w K mg base 2 "_law_signed" p_law_signed sp_law_signed) : DFn P w K mg base 3 f fd p_law_bent sp_law_bent := by
  refine okD (N := n_law_bent) (t := t_law_bent) F sc_law_bent len_law_bent (fun cdv A outer s H E hr tk hp => ?_) r_law_bent
  have nd := sc_law_bent.nd
  have hu := hr.units
  have hu5 := room5 hr
  have hu1 := L2.hu_of hr
  exact (dss_cons (ds_set (i := 2) nd (de_calC c__law_take (hr.mono (by decide)) tk (da_cons (de_var 0) (da_cons (de_callB dc_len (by rfl) B.len_ (by decide +kernel) (da_cons (de_var 1) da_nil)) da_nil))))
    (dss_cons (ds_asg (de_ix (de_var 1) (de_var 2) (fun _ _ => rfl)) (dg_tup rfl (dgs_cons (dg_name (i := 3) nd) gm_name (dgs_cons (dg_name (i := 4) nd) gm_name dgs_nil gm_nil) (gm_cons gm_name gm_nil))))
    (dss_cons (ds_set (i := 5) nd (de_calC c__law_take (hr.mono (by decide)) tk (da_cons (de_var 0) (da_cons de_int da_nil))))
    (dss_cons (ds_if (dt_cmp (dop_eq hu) (de_var 5) de_int (nomark _)) (dss_one (ds_set (i := 3) nd (de_slice (de_var 3) (do_some de_int) do_none))) (dss_one (ds_if (dt_cmp (dop_eq hu) (de_var 5) de_int (nomark _)) (dss_one (ds_set (i := 3) nd (de_callTy dc_tuple (by rfl) B.tuple_ (by decide +kernel) (da_cons (de_srtSet enc_str rfl hu (de_op dop_add (de_var 3) (de_tup (da_cons (de_ix de_str (de_calC c__law_take (hr.mono (by decide)) tk (da_cons (de_var 0) (da_cons de_int da_nil))) (fun _ _ => rfl)) da_nil))) B.sorted_ B.set_) da_nil)))) (dss_one (ds_if (dt_cmp (dop_eq hu) (de_var 5) de_int (nomark _)) (dss_one (ds_set (i := 3) nd (de_rev (de_var 3)))) (dss_one (ds_if (dt_cmp (dop_eq hu) (de_var 5) de_int (nomark _)) (dss_one (ds_set (i := 4) nd (de_ix (de_tup (da_cons (de_var 2) (da_cons (de_op dop_add (de_var 2) de_int) (da_cons (de_calC c__law_signed (hr.mono (by decide)) tk (da_cons (de_var 0) (da_cons de_int da_nil))) da_nil)))) (de_calC c__law_take (hr.mono (by decide)) tk (da_cons (de_var 0) (da_cons de_int da_nil))) (fun _ _ => rfl)))) (dss_one (ds_if (dt_cmp (dop_eq hu) (de_var 5) de_int (nomark _)) (dss_one (ds_ret (de_op dop_add (de_var 1) (de_tup (da_cons (de_tup (da_cons (de_var 3) (da_cons (de_ix (de_tup (da_cons (de_var 2) (da_cons (de_callB dc_len (by rfl) B.len_ (by decide +kernel) (da_cons (de_var 1) da_nil)) da_nil))) (de_calC c__law_take (hr.mono (by decide)) tk (da_cons (de_var 0) (da_cons de_int da_nil))) (fun _ _ => rfl)) da_nil))) da_nil))))) (dss_one (ds_if (dt_cmp (dop_eq hu) (de_var 5) de_int (nomark _)) (dss_one (ds_ret (de_slice (de_var 1) do_none (do_some (de_un dun_neg de_int))))) (dss_one (ds_if (dt_cmp (dop_eq hu) (de_var 5) de_int (nomark _)) (dss_one (ds_ret (de_op dop_add (de_var 1) (de_tup (da_cons (de_tup (da_cons (de_slice (de_op dop_add (de_var 3) (de_tup (da_cons de_str da_nil))) do_none (do_some de_int)) (da_cons (de_calC c__law_take (hr.mono (by decide)) tk (da_cons (de_var 0) (da_cons (de_callB dc_len (by rfl) B.len_ (by decide +kernel) (da_cons (de_var 1) da_nil)) da_nil))) da_nil))) da_nil))))) (dss_one (ds_set (i := 3) nd (de_op dop_add (de_var 3) (de_slice (de_var 3) (do_some (de_un dun_neg de_int)) do_none)))))))))))))))))
    (dss_one (ds_ret (de_op dop_add (de_op dop_add (de_slice (de_var 1) do_none (do_some (de_var 2))) (de_tup (da_cons (de_tup (da_cons (de_var 3) (da_cons (de_var 4) da_nil))) da_nil))) (de_slice (de_var 1) (do_some (de_op dop_add (de_var 2) de_int)) do_none))))))))
theorem ok_law_bent {f : Addr} {fd : FuncData} (F : Fun K "_law_bent" "_law_bent" s_law_bent f fd) (b : Binds K fd p_law_bent []) (g : mg "_law_bent" = some (.ref f)) (B : Blt mg) (T : Tops K mg) (Z : Errs K mg C_PatternError C_TooLarge) (c__law_take : Cal P w K mg base 1 "_law_take" p_law_take sp_law_take) (c__law_signed : Cal P w K mg base 2 "_law_signed" p_law_signed sp_law_signed) : Cal P w K mg base 3 "_law_bent" p_law_bent sp_law_bent :=
  ⟨f, fd, fn_law_bent F b g B T Z c__law_take c__law_signed, F.kp, b, g⟩
theorem sc_check_parts : FnScope n_check_parts p_check_parts (defScope s_check_parts) := ⟨rfl, rfl, rfl, by decide +kernel, rfl, by decide +kernel, by decide +kernel⟩
theorem fn_check_parts {f : Addr} {fd : FuncData} (F : Fun K "check_parts" "check_parts" s_check_parts f fd) (b : Binds K fd p_check_parts []) (g : mg "check_parts" = some (.ref f)) (B : Blt mg) (T : Tops K mg) (Z : Errs K mg C_PatternError C_TooLarge) (c_check_pattern : Cal P w K mg base 3 "check_pattern" p_check_pattern (sp_check_pattern C_PatternError C_TooLarge)) (c_right_parts : Cal P w K mg base 3 "right_parts" p_right_parts sp_right_parts) : DFn P w K mg base 4 f fd p_check_parts (sp_check_parts C_PatternError C_TooLarge) := by
  refine okD (N := n_check_parts) (t := t_check_parts C_PatternError C_TooLarge) F sc_check_parts len_check_parts (fun cdv A outer s H E hr tk hp => ?_) r_check_parts
  have nd := sc_check_parts.nd
  have hu := hr.units
  have hu5 := room5 hr
  have hu1 := L2.hu_of hr
  exact (dss_cons (ds_expr (de_calC c_check_pattern (hr.mono (by decide)) tk (da_cons (de_var 0) da_nil)))
    (dss_one (ds_ret (de_calC c_right_parts (hr.mono (by decide)) tk (da_cons (de_var 0) (da_cons (de_var 1) da_nil))))))
theorem ok_check_parts {f : Addr} {fd : FuncData} (F : Fun K "check_parts" "check_parts" s_check_parts f fd) (b : Binds K fd p_check_parts []) (g : mg "check_parts" = some (.ref f)) (B : Blt mg) (T : Tops K mg) (Z : Errs K mg C_PatternError C_TooLarge) (c_check_pattern : Cal P w K mg base 3 "check_pattern" p_check_pattern (sp_check_pattern C_PatternError C_TooLarge)) (c_right_parts : Cal P w K mg base 3 "right_parts" p_right_parts sp_right_parts) : Cal P w K mg base 4 "check_parts" p_check_parts (sp_check_parts C_PatternError C_TooLarge) :=
  ⟨f, fd, fn_check_parts F b g B T Z c_check_pattern c_right_parts, F.kp, b, g⟩
theorem sc_law : FnScope n_law p_law (defScope s_law) := ⟨rfl, rfl, rfl, by decide +kernel, rfl, by decide +kernel, by decide +kernel⟩
theorem fn_law {f : Addr} {fd : FuncData} (F : Fun K "law" "law" s_law f fd) (b : Binds K fd p_law []) (g : mg "law" = some (.ref f)) (B : Blt mg) (T : Tops K mg) (Z : Errs K mg C_PatternError C_TooLarge) (c__law_begin : Cal P w K mg base 1 "_law_begin" p_law_begin sp_law_begin) (c__law_catalogue : Cal P w K mg base 3 "_law_catalogue" p_law_catalogue sp_law_catalogue) (c__law_pattern : Cal P w K mg base 2 "_law_pattern" p_law_pattern sp_law_pattern) (c__law_take : Cal P w K mg base 1 "_law_take" p_law_take sp_law_take) (c__law_shuffled : Cal P w K mg base 2 "_law_shuffled" p_law_shuffled sp_law_shuffled) (c__law_variables : Cal P w K mg base 1 "_law_variables" p_law_variables sp_law_variables) (c__law_hung : Cal P w K mg base 2 "_law_hung" p_law_hung sp_law_hung) (c__law_bags : Cal P w K mg base 1 "_law_bags" p_law_bags sp_law_bags) (c_check_parts : Cal P w K mg base 4 "check_parts" p_check_parts (sp_check_parts C_PatternError C_TooLarge)) (c__law_right_parts : Cal P w K mg base 2 "_law_right_parts" p_law_right_parts sp_law_right_parts) (c_order_of : Cal P w K mg base 1 "order_of" p_order_of sp_order_of) (c__law_part_order : Cal P w K mg base 1 "_law_part_order" p_law_part_order sp_law_part_order) (c_width_of : Cal P w K mg base 1 "width_of" p_width_of sp_width_of) (c__law_bent : Cal P w K mg base 3 "_law_bent" p_law_bent sp_law_bent) : DFn P w K mg base 5 f fd p_law sp_law := by
  refine okD (N := n_law) (t := t_law C_PatternError C_TooLarge) F sc_law len_law (fun cdv A outer s H E hr tk hp => ?_) r_law
  have nd := sc_law.nd
  have hu := hr.units
  have hu5 := room5 hr
  have hu1 := L2.hu_of hr
  exact (dss_cons (ds_set (i := 1) nd (de_calC c__law_begin (hr.mono (by decide)) tk (da_cons (de_var 0) da_nil)))
    (dss_cons (ds_set (i := 2) nd (de_calC c__law_catalogue (hr.mono (by decide)) tk (da_cons (de_var 1) (da_cons de_int (da_cons de_int (da_cons de_int da_nil))))))
    (dss_cons (ds_set (i := 3) nd (de_calC c__law_pattern (hr.mono (by decide)) tk (da_cons (de_var 1) (da_cons (de_var 2) (da_cons (de_ix (de_tup (da_cons de_int (da_cons de_int da_nil))) (de_calC c__law_take (hr.mono (by decide)) tk (da_cons (de_var 1) (da_cons de_int da_nil))) (fun _ _ => rfl)) (da_cons (de_ix (de_tup (da_cons de_int (da_cons de_int da_nil))) (de_calC c__law_take (hr.mono (by decide)) tk (da_cons (de_var 1) (da_cons de_int da_nil))) (fun _ _ => rfl)) da_nil))))))
    (dss_cons (ds_set (i := 4) nd (de_calC c__law_shuffled (hr.mono (by decide)) tk (da_cons (de_var 1) (da_cons (de_calC c__law_variables (hr.mono (by decide)) tk (da_cons (de_var 3) da_nil)) da_nil))))
    (dss_cons (ds_set (i := 5) nd (de_calC c__law_hung (hr.mono (by decide)) tk (da_cons (de_var 1) (da_cons (de_calC c__law_bags (hr.mono (by decide)) tk (da_cons (de_var 3) (da_cons (de_var 4) da_nil))) da_nil))))
    (dss_cons (ds_for hp rfl (di_range1 B.range_ (da_cons de_int da_nil)) (dg_name (i := 6) nd) (dss_cons (ds_set (i := 7) nd (de_calC c_check_parts (hr.mono (by decide)) tk (da_cons (de_var 3) (da_cons (de_var 5) da_nil))))
    (dss_cons (ds_if (DW.dt (dw_or (dt_not (dt_tru (de_isi (de_var 7) B.isinstance_ B.bool_ (by decide +kernel)) (fun _ => rfl))) (dw_or (dt_cmp (dop_ne hu) (de_var 7) (de_calC c__law_right_parts (hr.mono (by decide)) tk (da_cons (de_var 3) (da_cons (de_var 5) da_nil))) (nomark _)) (dw_or1 (DW.dt (dw_and (dt_cmp (dop_eq hu) (de_var 6) de_int (nomark _)) (dw_and1 (dt_not (dt_tru (de_var 7) (fun _ => rfl)))))))))) (dss_one (ds_ret de_bl)) dss_nil)
    (dss_cons (ds_if (DW.dt (dw_and (dt_tru (de_var 7) (fun _ => rfl)) (dw_and1 (DW.dt (dw_or (dt_cmp (dop_ne hu) (de_calC c_order_of (hr.mono (by decide)) tk (da_cons (de_var 5) da_nil)) (de_calC c__law_part_order (hr.mono (by decide)) tk (da_cons (de_var 5) da_nil)) (nomark _)) (dw_or1 (dt_cmp (dop_ne hu) (de_calC c_width_of (hr.mono (by decide)) tk (da_cons (de_var 5) da_nil)) (de_callB (dc_maxW rfl) (by rfl) B.max_ (by decide +kernel) (da_cons (de_lc finD_at rfl nd (vs := [8, 9]) (di_seq (de_var 5)) (blkOk_by (own := [("bag", 8), ("above", 9)]) (N := n_law) (sc := defScope s_law) (by decide +kernel)) (fun _ _ _ _ _ => (dg_tup rfl (dgs_cons (dg_name (i := 8) nd) gm_name (dgs_cons (dg_name (i := 9) nd) gm_name dgs_nil gm_nil) (gm_cons gm_name gm_nil)))) (by decide) (fun _ _ _ _ _ => dts_nil) (fun _ _ _ _ _ => (de_callB dc_len (by rfl) B.len_ (by decide +kernel) (da_cons (de_var 8) da_nil)))) da_nil)) (nomark _)))))))) (dss_one (ds_ret de_bl)) dss_nil)
    (dss_cons (ds_if (dt_cmp (dop_eq hu) (de_callB dc_len (by rfl) B.len_ (by decide +kernel) (da_cons (de_var 5) da_nil)) de_int (nomark _)) (dss_one (ds_ret de_bl)) dss_nil)
    (dss_one (ds_set (i := 5) nd (de_calC c__law_bent (hr.mono (by decide)) tk (da_cons (de_var 1) (da_cons (de_var 5) da_nil))))))))))
    (dss_one (ds_ret de_bl))))))))
theorem ok_law {f : Addr} {fd : FuncData} (F : Fun K "law" "law" s_law f fd) (b : Binds K fd p_law []) (g : mg "law" = some (.ref f)) (B : Blt mg) (T : Tops K mg) (Z : Errs K mg C_PatternError C_TooLarge) (c__law_begin : Cal P w K mg base 1 "_law_begin" p_law_begin sp_law_begin) (c__law_catalogue : Cal P w K mg base 3 "_law_catalogue" p_law_catalogue sp_law_catalogue) (c__law_pattern : Cal P w K mg base 2 "_law_pattern" p_law_pattern sp_law_pattern) (c__law_take : Cal P w K mg base 1 "_law_take" p_law_take sp_law_take) (c__law_shuffled : Cal P w K mg base 2 "_law_shuffled" p_law_shuffled sp_law_shuffled) (c__law_variables : Cal P w K mg base 1 "_law_variables" p_law_variables sp_law_variables) (c__law_hung : Cal P w K mg base 2 "_law_hung" p_law_hung sp_law_hung) (c__law_bags : Cal P w K mg base 1 "_law_bags" p_law_bags sp_law_bags) (c_check_parts : Cal P w K mg base 4 "check_parts" p_check_parts (sp_check_parts C_PatternError C_TooLarge)) (c__law_right_parts : Cal P w K mg base 2 "_law_right_parts" p_law_right_parts sp_law_right_parts) (c_order_of : Cal P w K mg base 1 "order_of" p_order_of sp_order_of) (c__law_part_order : Cal P w K mg base 1 "_law_part_order" p_law_part_order sp_law_part_order) (c_width_of : Cal P w K mg base 1 "width_of" p_width_of sp_width_of) (c__law_bent : Cal P w K mg base 3 "_law_bent" p_law_bent sp_law_bent) : Cal P w K mg base 5 "law" p_law sp_law :=
  ⟨f, fd, fn_law F b g B T Z c__law_begin c__law_catalogue c__law_pattern c__law_take c__law_shuffled c__law_variables c__law_hung c__law_bags c_check_parts c__law_right_parts c_order_of c__law_part_order c_width_of c__law_bent, F.kp, b, g⟩
end
theorem all_mk {l : PySem.W.OpenLaw} {w : World} {K : PySem.W.Frag} {h : Heap} {mg : Str → Option Value} {fa f_is_name f_ascend f_all_variables f_width_of f_order_of f_law_begin f_law_take f_law_variables f_law_bags f_law_part_order f_right_atoms f_right_tree f_law_signed f_law_rows f_law_pattern f_law_shuffled f_law_right_parts f_law_hung f_check_pattern f_right_parts f_law_catalogue f_law_bent f_check_parts f_law : Addr} (X : K.In h) (G : h.Ns mainGlobals mg) (hfa : mg "law" = some (.ref fa))
    {od_is_name an_is_name : Option Addr} {sl_is_name : Array (Option Value)} {oc_is_name kV_is_name dc_is_name pm_is_name ct_is_name : Value} {cd_is_name : Value} {od_ascend an_ascend : Option Addr} {sl_ascend : Array (Option Value)} {oc_ascend kV_ascend dc_ascend pm_ascend ct_ascend : Value} {cd_ascend : Value} {od_all_variables an_all_variables : Option Addr} {sl_all_variables : Array (Option Value)} {oc_all_variables kV_all_variables dc_all_variables pm_all_variables ct_all_variables : Value} {cd_all_variables : Value} {od_width_of an_width_of : Option Addr} {sl_width_of : Array (Option Value)} {oc_width_of kV_width_of dc_width_of pm_width_of ct_width_of : Value} {cd_width_of : Value} {od_order_of an_order_of : Option Addr} {sl_order_of : Array (Option Value)} {oc_order_of kV_order_of dc_order_of pm_order_of ct_order_of : Value} {cd_order_of : Value} {od_law_begin an_law_begin : Option Addr} {sl_law_begin : Array (Option Value)} {oc_law_begin kV_law_begin dc_law_begin pm_law_begin ct_law_begin : Value} {cd_law_begin : Value} {od_law_take an_law_take : Option Addr} {sl_law_take : Array (Option Value)} {oc_law_take kV_law_take dc_law_take pm_law_take ct_law_take : Value} {cd_law_take : Value} {od_law_variables an_law_variables : Option Addr} {sl_law_variables : Array (Option Value)} {oc_law_variables kV_law_variables dc_law_variables pm_law_variables ct_law_variables : Value} {cd_law_variables : Value} {od_law_bags an_law_bags : Option Addr} {sl_law_bags : Array (Option Value)} {oc_law_bags kV_law_bags dc_law_bags pm_law_bags ct_law_bags : Value} {cd_law_bags : Value} {od_law_part_order an_law_part_order : Option Addr} {sl_law_part_order : Array (Option Value)} {oc_law_part_order kV_law_part_order dc_law_part_order pm_law_part_order ct_law_part_order : Value} {cd_law_part_order : Value} {od_right_atoms an_right_atoms : Option Addr} {sl_right_atoms : Array (Option Value)} {oc_right_atoms kV_right_atoms dc_right_atoms pm_right_atoms ct_right_atoms : Value} {cd_right_atoms : Value} {od_right_tree an_right_tree : Option Addr} {sl_right_tree : Array (Option Value)} {oc_right_tree kV_right_tree dc_right_tree pm_right_tree ct_right_tree : Value} {cd_right_tree : Value} {od_law_signed an_law_signed : Option Addr} {sl_law_signed : Array (Option Value)} {oc_law_signed kV_law_signed dc_law_signed pm_law_signed ct_law_signed : Value} {cd_law_signed : Value} {od_law_rows an_law_rows : Option Addr} {sl_law_rows : Array (Option Value)} {oc_law_rows kV_law_rows dc_law_rows pm_law_rows ct_law_rows : Value} {cd_law_rows : Value} {od_law_pattern an_law_pattern : Option Addr} {sl_law_pattern : Array (Option Value)} {oc_law_pattern kV_law_pattern dc_law_pattern pm_law_pattern ct_law_pattern : Value} {cd_law_pattern : Value} {od_law_shuffled an_law_shuffled : Option Addr} {sl_law_shuffled : Array (Option Value)} {oc_law_shuffled kV_law_shuffled dc_law_shuffled pm_law_shuffled ct_law_shuffled : Value} {cd_law_shuffled : Value} {od_law_right_parts an_law_right_parts : Option Addr} {sl_law_right_parts : Array (Option Value)} {oc_law_right_parts kV_law_right_parts dc_law_right_parts pm_law_right_parts ct_law_right_parts : Value} {cd_law_right_parts : Value} {od_law_hung an_law_hung : Option Addr} {sl_law_hung : Array (Option Value)} {oc_law_hung kV_law_hung dc_law_hung pm_law_hung ct_law_hung : Value} {cd_law_hung : Value} {od_check_pattern an_check_pattern : Option Addr} {sl_check_pattern : Array (Option Value)} {oc_check_pattern kV_check_pattern dc_check_pattern pm_check_pattern ct_check_pattern : Value} {cd_check_pattern : Value} {od_right_parts an_right_parts : Option Addr} {sl_right_parts : Array (Option Value)} {oc_right_parts kV_right_parts dc_right_parts pm_right_parts ct_right_parts : Value} {cd_right_parts : Value} {od_law_catalogue an_law_catalogue : Option Addr} {sl_law_catalogue : Array (Option Value)} {oc_law_catalogue kV_law_catalogue dc_law_catalogue pm_law_catalogue ct_law_catalogue : Value} {cd_law_catalogue : Value} {od_law_bent an_law_bent : Option Addr} {sl_law_bent : Array (Option Value)} {oc_law_bent kV_law_bent dc_law_bent pm_law_bent ct_law_bent : Value} {cd_law_bent : Value} {od_check_parts an_check_parts : Option Addr} {sl_check_parts : Array (Option Value)} {oc_check_parts kV_check_parts dc_check_parts pm_check_parts ct_check_parts : Value} {cd_check_parts : Value} {od_law an_law : Option Addr} {sl_law : Array (Option Value)} {oc_law kV_law dc_law pm_law ct_law : Value} {cd_law : Value} {u_ATOM_LIMIT : Tok} {u_LETTERS : Tok} {u_NAME_LIMIT : Tok} {u_NAME_SIGNS : Tok} {u_PLACE_LIMIT : Tok} {u_VARIABLE_LIMIT : Tok} {C_PatternError : Addr} {C_TooLarge : Addr}
    (a_is_name : PySem.W.nsIn K mainGlobals "is_name" = some (some (.ref f_is_name))) (l_is_name : K.lookup f_is_name = some ⟨oc_is_name, od_is_name, .func (PySem.W.fnOf "is_name" "is_name" (defArgs s_is_name) (defBody s_is_name) (defScope s_is_name) .none kV_is_name dc_is_name pm_is_name an_is_name cd_is_name ct_is_name), sl_is_name⟩) (q_is_name : PySem.W.codeIn K cd_is_name "is_name" = true) (k_is_name : PySem.W.keepIn K (.ref f_is_name) = true)
    (a_ascend : PySem.W.nsIn K mainGlobals "ascend" = some (some (.ref f_ascend))) (l_ascend : K.lookup f_ascend = some ⟨oc_ascend, od_ascend, .func (PySem.W.fnOf "ascend" "ascend" (defArgs s_ascend) (defBody s_ascend) (defScope s_ascend) .none kV_ascend dc_ascend pm_ascend an_ascend cd_ascend ct_ascend), sl_ascend⟩) (q_ascend : PySem.W.codeIn K cd_ascend "ascend" = true) (k_ascend : PySem.W.keepIn K (.ref f_ascend) = true)
    (a_all_variables : PySem.W.nsIn K mainGlobals "all_variables" = some (some (.ref f_all_variables))) (l_all_variables : K.lookup f_all_variables = some ⟨oc_all_variables, od_all_variables, .func (PySem.W.fnOf "all_variables" "all_variables" (defArgs s_all_variables) (defBody s_all_variables) (defScope s_all_variables) .none kV_all_variables dc_all_variables pm_all_variables an_all_variables cd_all_variables ct_all_variables), sl_all_variables⟩) (q_all_variables : PySem.W.codeIn K cd_all_variables "all_variables" = true) (k_all_variables : PySem.W.keepIn K (.ref f_all_variables) = true)
    (a_width_of : PySem.W.nsIn K mainGlobals "width_of" = some (some (.ref f_width_of))) (l_width_of : K.lookup f_width_of = some ⟨oc_width_of, od_width_of, .func (PySem.W.fnOf "width_of" "width_of" (defArgs s_width_of) (defBody s_width_of) (defScope s_width_of) .none kV_width_of dc_width_of pm_width_of an_width_of cd_width_of ct_width_of), sl_width_of⟩) (q_width_of : PySem.W.codeIn K cd_width_of "width_of" = true) (k_width_of : PySem.W.keepIn K (.ref f_width_of) = true)
    (a_order_of : PySem.W.nsIn K mainGlobals "order_of" = some (some (.ref f_order_of))) (l_order_of : K.lookup f_order_of = some ⟨oc_order_of, od_order_of, .func (PySem.W.fnOf "order_of" "order_of" (defArgs s_order_of) (defBody s_order_of) (defScope s_order_of) .none kV_order_of dc_order_of pm_order_of an_order_of cd_order_of ct_order_of), sl_order_of⟩) (q_order_of : PySem.W.codeIn K cd_order_of "order_of" = true) (k_order_of : PySem.W.keepIn K (.ref f_order_of) = true)
    (a_law_begin : PySem.W.nsIn K mainGlobals "_law_begin" = some (some (.ref f_law_begin))) (l_law_begin : K.lookup f_law_begin = some ⟨oc_law_begin, od_law_begin, .func (PySem.W.fnOf "_law_begin" "_law_begin" (defArgs s_law_begin) (defBody s_law_begin) (defScope s_law_begin) .none kV_law_begin dc_law_begin pm_law_begin an_law_begin cd_law_begin ct_law_begin), sl_law_begin⟩) (q_law_begin : PySem.W.codeIn K cd_law_begin "_law_begin" = true) (k_law_begin : PySem.W.keepIn K (.ref f_law_begin) = true)
    (a_law_take : PySem.W.nsIn K mainGlobals "_law_take" = some (some (.ref f_law_take))) (l_law_take : K.lookup f_law_take = some ⟨oc_law_take, od_law_take, .func (PySem.W.fnOf "_law_take" "_law_take" (defArgs s_law_take) (defBody s_law_take) (defScope s_law_take) .none kV_law_take dc_law_take pm_law_take an_law_take cd_law_take ct_law_take), sl_law_take⟩) (q_law_take : PySem.W.codeIn K cd_law_take "_law_take" = true) (k_law_take : PySem.W.keepIn K (.ref f_law_take) = true)
    (a_law_variables : PySem.W.nsIn K mainGlobals "_law_variables" = some (some (.ref f_law_variables))) (l_law_variables : K.lookup f_law_variables = some ⟨oc_law_variables, od_law_variables, .func (PySem.W.fnOf "_law_variables" "_law_variables" (defArgs s_law_variables) (defBody s_law_variables) (defScope s_law_variables) .none kV_law_variables dc_law_variables pm_law_variables an_law_variables cd_law_variables ct_law_variables), sl_law_variables⟩) (q_law_variables : PySem.W.codeIn K cd_law_variables "_law_variables" = true) (k_law_variables : PySem.W.keepIn K (.ref f_law_variables) = true)
    (a_law_bags : PySem.W.nsIn K mainGlobals "_law_bags" = some (some (.ref f_law_bags))) (l_law_bags : K.lookup f_law_bags = some ⟨oc_law_bags, od_law_bags, .func (PySem.W.fnOf "_law_bags" "_law_bags" (defArgs s_law_bags) (defBody s_law_bags) (defScope s_law_bags) .none kV_law_bags dc_law_bags pm_law_bags an_law_bags cd_law_bags ct_law_bags), sl_law_bags⟩) (q_law_bags : PySem.W.codeIn K cd_law_bags "_law_bags" = true) (k_law_bags : PySem.W.keepIn K (.ref f_law_bags) = true)
    (a_law_part_order : PySem.W.nsIn K mainGlobals "_law_part_order" = some (some (.ref f_law_part_order))) (l_law_part_order : K.lookup f_law_part_order = some ⟨oc_law_part_order, od_law_part_order, .func (PySem.W.fnOf "_law_part_order" "_law_part_order" (defArgs s_law_part_order) (defBody s_law_part_order) (defScope s_law_part_order) .none kV_law_part_order dc_law_part_order pm_law_part_order an_law_part_order cd_law_part_order ct_law_part_order), sl_law_part_order⟩) (q_law_part_order : PySem.W.codeIn K cd_law_part_order "_law_part_order" = true) (k_law_part_order : PySem.W.keepIn K (.ref f_law_part_order) = true)
    (a_right_atoms : PySem.W.nsIn K mainGlobals "right_atoms" = some (some (.ref f_right_atoms))) (l_right_atoms : K.lookup f_right_atoms = some ⟨oc_right_atoms, od_right_atoms, .func (PySem.W.fnOf "right_atoms" "right_atoms" (defArgs s_right_atoms) (defBody s_right_atoms) (defScope s_right_atoms) .none kV_right_atoms dc_right_atoms pm_right_atoms an_right_atoms cd_right_atoms ct_right_atoms), sl_right_atoms⟩) (q_right_atoms : PySem.W.codeIn K cd_right_atoms "right_atoms" = true) (k_right_atoms : PySem.W.keepIn K (.ref f_right_atoms) = true)
    (a_right_tree : PySem.W.nsIn K mainGlobals "right_tree" = some (some (.ref f_right_tree))) (l_right_tree : K.lookup f_right_tree = some ⟨oc_right_tree, od_right_tree, .func (PySem.W.fnOf "right_tree" "right_tree" (defArgs s_right_tree) (defBody s_right_tree) (defScope s_right_tree) .none kV_right_tree dc_right_tree pm_right_tree an_right_tree cd_right_tree ct_right_tree), sl_right_tree⟩) (q_right_tree : PySem.W.codeIn K cd_right_tree "right_tree" = true) (k_right_tree : PySem.W.keepIn K (.ref f_right_tree) = true)
    (a_law_signed : PySem.W.nsIn K mainGlobals "_law_signed" = some (some (.ref f_law_signed))) (l_law_signed : K.lookup f_law_signed = some ⟨oc_law_signed, od_law_signed, .func (PySem.W.fnOf "_law_signed" "_law_signed" (defArgs s_law_signed) (defBody s_law_signed) (defScope s_law_signed) .none kV_law_signed dc_law_signed pm_law_signed an_law_signed cd_law_signed ct_law_signed), sl_law_signed⟩) (q_law_signed : PySem.W.codeIn K cd_law_signed "_law_signed" = true) (k_law_signed : PySem.W.keepIn K (.ref f_law_signed) = true)
    (a_law_rows : PySem.W.nsIn K mainGlobals "_law_rows" = some (some (.ref f_law_rows))) (l_law_rows : K.lookup f_law_rows = some ⟨oc_law_rows, od_law_rows, .func (PySem.W.fnOf "_law_rows" "_law_rows" (defArgs s_law_rows) (defBody s_law_rows) (defScope s_law_rows) .none kV_law_rows dc_law_rows pm_law_rows an_law_rows cd_law_rows ct_law_rows), sl_law_rows⟩) (q_law_rows : PySem.W.codeIn K cd_law_rows "_law_rows" = true) (k_law_rows : PySem.W.keepIn K (.ref f_law_rows) = true)
    (a_law_pattern : PySem.W.nsIn K mainGlobals "_law_pattern" = some (some (.ref f_law_pattern))) (l_law_pattern : K.lookup f_law_pattern = some ⟨oc_law_pattern, od_law_pattern, .func (PySem.W.fnOf "_law_pattern" "_law_pattern" (defArgs s_law_pattern) (defBody s_law_pattern) (defScope s_law_pattern) .none kV_law_pattern dc_law_pattern pm_law_pattern an_law_pattern cd_law_pattern ct_law_pattern), sl_law_pattern⟩) (q_law_pattern : PySem.W.codeIn K cd_law_pattern "_law_pattern" = true) (k_law_pattern : PySem.W.keepIn K (.ref f_law_pattern) = true)
    (a_law_shuffled : PySem.W.nsIn K mainGlobals "_law_shuffled" = some (some (.ref f_law_shuffled))) (l_law_shuffled : K.lookup f_law_shuffled = some ⟨oc_law_shuffled, od_law_shuffled, .func (PySem.W.fnOf "_law_shuffled" "_law_shuffled" (defArgs s_law_shuffled) (defBody s_law_shuffled) (defScope s_law_shuffled) .none kV_law_shuffled dc_law_shuffled pm_law_shuffled an_law_shuffled cd_law_shuffled ct_law_shuffled), sl_law_shuffled⟩) (q_law_shuffled : PySem.W.codeIn K cd_law_shuffled "_law_shuffled" = true) (k_law_shuffled : PySem.W.keepIn K (.ref f_law_shuffled) = true)
    (a_law_right_parts : PySem.W.nsIn K mainGlobals "_law_right_parts" = some (some (.ref f_law_right_parts))) (l_law_right_parts : K.lookup f_law_right_parts = some ⟨oc_law_right_parts, od_law_right_parts, .func (PySem.W.fnOf "_law_right_parts" "_law_right_parts" (defArgs s_law_right_parts) (defBody s_law_right_parts) (defScope s_law_right_parts) .none kV_law_right_parts dc_law_right_parts pm_law_right_parts an_law_right_parts cd_law_right_parts ct_law_right_parts), sl_law_right_parts⟩) (q_law_right_parts : PySem.W.codeIn K cd_law_right_parts "_law_right_parts" = true) (k_law_right_parts : PySem.W.keepIn K (.ref f_law_right_parts) = true)
    (a_law_hung : PySem.W.nsIn K mainGlobals "_law_hung" = some (some (.ref f_law_hung))) (l_law_hung : K.lookup f_law_hung = some ⟨oc_law_hung, od_law_hung, .func (PySem.W.fnOf "_law_hung" "_law_hung" (defArgs s_law_hung) (defBody s_law_hung) (defScope s_law_hung) .none kV_law_hung dc_law_hung pm_law_hung an_law_hung cd_law_hung ct_law_hung), sl_law_hung⟩) (q_law_hung : PySem.W.codeIn K cd_law_hung "_law_hung" = true) (k_law_hung : PySem.W.keepIn K (.ref f_law_hung) = true)
    (a_check_pattern : PySem.W.nsIn K mainGlobals "check_pattern" = some (some (.ref f_check_pattern))) (l_check_pattern : K.lookup f_check_pattern = some ⟨oc_check_pattern, od_check_pattern, .func (PySem.W.fnOf "check_pattern" "check_pattern" (defArgs s_check_pattern) (defBody s_check_pattern) (defScope s_check_pattern) .none kV_check_pattern dc_check_pattern pm_check_pattern an_check_pattern cd_check_pattern ct_check_pattern), sl_check_pattern⟩) (q_check_pattern : PySem.W.codeIn K cd_check_pattern "check_pattern" = true) (k_check_pattern : PySem.W.keepIn K (.ref f_check_pattern) = true)
    (a_right_parts : PySem.W.nsIn K mainGlobals "right_parts" = some (some (.ref f_right_parts))) (l_right_parts : K.lookup f_right_parts = some ⟨oc_right_parts, od_right_parts, .func (PySem.W.fnOf "right_parts" "right_parts" (defArgs s_right_parts) (defBody s_right_parts) (defScope s_right_parts) .none kV_right_parts dc_right_parts pm_right_parts an_right_parts cd_right_parts ct_right_parts), sl_right_parts⟩) (q_right_parts : PySem.W.codeIn K cd_right_parts "right_parts" = true) (k_right_parts : PySem.W.keepIn K (.ref f_right_parts) = true)
    (a_law_catalogue : PySem.W.nsIn K mainGlobals "_law_catalogue" = some (some (.ref f_law_catalogue))) (l_law_catalogue : K.lookup f_law_catalogue = some ⟨oc_law_catalogue, od_law_catalogue, .func (PySem.W.fnOf "_law_catalogue" "_law_catalogue" (defArgs s_law_catalogue) (defBody s_law_catalogue) (defScope s_law_catalogue) .none kV_law_catalogue dc_law_catalogue pm_law_catalogue an_law_catalogue cd_law_catalogue ct_law_catalogue), sl_law_catalogue⟩) (q_law_catalogue : PySem.W.codeIn K cd_law_catalogue "_law_catalogue" = true) (k_law_catalogue : PySem.W.keepIn K (.ref f_law_catalogue) = true)
    (a_law_bent : PySem.W.nsIn K mainGlobals "_law_bent" = some (some (.ref f_law_bent))) (l_law_bent : K.lookup f_law_bent = some ⟨oc_law_bent, od_law_bent, .func (PySem.W.fnOf "_law_bent" "_law_bent" (defArgs s_law_bent) (defBody s_law_bent) (defScope s_law_bent) .none kV_law_bent dc_law_bent pm_law_bent an_law_bent cd_law_bent ct_law_bent), sl_law_bent⟩) (q_law_bent : PySem.W.codeIn K cd_law_bent "_law_bent" = true) (k_law_bent : PySem.W.keepIn K (.ref f_law_bent) = true)
    (a_check_parts : PySem.W.nsIn K mainGlobals "check_parts" = some (some (.ref f_check_parts))) (l_check_parts : K.lookup f_check_parts = some ⟨oc_check_parts, od_check_parts, .func (PySem.W.fnOf "check_parts" "check_parts" (defArgs s_check_parts) (defBody s_check_parts) (defScope s_check_parts) .none kV_check_parts dc_check_parts pm_check_parts an_check_parts cd_check_parts ct_check_parts), sl_check_parts⟩) (q_check_parts : PySem.W.codeIn K cd_check_parts "check_parts" = true) (k_check_parts : PySem.W.keepIn K (.ref f_check_parts) = true)
    (a_law : PySem.W.nsIn K mainGlobals "law" = some (some (.ref f_law))) (l_law : K.lookup f_law = some ⟨oc_law, od_law, .func (PySem.W.fnOf "law" "law" (defArgs s_law) (defBody s_law) (defScope s_law) .none kV_law dc_law pm_law an_law cd_law ct_law), sl_law⟩) (q_law : PySem.W.codeIn K cd_law "law" = true) (k_law : PySem.W.keepIn K (.ref f_law) = true)
    (z_abs : PySem.W.nsIn K mainGlobals "abs" = some none)
    (z_all : PySem.W.nsIn K mainGlobals "all" = some none)
    (z_any : PySem.W.nsIn K mainGlobals "any" = some none)
    (z_bool : PySem.W.nsIn K mainGlobals "bool" = some none)
    (z_int : PySem.W.nsIn K mainGlobals "int" = some none)
    (z_isinstance : PySem.W.nsIn K mainGlobals "isinstance" = some none)
    (z_len : PySem.W.nsIn K mainGlobals "len" = some none)
    (z_list : PySem.W.nsIn K mainGlobals "list" = some none)
    (z_max : PySem.W.nsIn K mainGlobals "max" = some none)
    (z_range : PySem.W.nsIn K mainGlobals "range" = some none)
    (z_set : PySem.W.nsIn K mainGlobals "set" = some none)
    (z_sorted : PySem.W.nsIn K mainGlobals "sorted" = some none)
    (z_str : PySem.W.nsIn K mainGlobals "str" = some none)
    (z_tuple : PySem.W.nsIn K mainGlobals "tuple" = some none)
    (y_ATOM_LIMIT : PySem.W.nsIn K mainGlobals "ATOM_LIMIT" = some (some (.int 8 u_ATOM_LIMIT)))
    (y_LETTERS : PySem.W.nsIn K mainGlobals "LETTERS" = some (some (.str "abcdefghijklmnopqrstuvwxyz" u_LETTERS)))
    (y_NAME_LIMIT : PySem.W.nsIn K mainGlobals "NAME_LIMIT" = some (some (.int 20 u_NAME_LIMIT)))
    (y_NAME_SIGNS : PySem.W.nsIn K mainGlobals "NAME_SIGNS" = some (some (.str "abcdefghijklmnopqrstuvwxyz0123456789" u_NAME_SIGNS)))
    (y_PLACE_LIMIT : PySem.W.nsIn K mainGlobals "PLACE_LIMIT" = some (some (.int 4 u_PLACE_LIMIT)))
    (y_VARIABLE_LIMIT : PySem.W.nsIn K mainGlobals "VARIABLE_LIMIT" = some (some (.int 8 u_VARIABLE_LIMIT)))
    (e2_PatternError : PySem.W.nsIn K mainGlobals "PatternError" = some (some (.ref C_PatternError))) (e1_PatternError : PySem.W.excIn K C_PatternError [.type "ValueError", .type "Exception", .type "BaseException", .type "object"] "ValueError.__new__" = true) (e3_PatternError : PySem.W.keepIn K (.ref C_PatternError) = true) (e4_PatternError : PySem.W.subIn K (.ref C_PatternError) (.type "BaseException") = some true) (e5_PatternError : PySem.W.typeIn K (.ref C_PatternError) = some (.type "type")) (e6_PatternError : PySem.W.hasDictIn K C_PatternError = true)
    (e2_TooLarge : PySem.W.nsIn K mainGlobals "TooLarge" = some (some (.ref C_TooLarge))) (e1_TooLarge : PySem.W.excIn K C_TooLarge [.type "ValueError", .type "Exception", .type "BaseException", .type "object"] "ValueError.__new__" = true) (e3_TooLarge : PySem.W.keepIn K (.ref C_TooLarge) = true) (e4_TooLarge : PySem.W.subIn K (.ref C_TooLarge) (.type "BaseException") = some true) (e5_TooLarge : PySem.W.typeIn K (.ref C_TooLarge) = some (.type "type")) (e6_TooLarge : PySem.W.hasDictIn K C_TooLarge = true) :
    ∃ fd : FuncData, (∀ (s : Shared) (v : Value), BindsTo s fd ⟨[v], []⟩ [("script", v)]) ∧ ∀ base : Heap, K.In base → base.Ns mainGlobals mg → FnOk l.prog w K mg base (L2.CX l.prog w) 5 fa fd ["script"] (liftSp K sp_law) := by
  have e := hfa.symm.trans (PySem.W.mg_of X G a_law)
  cases e
  have F_is_name := fun_mk (st := s_is_name) l_is_name q_is_name k_is_name
  have b_is_name := F_is_name.binds (ps := p_is_name) fun _ _ _ _ _ _ us hl => match us, hl with | [_], _ => rfl
  have F_ascend := fun_mk (st := s_ascend) l_ascend q_ascend k_ascend
  have b_ascend := F_ascend.binds (ps := p_ascend) fun _ _ _ _ _ _ us hl => match us, hl with | [_], _ => rfl
  have F_all_variables := fun_mk (st := s_all_variables) l_all_variables q_all_variables k_all_variables
  have b_all_variables := F_all_variables.binds (ps := p_all_variables) fun _ _ _ _ _ _ us hl => match us, hl with | [_], _ => rfl
  have F_width_of := fun_mk (st := s_width_of) l_width_of q_width_of k_width_of
  have b_width_of := F_width_of.binds (ps := p_width_of) fun _ _ _ _ _ _ us hl => match us, hl with | [_], _ => rfl
  have F_order_of := fun_mk (st := s_order_of) l_order_of q_order_of k_order_of
  have b_order_of := F_order_of.binds (ps := p_order_of) fun _ _ _ _ _ _ us hl => match us, hl with | [_], _ => rfl
  have F_law_begin := fun_mk (st := s_law_begin) l_law_begin q_law_begin k_law_begin
  have b_law_begin := F_law_begin.binds (ps := p_law_begin) fun _ _ _ _ _ _ us hl => match us, hl with | [_], _ => rfl
  have F_law_take := fun_mk (st := s_law_take) l_law_take q_law_take k_law_take
  have b_law_take := F_law_take.binds (ps := p_law_take) fun _ _ _ _ _ _ us hl => match us, hl with | [_, _], _ => rfl
  have F_law_variables := fun_mk (st := s_law_variables) l_law_variables q_law_variables k_law_variables
  have b_law_variables := F_law_variables.binds (ps := p_law_variables) fun _ _ _ _ _ _ us hl => match us, hl with | [_], _ => rfl
  have F_law_bags := fun_mk (st := s_law_bags) l_law_bags q_law_bags k_law_bags
  have b_law_bags := F_law_bags.binds (ps := p_law_bags) fun _ _ _ _ _ _ us hl => match us, hl with | [_, _], _ => rfl
  have F_law_part_order := fun_mk (st := s_law_part_order) l_law_part_order q_law_part_order k_law_part_order
  have b_law_part_order := F_law_part_order.binds (ps := p_law_part_order) fun _ _ _ _ _ _ us hl => match us, hl with | [_], _ => rfl
  have F_right_atoms := fun_mk (st := s_right_atoms) l_right_atoms q_right_atoms k_right_atoms
  have b_right_atoms := F_right_atoms.binds (ps := p_right_atoms) fun _ _ _ _ _ _ us hl => match us, hl with | [_], _ => rfl
  have F_right_tree := fun_mk (st := s_right_tree) l_right_tree q_right_tree k_right_tree
  have b_right_tree := F_right_tree.binds (ps := p_right_tree) fun _ _ _ _ _ _ us hl => match us, hl with | [_], _ => rfl
  have F_law_signed := fun_mk (st := s_law_signed) l_law_signed q_law_signed k_law_signed
  have b_law_signed := F_law_signed.binds (ps := p_law_signed) fun _ _ _ _ _ _ us hl => match us, hl with | [_, _], _ => rfl
  have F_law_rows := fun_mk (st := s_law_rows) l_law_rows q_law_rows k_law_rows
  have b_law_rows := F_law_rows.binds (ps := p_law_rows) fun _ _ _ _ _ _ us hl => match us, hl with | [_, _, _, _], _ => rfl
  have F_law_pattern := fun_mk (st := s_law_pattern) l_law_pattern q_law_pattern k_law_pattern
  have b_law_pattern := F_law_pattern.binds (ps := p_law_pattern) fun _ _ _ _ _ _ us hl => match us, hl with | [_, _, _, _], _ => rfl
  have F_law_shuffled := fun_mk (st := s_law_shuffled) l_law_shuffled q_law_shuffled k_law_shuffled
  have b_law_shuffled := F_law_shuffled.binds (ps := p_law_shuffled) fun _ _ _ _ _ _ us hl => match us, hl with | [_, _], _ => rfl
  have F_law_right_parts := fun_mk (st := s_law_right_parts) l_law_right_parts q_law_right_parts k_law_right_parts
  have b_law_right_parts := F_law_right_parts.binds (ps := p_law_right_parts) fun _ _ _ _ _ _ us hl => match us, hl with | [_, _], _ => rfl
  have F_law_hung := fun_mk (st := s_law_hung) l_law_hung q_law_hung k_law_hung
  have b_law_hung := F_law_hung.binds (ps := p_law_hung) fun _ _ _ _ _ _ us hl => match us, hl with | [_, _], _ => rfl
  have F_check_pattern := fun_mk (st := s_check_pattern) l_check_pattern q_check_pattern k_check_pattern
  have b_check_pattern := F_check_pattern.binds (ps := p_check_pattern) fun _ _ _ _ _ _ us hl => match us, hl with | [_], _ => rfl
  have F_right_parts := fun_mk (st := s_right_parts) l_right_parts q_right_parts k_right_parts
  have b_right_parts := F_right_parts.binds (ps := p_right_parts) fun _ _ _ _ _ _ us hl => match us, hl with | [_, _], _ => rfl
  have F_law_catalogue := fun_mk (st := s_law_catalogue) l_law_catalogue q_law_catalogue k_law_catalogue
  have b_law_catalogue := F_law_catalogue.binds (ps := p_law_catalogue) fun _ _ _ _ _ _ us hl => match us, hl with | [_, _, _, _], _ => rfl
  have F_law_bent := fun_mk (st := s_law_bent) l_law_bent q_law_bent k_law_bent
  have b_law_bent := F_law_bent.binds (ps := p_law_bent) fun _ _ _ _ _ _ us hl => match us, hl with | [_, _], _ => rfl
  have F_check_parts := fun_mk (st := s_check_parts) l_check_parts q_check_parts k_check_parts
  have b_check_parts := F_check_parts.binds (ps := p_check_parts) fun _ _ _ _ _ _ us hl => match us, hl with | [_, _], _ => rfl
  have F_law := fun_mk (st := s_law) l_law q_law k_law
  have b_law := F_law.binds (ps := p_law) fun _ _ _ _ _ _ us hl => match us, hl with | [_], _ => rfl
  have B : Blt mg := ⟨PySem.W.mg_none_of X G z_abs, PySem.W.mg_none_of X G z_all, PySem.W.mg_none_of X G z_any, PySem.W.mg_none_of X G z_bool, PySem.W.mg_none_of X G z_int, PySem.W.mg_none_of X G z_isinstance, PySem.W.mg_none_of X G z_len, PySem.W.mg_none_of X G z_list, PySem.W.mg_none_of X G z_max, PySem.W.mg_none_of X G z_range, PySem.W.mg_none_of X G z_set, PySem.W.mg_none_of X G z_sorted, PySem.W.mg_none_of X G z_str, PySem.W.mg_none_of X G z_tuple⟩
  have T : Tops K mg := ⟨trivial, ⟨_, PySem.W.mg_of X G y_ATOM_LIMIT⟩, ⟨_, PySem.W.mg_of X G y_LETTERS⟩, ⟨_, PySem.W.mg_of X G y_NAME_LIMIT⟩, ⟨_, PySem.W.mg_of X G y_NAME_SIGNS⟩, ⟨_, PySem.W.mg_of X G y_PLACE_LIMIT⟩, ⟨_, PySem.W.mg_of X G y_VARIABLE_LIMIT⟩⟩
  have Z : Errs K mg C_PatternError C_TooLarge := ⟨⟨e1_PatternError, PySem.W.mg_of X G e2_PatternError, e3_PatternError, e4_PatternError, e5_PatternError⟩, ⟨e1_TooLarge, PySem.W.mg_of X G e2_TooLarge, e3_TooLarge, e4_TooLarge, e5_TooLarge⟩⟩
  refine ⟨PySem.W.fnOf "law" "law" (defArgs s_law) (defBody s_law) (defScope s_law) .none kV_law dc_law pm_law an_law cd_law ct_law, fun s v => .of_eq rfl, fun base _ _ => ?_⟩
  have c_is_name := ok_is_name (P := l.prog) (w := w) (base := base) F_is_name b_is_name (PySem.W.mg_of X G a_is_name) B T Z 
  have c_ascend := ok_ascend (P := l.prog) (w := w) (base := base) F_ascend b_ascend (PySem.W.mg_of X G a_ascend) B T Z 
  have c_all_variables := ok_all_variables (P := l.prog) (w := w) (base := base) F_all_variables b_all_variables (PySem.W.mg_of X G a_all_variables) B T Z 
  have c_width_of := ok_width_of (P := l.prog) (w := w) (base := base) F_width_of b_width_of (PySem.W.mg_of X G a_width_of) B T Z 
  have c_order_of := ok_order_of (P := l.prog) (w := w) (base := base) F_order_of b_order_of (PySem.W.mg_of X G a_order_of) B T Z 
  have c__law_begin := ok_law_begin (P := l.prog) (w := w) (base := base) F_law_begin b_law_begin (PySem.W.mg_of X G a_law_begin) B T Z 
  have c__law_take := ok_law_take (P := l.prog) (w := w) (base := base) F_law_take b_law_take (PySem.W.mg_of X G a_law_take) B T Z 
  have c__law_variables := ok_law_variables (P := l.prog) (w := w) (base := base) F_law_variables b_law_variables (PySem.W.mg_of X G a_law_variables) B T Z 
  have c__law_bags := ok_law_bags (P := l.prog) (w := w) (base := base) F_law_bags b_law_bags (PySem.W.mg_of X G a_law_bags) B T Z 
  have c__law_part_order := ok_law_part_order (P := l.prog) (w := w) (base := base) F_law_part_order b_law_part_order (PySem.W.mg_of X G a_law_part_order) B T Z 
  have c_right_atoms := ok_right_atoms (P := l.prog) (w := w) (base := base) F_right_atoms b_right_atoms (PySem.W.mg_of X G a_right_atoms) B T Z c_is_name
  have c_right_tree := ok_right_tree (P := l.prog) (w := w) (base := base) F_right_tree b_right_tree (PySem.W.mg_of X G a_right_tree) B T Z c_ascend
  have c__law_signed := ok_law_signed (P := l.prog) (w := w) (base := base) F_law_signed b_law_signed (PySem.W.mg_of X G a_law_signed) B T Z c__law_take
  have c__law_rows := ok_law_rows (P := l.prog) (w := w) (base := base) F_law_rows b_law_rows (PySem.W.mg_of X G a_law_rows) B T Z c__law_take
  have c__law_pattern := ok_law_pattern (P := l.prog) (w := w) (base := base) F_law_pattern b_law_pattern (PySem.W.mg_of X G a_law_pattern) B T Z c__law_take c__law_variables
  have c__law_shuffled := ok_law_shuffled (P := l.prog) (w := w) (base := base) F_law_shuffled b_law_shuffled (PySem.W.mg_of X G a_law_shuffled) B T Z c__law_take
  have c__law_right_parts := ok_law_right_parts (P := l.prog) (w := w) (base := base) F_law_right_parts b_law_right_parts (PySem.W.mg_of X G a_law_right_parts) B T Z c__law_variables
  have c__law_hung := ok_law_hung (P := l.prog) (w := w) (base := base) F_law_hung b_law_hung (PySem.W.mg_of X G a_law_hung) B T Z c__law_take
  have c_check_pattern := ok_check_pattern (P := l.prog) (w := w) (base := base) F_check_pattern b_check_pattern (PySem.W.mg_of X G a_check_pattern) B T Z c_all_variables c_right_atoms
  have c_right_parts := ok_right_parts (P := l.prog) (w := w) (base := base) F_right_parts b_right_parts (PySem.W.mg_of X G a_right_parts) B T Z c_right_tree c_all_variables
  have c__law_catalogue := ok_law_catalogue (P := l.prog) (w := w) (base := base) F_law_catalogue b_law_catalogue (PySem.W.mg_of X G a_law_catalogue) B T Z c__law_take c__law_rows
  have c__law_bent := ok_law_bent (P := l.prog) (w := w) (base := base) F_law_bent b_law_bent (PySem.W.mg_of X G a_law_bent) B T Z c__law_take c__law_signed
  have c_check_parts := ok_check_parts (P := l.prog) (w := w) (base := base) F_check_parts b_check_parts (PySem.W.mg_of X G a_check_parts) B T Z c_check_pattern c_right_parts
  exact fn_law (P := l.prog) (w := w) (base := base) F_law b_law (PySem.W.mg_of X G a_law) B T Z c__law_begin c__law_catalogue c__law_pattern c__law_take c__law_shuffled c__law_variables c__law_hung c__law_bags c_check_parts c__law_right_parts c_order_of c__law_part_order c_width_of c__law_bent
end DL.K17
open PySem PySem.W PyProof.Rows
set_option maxHeartbeats 0 in
theorem PySem.Challenge.cw_tableguild_k17_trees_of_parts_are_checke_holds : PySem.Challenge.rw_tableguild_k17_trees_of_parts_are_checke.Holds := by
  w_on; o_law; k_head; (case hw => w_witness2)
  k_fill
  refine L2.walk_of (l := PySem.Challenge.rw_tableguild_k17_trees_of_parts_are_checke) (n := 63) (k := 5) (x := "script") (CX := fun w => L2.CX PySem.Challenge.pw_tableguild_k17_trees_of_parts_are_checke w) (sp := fun w => DL.liftSp _ DL.K17.sp_law) rfl (by decide) rfl ⟨rfl, by decide, by decide⟩ (fun w h Y => PySem.W.kIn_of Y) ?F (fun w H a ns hl ho hS => DL.law_start hS fun P PX h => DL.K17.law_in ns hl h) (fun w H s e s' h => DL.cx_false h)
  case F =>
    intro w mg fa h KX G hmg
    refine' DL.K17.all_mk KX G hmg ?a_is_name ?l_is_name ?q_is_name ?k_is_name ?a_ascend ?l_ascend ?q_ascend ?k_ascend ?a_all_variables ?l_all_variables ?q_all_variables ?k_all_variables ?a_width_of ?l_width_of ?q_width_of ?k_width_of ?a_order_of ?l_order_of ?q_order_of ?k_order_of ?a_law_begin ?l_law_begin ?q_law_begin ?k_law_begin ?a_law_take ?l_law_take ?q_law_take ?k_law_take ?a_law_variables ?l_law_variables ?q_law_variables ?k_law_variables ?a_law_bags ?l_law_bags ?q_law_bags ?k_law_bags ?a_law_part_order ?l_law_part_order ?q_law_part_order ?k_law_part_order ?a_right_atoms ?l_right_atoms ?q_right_atoms ?k_right_atoms ?a_right_tree ?l_right_tree ?q_right_tree ?k_right_tree ?a_law_signed ?l_law_signed ?q_law_signed ?k_law_signed ?a_law_rows ?l_law_rows ?q_law_rows ?k_law_rows ?a_law_pattern ?l_law_pattern ?q_law_pattern ?k_law_pattern ?a_law_shuffled ?l_law_shuffled ?q_law_shuffled ?k_law_shuffled ?a_law_right_parts ?l_law_right_parts ?q_law_right_parts ?k_law_right_parts ?a_law_hung ?l_law_hung ?q_law_hung ?k_law_hung ?a_check_pattern ?l_check_pattern ?q_check_pattern ?k_check_pattern ?a_right_parts ?l_right_parts ?q_right_parts ?k_right_parts ?a_law_catalogue ?l_law_catalogue ?q_law_catalogue ?k_law_catalogue ?a_law_bent ?l_law_bent ?q_law_bent ?k_law_bent ?a_check_parts ?l_check_parts ?q_check_parts ?k_check_parts ?a_law ?l_law ?q_law ?k_law ?z_abs ?z_all ?z_any ?z_bool ?z_int ?z_isinstance ?z_len ?z_list ?z_max ?z_range ?z_set ?z_sorted ?z_str ?z_tuple ?y_ATOM_LIMIT ?y_LETTERS ?y_NAME_LIMIT ?y_NAME_SIGNS ?y_PLACE_LIMIT ?y_VARIABLE_LIMIT ?e2_PatternError ?e1_PatternError ?e3_PatternError ?e4_PatternError ?e5_PatternError ?e6_PatternError ?e2_TooLarge ?e1_TooLarge ?e3_TooLarge ?e4_TooLarge ?e5_TooLarge ?e6_TooLarge
    (case a_is_name => k_is); (case l_is_name => k_is); (case q_is_name => k_is); (case k_is_name => k_is); (case a_ascend => k_is); (case l_ascend => k_is); (case q_ascend => k_is); (case k_ascend => k_is); (case a_all_variables => k_is); (case l_all_variables => k_is); (case q_all_variables => k_is); (case k_all_variables => k_is); (case a_width_of => k_is); (case l_width_of => k_is); (case q_width_of => k_is); (case k_width_of => k_is); (case a_order_of => k_is); (case l_order_of => k_is); (case q_order_of => k_is); (case k_order_of => k_is); (case a_law_begin => k_is); (case l_law_begin => k_is); (case q_law_begin => k_is); (case k_law_begin => k_is); (case a_law_take => k_is); (case l_law_take => k_is); (case q_law_take => k_is); (case k_law_take => k_is); (case a_law_variables => k_is); (case l_law_variables => k_is); (case q_law_variables => k_is); (case k_law_variables => k_is); (case a_law_bags => k_is); (case l_law_bags => k_is); (case q_law_bags => k_is); (case k_law_bags => k_is); (case a_law_part_order => k_is); (case l_law_part_order => k_is); (case q_law_part_order => k_is); (case k_law_part_order => k_is); (case a_right_atoms => k_is); (case l_right_atoms => k_is); (case q_right_atoms => k_is); (case k_right_atoms => k_is); (case a_right_tree => k_is); (case l_right_tree => k_is); (case q_right_tree => k_is); (case k_right_tree => k_is); (case a_law_signed => k_is); (case l_law_signed => k_is); (case q_law_signed => k_is); (case k_law_signed => k_is); (case a_law_rows => k_is); (case l_law_rows => k_is); (case q_law_rows => k_is); (case k_law_rows => k_is); (case a_law_pattern => k_is); (case l_law_pattern => k_is); (case q_law_pattern => k_is); (case k_law_pattern => k_is); (case a_law_shuffled => k_is); (case l_law_shuffled => k_is); (case q_law_shuffled => k_is); (case k_law_shuffled => k_is); (case a_law_right_parts => k_is); (case l_law_right_parts => k_is); (case q_law_right_parts => k_is); (case k_law_right_parts => k_is); (case a_law_hung => k_is); (case l_law_hung => k_is); (case q_law_hung => k_is); (case k_law_hung => k_is); (case a_check_pattern => k_is); (case l_check_pattern => k_is); (case q_check_pattern => k_is); (case k_check_pattern => k_is); (case a_right_parts => k_is); (case l_right_parts => k_is); (case q_right_parts => k_is); (case k_right_parts => k_is); (case a_law_catalogue => k_is); (case l_law_catalogue => k_is); (case q_law_catalogue => k_is); (case k_law_catalogue => k_is); (case a_law_bent => k_is); (case l_law_bent => k_is); (case q_law_bent => k_is); (case k_law_bent => k_is); (case a_check_parts => k_is); (case l_check_parts => k_is); (case q_check_parts => k_is); (case k_check_parts => k_is); (case a_law => k_is); (case l_law => k_is); (case q_law => k_is); (case k_law => k_is); (case z_abs => k_is); (case z_all => k_is); (case z_any => k_is); (case z_bool => k_is); (case z_int => k_is); (case z_isinstance => k_is); (case z_len => k_is); (case z_list => k_is); (case z_max => k_is); (case z_range => k_is); (case z_set => k_is); (case z_sorted => k_is); (case z_str => k_is); (case z_tuple => k_is); (case y_ATOM_LIMIT => k_is); (case y_LETTERS => k_is); (case y_NAME_LIMIT => k_is); (case y_NAME_SIGNS => k_is); (case y_PLACE_LIMIT => k_is); (case y_VARIABLE_LIMIT => k_is); (case e2_PatternError => k_is); (case e1_PatternError => k_exc); (case e3_PatternError => k_is); (case e4_PatternError => k_is); (case e5_PatternError => k_is); (case e6_PatternError => k_is); (case e2_TooLarge => k_is); (case e1_TooLarge => k_exc); (case e3_TooLarge => k_is); (case e4_TooLarge => k_is); (case e5_TooLarge => k_is); (case e6_TooLarge => k_is)
