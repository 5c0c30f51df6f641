import PyProof.Rows.All
import HandS.ForMost
import HandS.ForExc
import HandS.TupAny
import HandS.Wide
import HandS.Deep
import KE.SortData
import KE.DataCmp
import HandS.IsInst
import HandS.ExcIs
import HandS.Gcd
import HandS.Flow
import HandS.SetFor
import HandS.TupSets
import HandS.Style
import HandS.RaiseMore
import HandS.Conv
import PySem.Challenge.RW_tableguild_k09_walkers
set_option Elab.async false
set_option linter.all false
set_option maxRecDepth 100000
set_option maxHeartbeats 4000000
/-! A layer of our own: data by content, mutable things by address. Part 1: states, judgements. -/
namespace DL
open PySem PySem.Spec PyProof.Rows L2

/-- a value: data by content, or a mutable thing by its address -/
inductive DV where
  | d (x : PyData)
  | r (a : Addr)

/-- a mutable thing -/
inductive MO where
  | ls (xs : List PyData)
  | lv (xs : List DV)
  | dk (kvs : List (Key × DV))
  | ins (C dx : Addr) (fs : List (Str × DV))
  | hx (o : HO)

abbrev MHp := Addr → Option MO
abbrev Hid := Addr → Bool
def mu (M : MHp) (a : Addr) (o : MO) : MHp := fun b => if b = a then some o else M b
theorem mu_same {M : MHp} {a : Addr} {o : MO} : mu M a o a = some o := by unfold mu; rw [if_pos rfl]
theorem mu_ne {M : MHp} {a b : Addr} {o : MO} (h : b ≠ a) : mu M a o b = M b := by unfold mu; rw [if_neg h]
theorem mu_mu {M : MHp} {a : Addr} {o u : MO} : mu (mu M a o) a u = mu M a u := by
  funext b; unfold mu; split <;> rfl
theorem mu_comm {M : MHp} {a b : Addr} {o u : MO} (h : a ≠ b) : mu (mu M a o) b u = mu (mu M b u) a o := by
  funext c
  unfold mu
  by_cases h1 : c = a
  · by_cases h2 : c = b
    · exact absurd (h1.symm.trans h2) h
    · rw [if_neg h2, if_pos h1, if_pos h1]
  · by_cases h2 : c = b
    · rw [if_pos h2, if_neg h1, if_pos h2]
    · rw [if_neg h2, if_neg h1, if_neg h1, if_neg h2]

/-- what never changes -/
def fz (M : MHp) (N : Hid) (H : Hp) : Hp := fun a => if N a = true then none else match M a with | none => H a | some _ => none

mutual
theorem dp_mono {K : PySem.W.Frag} {F G : Hp} (s : Same F G) : ∀ (d : PyData) (v : V), Dp K F v d → Dp K G v d
  | .none, _, h => by cases h; exact .non
  | .bool _, _, h => by cases h; exact .bl _
  | .int _, _, h => by cases h; exact .int _
  | .str _, _, h => by cases h; exact .str _
  | .list ds, _, h => by
    cases h with
    | lst h1 h2 => exact .lst (s.seq h1) (dpAll_mono s ds _ h2)
  | .tuple ds, _, h => by
    cases h with
    | tup h1 h2 =>
      refine .tup ?_ (dpAll_mono s ds _ h2)
      rcases h1 with (h | ⟨o, h⟩) | h
      · exact .inl (.inl (s _ _ h))
      · exact .inl (.inr ⟨o, s _ _ h⟩)
      · exact .inr h
  | .dict _, _, h => by cases h
theorem dpAll_mono {K : PySem.W.Frag} {F G : Hp} (s : Same F G) : ∀ (ds : List PyData) (vs : List V), DpAll K F vs ds → DpAll K G vs ds
  | [], _, h => by cases h; exact .nil
  | d :: ds, _, h => by
    cases h with
    | cons h1 h2 => exact .cons (dp_mono s d _ h1) (dpAll_mono s ds _ h2)
end
theorem dpAll_len {K : PySem.W.Frag} {F : Hp} : ∀ {vs : List V} {ds : List PyData}, DpAll K F vs ds → vs.length = ds.length
  | _, [], h => by cases h; rfl
  | _, _ :: _, h => by
    cases h with
    | cons h1 h2 => simp [dpAll_len h2]
theorem dpAll_get {K : PySem.W.Frag} {F : Hp} : ∀ {vs : List V} {ds : List PyData} {i : Nat} {d : PyData}, DpAll K F vs ds → ds[i]? = some d → ∃ v, vs[i]? = some v ∧ Dp K F v d
  | _, [], i, d, h, e => by simp at e
  | _, _ :: _, i, d, h, e => by
    cases h with
    | cons h1 h2 =>
      cases i with
      | zero => simp at e; subst e; exact ⟨_, rfl, h1⟩
      | succ i =>
        obtain ⟨v, q1, q2⟩ := dpAll_get (i := i) h2 (by simpa using e)
        exact ⟨v, by simpa using q1, q2⟩
theorem dpAll_get' {K : PySem.W.Frag} {F : Hp} {vs : List V} {ds : List PyData} {i : Nat} {v : V} (h : DpAll K F vs ds) (e : vs[i]? = some v) : ∃ d, ds[i]? = some d ∧ Dp K F v d := by
  obtain ⟨hi, _⟩ := List.getElem?_eq_some_iff.mp e
  have hi' : i < ds.length := by rw [← dpAll_len h]; exact hi
  obtain ⟨v', q1, q2⟩ := dpAll_get h (List.getElem?_eq_getElem hi')
  rw [e] at q1
  cases q1
  exact ⟨_, List.getElem?_eq_getElem hi', q2⟩
theorem dpAll_app {K : PySem.W.Frag} {F : Hp} : ∀ {vs ws : List V} {ds es : List PyData}, DpAll K F vs ds → DpAll K F ws es → DpAll K F (vs ++ ws) (ds ++ es)
  | _, _, [], _, h, g => by cases h; exact g
  | _, _, _ :: _, _, h, g => by
    cases h with
    | cons h1 h2 => exact .cons h1 (dpAll_app h2 g)
theorem dpAll_drop {K : PySem.W.Frag} {F : Hp} : ∀ {vs : List V} {ds : List PyData} (n : Nat), DpAll K F vs ds → DpAll K F (vs.drop n) (ds.drop n)
  | _, _, 0, h => h
  | _, [], n + 1, h => by cases h; exact .nil
  | _, _ :: _, n + 1, h => by
    cases h with
    | cons h1 h2 => exact dpAll_drop n h2
theorem dpAll_take {K : PySem.W.Frag} {F : Hp} : ∀ {vs : List V} {ds : List PyData} (n : Nat), DpAll K F vs ds → DpAll K F (vs.take n) (ds.take n)
  | _, _, 0, h => by simpa using DpAll.nil
  | _, [], n + 1, h => by cases h; exact .nil
  | _, _ :: _, n + 1, h => by
    cases h with
    | cons h1 h2 => exact .cons h1 (dpAll_take n h2)
theorem dpAll_set {K : PySem.W.Frag} {F : Hp} {v : V} {d : PyData} (hv : Dp K F v d) : ∀ {vs : List V} {ds : List PyData} (n : Nat), DpAll K F vs ds → DpAll K F (vs.set n v) (ds.set n d)
  | _, [], n, h => by cases h; exact .nil
  | _, _ :: _, n, h => by
    cases h with
    | cons h1 h2 =>
      cases n with
      | zero => exact .cons hv h2
      | succ n => exact .cons h1 (dpAll_set hv n h2)
theorem dpAll_rev {K : PySem.W.Frag} {F : Hp} : ∀ {vs : List V} {ds : List PyData}, DpAll K F vs ds → DpAll K F vs.reverse ds.reverse
  | _, [], h => by cases h; exact .nil
  | _, _ :: _, h => by
    cases h with
    | cons h1 h2 =>
      rw [List.reverse_cons, List.reverse_cons]
      exact dpAll_app (dpAll_rev h2) (.cons h1 .nil)

/-- v stands for the value, in the heap of what never changes -/
def IsD (K : PySem.W.Frag) (F : Hp) (v : V) : DV → Prop
  | .d x => Dp K F v x
  | .r a => v = .ref a
theorem isD_mono {K : PySem.W.Frag} {F G : Hp} (s : Same F G) {v : V} : ∀ {x : DV}, IsD K F v x → IsD K G v x
  | .d x, h => dp_mono s x v h
  | .r _, h => h
abbrev AreD (K : PySem.W.Frag) (F : Hp) : List V → List DV → Prop := Paired (IsD K F)
theorem areD_mono {K : PySem.W.Frag} {F G : Hp} (s : Same F G) {vs : List V} {xs : List DV} (h : AreD K F vs xs) : AreD K G vs xs := Paired.mapP h fun _ _ => isD_mono s
def ObjD (K : PySem.W.Frag) (F : Hp) : HO → MO → Prop
  | .lst vs, .ls ds => DpAll K F vs ds
  | .lst vs, .lv ds => AreD K F vs ds
  | .dK a, .dk b => Paired (fun (p : Key × V) (q : Key × DV) => p.1 = q.1 ∧ IsD K F p.2 q.2) a b
  | .ins C dx fs, .ins C' dx' gs => C = C' ∧ dx = dx' ∧ Paired (fun (p : Str × V) (q : Str × DV) => p.1 = q.1 ∧ IsD K F p.2 q.2) fs gs
  | o, .hx o' => o = o'
  | _, _ => False
theorem objD_mono {K : PySem.W.Frag} {F G : Hp} (s : Same F G) {h : HO} {o : MO} (x : ObjD K F h o) : ObjD K G h o := by
  cases o with
  | ls ds =>
    cases h with
    | lst vs => exact dpAll_mono s ds vs x
    | _ => exact x.elim
  | lv ds =>
    cases h with
    | lst vs => exact areD_mono s x
    | _ => exact x.elim
  | dk ds =>
    cases h with
    | dK vs => exact Paired.mapP (show Paired _ _ _ from x) fun _ _ z => ⟨z.1, isD_mono s z.2⟩
    | _ => exact x.elim
  | ins C dx fs =>
    cases h with
    | ins C' dx' gs => exact ⟨x.1, x.2.1, Paired.mapP x.2.2 fun _ _ z => ⟨z.1, isD_mono s z.2⟩⟩
    | _ => exact x.elim
  | hx o => cases h <;> exact x

structure HRel (K : PySem.W.Frag) (M : MHp) (N : Hid) (H : Hp) : Prop where
  obj : ∀ a o, M a = some o → ∃ h, H a = some h ∧ ObjD K (fz M N H) h o
  hid : ∀ a, N a = true → M a = none ∧ H a ≠ none
structure Af (M : MHp) (N : Hid) (H : Hp) (M' : MHp) (H' : Hp) : Prop where
  fr : Same (fz M N H) (fz M' N H')
  hd : ∀ a, N a = true → H' a = H a
theorem Af.refl {M : MHp} {N : Hid} {H : Hp} : Af M N H M H := ⟨Same.refl _, fun _ _ => rfl⟩
theorem Af.trans {M M1 M2 : MHp} {N : Hid} {H H1 H2 : Hp} (a : Af M N H M1 H1) (b : Af M1 N H1 M2 H2) : Af M N H M2 H2 :=
  ⟨a.fr.trans b.fr, fun c h => (b.hd c h).trans (a.hd c h)⟩
def SRel (K : PySem.W.Frag) (F : Hp) (σ : L2.St) (ρ : List (Option DV)) : Prop :=
  σ.length = ρ.length ∧ ∀ (i : Nat) (x : DV), ρ[i]? = some (some x) → ∃ v, σ[i]? = some (some v) ∧ IsD K F v x
theorem SRel.mono {K : PySem.W.Frag} {F G : Hp} (s : Same F G) {σ : L2.St} {ρ : List (Option DV)} (h : SRel K F σ ρ) : SRel K G σ ρ :=
  ⟨h.1, fun i x e => let ⟨v, h1, h2⟩ := h.2 i x e; ⟨v, h1, isD_mono s h2⟩⟩
theorem SRel.set {K : PySem.W.Frag} {F : Hp} {σ : L2.St} {ρ : List (Option DV)} (h : SRel K F σ ρ) {v : V} {x : DV} (hv : IsD K F v x) (i : Nat) : SRel K F (σ.set i (some v)) (ρ.set i (some x)) := by
  refine ⟨by rw [List.length_set, List.length_set]; exact h.1, fun j y e => ?_⟩
  by_cases hj : i = j
  · subst hj
    by_cases hi : i < ρ.length
    · rw [List.getElem?_set_self hi] at e
      cases e
      exact ⟨v, by rw [List.getElem?_set_self (by rw [h.1]; exact hi)], hv⟩
    · rw [List.getElem?_eq_none (by rw [List.length_set]; omega)] at e; cases e
  · rw [List.getElem?_set_ne hj] at e
    obtain ⟨w, e1, e2⟩ := h.2 j y e
    exact ⟨w, by rw [List.getElem?_set_ne hj]; exact e1, e2⟩
/-- slots forgotten -/
theorem SRel.setNone {K : PySem.W.Frag} {F : Hp} {σ : L2.St} {ρ : List (Option DV)} (h : SRel K F σ ρ) (x : Option V) (i : Nat) : SRel K F (σ.set i x) (ρ.set i none) := by
  refine ⟨by rw [List.length_set, List.length_set]; exact h.1, fun j y e => ?_⟩
  by_cases hj : i = j
  · subst hj
    by_cases hi : i < ρ.length
    · rw [List.getElem?_set_self hi] at e
      cases e
    · rw [List.getElem?_eq_none (by rw [List.length_set]; omega)] at e; cases e
  · rw [List.getElem?_set_ne hj] at e
    obtain ⟨w, e1, e2⟩ := h.2 j y e
    exact ⟨w, by rw [List.getElem?_set_ne hj]; exact e1, e2⟩

/-- an exception: its class, its attributes -/
structure XD where
  cls : Value
  fs : Option (List (Str × PyData)) := none
def ExD (K : PySem.W.Frag) (F : Hp) (x : XD) (d : Option Addr) : Prop := match x.fs with
  | none => d = none
  | some gs => ∃ dd fs, d = some dd ∧ F dd = some (.xd fs) ∧ Paired (fun (p : Str × V) (q : Str × PyData) => p.1 = q.1 ∧ Dp K F p.2 q.2) fs gs
theorem exD_mono {K : PySem.W.Frag} {F G : Hp} (s : Same F G) {x : XD} {d : Option Addr} (h : ExD K F x d) : ExD K G x d := by
  unfold ExD at h ⊢
  split at h
  · exact h
  · obtain ⟨dd, fs, h1, h2, h3⟩ := h
    exact ⟨dd, fs, h1, s _ _ h2, Paired.mapP h3 fun _ _ z => ⟨z.1, dp_mono s _ _ z.2⟩⟩

abbrev DEnv := List (Option DV)
abbrev DK := DV → MHp → Prop
abbrev DX := XD → MHp → Prop
/-- readings: an expression's, a test's, an argument list's -/
abbrev DTE := DEnv → MHp → DK → DX → Prop
abbrev DTT := DEnv → MHp → (Bool → MHp → Prop) → DX → Prop
abbrev DTA := DEnv → MHp → (List DV → MHp → Prop) → DX → Prop

/-- where the exceptional end is reached -/
def XEnd (K : PySem.W.Frag) (W : WX) (σ : L2.St) (M : MHp) (N : Hid) (H : Hp) (PX : DX) : Prop :=
  ∀ x M' d H', PX x M' → HRel K M' N H' → Af M N H M' H' → ExD K (fz M' N H') x d → W x.cls d σ H'
theorem XEnd.step {K : PySem.W.Frag} {W : WX} {σ : L2.St} {M M1 : MHp} {N : Hid} {H H1 : Hp} {PX : DX} (h : XEnd K W σ M N H PX) (a : Af M N H M1 H1) : XEnd K W σ M1 N H1 PX :=
  fun x M' d H' p hr af ex => h x M' d H' p hr (a.trans af) ex

def LE (K : PySem.W.Frag) (W : WX) (t : DTE) : TE := fun σ H Q => ∃ ρ M N P PX, SRel K (fz M N H) σ ρ ∧ HRel K M N H ∧ t ρ M P PX ∧
  (∀ x M' v H', P x M' → HRel K M' N H' → Af M N H M' H' → IsD K (fz M' N H') v x → Q v H') ∧ XEnd K W σ M N H PX
def LT (K : PySem.W.Frag) (W : WX) (t : DTT) : TT := fun σ H Q => ∃ ρ M N P PX, SRel K (fz M N H) σ ρ ∧ HRel K M N H ∧ t ρ M P PX ∧
  (∀ b M' H', P b M' → HRel K M' N H' → Af M N H M' H' → Q b H') ∧ XEnd K W σ M N H PX
def LA (K : PySem.W.Frag) (W : WX) (t : DTA) : TA := fun σ H Q => ∃ ρ M N P PX, SRel K (fz M N H) σ ρ ∧ HRel K M N H ∧ t ρ M P PX ∧
  (∀ xs M' vs H', P xs M' → HRel K M' N H' → Af M N H M' H' → AreD K (fz M' N H') vs xs → Q vs H') ∧ XEnd K W σ M N H PX

structure DE (X : Cx) (W : WX) (e : Expr) (t : DTE) : Prop where
  pe : PE X e (LE X.K W t)
structure DT (X : Cx) (W : WX) (e : Expr) (t : DTT) : Prop where
  pt : PT X e (LT X.K W t)
structure DA (X : Cx) (W : WX) (es : List Expr) (t : DTA) : Prop where
  pa : PA X es (LA X.K W t)

theorem PE.imp {X : Cx} {e : Expr} {t u : TE} (h : PE X e t) (i : ∀ σ H Q, u σ H Q → t σ H Q) : PE X e u := ⟨fun pins s σ H Q I q => h.run pins s σ H Q I (i σ H Q q)⟩
theorem PT.imp {X : Cx} {e : Expr} {t u : TT} (h : PT X e t) (i : ∀ σ H Q, u σ H Q → t σ H Q) : PT X e u := ⟨fun pins s σ H Q I q => h.run pins s σ H Q I (i σ H Q q)⟩
theorem PA.imp {X : Cx} {e : List Expr} {t u : TA} (h : PA X e t) (i : ∀ σ H Q, u σ H Q → t σ H Q) : PA X e u := ⟨fun pos pins s σ H Q I q => h.run pos pins s σ H Q I (i σ H Q q)⟩
theorem PS.imp {X : Cx} {e : Stmt} {t u : TS} (h : PS X e t) (i : ∀ D σ H, u D σ H → t D σ H) : PS X e u := ⟨fun pins s σ H D I q => h.run pins s σ H D I (i D σ H q)⟩
theorem PSs.imp {X : Cx} {e : List Stmt} {t u : TS} (h : PSs X e t) (i : ∀ D σ H, u D σ H → t D σ H) : PSs X e u := ⟨fun pins s σ H D I q => h.run pins s σ H D I (i D σ H q)⟩

/-- what is wanted behind a statement -/
structure DEnds where
  nx : DEnv → MHp → Prop
  rt : DK
  ex : XD → DEnv → MHp → Prop := fun _ _ _ => False
  bk : DEnv → MHp → Prop := fun _ _ => False
  ct : DEnv → MHp → Prop := fun _ _ => False
abbrev DTS := DEnds → DEnv → MHp → Prop

/-- the ends of the abstract heap are those of ours -/
structure EndsOk (K : PySem.W.Frag) (W : WX) (M : MHp) (N : Hid) (H : Hp) (E : DEnds) (D : Ends) : Prop where
  nx : ∀ ρ' M' σ' H', E.nx ρ' M' → SRel K (fz M' N H') σ' ρ' → HRel K M' N H' → Af M N H M' H' → D.nx σ' H'
  rt : ∀ x M' v H', E.rt x M' → HRel K M' N H' → Af M N H M' H' → IsD K (fz M' N H') v x → D.rt v H'
  bk : ∀ ρ' M' σ' H', E.bk ρ' M' → SRel K (fz M' N H') σ' ρ' → HRel K M' N H' → Af M N H M' H' → D.bk σ' H'
  ct : ∀ ρ' M' σ' H', E.ct ρ' M' → SRel K (fz M' N H') σ' ρ' → HRel K M' N H' → Af M N H M' H' → D.ct σ' H'
  ex : ∀ x ρ' M' d σ' H', E.ex x ρ' M' → SRel K (fz M' N H') σ' ρ' → HRel K M' N H' → Af M N H M' H' → ExD K (fz M' N H') x d → W x.cls d σ' H'
theorem EndsOk.step {K : PySem.W.Frag} {W : WX} {M M1 : MHp} {N : Hid} {H H1 : Hp} {E : DEnds} {D : Ends} (h : EndsOk K W M N H E D) (a : Af M N H M1 H1) : EndsOk K W M1 N H1 E D :=
  ⟨fun ρ' M' σ' H' e s r f => h.nx ρ' M' σ' H' e s r (a.trans f), fun x M' v H' e r f i => h.rt x M' v H' e r (a.trans f) i, fun ρ' M' σ' H' e s r f => h.bk ρ' M' σ' H' e s r (a.trans f),
    fun ρ' M' σ' H' e s r f => h.ct ρ' M' σ' H' e s r (a.trans f), fun x ρ' M' d σ' H' e s r f i => h.ex x ρ' M' d σ' H' e s r (a.trans f) i⟩
/-- another continuation -/
theorem EndsOk.next {K : PySem.W.Frag} {W : WX} {M : MHp} {N : Hid} {H : Hp} {E : DEnds} {D : Ends} (h : EndsOk K W M N H E D) {n : DEnv → MHp → Prop} {n' : L2.St → Hp → Prop}
    (hn : ∀ ρ' M' σ' H', n ρ' M' → SRel K (fz M' N H') σ' ρ' → HRel K M' N H' → Af M N H M' H' → n' σ' H') : EndsOk K W M N H { E with nx := n } { D with nx := n' } :=
  ⟨hn, h.rt, h.bk, h.ct, h.ex⟩
/-- an expression's exceptional end, from a statement's -/
theorem EndsOk.xend {K : PySem.W.Frag} {W : WX} {M : MHp} {N : Hid} {H : Hp} {E : DEnds} {D : Ends} (h : EndsOk K W M N H E D) {σ : L2.St} {ρ : DEnv} (s : SRel K (fz M N H) σ ρ) : XEnd K W σ M N H (fun x M' => E.ex x ρ M') :=
  fun x M' d H' p hr af ed => h.ex x ρ M' d σ H' p (s.mono af.fr) hr af ed

def LS (K : PySem.W.Frag) (W : WX) (t : DTS) : TS := fun D σ H => ∃ ρ M N E, SRel K (fz M N H) σ ρ ∧ HRel K M N H ∧ t E ρ M ∧ EndsOk K W M N H E D
structure DS (X : Cx) (W : WX) (st : Stmt) (t : DTS) : Prop where
  ps : PS X st (LS X.K W t)
structure DSs (X : Cx) (W : WX) (st : List Stmt) (t : DTS) : Prop where
  ps : PSs X st (LS X.K W t)

/-! ### heaps -/
section
variable {K : PySem.W.Frag} {M M' : MHp} {N : Hid} {H H' : Hp} {a : Addr}
theorem fz_sub : Same (fz M N H) H := fun b o e => by
  unfold fz at e
  split at e
  · cases e
  · split at e
    · exact e
    · cases e
theorem fz_at (hn : N a = false) (hm : M a = none) : fz M N H a = H a := by
  unfold fz
  rw [if_neg (by rw [hn]; exact Bool.false_ne_true), hm]
theorem HRel.free (h : HRel K M N H) (e : H a = none) : M a = none ∧ N a = false := by
  constructor
  · cases q : M a with
    | none => rfl
    | some o =>
      obtain ⟨x, e1, _⟩ := h.obj a o q
      rw [e] at e1; cases e1
  · cases q : N a with
    | false => rfl
    | true => exact absurd e (h.hid a q).2
/-- the heap has grown -/
theorem Af.grow (h : HRel K M N H) (s : Same H H') : Af M N H M H' := by
  refine ⟨fun b o e => ?_, fun b hb => ?_⟩
  · unfold fz at e ⊢
    by_cases hb : N b = true
    · rw [if_pos hb] at e; cases e
    · rw [if_neg hb] at e ⊢
      cases q : M b with
      | none =>
        rw [q] at e
        exact s _ _ e
      | some o => rw [q] at e; cases e
  · cases q : H b with
    | none => exact absurd q (h.hid b hb).2
    | some o => exact s _ _ q
theorem HRel.grow (h : HRel K M N H) (s : Same H H') : HRel K M N H' := by
  refine ⟨fun b o e => ?_, fun b hb => ⟨(h.hid b hb).1, fun z => ?_⟩⟩
  · obtain ⟨x, h1, h2⟩ := h.obj b o e
    exact ⟨x, s _ _ h1, objD_mono (Af.grow h s).fr h2⟩
  · have := (Af.grow h s).hd b hb
    rw [this] at z
    exact (h.hid b hb).2 z
theorem same_new {o : HO} (h : H a = none) : Same H (upd H a o) := fun b x e => by
  rw [upd_ne (ne_of_none e h)]
  exact e
/-- a new thing that never changes -/
theorem fz_new (h : HRel K M N H) (e : H a = none) {o : HO} : fz M N (upd H a o) a = some o := by
  obtain ⟨h1, h2⟩ := h.free e
  rw [fz_at h2 h1, upd_same]
/-- a mutable thing is written, or a new one laid -/
theorem HRel.put (h : HRel K M N H) {o : HO} {x : MO} (hn : N a = false) (hnew : M a ≠ none ∨ H a = none) (ho : ObjD K (fz M N H) o x) : HRel K (mu M a x) N (upd H a o) ∧ Af M N H (mu M a x) (upd H a o) := by
  have af : Af M N H (mu M a x) (upd H a o) := by
    refine ⟨fun b u e => ?_, fun b hb => ?_⟩
    · have hba : b ≠ a := by
        rintro rfl
        rcases hnew with z | z
        · unfold fz at e
          rw [if_neg (by rw [hn]; exact Bool.false_ne_true)] at e
          cases q : M b with
          | none => exact z q
          | some o => rw [q] at e; cases e
        · have := fz_sub _ _ e
          rw [z] at this; cases this
      unfold fz at e ⊢
      rw [mu_ne hba, upd_ne hba]
      exact e
    · have hba : b ≠ a := by rintro rfl; rw [hn] at hb; cases hb
      exact upd_ne hba
  refine ⟨⟨fun b u e => ?_, fun b hb => ?_⟩, af⟩
  · by_cases hba : b = a
    · subst hba
      rw [mu_same] at e
      cases e
      exact ⟨o, upd_same, objD_mono af.fr ho⟩
    · rw [mu_ne hba] at e
      obtain ⟨y, e1, e2⟩ := h.obj b u e
      exact ⟨y, by rw [upd_ne hba]; exact e1, objD_mono af.fr e2⟩
  · have hba : b ≠ a := by rintro rfl; rw [hn] at hb; cases hb
    rw [mu_ne hba, upd_ne hba]
    exact h.hid b hb
theorem HRel.notHid (h : HRel K M N H) {x : MO} (e : M a = some x) : N a = false := by
  cases q : N a with
  | false => rfl
  | true => rw [(h.hid a q).1] at e; cases e
theorem HRel.write (h : HRel K M N H) {o : HO} {x y : MO} (e : M a = some y) (ho : ObjD K (fz M N H) o x) : HRel K (mu M a x) N (upd H a o) ∧ Af M N H (mu M a x) (upd H a o) :=
  h.put (h.notHid e) (.inl (by rw [e]; exact fun z => by cases z)) ho
theorem HRel.new (h : HRel K M N H) {o : HO} {x : MO} (e : H a = none) (ho : ObjD K (fz M N H) o x) : HRel K (mu M a x) N (upd H a o) ∧ Af M N H (mu M a x) (upd H a o) :=
  h.put (h.free e).2 (.inr e) ho

/-! ### forgetting -/
def MLe (M' M : MHp) : Prop := ∀ a o, M' a = some o → M a = some o
theorem MLe.refl : MLe M M := fun _ _ e => e
theorem MLe.trans {M1 M2 M3 : MHp} (a : MLe M1 M2) (b : MLe M2 M3) : MLe M1 M3 := fun c o e => b c o (a c o e)
theorem MLe.mu {o : MO} (h : MLe M' M) : MLe (DL.mu M' a o) (DL.mu M a o) := fun b u e => by
  unfold DL.mu at e ⊢
  split at e
  · rename_i q
    rw [if_pos q]; exact e
  · rename_i q
    rw [if_neg q]; exact h _ _ e
theorem MLe.new {o : MO} (h : MLe M' M) (n : M a = none) : MLe M' (DL.mu M a o) := fun b u e => by
  have := h b u e
  rw [mu_ne (by rintro rfl; rw [n] at this; cases this)]
  exact this
theorem fz_le (l : MLe M' M) : Same (fz M N H) (fz M' N H) := fun b o e => by
  unfold fz at e ⊢
  by_cases hb : N b = true
  · rw [if_pos hb] at e; cases e
  · rw [if_neg hb] at e ⊢
    cases q : M b with
    | some x => rw [q] at e; cases e
    | none =>
      rw [q] at e
      cases q' : M' b with
      | none => exact e
      | some x => rw [l b x q'] at q; cases q
theorem HRel.le (h : HRel K M N H) (l : MLe M' M) : HRel K M' N H ∧ Af M N H M' H := by
  refine ⟨⟨fun b o e => ?_, fun b hb => ⟨?_, (h.hid b hb).2⟩⟩, fz_le l, fun _ _ => rfl⟩
  · obtain ⟨x, h1, h2⟩ := h.obj b o (l b o e)
    exact ⟨x, h1, objD_mono (fz_le l) h2⟩
  · cases q : M' b with
    | none => rfl
    | some x => have := l b x q; rw [(h.hid b hb).1] at this; cases this
end
def ELe (ρ' ρ : DEnv) : Prop := ρ'.length = ρ.length ∧ ∀ (i : Nat) (x : DV), ρ'[i]? = some (some x) → ρ[i]? = some (some x)
theorem ELe.refl {ρ : DEnv} : ELe ρ ρ := ⟨rfl, fun _ _ e => e⟩
theorem SRel.le {K : PySem.W.Frag} {F : Hp} {σ : L2.St} {ρ ρ' : DEnv} (h : SRel K F σ ρ) (l : ELe ρ' ρ) : SRel K F σ ρ' :=
  ⟨h.1.trans l.1.symm, fun i x e => h.2 i x (l.2 i x e)⟩
end DL

/-! Part 2: names, constants, operators, tests, statements, loops. -/
namespace DL
open PySem PySem.Spec PyProof.Rows L2

section
variable {X : Cx} {W : WX} {a b c e : Expr} {es : List Expr} {ta tb tc te : DTE} {pos : Pos}

/-! ### names and constants -/
def eVar (i : Nat) : DTE := fun ρ M P _ => match ρ[i]? with | some (some x) => P x M | _ => False
def eC (x : PyData) : DTE := fun _ M P _ => P (.d x) M
theorem de_var (i : Nat) {x : Str} (hN : X.N[i]? = some x := by rfl) (hv : Vis X.env.scope x := by first | exact Or.inl rfl | exact Or.inr (Or.inl rfl) | exact Or.inr (Or.inr rfl)) (hd : (x == ("__debug__" : Str)) = false := by decide)
    (hcd : (x == ("__classdict__" : Str)) = false := by decide) : DE X W (.Name x pos) (eVar i) := ⟨PE.imp (pe_var hN hv hd hcd) fun σ H Q ⟨ρ, M, N, P, PX, hs, hr, ht, hP, hX⟩ => by
  unfold eVar at ht
  split at ht
  · rename_i y q
    obtain ⟨v, e1, e2⟩ := hs.2 i y q
    exact ⟨v, e1, hP y M v H ht hr .refl e2⟩
  · exact ht.elim⟩
theorem de_of_const {v : V} {x : PyData} (h : PE X e (tC v)) (hd : ∀ F : Hp, Dp X.K F v x) : DE X W e (eC x) := ⟨PE.imp h fun σ H Q ⟨ρ, M, N, P, PX, hs, hr, ht, hP, hX⟩ => hP _ M v H ht hr .refl (hd _)⟩
theorem de_int {i j} : DE X W (.Constant (.int i) j pos) (eC (.int i)) := de_of_const pe_int fun _ => .int _
theorem de_bl {i j} : DE X W (.Constant (.bool i) j pos) (eC (.bool i)) := de_of_const pe_bl fun _ => .bl _
theorem de_non {j} : DE X W (.Constant .none j pos) (eC .none) := de_of_const pe_non fun _ => .non
theorem de_str {x j} : DE X W (.Constant (.str x) j pos) (eC (.str x)) := de_of_const pe_str fun _ => .str _
/-- a module's constant -/
theorem de_glob {x : Str} {v : V} {u : Value} {y : PyData} (hg : Gl X x) (hm : X.mg x = some u) (r : RelV v u) (hd : ∀ F : Hp, Dp X.K F v y) (hdb : (x == ("__debug__" : Str)) = false := by decide) : DE X W (.Name x pos) (eC y) := de_of_const (pe_glob hg hm r hdb) hd

/-! ### two in a row -/
abbrev D2 := DV → DV → MHp → DK → Prop
abbrev D1 := DV → MHp → DK → Prop
abbrev DN := List DV → MHp → DK → Prop
/-- what follows an operation that raises nothing -/
def Fol (K : PySem.W.Frag) (M : MHp) (N : Hid) (H : Hp) (P : DK) (Q : VK) : Prop := ∀ z M' v H', P z M' → HRel K M' N H' → Af M N H M' H' → IsD K (fz M' N H') v z → Q v H'
theorem Fol.same {K : PySem.W.Frag} {M : MHp} {N : Hid} {H : Hp} {P : DK} {Q : VK} (f : Fol K M N H P Q) (hr : HRel K M N H) {z : DV} {v : V} (p : P z M) (i : IsD K (fz M N H) v z) : Q v H := f z M v H p hr .refl i
theorem Fol.new {K : PySem.W.Frag} {M : MHp} {N : Hid} {H : Hp} {P : DK} {Q : VK} (f : Fol K M N H P Q) (hr : HRel K M N H) {z : DV} {v : V} {q : Addr} {o : HO} (p : P z M) (hq : H q = none) (i : IsD K (fz M N (upd H q o)) v z) : Q v (upd H q o) :=
  f z M v _ p (hr.grow (same_new hq)) (.grow hr (same_new hq)) i
def rD2 (K : PySem.W.Frag) (g : D2) : R2 := fun x y H Q => ∃ dx dy M N P, HRel K M N H ∧ IsD K (fz M N H) x dx ∧ IsD K (fz M N H) y dy ∧ g dx dy M P ∧ Fol K M N H P Q
def DOp (X : Cx) (f : Value → Value → Sem Value) (g : D2) : Prop := OpR X f (rD2 X.K g)
def eOp (g : D2) (ta tb : DTE) : DTE := fun ρ M P PX => ta ρ M (fun x M1 => tb ρ M1 (fun y M2 => g x y M2 P) PX) PX
theorem op_imp {g : D2} {K : PySem.W.Frag} {σ : L2.St} {H : Hp} {Q : VK} (h : LE K W (eOp g ta tb) σ H Q) : tOp (rD2 K g) (LE K W ta) (LE K W tb) σ H Q := by
  obtain ⟨ρ, M, N, P, PX, hs, hr, ht, hP, hX⟩ := h
  exact ⟨ρ, M, N, _, PX, hs, hr, ht, fun x M1 v H1 p hr1 af1 iv => ⟨ρ, M1, N, _, PX, hs.mono af1.fr, hr1, p, fun y M2 u H2 p2 hr2 af2 iu =>
    ⟨x, y, M2, N, P, hr2, isD_mono af2.fr iv, iu, p2, fun z M3 w' H3 p3 hr3 af3 iw => hP z M3 w' H3 p3 hr3 ((af1.trans af2).trans af3) iw⟩, hX.step af1⟩, hX⟩
theorem de_op {op : Operator} {g : D2} (ho : DOp X (binaryOp op) g) (ha : DE X W a ta) (hb : DE X W b tb) : DE X W (.BinOp a op b pos) (eOp g ta tb) := ⟨PE.imp (pe_op ho ha.pe hb.pe) fun _ _ _ h => op_imp h⟩
theorem de_cmp {op : CmpOp} {g : D2} (ho : DOp X (compareOp op) g) (ha : DE X W a ta) (hb : DE X W b tb) (hm : behindInMarks op b = false) : DE X W (.Compare a [op] [b] pos) (eOp g ta tb) := ⟨PE.imp (pe_cmpR ho ha.pe hb.pe hm) fun _ _ _ h => op_imp h⟩
/-- one place -/
def Un1 (X : Cx) (f : Value → Sem Value) (g : D1) : Prop := UnR X f (fun x H Q => ∃ dx M N P, HRel X.K M N H ∧ IsD X.K (fz M N H) x dx ∧ g dx M P ∧ Fol X.K M N H P Q)
def eUn (g : D1) (ta : DTE) : DTE := fun ρ M P PX => ta ρ M (fun x M1 => g x M1 P) PX
theorem de_un {op : UnaryOp} {g : D1} (ho : Un1 X (unaryOp op) g) (ha : DE X W a ta) : DE X W (.UnaryOp op a pos) (eUn g ta) := ⟨PE.imp (pe_un ho ha.pe) fun σ H Q ⟨ρ, M, N, P, PX, hs, hr, ht, hP, hX⟩ =>
  ⟨ρ, M, N, _, PX, hs, hr, ht, fun x M1 v H1 p hr1 af1 iv => ⟨x, M1, N, P, hr1, iv, p, fun z M2 u H2 p2 hr2 af2 iu => hP z M2 u H2 p2 hr2 (af1.trans af2) iu⟩, hX⟩⟩

/-! ### reading data -/
def rd (M : MHp) : DV → (PyData → Prop) → Prop
  | .d x, k => k x
  | .r a, k => match M a with | some (.ls ys) => k (.list ys) | _ => False
def Rdd (K : PySem.W.Frag) (M : MHp) (N : Hid) (H : Hp) (v : V) (x : PyData) : Prop :=
  Dp K (fz M N H) v x ∨ ∃ a ys vs, v = .ref a ∧ x = .list ys ∧ H a = some (.lst vs) ∧ DpAll K (fz M N H) vs ys
theorem rd_of {K : PySem.W.Frag} {M : MHp} {N : Hid} {H : Hp} {v : V} {x : DV} {k : PyData → Prop} (hr : HRel K M N H) (hi : IsD K (fz M N H) v x) (h : rd M x k) : ∃ y, Rdd K M N H v y ∧ k y := by
  cases x with
  | d y => exact ⟨y, .inl hi, h⟩
  | r a =>
    have h' : (match M a with | some (.ls ys) => k (.list ys) | _ => False) := h
    cases q : M a with
    | none => rw [q] at h'; exact (show False from h').elim
    | some o =>
      rw [q] at h'
      cases o with
      | ls ys =>
        obtain ⟨o, h1, h2⟩ := hr.obj a _ q
        cases o with
        | lst vs => exact ⟨.list ys, .inr ⟨a, ys, vs, hi, rfl, h1, h2⟩, h'⟩
        | _ => exact (show False from h2).elim
      | _ => exact (show False from h').elim
section
variable {K : PySem.W.Frag} {M : MHp} {N : Hid} {H : Hp} {v : V}
theorem Rdd.dp {x : PyData} (h : Rdd K M N H v x) : Dp K H v x := by
  rcases h with h | ⟨a, ys, vs, rfl, rfl, h1, h2⟩
  · exact dp_mono fz_sub _ _ h
  · exact .lst (.inl (.inl h1)) (dpAll_mono fz_sub _ _ h2)
theorem Rdd.list {ys : List PyData} (h : Rdd K M N H v (.list ys)) : ∃ a vs, v = .ref a ∧ SqL K H a vs ∧ DpAll K (fz M N H) vs ys := by
  rcases h with h | ⟨a, zs, vs, rfl, e, h1, h2⟩
  · cases h with
    | lst h1 h2 => exact ⟨_, _, rfl, Same.seq fz_sub h1, h2⟩
  · cases e
    exact ⟨a, vs, rfl, .inl (.inl h1), h2⟩
theorem same_tup {K : PySem.W.Frag} {F G : Hp} (s : Same F G) {a : Addr} {xs : List V} (h1 : SqT K F a xs) : SqT K G a xs := by
  rcases h1 with (h | ⟨o, h⟩) | h
  · exact .inl (.inl (s _ _ h))
  · exact .inl (.inr ⟨o, s _ _ h⟩)
  · exact .inr h
theorem Rdd.tuple {ys : List PyData} (h : Rdd K M N H v (.tuple ys)) : ∃ a vs, v = .ref a ∧ SqT K H a vs ∧ DpAll K (fz M N H) vs ys ∧ Dp K (fz M N H) v (.tuple ys) := by
  rcases h with h | ⟨a, zs, vs, rfl, e, h1, h2⟩
  · cases id h with
    | tup h1 h2 => exact ⟨_, _, rfl, same_tup fz_sub h1, h2, h⟩
  · cases e
theorem Rdd.int {i : Int} (h : Rdd K M N H v (.int i)) : v = .int i := by
  rcases h with h | ⟨a, zs, vs, rfl, e, h1, h2⟩
  · cases h; rfl
  · cases e
theorem Rdd.str {i : Str} (h : Rdd K M N H v (.str i)) : v = .str i := by
  rcases h with h | ⟨a, zs, vs, rfl, e, h1, h2⟩
  · cases h; rfl
  · cases e
theorem Rdd.bool {i : Bool} (h : Rdd K M N H v (.bool i)) : v = .bl i := by
  rcases h with h | ⟨a, zs, vs, rfl, e, h1, h2⟩
  · cases h; rfl
  · cases e
theorem Rdd.none (h : Rdd K M N H v .none) : v = .non := by
  rcases h with h | ⟨a, zs, vs, rfl, e, h1, h2⟩
  · cases h; rfl
  · cases e
theorem fz_newTup {K : PySem.W.Frag} {M : MHp} {N : Hid} {H : Hp} (hr : HRel K M N H) {q : Addr} (hq : H q = Option.none) {vs : List V} {ds : List PyData} (h : DpAll K (fz M N H) vs ds) : Dp K (fz M N (upd H q (.tup vs))) (.ref q) (.tuple ds) :=
  .tup (.inl (.inl (fz_new hr hq))) (dpAll_mono (Af.grow hr (same_new hq)).fr _ _ h)
theorem fz_newLst {K : PySem.W.Frag} {M : MHp} {N : Hid} {H : Hp} (hr : HRel K M N H) {q : Addr} (hq : H q = Option.none) {vs : List V} {ds : List PyData} (h : DpAll K (fz M N H) vs ds) : Dp K (fz M N (upd H q (.lst vs))) (.ref q) (.list ds) :=
  .lst (.inl (.inl (fz_new hr hq))) (dpAll_mono (Af.grow hr (same_new hq)).fr _ _ h)
end
/-- an operation on data whose answer is new or plain -/
def gD (f : PyData → PyData → (PyData → Prop) → Prop) : D2 := fun x y M P => rd M x fun dx => rd M y fun dy => f dx dy fun z => P (.d z) M
theorem gD_of {f : PyData → PyData → (PyData → Prop) → Prop} {K : PySem.W.Frag} {x y : V} {H : Hp} {Q : VK} (h : rD2 K (gD f) x y H Q) :
    ∃ dx dy M N P, HRel K M N H ∧ Rdd K M N H x dx ∧ Rdd K M N H y dy ∧ f dx dy (fun z => P (.d z) M) ∧ Fol K M N H P Q := by
  obtain ⟨dx, dy, M, N, P, hr, ix, iy, hg, fo⟩ := h
  obtain ⟨px, rx, h1⟩ := rd_of hr ix hg
  obtain ⟨py, ry, h2⟩ := rd_of hr iy h1
  exact ⟨px, py, M, N, P, hr, rx, ry, h2, fo⟩

/-! ### tests -/
def tB (te : DTE) : DTT := fun ρ M P PX => te ρ M (fun x M1 => match x with | .d (.bool k) => P k M1 | _ => False) PX
theorem dt_of {t : TE → TT} (ht : ∀ te : TE, PE X e te → PT X e (t te)) (hq : ∀ te σ H Q, t te σ H Q ↔ te σ H fun x H1 => ∃ k, x = .bl k ∧ Q k H1) (h : DE X W e te) : DT X W e (tB te) := ⟨PT.imp (ht _ h.pe) fun σ H Q ⟨ρ, M, N, P, PX, hs, hr, htt, hP, hX⟩ => by
  refine (hq _ _ _ _).mpr ⟨ρ, M, N, _, PX, hs, hr, htt, fun x M1 v H1 p hr1 af1 iv => ?_, hX⟩
  split at p
  · rename_i k
    cases (show Dp _ _ _ _ from iv)
    exact ⟨k, rfl, hP k M1 H1 p hr1 af1⟩
  · exact p.elim⟩
/-- an expression that gives a bool, as a test -/
theorem dt_val (h : DE X W e te) (he : ∀ whole, isTrue e X.env whole = (do let v ← whole; standAt e.pos; holding [v] (truthy v)) := by intro _; rfl) : DT X W e (tB te) :=
  dt_of (t := L2.tB) (fun _ h => pt_val h he) (fun _ _ _ _ => Iff.rfl) h
theorem dt_cmp {op : CmpOp} {g : D2} (ho : DOp X (compareOp op) g) (ha : DE X W a ta) (hb : DE X W b tb) (hm : behindInMarks op b = false) : DT X W (.Compare a [op] [b] pos) (tB (eOp g ta tb)) := ⟨PT.imp (pt_cmpR ho ha.pe hb.pe hm) fun σ H Q ⟨ρ, M, N, P, PX, hs, hr, htt, hP, hX⟩ => by
  refine op_imp ⟨ρ, M, N, _, PX, hs, hr, htt, fun x M1 v H1 p hr1 af1 iv => ?_, hX⟩
  split at p
  · rename_i k
    cases (show Dp _ _ _ _ from iv)
    exact ⟨k, rfl, hP k M1 H1 p hr1 af1⟩
  · exact p.elim⟩
variable {tA tB' : DTT} {rest : List Expr}
def tAnd (t u : DTT) : DTT := fun ρ M P PX => t ρ M (fun c M1 => if c = true then u ρ M1 P PX else P false M1) PX
def tOr (t u : DTT) : DTT := fun ρ M P PX => t ρ M (fun c M1 => if c = true then P true M1 else u ρ M1 P PX) PX
def tNot (t : DTT) : DTT := fun ρ M P PX => t ρ M (fun c M1 => P (!c) M1) PX
/-- a test whatever its 'whole' is -/
structure DW (X : Cx) (W : WX) (e : Expr) (t : DTT) : Prop where
  pw : PW X e (LT X.K W t)
theorem PW.imp {X : Cx} {e : Expr} {t u : TT} (h : PW X e t) (i : ∀ σ H Q, u σ H Q → t σ H Q) : PW X e u := ⟨fun wh pins s σ H Q I q => h.run wh pins s σ H Q I (i σ H Q q)⟩
theorem DW.dt (h : DW X W e tA) : DT X W e tA := ⟨h.pw.pt⟩
theorem dw_and1 (ha : DT X W a tA) : DW X W (.BoolOp .And [a] pos) tA := ⟨pw_and1 ha.pt⟩
theorem dw_or1 (ha : DT X W a tA) : DW X W (.BoolOp .Or [a] pos) tA := ⟨pw_or1 ha.pt⟩
theorem dw_and (ha : DT X W a tA) (hb : DW X W (.BoolOp .And (b :: rest) pos) tB') : DW X W (.BoolOp .And (a :: b :: rest) pos) (tAnd tA tB') := ⟨PW.imp (pw_and ha.pt hb.pw) fun σ H Q ⟨ρ, M, N, P, PX, hs, hr, htt, hP, hX⟩ => by
  refine ⟨ρ, M, N, _, PX, hs, hr, htt, fun k M1 H1 p hr1 af1 => ?_, hX⟩
  cases k with
  | true => exact ⟨ρ, M1, N, _, PX, hs.mono af1.fr, hr1, p, fun k M2 H2 p2 hr2 af2 => hP k M2 H2 p2 hr2 (af1.trans af2), hX.step af1⟩
  | false => exact hP false M1 H1 p hr1 af1⟩
theorem dw_or (ha : DT X W a tA) (hb : DW X W (.BoolOp .Or (b :: rest) pos) tB') : DW X W (.BoolOp .Or (a :: b :: rest) pos) (tOr tA tB') := ⟨PW.imp (pw_or ha.pt hb.pw) fun σ H Q ⟨ρ, M, N, P, PX, hs, hr, htt, hP, hX⟩ => by
  refine ⟨ρ, M, N, _, PX, hs, hr, htt, fun k M1 H1 p hr1 af1 => ?_, hX⟩
  cases k with
  | true => exact hP true M1 H1 p hr1 af1
  | false => exact ⟨ρ, M1, N, _, PX, hs.mono af1.fr, hr1, p, fun k M2 H2 p2 hr2 af2 => hP k M2 H2 p2 hr2 (af1.trans af2), hX.step af1⟩⟩
theorem dt_not (ha : DT X W a tA) : DT X W (.UnaryOp .Not a pos) (tNot tA) := ⟨PT.imp (pt_not ha.pt) fun σ H Q ⟨ρ, M, N, P, PX, hs, hr, htt, hP, hX⟩ =>
  ⟨ρ, M, N, _, PX, hs, hr, htt, fun k M1 H1 p hr1 af1 => hP _ M1 H1 p hr1 af1, hX⟩⟩
/-- and, or, not as values of bools -/
def eAnd (ta tb : DTE) : DTE := fun ρ M P PX => ta ρ M (fun x M1 => match x with | .d (.bool k) => if k = true then tb ρ M1 P PX else P (.d (.bool false)) M1 | _ => False) PX
def eOr (ta tb : DTE) : DTE := fun ρ M P PX => ta ρ M (fun x M1 => match x with | .d (.bool k) => if k = true then P (.d (.bool true)) M1 else tb ρ M1 P PX | _ => False) PX
def eNot (ta : DTE) : DTE := fun ρ M P PX => ta ρ M (fun x M1 => match x with | .d (.bool k) => P (.d (.bool !k)) M1 | _ => False) PX
theorem de_one {op} (h : DE X W a ta) : DE X W (.BoolOp op [a] pos) ta := ⟨pe_one h.pe⟩
theorem de_and (ha : DE X W a ta) (hb : DE X W (.BoolOp .And (b :: rest) pos) tb) : DE X W (.BoolOp .And (a :: b :: rest) pos) (eAnd ta tb) := ⟨PE.imp (pe_and ha.pe hb.pe) fun σ H Q ⟨ρ, M, N, P, PX, hs, hr, ht, hP, hX⟩ => by
  refine ⟨ρ, M, N, _, PX, hs, hr, ht, fun x M1 v H1 p hr1 af1 iv => ?_, hX⟩
  split at p
  · rename_i k
    cases (show Dp _ _ _ _ from iv)
    refine ⟨k, rfl, ?_⟩
    cases k with
    | true => exact ⟨ρ, M1, N, _, PX, hs.mono af1.fr, hr1, p, fun y M2 u H2 p2 hr2 af2 iu => hP y M2 u H2 p2 hr2 (af1.trans af2) iu, hX.step af1⟩
    | false => exact hP _ M1 _ H1 p hr1 af1 (.bl _)
  · exact p.elim⟩
theorem de_or (ha : DE X W a ta) (hb : DE X W (.BoolOp .Or (b :: rest) pos) tb) : DE X W (.BoolOp .Or (a :: b :: rest) pos) (eOr ta tb) := ⟨PE.imp (pe_or ha.pe hb.pe) fun σ H Q ⟨ρ, M, N, P, PX, hs, hr, ht, hP, hX⟩ => by
  refine ⟨ρ, M, N, _, PX, hs, hr, ht, fun x M1 v H1 p hr1 af1 iv => ?_, hX⟩
  split at p
  · rename_i k
    cases (show Dp _ _ _ _ from iv)
    refine ⟨k, rfl, ?_⟩
    cases k with
    | false => exact ⟨ρ, M1, N, _, PX, hs.mono af1.fr, hr1, p, fun y M2 u H2 p2 hr2 af2 iu => hP y M2 u H2 p2 hr2 (af1.trans af2) iu, hX.step af1⟩
    | true => exact hP _ M1 _ H1 p hr1 af1 (.bl _)
  · exact p.elim⟩
theorem de_not (ha : DE X W a ta) : DE X W (.UnaryOp .Not a pos) (eNot ta) := ⟨PE.imp (pe_not ha.pe) fun σ H Q ⟨ρ, M, N, P, PX, hs, hr, ht, hP, hX⟩ => by
  refine ⟨ρ, M, N, _, PX, hs, hr, ht, fun x M1 v H1 p hr1 af1 iv => ?_, hX⟩
  split at p
  · rename_i k
    cases (show Dp _ _ _ _ from iv)
    exact ⟨k, rfl, hP _ M1 _ H1 p hr1 af1 (.bl _)⟩
  · exact p.elim⟩
/-- a if c else b -/
def eIf (t : DTT) (ta tb : DTE) : DTE := fun ρ M P PX => t ρ M (fun c M1 => if c = true then ta ρ M1 P PX else tb ρ M1 P PX) PX
theorem de_if (hc : DT X W c tA) (ha : DE X W a ta) (hb : DE X W b tb) : DE X W (.IfExp c a b pos) (eIf tA ta tb) := ⟨PE.imp (pe_ifExp hc.pt ha.pe hb.pe) fun σ H Q ⟨ρ, M, N, P, PX, hs, hr, ht, hP, hX⟩ => by
  refine ⟨ρ, M, N, _, PX, hs, hr, ht, fun k M1 H1 p hr1 af1 => ?_, hX⟩
  cases k with
  | true => exact ⟨ρ, M1, N, _, PX, hs.mono af1.fr, hr1, p, fun y M2 u H2 p2 hr2 af2 iu => hP y M2 u H2 p2 hr2 (af1.trans af2) iu, hX.step af1⟩
  | false => exact ⟨ρ, M1, N, _, PX, hs.mono af1.fr, hr1, p, fun y M2 u H2 p2 hr2 af2 iu => hP y M2 u H2 p2 hr2 (af1.trans af2) iu, hX.step af1⟩⟩
/-- a op b op' c -/
def eChain (g g' : D2) (ta tb tc : DTE) : DTE := fun ρ M P PX => ta ρ M (fun x M1 => tb ρ M1 (fun y M2 => g x y M2 fun z M3 => match z with
  | .d (.bool k) => if k = true then tc ρ M3 (fun w M4 => g' y w M4 P) PX else P (.d (.bool false)) M3
  | _ => False) PX) PX
theorem chain_imp {g g' : D2} {K : PySem.W.Frag} {σ : L2.St} {H : Hp} {Q : VK} (h : LE K W (eChain g g' ta tb tc) σ H Q) : tChain (rD2 K g) (rD2 K g') (LE K W ta) (LE K W tb) (LE K W tc) σ H Q := by
  obtain ⟨ρ, M, N, P, PX, hs, hr, ht, hP, hX⟩ := h
  refine ⟨ρ, M, N, _, PX, hs, hr, ht, fun x M1 v H1 p hr1 af1 iv => ⟨ρ, M1, N, _, PX, hs.mono af1.fr, hr1, p, fun y M2 u H2 p2 hr2 af2 iu => ⟨x, y, M2, N, _, hr2, isD_mono af2.fr iv, iu, p2, fun z M3 w' H3 p3 hr3 af3 iw => ?_⟩, hX.step af1⟩, hX⟩
  split at p3
  · rename_i k
    cases (show Dp _ _ _ _ from iw)
    refine ⟨k, rfl, ?_⟩
    have af := (af1.trans af2).trans af3
    cases k with
    | true => exact ⟨ρ, M3, N, _, PX, hs.mono af.fr, hr3, p3, fun w' M4 u' H4 p4 hr4 af4 iu' => ⟨y, w', M4, N, P, hr4, isD_mono (af3.trans af4).fr iu, iu', p4, fun z M5 v5 H5 p5 hr5 af5 i5 => hP z M5 v5 H5 p5 hr5 ((af.trans af4).trans af5) i5⟩, hX.step af⟩
    | false => exact hP _ M3 _ H3 p3 hr3 af (.bl _)
  · exact p3.elim
theorem de_chain {op op' : CmpOp} {g g' : D2} (ho : DOp X (compareOp op) g) (ho' : DOp X (compareOp op') g') (ha : DE X W a ta) (hb : DE X W b tb) (hc : DE X W c tc)
    (hm : lastMarks [op, op'] [b, c] = false := by with_unfolding_all rfl) : DE X W (.Compare a [op, op'] [b, c] pos) (eChain g g' ta tb tc) := ⟨PE.imp (pe_chain ho ho' ha.pe hb.pe hc.pe hm) fun _ _ _ h => chain_imp h⟩
theorem dt_chain {op op' : CmpOp} {g g' : D2} (ho : DOp X (compareOp op) g) (ho' : DOp X (compareOp op') g') (ha : DE X W a ta) (hb : DE X W b tb) (hc : DE X W c tc)
    (hm : lastMarks [op, op'] [b, c] = false := by with_unfolding_all rfl) : DT X W (.Compare a [op, op'] [b, c] pos) (tB (eChain g g' ta tb tc)) := ⟨PT.imp (pt_chain ho ho' ha.pe hb.pe hc.pe hm) fun σ H Q ⟨ρ, M, N, P, PX, hs, hr, htt, hP, hX⟩ => by
  refine chain_imp ⟨ρ, M, N, _, PX, hs, hr, htt, fun x M1 v H1 p hr1 af1 iv => ?_, hX⟩
  split at p
  · rename_i k
    cases (show Dp _ _ _ _ from iv)
    exact ⟨k, rfl, hP k M1 H1 p hr1 af1⟩
  · exact p.elim⟩

/-! ### argument lists and displays -/
def aNil : DTA := fun _ M P _ => P [] M
def aCons (ta : DTE) (tr : DTA) : DTA := fun ρ M P PX => ta ρ M (fun x M1 => tr ρ M1 (fun xs M2 => P (x :: xs) M2) PX) PX
theorem da_nil : DA X W [] aNil := ⟨PA.imp pa_nil fun σ H Q ⟨ρ, M, N, P, PX, hs, hr, ht, hP, hX⟩ => hP _ M _ H ht hr .refl .nil⟩
theorem da_cons {tr : DTA} (ha : DE X W e te) (hr : DA X W es tr) (hst : starEach (e :: es) X.env = (false, eval e X.env) :: starEach es X.env := by rfl) : DA X W (e :: es) (aCons te tr) := ⟨PA.imp (pa_cons ha.pe hr.pa hst) fun σ H Q ⟨ρ, M, N, P, PX, hs, hr, ht, hP, hX⟩ =>
  ⟨ρ, M, N, _, PX, hs, hr, ht, fun x M1 v H1 p hr1 af1 iv => ⟨ρ, M1, N, _, PX, hs.mono af1.fr, hr1, p, fun xs M2 vs H2 p2 hr2 af2 ivs => hP _ M2 _ H2 p2 hr2 (af1.trans af2) (.cons (isD_mono af2.fr iv) ivs), hX.step af1⟩, hX⟩⟩
/-- data of a list of values, where all are data (mutable lists don't count) -/
def allD : List DV → (List PyData → Prop) → Prop
  | [], k => k []
  | .d x :: r, k => allD r fun xs => k (x :: xs)
  | .r _ :: _, _ => False
theorem allD_of {K : PySem.W.Frag} {F : Hp} : ∀ {xs : List DV} {vs : List V} {k : List PyData → Prop}, AreD K F vs xs → allD xs k → ∃ ds, DpAll K F vs ds ∧ k ds
  | [], _, k, h, q => by cases h; exact ⟨[], .nil, q⟩
  | .d x :: r, _, k, h, q => by
    cases h with
    | cons h1 h2 =>
      obtain ⟨ds, q1, q2⟩ := allD_of h2 q
      exact ⟨x :: ds, .cons h1 q1, q2⟩
  | .r _ :: _, _, _, _, q => q.elim
def small (n : Nat) : Prop := n ≤ sizeLine
def eTup (t : DTA) : DTE := fun ρ M P PX => t ρ M (fun xs M1 => allD xs fun ds => ds.length ≤ sizeLine ∧ P (.d (.tuple ds)) M1) PX
/-- a list display that is never changed -/
def eLst (t : DTA) : DTE := fun ρ M P PX => t ρ M (fun xs M1 => allD xs fun ds => ds.length ≤ sizeLine ∧ P (.d (.list ds)) M1) PX
/-- .. that may be changed -/
def eLstM (t : DTA) : DTE := fun ρ M P PX => t ρ M (fun xs M1 => allD xs fun ds => ds.length ≤ sizeLine ∧ ∀ p, M1 p = none → P (.r p) (mu M1 p (.ls ds))) PX
def eLstV (t : DTA) : DTE := fun ρ M P PX => t ρ M (fun xs M1 => xs.length ≤ sizeLine ∧ ∀ p, M1 p = none → P (.r p) (mu M1 p (.lv xs))) PX
variable {t : DTA}
theorem de_tup {x1} (h : DA X W es t) : DE X W (.Tuple es x1 pos) (eTup t) := ⟨PE.imp (pe_tup h.pa) fun σ H Q ⟨ρ, M, N, P, PX, hs, hr, ht, hP, hX⟩ => by
  refine ⟨ρ, M, N, _, PX, hs, hr, ht, fun xs M1 vs H1 p hr1 af1 iv => ?_, hX⟩
  obtain ⟨ds, h1, hz, q⟩ := allD_of iv p
  refine ⟨by rw [dpAll_len h1]; exact hz, fun q' hq => hP _ M1 _ _ q (hr1.grow (same_new hq)) (af1.trans (.grow hr1 (same_new hq))) (fz_newTup hr1 hq h1)⟩⟩
theorem de_lst (h : DA X W es t) : DE X W (.List es pos) (eLst t) := ⟨PE.imp (pe_lst h.pa) fun σ H Q ⟨ρ, M, N, P, PX, hs, hr, ht, hP, hX⟩ => by
  refine ⟨ρ, M, N, _, PX, hs, hr, ht, fun xs M1 vs H1 p hr1 af1 iv => ?_, hX⟩
  obtain ⟨ds, h1, hz, q⟩ := allD_of iv p
  refine ⟨by rw [dpAll_len h1]; exact hz, fun q' hq => hP _ M1 _ _ q (hr1.grow (same_new hq)) (af1.trans (.grow hr1 (same_new hq))) (fz_newLst hr1 hq h1)⟩⟩
theorem de_lstM (h : DA X W es t) : DE X W (.List es pos) (eLstM t) := ⟨PE.imp (pe_lst h.pa) fun σ H Q ⟨ρ, M, N, P, PX, hs, hr, ht, hP, hX⟩ => by
  refine ⟨ρ, M, N, _, PX, hs, hr, ht, fun xs M1 vs H1 p hr1 af1 iv => ?_, hX⟩
  obtain ⟨ds, h1, hz, q⟩ := allD_of iv p
  refine ⟨by rw [dpAll_len h1]; exact hz, fun q' hq => ?_⟩
  obtain ⟨r2, a2⟩ := hr1.new (x := .ls ds) (o := .lst vs) hq h1
  exact hP _ _ _ _ (q q' (hr1.free hq).1) r2 (af1.trans a2) rfl⟩
theorem paired_len {α β : Type} {R : α → β → Prop} : ∀ {xs : List α} {ys : List β}, Paired R xs ys → xs.length = ys.length
  | _, _, .nil => rfl
  | _, _, .cons _ t => by simp [paired_len t]
theorem de_lstV (h : DA X W es t) : DE X W (.List es pos) (eLstV t) := ⟨PE.imp (pe_lst h.pa) fun σ H Q ⟨ρ, M, N, P, PX, hs, hr, ht, hP, hX⟩ => by
  refine ⟨ρ, M, N, _, PX, hs, hr, ht, fun xs M1 vs H1 p hr1 af1 iv => ?_, hX⟩
  obtain ⟨hz, q⟩ := p
  refine ⟨by rw [paired_len iv]; exact hz, fun q' hq => ?_⟩
  obtain ⟨r2, a2⟩ := hr1.new (x := .lv xs) (o := .lst vs) hq iv
  exact hP _ _ _ _ (q q' (hr1.free hq).1) r2 (af1.trans a2) rfl⟩
end

/-! ### statements -/
section
variable {X : Cx} {W : WX} {a b c e : Expr} {st : Stmt} {rest : List Stmt} {te : DTE} {tA : DTT} {t u : DTS} {pos : Pos}
def sNext : DTS := fun E ρ M => E.nx ρ M
def sSeq (t u : DTS) : DTS := fun E ρ M => t { E with nx := u E } ρ M
theorem dss_nil : DSs X W [] sNext := ⟨PSs.imp pss_nil fun D σ H ⟨ρ, M, N, E, hs, hr, ht, hE⟩ => hE.nx ρ M σ H ht hs hr .refl⟩
theorem dss_cons (h1 : DS X W st t) (h2 : DSs X W rest u) : DSs X W (st :: rest) (sSeq t u) := ⟨PSs.imp (pss_cons h1.ps h2.ps) fun D σ H ⟨ρ, M, N, E, hs, hr, ht, hE⟩ =>
  ⟨ρ, M, N, _, hs, hr, ht, hE.next fun ρ' M' σ' H' q s' r' f' => ⟨ρ', M', N, E, s', r', q, hE.step f'⟩⟩⟩
theorem dss_one (h1 : DS X W st t) : DSs X W [st] t := ⟨pss_one h1.ps⟩
def sBreak : DTS := fun E ρ M => E.bk ρ M
def sCont : DTS := fun E ρ M => E.ct ρ M
theorem ds_pass : DS X W (.Pass pos) sNext := ⟨PS.imp ps_pass fun D σ H ⟨ρ, M, N, E, hs, hr, ht, hE⟩ => hE.nx ρ M σ H ht hs hr .refl⟩
theorem ds_break : DS X W (.Break pos) sBreak := ⟨PS.imp ps_break fun D σ H ⟨ρ, M, N, E, hs, hr, ht, hE⟩ => hE.bk ρ M σ H ht hs hr .refl⟩
theorem ds_cont : DS X W (.Continue pos) sCont := ⟨PS.imp ps_continue fun D σ H ⟨ρ, M, N, E, hs, hr, ht, hE⟩ => hE.ct ρ M σ H ht hs hr .refl⟩
def sExpr (te : DTE) : DTS := fun E ρ M => te ρ M (fun _ M1 => E.nx ρ M1) (fun x M1 => E.ex x ρ M1)
theorem ds_expr (he : DE X W e te) (hs : swapsWith e none pos.line X.env = pure false := by rfl) : DS X W (.Expr e pos) (sExpr te) := ⟨PS.imp (ps_expr he.pe hs) fun D σ H ⟨ρ, M, N, E, hs, hr, ht, hE⟩ =>
  ⟨ρ, M, N, _, _, hs, hr, ht, fun x M1 v H1 p hr1 af1 iv => hE.nx ρ M1 σ H1 p (hs.mono af1.fr) hr1 af1, hE.xend hs⟩⟩
def sRet (te : DTE) : DTS := fun E ρ M => te ρ M E.rt (fun x M1 => E.ex x ρ M1)
theorem ds_ret (he : DE X W e te) : DS X W (.Return (some e) pos) (sRet te) := ⟨PS.imp (ps_ret he.pe) fun D σ H ⟨ρ, M, N, E, hs, hr, ht, hE⟩ =>
  ⟨ρ, M, N, _, _, hs, hr, ht, fun x M1 v H1 p hr1 af1 iv => hE.rt x M1 v H1 p hr1 af1 iv, hE.xend hs⟩⟩
def sRetN : DTS := fun E _ M => E.rt (.d .none) M
theorem ds_retN : DS X W (.Return none pos) sRetN := ⟨PS.imp ps_retN fun D σ H ⟨ρ, M, N, E, hs, hr, ht, hE⟩ => hE.rt _ M _ H ht hr .refl .non⟩
def sIf (c : DTT) (t u : DTS) : DTS := fun E ρ M => c ρ M (fun k M1 => if k = true then t E ρ M1 else u E ρ M1) (fun x M1 => E.ex x ρ M1)
theorem ds_if {x y : List Stmt} (hc : DT X W c tA) (ha : DSs X W x t) (hb : DSs X W y u) : DS X W (.If c x y pos) (sIf tA t u) := ⟨PS.imp (ps_if hc.pt ha.ps hb.ps) fun D σ H ⟨ρ, M, N, E, hs, hr, ht, hE⟩ => by
  refine ⟨ρ, M, N, _, _, hs, hr, ht, fun k M1 H1 p hr1 af1 => ?_, hE.xend hs⟩
  cases k with
  | true => exact ⟨ρ, M1, N, E, hs.mono af1.fr, hr1, p, hE.step af1⟩
  | false => exact ⟨ρ, M1, N, E, hs.mono af1.fr, hr1, p, hE.step af1⟩⟩

/-! ### targets -/
abbrev DTG := DV → DEnv → MHp → (DEnv → MHp → Prop) → DX → Prop
abbrev DTGs := List DV → DEnv → MHp → (DEnv → MHp → Prop) → DX → Prop
/-- all slots but those at sl are as they were -/
def But (sl : List Nat) (σ σ' : L2.St) : Prop := σ'.length = σ.length ∧ ∀ j, j ∉ sl → σ'[j]? = σ[j]?
theorem But.refl {sl : List Nat} {σ : L2.St} : But sl σ σ := ⟨rfl, fun _ _ => rfl⟩
theorem But.set {i : Nat} {σ : L2.St} {v : Option V} : But [i] σ (σ.set i v) := ⟨List.length_set, fun j hj => List.getElem?_set_ne fun e => hj (by simp [e])⟩
theorem But.trans {s1 s2 : List Nat} {σ σ1 σ2 : L2.St} (a : But s1 σ σ1) (b : But s2 σ1 σ2) : But (s1 ++ s2) σ σ2 :=
  ⟨b.1.trans a.1, fun j hj => (b.2 j fun h => hj (List.mem_append_right _ h)).trans (a.2 j fun h => hj (List.mem_append_left _ h))⟩
def GEnd (K : PySem.W.Frag) (M : MHp) (N : Hid) (H : Hp) (sl : List Nat) (σ : L2.St) (P : DEnv → MHp → Prop) (Q : L2.St → Hp → Prop) : Prop :=
  ∀ ρ' M' σ' H', P ρ' M' → SRel K (fz M' N H') σ' ρ' → HRel K M' N H' → Af M N H M' H' → But sl σ σ' → Q σ' H'
def LG (K : PySem.W.Frag) (W : WX) (sl : List Nat) (t : DTG) : TG := fun v σ H Q => ∃ x ρ M N P PX, IsD K (fz M N H) v x ∧ SRel K (fz M N H) σ ρ ∧ HRel K M N H ∧ t x ρ M P PX ∧ GEnd K M N H sl σ P Q ∧ XEnd K W σ M N H PX
def LGs (K : PySem.W.Frag) (W : WX) (sl : List Nat) (t : DTGs) : TGs := fun vs σ H Q => ∃ xs ρ M N P PX, AreD K (fz M N H) vs xs ∧ SRel K (fz M N H) σ ρ ∧ HRel K M N H ∧ t xs ρ M P PX ∧ GEnd K M N H sl σ P Q ∧ XEnd K W σ M N H PX
structure DG (X : Cx) (W : WX) (tg : Expr) (sl : List Nat) (t : DTG) : Prop where
  pg : PG X tg (LG X.K W sl t)
/-- no exception comes of the target -/
def NoX (u : DTG) : Prop := ∀ x ρ M P PX PX', u x ρ M P PX → u x ρ M P PX'
def NoXs (u : DTGs) : Prop := ∀ xs ρ M P PX PX', u xs ρ M P PX → u xs ρ M P PX'
structure DGs (X : Cx) (W : WX) (tg : List Expr) (sl : List Nat) (t : DTGs) : Prop where
  pg : PGs X tg (LGs X.K W sl t)
theorem PG.imp {X : Cx} {e : Expr} {t u : TG} (h : PG X e t) (i : ∀ v σ H Q, u v σ H Q → t v σ H Q) : PG X e u := ⟨fun pins s σ H v w Q I r q => h.run pins s σ H v w Q I r (i v σ H Q q)⟩
theorem PGs.imp {X : Cx} {e : List Expr} {t u : TGs} (h : PGs X e t) (i : ∀ v σ H Q, u v σ H Q → t v σ H Q) : PGs X e u := ⟨fun pins s σ H v w Q I r q => h.run pins s σ H v w Q I r (i v σ H Q q)⟩
def gN (i : Nat) : DTG := fun x ρ M P _ => P (ρ.set i (some x)) M
theorem nox_name {i : Nat} : NoX (gN i) := fun _ _ _ _ _ _ h => h
theorem dg_name {i : Nat} {x : Str} (hN : X.N.Nodup) (hi : X.N[i]? = some x := by rfl) (hx : Loc X.env.scope x := by first | exact Or.inl rfl | exact Or.inr rfl) (hf : X.fn x = true ∨ X.env.scope.names.lookup x = some .local := by first | exact .inl rfl | exact .inr rfl | assumption) : DG X W (.Name x pos) [i] (gN i) := ⟨PG.imp (pg_name hN hi hx hf) fun v σ H Q ⟨y, ρ, M, N, P, PX, hv, hs, hr, ht, hP, hX⟩ =>
  hP _ M _ H ht (hs.set hv i) hr .refl .set⟩
def gsNil : DTGs := fun xs ρ M P _ => match xs with | [] => P ρ M | _ => False
def gsCons (t : DTG) (u : DTGs) : DTGs := fun xs ρ M P PX => match xs with | x :: r => t x ρ M (fun ρ1 M1 => u r ρ1 M1 P PX) PX | _ => False
theorem nox_nil : NoXs gsNil := fun xs ρ M P PX PX' h => h
theorem dgs_nil : DGs X W [] [] gsNil := ⟨PGs.imp pgs_nil fun v σ H Q ⟨xs, ρ, M, N, P, PX, hv, hs, hr, ht, hP, hX⟩ => by
  cases hv with
  | nil => exact ⟨rfl, hP ρ M σ H ht hs hr .refl .refl⟩
  | cons _ _ => exact (show False from ht).elim⟩
/-- monotone in what follows -/
def GMono (t : DTG) : Prop := ∀ x ρ M P P' PX PX', (∀ ρ' M', P ρ' M' → P' ρ' M') → t x ρ M P PX → t x ρ M P' PX'
def GsMono (t : DTGs) : Prop := ∀ x ρ M P P' PX PX', (∀ ρ' M', P ρ' M' → P' ρ' M') → t x ρ M P PX → t x ρ M P' PX'
theorem gm_name {i : Nat} : GMono (gN i) := fun _ _ _ _ _ _ _ h q => h _ _ q
theorem gm_nil : GsMono gsNil := fun x _ _ _ _ _ _ h q => by
  cases x with
  | nil => exact h _ _ q
  | cons _ _ => exact q
theorem gm_cons {t : DTG} {u : DTGs} (ht : GMono t) (hu : GsMono u) : GsMono (gsCons t u) := fun xs ρ M P P' PX PX' h q => by
  cases xs with
  | nil => exact q
  | cons x r => exact ht _ _ _ _ _ _ _ (fun ρ1 M1 z => hu _ _ _ _ _ _ _ h z) q
theorem dgs_cons {s1 s2 : List Nat} {e : Expr} {us : List Expr} {t : DTG} {u : DTGs} (h1 : DG X W e s1 t) (m1 : GMono t) (h2 : DGs X W us s2 u) (m2 : GsMono u)
    (hst : (assignEach (e :: us) X.env).map (·.2) = assign e X.env :: (assignEach us X.env).map (·.2) := by rfl) : DGs X W (e :: us) (s1 ++ s2) (gsCons t u) := ⟨PGs.imp (pgs_cons h1.pg h2.pg hst) fun v σ H Q ⟨xs, ρ, M, N, P, PX, hv, hs, hr, ht, hP, hX⟩ => by
  cases hv with
  | nil => exact (show False from ht).elim
  | @cons w x ws r i1 i2 =>
    refine ⟨_, _, rfl, _, ρ, M, N, fun ρ1 M1 => u r ρ1 M1 P fun _ _ => False, fun _ _ => False, i1, hs, hr, m1 _ _ _ _ _ _ _ (fun ρ1 M1 z => m2 _ _ _ _ _ _ _ (fun _ _ y => y) z) ht, fun ρ1 M1 σ1 H1 p s1 r1 a1 b1 => ?_, fun _ _ _ _ z => z.elim⟩
    exact ⟨_, ρ1, M1, N, P, fun _ _ => False, areD_mono a1.fr i2, s1, r1, p, fun ρ2 M2 σ2 H2 p2 s2 r2 a2 b2 => hP ρ2 M2 σ2 H2 p2 s2 r2 (a1.trans a2) (b1.trans b2), fun _ _ _ _ z => z.elim⟩⟩
/-- (a, b, ..) = a tuple of data -/
def gTp (n : Nat) (u : DTGs) : DTG := fun x ρ M P PX => match x with | .d (.tuple ds) => ds.length = n ∧ u (ds.map .d) ρ M P PX | _ => False
theorem gm_tup {n : Nat} {u : DTGs} (hu : GsMono u) : GMono (gTp n u) := fun x ρ M P P' PX PX' h q => by
  unfold gTp at q ⊢
  split at q
  · exact ⟨q.1, hu _ _ _ _ _ _ _ h q.2⟩
  · exact q
theorem areD_map {K : PySem.W.Frag} {F : Hp} : ∀ {vs : List V} {ds : List PyData}, DpAll K F vs ds → AreD K F vs (ds.map .d)
  | _, [], h => by cases h; exact .nil
  | _, _ :: _, h => by
    cases h with
    | cons h1 h2 => exact .cons h1 (areD_map h2)
theorem dg_tup {sl : List Nat} {us : List Expr} {k : Nat} {u : DTGs} {n : Nat} (hc : X.calm = true) (h : DGs X W us sl u) (hn : (assignEach us X.env).length = n := by rfl) (hst : (assignEach us X.env).findIdx? (·.1) = none := by rfl) : DG X W (.Tuple us k pos) sl (gTp n u) := ⟨PG.imp (pg_tup hc h.pg hn hst) fun v σ H Q ⟨y, ρ, M, N, P, PX, hv, hs, hr, ht, hP, hX⟩ => by
  unfold gTp at ht
  split at ht
  · rename_i ds
    cases id (show Dp _ _ _ _ from hv) with
    | tup h1 h2 => exact ⟨_, _, rfl, same_tup fz_sub h1, by rw [dpAll_len h2]; exact ht.1, _, ρ, M, N, P, PX, areD_map h2, hs, hr, ht.2, hP, hX⟩
  · exact ht.elim⟩
def sAsg (te : DTE) (g : DTG) : DTS := fun E ρ M => te ρ M (fun x M1 => g x ρ M1 E.nx (fun x M1 => E.ex x ρ M1)) (fun x M1 => E.ex x ρ M1)
theorem ds_asg {tg : Expr} {g : DTG} {sl : List Nat} (he : DE X W e te) (hg : DG X W tg sl g) (hs : swapsWithSole [tg] e pos.line X.env = pure false := by rfl) (hw : swappedStores [tg] e X.env = pure none := by rfl)
    (h1 : (assignEach [tg] X.env).map (·.2) = [assign tg X.env] := by rfl) : DS X W (.Assign [tg] e pos) (sAsg te g) := ⟨PS.imp (ps_asg he.pe hg.pg hs hw h1) fun D σ H ⟨ρ, M, N, E, hs, hr, ht, hE⟩ =>
  ⟨ρ, M, N, _, _, hs, hr, ht, fun x M1 v H1 p hr1 af1 iv => ⟨x, ρ, M1, N, _, _, iv, hs.mono af1.fr, hr1, p, fun ρ' M' σ' H' q s' r' f' _ => hE.nx ρ' M' σ' H' q s' r' (af1.trans f'), (hE.step af1).xend (hs.mono af1.fr)⟩, hE.xend hs⟩⟩
def sSet (i : Nat) (te : DTE) : DTS := fun E ρ M => te ρ M (fun x M1 => E.nx (ρ.set i (some x)) M1) (fun x M1 => E.ex x ρ M1)
theorem ds_set {i : Nat} {x : Str} {pos' : Pos} (hN : X.N.Nodup) (he : DE X W e te) (hi : X.N[i]? = some x := by rfl) (hx : Loc X.env.scope x := by first | exact Or.inl rfl | exact Or.inr rfl) (hs : swapsWith e (some (.Name x pos')) pos.line X.env = pure false := by rfl)
    (hf : X.fn x = true ∨ X.env.scope.names.lookup x = some .local := by first | exact .inl rfl | exact .inr rfl | assumption) : DS X W (.Assign [.Name x pos'] e pos) (sSet i te) := ⟨PS.imp (ps_set hN hi hx he.pe hs hf) fun D σ H ⟨ρ, M, N, E, hs, hr, ht, hE⟩ =>
  ⟨ρ, M, N, _, _, hs, hr, ht, fun x M1 v H1 p hr1 af1 iv => hE.nx _ M1 _ H1 p ((hs.mono af1.fr).set iv i) hr1 af1, hE.xend hs⟩⟩
/-- a, b = x, y -/
def sPar (i j : Nat) (ta : DTA) : DTS := fun E ρ M => ta ρ M (fun xs M1 => match xs with | [x, y] => E.nx ((ρ.set i (some x)).set j (some y)) M1 | _ => False) (fun x M1 => E.ex x ρ M1)
theorem ds_par {i j : Nat} {x y : Str} {ta : DTA} {px py pt : Pos} {kt k2 pt2} (hc : X.calm = true) (hN : X.N.Nodup) (ha : DA X W [a, b] ta) (hi : X.N[i]? = some x := by rfl) (hj : X.N[j]? = some y := by rfl) (hij : i ≠ j := by decide)
    (hx : X.env.scope.names.lookup x = some .local := by rfl) (hy : X.env.scope.names.lookup y = some .local := by rfl)
    (hw : swappedStores [.Tuple [.Name x px, .Name y py] kt pt] (.Tuple [a, b] k2 pt2) X.env = pure (some [x, y]) := by rfl)
    (hs : swapsWithSole [.Tuple [.Name x px, .Name y py] kt pt] (.Tuple [a, b] k2 pt2) pos.line X.env = pure false := by rfl) :
    DS X W (.Assign [.Tuple [.Name x px, .Name y py] kt pt] (.Tuple [a, b] k2 pt2) pos) (sPar i j ta) := ⟨PS.imp (ps_par hc hN hi hj hij hx hy ha.pa hw hs) fun D σ H ⟨ρ, M, N, E, hs, hr, ht, hE⟩ => by
  refine ⟨ρ, M, N, _, _, hs, hr, ht, fun xs M1 vs H1 p hr1 af1 iv => ?_, hE.xend hs⟩
  split at p
  · cases iv with
    | cons i1 i2 =>
      cases i2 with
      | cons i2 i3 =>
        cases i3
        exact ⟨_, _, rfl, hE.nx _ M1 _ H1 p (((hs.mono af1.fr).set i1 i).set i2 j) hr1 af1⟩
  · exact p.elim⟩

/-! ### loops -/
/-- some weaker state has it -/
def Wks (I : DEnv → MHp → Prop) (ρ : DEnv) (M : MHp) : Prop := ∃ ρ' M', ELe ρ' ρ ∧ MLe M' M ∧ I ρ' M'
theorem Wks.of {I : DEnv → MHp → Prop} {ρ : DEnv} {M : MHp} (h : I ρ M) : Wks I ρ M := ⟨ρ, M, .refl, .refl, h⟩
def sWhile (c : DTT) (tb : DTS) : DTS := fun E ρ M => ∃ I : Nat → DEnv → MHp → Prop, (∃ m, Wks (I m) ρ M) ∧ ∀ m ρ M, I m ρ M →
  c ρ M (fun k M1 => if k = true then tb { E with nx := fun ρ' M' => ∃ m', m' < m ∧ Wks (I m') ρ' M', ct := fun ρ' M' => ∃ m', m' < m ∧ Wks (I m') ρ' M', bk := E.nx } ρ M1 else E.nx ρ M1) (fun x M1 => E.ex x ρ M1)
theorem ds_while {body : List Stmt} {tc : DTT} {tb : DTS} (hp : PassesOwn (model X.prog X.w) X.A X.env X.xe) (hc : DT X W c tc) (hb : DSs X W body tb) : DS X W (.While c body [] pos) (sWhile tc tb) := ⟨PS.imp (ps_while hp hc.pt hb.ps) fun D σ H ⟨ρ, M, N, E, hs, hr, ht, hE⟩ => by
  obtain ⟨I, ⟨m0, ρ0, M0, l0, k0, i0⟩, turn⟩ := ht
  have w0 := hr.le k0
  refine ⟨fun m σ' H' => ∃ ρ' M', SRel X.K (fz M' N H') σ' ρ' ∧ HRel X.K M' N H' ∧ Af M N H M' H' ∧ I m ρ' M', ⟨m0, ρ0, M0, (hs.le l0).mono w0.2.fr, w0.1, w0.2, i0⟩, ?_⟩
  rintro m σ1 H1 ⟨ρ1, M1, s1, r1, a1, i1⟩
  refine ⟨ρ1, M1, N, _, _, s1, r1, turn m ρ1 M1 i1, fun k M2 H2 p r2 a2 => ?_, (hE.step a1).xend s1⟩
  cases k with
  | true =>
    have fin : ∀ ρ' M' σ' H', (∃ m', m' < m ∧ Wks (I m') ρ' M') → SRel X.K (fz M' N H') σ' ρ' → HRel X.K M' N H' → Af M2 N H2 M' H' → ∃ m', m' < m ∧ ∃ ρ'' M'', SRel X.K (fz M'' N H') σ' ρ'' ∧ HRel X.K M'' N H' ∧ Af M N H M'' H' ∧ I m' ρ'' M'' := by
      rintro ρ' M' σ' H' ⟨m', hm, ρ'', M'', l, k, i⟩ s3 r3 a3
      have w := r3.le k
      exact ⟨m', hm, ρ'', M'', (s3.le l).mono w.2.fr, w.1, ((a1.trans a2).trans a3).trans w.2, i⟩
    exact ⟨fun σ' H' => ∃ m', m' < m ∧ ∃ ρ'' M'', SRel X.K (fz M'' N H') σ' ρ'' ∧ HRel X.K M'' N H' ∧ Af M N H M'' H' ∧ I m' ρ'' M'', fun σ' H' ⟨m', hm, q⟩ => ⟨m', hm, q⟩,
      ρ1, M2, N, _, s1.mono a2.fr, r2, p, ⟨fin, ((hE.step a1).step a2).rt, ((hE.step a1).step a2).nx, fin, ((hE.step a1).step a2).ex⟩⟩
  | false => exact hE.nx ρ1 M2 σ1 H2 p (s1.mono a2.fr) r2 (a1.trans a2)⟩

/-- what a for walks: the items, and what must hold of the mutable things while it walks -/
abbrev DTI := DEnv → MHp → (List DV → (MHp → Prop) → MHp → Prop) → DX → Prop
structure ItD (K : PySem.W.Frag) (F0 : Hp) (J : It) (xs : List DV) (C : MHp → Prop) : Prop where
  go : ∀ i M N H, Same F0 (fz M N H) → HRel K M N H → C M → i < xs.length → J.go i H
  stop : ∀ M N H, Same F0 (fz M N H) → HRel K M N H → C M → J.stop xs.length H
  yld : ∀ i M N H v H' x, Same F0 (fz M N H) → HRel K M N H → C M → xs[i]? = some x → J.yld i H v H' → Same H H' ∧ IsD K (fz M N H') v x
def LI (K : PySem.W.Frag) (W : WX) (wi : DTI) : TI := fun σ H R => ∃ ρ M N P PX, SRel K (fz M N H) σ ρ ∧ HRel K M N H ∧ wi ρ M P PX ∧
  (∀ xs C M' J H', P xs C M' → HRel K M' N H' → Af M N H M' H' → ItD K (fz M' N H') J xs C → R J H') ∧ XEnd K W σ M N H PX
structure DI (X : Cx) (W : WX) (tg iter : Expr) (wi : DTI) : Prop where
  pi : PI X tg iter (LI X.K W wi)
theorem PI.imp {X : Cx} {tg e : Expr} {t u : TI} (h : PI X tg e t) (i : ∀ σ H Q, u σ H Q → t σ H Q) : PI X tg e u := ⟨fun pins s σ H Q I q => h.run pins s σ H Q I (i σ H Q q)⟩
/-- I: the invariant by the turn -/
def forI (xs : List DV) (C : MHp → Prop) (g : DTG) (tb : DTS) (E : DEnds) (ρ : DEnv) (M : MHp) : Prop := ∃ I : Nat → DEnv → MHp → Prop, Wks (I 0) ρ M ∧ (∀ i ρ M, i ≤ xs.length → I i ρ M → C M) ∧
  (∀ i ρ M x, xs[i]? = some x → I i ρ M → g x ρ M (fun ρ2 M2 => tb { E with nx := Wks (I (i + 1)), ct := Wks (I (i + 1)), bk := E.nx } ρ2 M2) (fun x M1 => E.ex x ρ M1)) ∧ ∀ ρ M, I xs.length ρ M → E.nx ρ M
def sFor (wi : DTI) (g : DTG) (tb : DTS) : DTS := fun E ρ M => wi ρ M (fun xs C M1 => forI xs C g tb E ρ M1) (fun x M1 => E.ex x ρ M1)
theorem ds_for {tg iter : Expr} {body : List Stmt} {wi : DTI} {g : DTG} {tb : DTS} (hp : PassesOwn (model X.prog X.w) X.A X.env X.xe) (hc : X.calm = true) (hi : DI X W tg iter wi) {sl : List Nat} (hg : DG X W tg sl g) (hb : DSs X W body tb)
    (hs : ∀ x, foldedSetIterable iter X.env x = pure x := by intro _; rfl) : DS X W (.For tg iter body [] pos) (sFor wi g tb) := ⟨PS.imp (ps_for hp hc hi.pi hg.pg hb.ps hs) fun D σ H ⟨ρ, M, N, E, hs, hr, ht, hE⟩ => by
  refine ⟨ρ, M, N, _, _, hs, hr, ht, fun xs C M1 J H1 p r1 a1 T => ?_, hE.xend hs⟩
  obtain ⟨I, ⟨ρ0, M0, l0, k0, i0⟩, hC, turn, done⟩ := p
  have w0 := r1.le k0
  refine ⟨fun i m σ' H' => m = xs.length - i ∧ i ≤ xs.length ∧ ∃ ρ' M', SRel X.K (fz M' N H') σ' ρ' ∧ HRel X.K M' N H' ∧ Af M1 N H1 M' H' ∧ I i ρ' M', ⟨xs.length, by simp, Nat.zero_le _, ρ0, M0, ((hs.mono a1.fr).le l0).mono w0.2.fr, w0.1, w0.2, i0⟩, ?_⟩
  rintro i m σ2 H2 ⟨rfl, hi, ρ2, M2, s2, r2, a2, i2⟩
  by_cases hlt : i < xs.length
  · refine .inr ⟨T.go i M2 N H2 a2.fr r2 (hC i ρ2 M2 hi i2) hlt, fun σ' H' => ∃ ρ' M', SRel X.K (fz M' N H') σ' ρ' ∧ HRel X.K M' N H' ∧ Af M1 N H1 M' H' ∧ I (i + 1) ρ' M', fun σ' H' q => ⟨xs.length - (i + 1), by omega, rfl, hlt, q⟩, fun v H3 y => ?_⟩
    have hx : xs[i]? = some xs[i] := List.getElem?_eq_getElem hlt
    obtain ⟨g3, iv⟩ := T.yld i M2 N H2 v H3 xs[i] a2.fr r2 (hC i ρ2 M2 hi i2) hx y
    have r3 := r2.grow g3
    have a3 := Af.grow r2 g3
    refine ⟨xs[i], ρ2, M2, N, _, _, iv, s2.mono a3.fr, r3, turn i ρ2 M2 xs[i] hx i2, fun ρ4 M4 σ4 H4 p4 s4 r4 a4 _ => ?_, (hE.step (a1.trans (a2.trans a3))).xend (s2.mono a3.fr)⟩
    have af := (a2.trans a3).trans a4
    have fin : ∀ ρ' M' σ' H', Wks (I (i + 1)) ρ' M' → SRel X.K (fz M' N H') σ' ρ' → HRel X.K M' N H' → Af M4 N H4 M' H' → ∃ ρ'' M'', SRel X.K (fz M'' N H') σ' ρ'' ∧ HRel X.K M'' N H' ∧ Af M1 N H1 M'' H' ∧ I (i + 1) ρ'' M'' := by
      rintro ρ' M' σ' H' ⟨ρ'', M'', l, k, i'⟩ s5 r5 a5
      have w := r5.le k
      exact ⟨ρ'', M'', (s5.le l).mono w.2.fr, w.1, (af.trans a5).trans w.2, i'⟩
    exact ⟨ρ4, M4, N, _, s4, r4, p4, ⟨fin, (hE.step (a1.trans af)).rt, (hE.step (a1.trans af)).nx, fin, (hE.step (a1.trans af)).ex⟩⟩
  · have e : i = xs.length := by omega
    subst e
    exact .inl ⟨T.stop M2 N H2 a2.fr r2 (hC _ ρ2 M2 hi i2), hE.nx ρ2 M2 σ2 H2 (done ρ2 M2 i2) s2 r2 (a1.trans a2)⟩⟩
end
end DL

/-! Part 3: comprehensions, calls, defs, attributes, exceptions. -/
namespace DL
open PySem PySem.Spec PyProof.Rows L2

/-! ### comprehensions -/
def wipeD (ρ : DEnv) : List Nat → DEnv
  | [] => ρ
  | v :: vs => (wipeD ρ vs).set v none
theorem wipe_rel {K : PySem.W.Frag} {F : Hp} {σ : L2.St} {ρ : DEnv} (h : SRel K F σ ρ) : ∀ vs, SRel K F (wipe σ vs) (wipeD ρ vs)
  | [] => h
  | v :: vs => (wipe_rel h vs).setNone none v
theorem wipe_at {σ : L2.St} {j : Nat} : ∀ {vs : List Nat}, j ∈ vs → j < σ.length → (wipe σ vs)[j]? = some none
  | v :: vs, h, hl => by
    unfold wipe
    by_cases hj : v = j
    · subst hj
      rw [List.getElem?_set_self (by rw [wipe_length]; exact hl)]
    · rw [List.getElem?_set_ne hj]
      rcases List.mem_cons.mp h with rfl | h
      · exact absurd rfl hj
      · exact wipe_at h hl
theorem wipe_not {σ : L2.St} {j : Nat} : ∀ {vs : List Nat}, j ∉ vs → (wipe σ vs)[j]? = σ[j]?
  | [], _ => rfl
  | v :: vs, h => by
    unfold wipe
    rw [List.getElem?_set_ne (fun e => h (by simp [e]))]
    exact wipe_not fun z => h (List.mem_cons_of_mem _ z)
theorem wipe_but {σ σ' : L2.St} {sl vs : List Nat} (hs : ∀ j ∈ sl, j ∈ vs) (b : But sl (wipe σ vs) σ') : wipe σ' vs = wipe σ vs := by
  apply List.ext_getElem?
  intro j
  by_cases hj : j ∈ vs
  · by_cases hl : j < σ.length
    · rw [wipe_at hj hl, wipe_at hj (by rw [b.1, wipe_length]; exact hl)]
    · rw [List.getElem?_eq_none (by rw [wipe_length, b.1, wipe_length]; omega), List.getElem?_eq_none (by rw [wipe_length]; omega)]
  · rw [wipe_not hj, wipe_not hj, b.2 j (fun h => hj (hs j h)), wipe_not hj]

def hidE (N : Hid) (D : Addr) : Hid := fun a => N a || decide (a = D)
section
variable {K : PySem.W.Frag} {M : MHp} {N : Hid} {H H' : Hp} {D : Addr}
theorem hidE_self : hidE N D D = true := by simp [hidE]
theorem hidE_ne {a : Addr} (h : a ≠ D) : hidE N D a = N a := by simp [hidE, h]
theorem fz_hid : Same (fz M (hidE N D) H) (fz M N H) := fun b o e => by
  unfold fz at e ⊢
  by_cases hb : hidE N D b = true
  · rw [if_pos hb] at e; cases e
  · have hn : N b = false := by
      cases q : N b with
      | false => rfl
      | true => exact absurd (by simp [hidE, q]) hb
    rw [if_neg hb] at e
    rw [if_neg (by rw [hn]; exact Bool.false_ne_true)]
    exact e
theorem fz_upd_hid {o : HO} : fz M (hidE N D) (upd H D o) = fz M (hidE N D) H := by
  funext b
  unfold fz
  by_cases hb : b = D
  · subst hb; rw [if_pos hidE_self, if_pos hidE_self]
  · rw [upd_ne hb]
theorem HRel.hide (h : HRel K M N H) {o : HO} (hD : H D = none) : HRel K M (hidE N D) (upd H D o) ∧ Same (fz M N H) (fz M (hidE N D) (upd H D o)) := by
  have s : Same (fz M N H) (fz M (hidE N D) (upd H D o)) := fun b u e => by
    rw [fz_upd_hid]
    have hb : b ≠ D := by
      rintro rfl
      have := fz_sub _ _ e
      rw [hD] at this; cases this
    unfold fz at e ⊢
    rw [hidE_ne hb]
    exact e
  refine ⟨⟨fun a x e => ?_, fun a ha => ?_⟩, s⟩
  · obtain ⟨y, h1, h2⟩ := h.obj a x e
    refine ⟨y, ?_, objD_mono s h2⟩
    rw [upd_ne (ne_of_none h1 hD)]
    exact h1
  · by_cases hb : a = D
    · subst hb
      exact ⟨(h.free hD).1, by rw [upd_same]; exact fun z => by cases z⟩
    · rw [hidE_ne hb] at ha
      rw [upd_ne hb]
      exact h.hid a ha
theorem HRel.writeHid (h : HRel K M (hidE N D) H) {o : HO} : HRel K M (hidE N D) (upd H D o) := by
  refine ⟨fun a x e => ?_, fun a ha => ⟨(h.hid a ha).1, ?_⟩⟩
  · obtain ⟨y, h1, h2⟩ := h.obj a x e
    have hb : a ≠ D := by
      rintro rfl
      rw [(h.hid a hidE_self).1] at e; cases e
    exact ⟨y, by rw [upd_ne hb]; exact h1, by rw [fz_upd_hid]; exact h2⟩
  · by_cases hb : a = D
    · subst hb; rw [upd_same]; exact fun z => by cases z
    · rw [upd_ne hb]; exact (h.hid a ha).2
theorem HRel.show' (h : HRel K M (hidE N D) H) : HRel K M N H :=
  ⟨fun a x e => let ⟨y, h1, h2⟩ := h.obj a x e; ⟨y, h1, objD_mono fz_hid h2⟩, fun a ha => h.hid a (by simp [hidE, ha])⟩
end

/-- the tests of a clause -/
structure DTs (X : Cx) (W : WX) (ifs : List Expr) (t : DTT) : Prop where
  pt : PTs X ifs (LT X.K W t)
def tYes : DTT := fun _ M P _ => P true M
theorem PTs.imp {X : Cx} {e : List Expr} {t u : TT} (h : PTs X e t) (i : ∀ σ H Q, u σ H Q → t σ H Q) : PTs X e u := ⟨fun pins s σ H Q I q => h.run pins s σ H Q I (i σ H Q q)⟩
theorem dts_nil {X : Cx} {W : WX} : DTs X W [] tYes := ⟨PTs.imp pts_nil fun σ H Q ⟨ρ, M, N, P, PX, hs, hr, ht, hP, hX⟩ => hP true M H ht hr .refl⟩
theorem dts_one {X : Cx} {W : WX} {c : Expr} {t : DTT} (h : DT X W c t) : DTs X W [c] t := ⟨pts_one h.pt⟩

/-- what becomes of the made items -/
abbrev Fin' := List DV → MHp → DK → Prop
def finD : Fin' := fun acc M P => allD acc fun ds => P (.d (.list ds)) M
def finM : Fin' := fun acc M P => allD acc fun ds => ∀ p, M p = none → P (.r p) (mu M p (.ls ds))
def finV : Fin' := fun acc M P => ∀ p, M p = none → P (.r p) (mu M p (.lv acc))
structure FinOk (f : Fin') : Prop where
  ok : ∀ {K : PySem.W.Frag} {M : MHp} {N : Hid} {H : Hp} {D : Addr} {vs : List V} {acc : List DV} {P : DK} {Q : VK}, HRel K M (hidE N D) H → N D = false → H D = some (.lst vs) → AreD K (fz M (hidE N D) H) vs acc → f acc M P → Fol K M N H P Q → Q (.ref D) H
theorem fz_hid' {M : MHp} {N : Hid} {H : Hp} {D : Addr} {o : HO} {x : MO} : Same (fz M (hidE N D) H) (fz (mu M D x) N H) := fun b u e => by
  unfold fz at e ⊢
  by_cases hb : hidE N D b = true
  · rw [if_pos hb] at e; cases e
  · have hbD : b ≠ D := by rintro rfl; exact hb hidE_self
    rw [hidE_ne hbD] at hb e
    rw [if_neg hb] at e ⊢
    rw [mu_ne hbD]
    exact e
theorem fin_put {K : PySem.W.Frag} {M : MHp} {N : Hid} {H : Hp} {D : Addr} {vs : List V} {x : MO} {P : DK} {Q : VK} (r : HRel K M (hidE N D) H) (hn : N D = false) (hD : H D = some (.lst vs)) (ho : ObjD K (fz M (hidE N D) H) (.lst vs) x) (p : P (.r D) (mu M D x)) (f : ∀ z M' v, P z M' → HRel K M' N H → Same (fz M (hidE N D) H) (fz M' N H) → IsD K (fz M' N H) v z → Q v H) : Q (.ref D) H := by
  refine f _ _ _ p ⟨fun a y e => ?_, fun a ha => ?_⟩ (fz_hid' (o := .lst vs)) rfl
  · by_cases hb : a = D
    · subst hb
      rw [mu_same] at e; cases e
      exact ⟨_, hD, objD_mono (fz_hid' (o := .lst vs)) ho⟩
    · rw [mu_ne hb] at e
      obtain ⟨z, h1, h2⟩ := r.obj a y e
      exact ⟨z, h1, objD_mono (fz_hid' (o := .lst vs)) h2⟩
  · have hb : a ≠ D := by rintro rfl; rw [hn] at ha; cases ha
    rw [mu_ne hb]
    exact r.hid a (by simp [hidE, ha])

/-- [elt for target in iter if ..]: I by the turn, what is made so far, the mutable things -/
def eLc (fin : Fin') (wi : DTI) (g : DTG) (tt : DTT) (te : DTE) (vs : List Nat) : DTE := fun ρ M P PX => wi ρ M (fun xs C M1 => ∃ I : Nat → List DV → MHp → Prop, (∃ M', MLe M' M1 ∧ I 0 [] M') ∧ (∀ i acc M, i ≤ xs.length → I i acc M → C M) ∧
  (∀ i acc M x, xs[i]? = some x → I i acc M → g x (wipeD ρ vs) M (fun ρ2 M2 => tt ρ2 M2 (fun b M3 => if b = true then te ρ2 M3 (fun y M4 => acc.length < sizeLine ∧ ∃ M', MLe M' M4 ∧ I (i + 1) (acc ++ [y]) M') fun _ _ => False else ∃ M', MLe M' M3 ∧ I (i + 1) acc M') fun _ _ => False) fun _ _ => False) ∧
  ∀ acc M, I xs.length acc M → fin acc M P) PX
abbrev W0 : WX := fun _ _ _ _ => False
/-- a finish, by the state that hides the new list -/
def FinAt (f : Fin') : Prop := ∀ {K : PySem.W.Frag} {M : MHp} {N : Hid} {H : Hp} {D : Addr} {vs : List V} {acc : List DV} {P : DK} {Q : VK}, HRel K M (hidE N D) H → N D = false → M D = none → H D = some (.lst vs) → AreD K (fz M (hidE N D) H) vs acc → f acc M P →
  (∀ z M' v, P z M' → HRel K M' N H → Same (fz M (hidE N D) H) (fz M' N H) → IsD K (fz M' N H) v z → Q v H) → Q (.ref D) H
theorem finD_at : FinAt finD := fun {K M N H D vs acc P Q} r hn hm hD ha p f => by
  obtain ⟨ds, h1, q⟩ := allD_of ha p
  refine f _ _ _ q r.show' fz_hid ?_
  exact .lst (.inl (.inl (by rw [fz_at hn hm]; exact hD))) (dpAll_mono fz_hid _ _ h1)
theorem finM_at : FinAt finM := fun {K M N H D vs acc P Q} r hn hm hD ha p f => by
  obtain ⟨ds, h1, q⟩ := allD_of ha p
  exact fin_put r hn hD (x := .ls ds) h1 (q D hm) f
theorem finV_at : FinAt finV := fun {K M N H D vs acc P Q} r hn hm hD ha p f => fin_put r hn hD (x := .lv acc) ha (p D hm) f

theorem lc_imp {K : PySem.W.Frag} {W : WX} {fin : Fin'} (hfin : FinAt fin) {wi : DTI} {g : DTG} {tt : DTT} {te : DTE} {sl vs : List Nat} (hsl : ∀ j ∈ sl, j ∈ vs) {σ : L2.St} {H : Hp} {Q : VK} (h : LE K W (eLc fin wi g tt te vs) σ H Q) :
    tLc (LI K W wi) (LG K W0 sl g) (LT K W0 tt) (LE K W0 te) vs σ H Q := by
  obtain ⟨ρ, M, N, P, PX, hs, hr, ht, hP, hX⟩ := h
  refine ⟨ρ, M, N, _, PX, hs, hr, ht, fun xs C M1 J H1 p r1 a1 T D hD => ?_, hX⟩
  obtain ⟨I, ⟨M0, l0, i0⟩, hC, turn, done⟩ := p
  have w0 := r1.le l0
  have hN := (r1.free hD).2
  obtain ⟨rh, sh⟩ := w0.1.hide (o := .lst []) hD
  -- the state behind i turns
  refine ⟨fun i m H2 => m = xs.length - i ∧ i ≤ xs.length ∧ ∃ acc M2 ws, H2 D = some (.lst ws) ∧ AreD K (fz M2 (hidE N D) H2) ws acc ∧ HRel K M2 (hidE N D) H2 ∧ Same (fz M0 N H1) (fz M2 (hidE N D) H2) ∧ (∀ a, N a = true → H2 a = H1 a) ∧ I i acc M2,
    ⟨xs.length, by simp, Nat.zero_le _, [], M0, [], upd_same, .nil, rh, sh, fun a ha => upd_ne (by rintro rfl; rw [hN] at ha; cases ha), i0⟩, ?_⟩
  rintro i m H2 ⟨rfl, hi, acc, M2, ws, e2, ar2, r2, s2, n2, i2⟩
  have T0 : Same (fz M1 N H1) (fz M2 (hidE N D) H2) := w0.2.fr.trans s2
  by_cases hlt : i < xs.length
  · refine .inr ⟨T.go i M2 _ H2 T0 r2 (hC i acc M2 hi i2) hlt, fun H' => ∃ acc M2 ws, H' D = some (.lst ws) ∧ AreD K (fz M2 (hidE N D) H') ws acc ∧ HRel K M2 (hidE N D) H' ∧ Same (fz M0 N H1) (fz M2 (hidE N D) H') ∧ (∀ a, N a = true → H' a = H1 a) ∧ I (i + 1) acc M2,
      fun H' q => ⟨xs.length - (i + 1), by omega, rfl, hlt, q⟩, fun v H3 y => ?_⟩
    have hx : xs[i]? = some xs[i] := List.getElem?_eq_getElem hlt
    obtain ⟨g3, iv⟩ := T.yld i M2 _ H2 v H3 xs[i] T0 r2 (hC i acc M2 hi i2) hx y
    have r3 := r2.grow g3
    have a3 := Af.grow r2 g3
    have nD : ∀ {M' : MHp} {H' : Hp}, Af M2 (hidE N D) H2 M' H' → ∀ a, N a = true → H' a = H1 a := fun {M' H'} af a ha => (af.hd a (by simp [hidE, ha])).trans (n2 a ha)
    have eD : ∀ {M' : MHp} {H' : Hp}, Af M2 (hidE N D) H2 M' H' → H' D = some (.lst ws) := fun {M' H'} af => (af.hd D hidE_self).trans e2
    refine ⟨xs[i], wipeD ρ vs, M2, hidE N D, _, fun _ _ => False, iv, wipe_rel ((hs.mono (a1.fr.trans (T0.trans a3.fr)))) vs, r3, turn i acc M2 xs[i] hx i2, fun ρ4 M4 σ4 H4 p4 s4 r4 a4 b4 => ⟨wipe_but hsl b4, ?_⟩, fun _ _ _ _ z => z.elim⟩
    refine ⟨ρ4, M4, hidE N D, _, fun _ _ => False, s4, r4, p4, fun b M5 H5 p5 r5 a5 => ?_, fun _ _ _ _ z => z.elim⟩
    cases b with
    | false =>
      obtain ⟨M6, l6, i6⟩ := p5
      have w := r5.le l6
      have af := ((a3.trans a4).trans a5).trans w.2
      exact ⟨acc, M6, ws, eD af, areD_mono af.fr ar2, w.1, s2.trans af.fr, nD af, i6⟩
    | true =>
      refine ⟨ρ4, M5, hidE N D, _, fun _ _ => False, s4.mono a5.fr, r5, p5, fun z M6 u H6 p6 r6 a6 iu => ?_, fun _ _ _ _ z => z.elim⟩
      obtain ⟨hz, M7, l7, i7⟩ := p6
      have w := r6.le l7
      have af := (((a3.trans a4).trans a5).trans a6).trans w.2
      refine ⟨ws, eD af, by rw [paired_len ar2]; exact hz, acc ++ [z], M7, ws ++ [u], upd_same, ?_, w.1.writeHid, ?_, fun a ha => ?_, i7⟩
      · rw [fz_upd_hid]
        have : ∀ {xs : List V} {ys : List DV} {x : V} {y : DV} {F : Hp}, AreD K F xs ys → IsD K F x y → AreD K F (xs ++ [x]) (ys ++ [y]) := by
          intro xs ys x y F h q
          induction h with
          | nil => exact .cons q .nil
          | cons h1 h2 ih => exact .cons h1 ih
        exact this (areD_mono af.fr ar2) (isD_mono w.2.fr iu)
      · rw [fz_upd_hid]
        exact s2.trans af.fr
      · rw [upd_ne (by rintro rfl; rw [hN] at ha; cases ha)]
        exact nD af a ha
  · have e : i = xs.length := by omega
    subst e
    refine .inl ⟨T.stop M2 _ H2 T0 r2 (hC _ acc M2 hi i2), ?_⟩
    refine hfin r2 hN (r2.hid D hidE_self).1 e2 ar2 (done acc M2 i2) fun z M' v pz r' s' iz => hP z M' v H2 pz r' ?_ iz
    exact a1.trans ⟨T0.trans s', fun a ha => n2 a ha⟩

section
variable {X : Cx} {W : WX} {elt tg iter : Expr} {ifs : List Expr} {scope : Scope} {own : List (Str × Nat)} {pos : Pos} {wi : DTI} {g : DTG} {tt : DTT} {te : DTE} {fin : Fin'} {sl : List Nat}
theorem de_lc {vs : List Nat} (hfin : FinAt fin) (hc : X.calm = true) (hN : X.N.Nodup) (hi : DI X W tg iter wi) (ok : BlkOk X.N X.env.scope scope own)
    (hg : ∀ (s : Shared) (H : Hp) (C : Addr) (cl : List (Str × Addr)) (fp : List Addr), DG (X.blk s H scope (compEnvC scope cl C X.env) fp) W0 tg sl g) (hsl : ∀ j ∈ sl, j ∈ own.map (·.2)) (ht : ∀ (s : Shared) (H : Hp) (C : Addr) (cl : List (Str × Addr)) (fp : List Addr), DTs (X.blk s H scope (compEnvC scope cl C X.env) fp) W0 ifs tt)
    (he : ∀ (s : Shared) (H : Hp) (C : Addr) (cl : List (Str × Addr)) (fp : List Addr), DE (X.blk s H scope (compEnvC scope cl C X.env) fp) W0 elt te) (hs : ∀ x, foldedSetIterable iter X.env x = pure x := by intro _; rfl) (hv : own.map (·.2) = vs := by rfl) :
    DE X W (.ListComp elt [⟨tg, iter, ifs, 0⟩] scope pos) (eLc fin wi g tt te vs) := by
  subst hv
  exact ⟨PE.imp (pe_lc hc hN hi.pi ok (fun s H C cl fp => (hg s H C cl fp).pg) (fun s H C cl fp => (ht s H C cl fp).pt) (fun s H C cl fp => (he s H C cl fp).pe) hs) fun σ H Q h => lc_imp hfin hsl h⟩
theorem ds_setLc {vs : List Nat} {i : Nat} {y : Str} {py : Pos} {spos : Pos} (hfin : FinAt fin) (hc : X.calm = true) (hN : X.N.Nodup) (hi : DI X W tg iter wi) (ok : BlkOk X.N X.env.scope scope own)
    (hg : ∀ (s : Shared) (H : Hp) (C : Addr) (cl : List (Str × Addr)) (fp : List Addr), DG (X.blk s H scope (compEnvC scope cl C X.env) fp) W0 tg sl g) (hsl : ∀ j ∈ sl, j ∈ own.map (·.2)) (ht : ∀ (s : Shared) (H : Hp) (C : Addr) (cl : List (Str × Addr)) (fp : List Addr), DTs (X.blk s H scope (compEnvC scope cl C X.env) fp) W0 ifs tt)
    (he : ∀ (s : Shared) (H : Hp) (C : Addr) (cl : List (Str × Addr)) (fp : List Addr), DE (X.blk s H scope (compEnvC scope cl C X.env) fp) W0 elt te)
    (hsw : swapsWith (.ListComp elt [⟨tg, iter, ifs, 0⟩] scope pos) (some (.Name y py)) spos.line X.env = pure true) (hy : X.N[i]? = some y := by rfl) (hyl : X.env.scope.names.lookup y = some .local := by rfl) (hs : ∀ x, foldedSetIterable iter X.env x = pure x := by intro _; rfl) (hv : own.map (·.2) = vs := by rfl) :
    DS X W (.Assign [.Name y py] (.ListComp elt [⟨tg, iter, ifs, 0⟩] scope pos) spos) (sSet i (eLc fin wi g tt te vs)) := by
  subst hv
  exact ⟨PS.imp (ps_setLc hc hN hy hyl hsw hi.pi ok (fun s H C cl fp => (hg s H C cl fp).pg) (fun s H C cl fp => (ht s H C cl fp).pt) (fun s H C cl fp => (he s H C cl fp).pe) hs) fun D σ H ⟨ρ, M, N, E, hs, hr, ht, hE⟩ =>
    lc_imp (W := W) hfin hsl ⟨ρ, M, N, _, _, hs, hr, ht, fun x M1 v H1 p hr1 af1 iv => hE.nx _ M1 _ H1 p ((hs.mono af1.fr).set iv i) hr1 af1, hE.xend hs⟩⟩
end

/-! ### defs and calls -/
/-- what a def promises, over values of ours -/
abbrev DSp := List DV → MHp → DK → DX → Prop
def liftSp (K : PySem.W.Frag) (sp : DSp) : Sp := fun vs H Q E => ∃ xs M N P PX, AreD K (fz M N H) vs xs ∧ HRel K M N H ∧ sp xs M P PX ∧ Fol K M N H P Q ∧
  ∀ x M' d H', PX x M' → HRel K M' N H' → Af M N H M' H' → ExD K (fz M' N H') x d → E x.cls d H'
abbrev DFn (P : Program) (w : World) (K : PySem.W.Frag) (mg : Str → Option Value) (base : Heap) (k : Nat) (f : Addr) (fd : FuncData) (ps : List Str) (sp : DSp) : Prop := FnOk P w K mg base (L2.CX P w) k f fd ps (liftSp K sp)
/-- a weaker end -/
def WkV (P : DK) : DK := fun x M => ∃ M', MLe M' M ∧ (P x M' ∨ ∃ p ys, x = .r p ∧ M p = some (.ls ys) ∧ M' p = none ∧ P (.d (.list ys)) M')
theorem WkV.of {P : DK} {x : DV} {M M' : MHp} (l : MLe M' M) (h : P x M') : WkV P x M := ⟨M', l, .inl h⟩
theorem WkV.here {P : DK} {x : DV} {M : MHp} (h : P x M) : WkV P x M := ⟨M, .refl, .inl h⟩
theorem WkV.list {P : DK} {p : Addr} {ys : List PyData} {M M' : MHp} (l : MLe M' M) (e : M p = some (.ls ys)) (n : M' p = none) (h : P (.d (.list ys)) M') : WkV P (.r p) M := ⟨M', l, .inr ⟨p, ys, rfl, e, n, h⟩⟩
theorem fol_wk {K : PySem.W.Frag} {M : MHp} {N : Hid} {H : Hp} {P : DK} {Q : VK} (f : Fol K M N H P Q) : Fol K M N H (WkV P) Q := by
  rintro x M1 v H1 ⟨M2, l, h⟩ r a i
  have w := r.le l
  rcases h with h | ⟨p, ys, rfl, e, n, h⟩
  · exact f x M2 v H1 h w.1 (a.trans w.2) (isD_mono w.2.fr i)
  · obtain ⟨o, h1, h2⟩ := r.obj p _ e
    cases o with
    | lst vs =>
      have i' : v = .ref p := i
      subst i'
      refine f _ M2 _ H1 h w.1 (a.trans w.2) (.lst (.inl (.inl ?_)) (dpAll_mono w.2.fr _ _ h2))
      rw [fz_at (r.notHid e) n]
      exact h1
    | _ => exact (show False from h2).elim
def startD (N : List Str) (xs : List DV) : DEnv := xs.map some ++ List.replicate (N.length - xs.length) none
theorem start_rel {K : PySem.W.Frag} {F : Hp} {vs : List V} {xs : List DV} (h : AreD K F vs xs) (N : List Str) : SRel K F (start N vs) (startD N xs) := by
  have hl := paired_len h
  refine ⟨by simp [L2.start, startD, hl], fun i x e => ?_⟩
  unfold startD at e
  unfold L2.start
  by_cases hi : i < xs.length
  · rw [List.getElem?_append_left (by simpa using hi), List.getElem?_map] at e
    rw [List.getElem?_append_left (by simpa [hl] using hi), List.getElem?_map]
    have : ∀ {vs : List V} {xs : List DV} {i : Nat}, AreD K F vs xs → xs[i]?.map some = some (some x) → ∃ v, vs[i]?.map some = some (some v) ∧ IsD K F v x := by
      intro vs xs i h e
      induction h generalizing i with
      | nil => simp at e
      | cons h1 h2 ih =>
        cases i with
        | zero => simp at e; subst e; exact ⟨_, rfl, h1⟩
        | succ i => exact ih (i := i) (by simpa using e)
    exact this h e
  · rw [List.getElem?_append_right (by simpa using hi)] at e
    obtain ⟨_, e'⟩ := List.getElem?_eq_some_iff.mp e
    rw [List.getElem_replicate] at e'
    cases e'
section
variable {P : Program} {w : World} {K : PySem.W.Frag} {mg : Str → Option Value} {base : Heap}
/-- the context of a def's body -/
abbrev cxD (P : Program) (w : World) (K : PySem.W.Frag) (mg : Str → Option Value) (base : Heap) (N : List Str) (qual : Str) (st : Stmt) (f : Addr) (cdv : Value) (A : Around) (outer : List Env) (s : Shared) (H : Hp) (E : XK) : Cx :=
  cxOf (L2.CX P w) P w K mg base N qual (defScope st) f cdv A outer s H E
abbrev wxD (E : XK) : WX := fun c d _ H => E c d H
/-- the body's ends -/
abbrev endD (P : DK) (PX : DX) : DEnds := { nx := fun _ M => WkV P (.d .none) M, rt := WkV P, ex := fun x _ M => PX x M }
theorem okD {x qual : Str} {st : Stmt} {f : Addr} {fd : FuncData} {N ps : List Str} {k : Nat} {sp : DSp} {t : DTS} (F : Fun K x qual st f fd) (S : FnScope N ps (defScope st)) (len : ∀ xs M P PX, sp xs M P PX → xs.length = ps.length)
    (hbody : ∀ (cdv : Value) (A : Around) (outer : List Env) (s : Shared) (H : Hp) (E : XK), Room k (A.deeper (envOfC qual (defScope st) s.heap.objs.size f cdv)) →
      Takes (cxD P w K mg base N qual st f cdv A outer s H E) (wxD E) → PassesOwn (model P w) (A.deeper (envOfC qual (defScope st) s.heap.objs.size f cdv)) (envOfC qual (defScope st) s.heap.objs.size f cdv) (cxD P w K mg base N qual st f cdv A outer s H E).xe →
      DSs (cxD P w K mg base N qual st f cdv A outer s H E) (wxD E) (defBody st) t)
    (hread : ∀ xs M Q PX, sp xs M Q PX → t (endD Q PX) (startD N xs) M) : DFn P w K mg base (k + 1) f fd ps sp := by
  refine F.okX S (fun vs H Q E ⟨xs, M, N', P', PX, ha, hr, hsp, _⟩ => by rw [paired_len ha]; exact len _ _ _ _ hsp) fun cdv A outer s H vs Q E hr hsp => ?_
  obtain ⟨xs, M, N', P', PX, ha, hrel, hsp, hf, hx⟩ := hsp
  refine ⟨_, (hbody cdv A outer s H E hr (takes_of rfl rfl rfl rfl) (passes_of rfl)).ps, startD N xs, M, N', endD P' PX, start_rel ha N, hrel, hread xs M P' PX hsp, ?_⟩
  exact ⟨fun ρ' M' σ' H' q _ r a => fol_wk hf _ M' .non H' q r a .non, fun x M' v H' q r a i => fol_wk hf x M' v H' q r a i, fun _ _ _ _ z => z.elim, fun _ _ _ _ z => z.elim, fun x ρ' M' d σ' H' q _ r a e => hx x M' d H' q r a e⟩
end
/-- f(e, ..) -/
def eCall (sp : DSp) (ta : DTA) : DTE := fun ρ M P PX => ta ρ M (fun xs M1 => sp xs M1 P PX) PX
section
variable {X : Cx} {W : WX} {k : Nat} {f C : Addr} {fd : FuncData} {ps : List Str} {sp : DSp} {x m : Str} {p pos apos : Pos} {e o : Expr} {es : List Expr} {ta : DTA} {to : DTE}
theorem call_imp {σ : L2.St} {H : Hp} {Q : VK} {K : PySem.W.Frag} (h : LE K W (eCall sp ta) σ H Q) : tCallS (liftSp K sp) (WE W) (LA K W ta) σ H Q := by
  obtain ⟨ρ, M, N, P, PX, hs, hr, ht, hP, hX⟩ := h
  exact ⟨ρ, M, N, _, PX, hs, hr, ht, fun xs M1 vs H1 p r1 a1 iv => ⟨xs, M1, N, P, PX, iv, r1, p, fun z M2 v H2 pz r2 a2 iz => hP z M2 v H2 pz r2 (a1.trans a2) iz, hX.step a1⟩, hX⟩
theorem de_call (F : DFn X.prog X.w X.K X.mg X.base k f fd ps sp) (hr : Room k X.A) (tk : Takes X W) (hg : Gl X x) (hm : X.mg x = some (.ref f)) (hk : PySem.W.keepIn X.K (.ref f) = true) (hb : Binds X.K fd ps [])
    (ha : DA X W (e :: es) ta) (hdb : (x == ("__debug__" : Str)) = false := by decide) (he : starEach (e :: es) X.env = (false, eval e X.env) :: starEach es X.env := by rfl) (hpl : (backTo pos (starEach es X.env)).any (·.1) = false := by rfl) :
    DE X W (.Call (.Name x p) (e :: es) [] pos) (eCall sp ta) := ⟨PE.imp (pe_callS F hr hg hm hk hb (fun σ => passAt tk σ) ha.pa hdb he hpl) fun _ _ _ h => call_imp h⟩
end

/-! ### built-ins -/
/-- a known value called with values -/
def DCall (X : Cx) (f : Value) (g : DN) : Prop := CallR X f (fun vs H Q => ∃ xs M N P, HRel X.K M N H ∧ AreD X.K (fz M N H) vs xs ∧ g xs M P ∧ Fol X.K M N H P Q)
def eCB (g : DN) (ta : DTA) : DTE := fun ρ M P PX => ta ρ M (fun xs M1 => g xs M1 P) PX
section
variable {X : Cx} {W : WX} {g : DN} {x : Str} {p pos : Pos} {e : Expr} {es : List Expr} {ta : DTA} {id T : String}
theorem cb_imp {σ : L2.St} {H : Hp} {Q : VK} {K : PySem.W.Frag} (h : LE K W (eCB g ta) σ H Q) : tCB (fun vs H Q => ∃ xs M N P, HRel K M N H ∧ AreD K (fz M N H) vs xs ∧ g xs M P ∧ Fol K M N H P Q) (LA K W ta) σ H Q := by
  obtain ⟨ρ, M, N, P, PX, hs, hr, ht, hP, hX⟩ := h
  exact ⟨ρ, M, N, _, PX, hs, hr, ht, fun xs M1 vs H1 p r1 a1 iv => ⟨xs, M1, N, P, r1, iv, p, fun z M2 v H2 pz r2 a2 iz => hP z M2 v H2 pz r2 (a1.trans a2) iz⟩, hX⟩
theorem de_callB (hc : DCall X (.builtin id) g) (hg : Gl X x) (hm : X.mg x = none) (hv : bootBuiltins x = some (.builtin id)) (ha : DA X W (e :: es) ta) (hn : x ≠ "__name__" := by decide) (hdb : (x == ("__debug__" : Str)) = false := by decide)
    (he : starEach (e :: es) X.env = (false, eval e X.env) :: starEach es X.env := by rfl) (hpl : (backTo pos (starEach es X.env)).any (·.1) = false := by rfl) : DE X W (.Call (.Name x p) (e :: es) [] pos) (eCB g ta) :=
  ⟨PE.imp (pe_callB hc hg hm hv ha.pa hn hdb he hpl) fun _ _ _ h => cb_imp h⟩
theorem de_callTy (hc : DCall X (.type T) g) (hg : Gl X x) (hm : X.mg x = none) (hv : bootBuiltins x = some (.type T)) (ha : DA X W (e :: es) ta) (hn : x ≠ "__name__" := by decide) (hdb : (x == ("__debug__" : Str)) = false := by decide)
    (he : starEach (e :: es) X.env = (false, eval e X.env) :: starEach es X.env := by rfl) (hpl : (backTo pos (starEach es X.env)).any (·.1) = false := by rfl) : DE X W (.Call (.Name x p) (e :: es) [] pos) (eCB g ta) :=
  ⟨PE.imp (pe_callTy hc hg hm hv ha.pa hn hdb he hpl) fun _ _ _ h => cb_imp h⟩
end
end DL

/-! Part 4: operators, subscripts, slices, built-ins. -/
namespace DL
open PySem PySem.Spec PyProof.Rows L2

section
variable {X : Cx} {W : WX} {a b c e : Expr} {es : List Expr} {ta tb tc te : DTE} {pos : Pos}

/-! ### arithmetic -/
def MulOk (i j : Int) : Prop := CMul i j ∨ CMulW i j
def DivOk (j : Int) : Prop := 0 < j ∧ j.natAbs.log2 < 9000
theorem divOk_small {j : Int} (h0 : 0 < j) (h : j < 2 ^ 64) : DivOk j := ⟨h0, (wide_div (i := 0) (b := 64) h0 (by omega) (by decide) (by decide)).2⟩
theorem mulOk_left {i j : Int} (h0 : -(2 ^ 64) < i) (h1 : i < 2 ^ 64) : MulOk i j := .inl (.inl ⟨h0, h1⟩)
theorem mulOk_right {i j : Int} (h0 : -(2 ^ 64) < j) (h1 : j < 2 ^ 64) : MulOk i j := .inl (.inr ⟨h0, h1⟩)
def addD : PyData → PyData → (PyData → Prop) → Prop
  | .int i, .int j, k => k (.int (i + j))
  | .str i, .str j, k => i.length + j.length ≤ sizeLine ∧ k (.str (i ++ j))
  | .tuple x, .tuple y, k => x.length + y.length ≤ sizeLine ∧ k (.tuple (x ++ y))
  | .list x, .list y, k => x.length + y.length ≤ sizeLine ∧ k (.list (x ++ y))
  | _, _, _ => False
def subD : PyData → PyData → (PyData → Prop) → Prop
  | .int i, .int j, k => k (.int (i - j))
  | _, _, _ => False
def mulD : PyData → PyData → (PyData → Prop) → Prop
  | .int i, .int j, k => MulOk i j ∧ k (.int (i * j))
  | _, _, _ => False
def fdivD : PyData → PyData → (PyData → Prop) → Prop
  | .int i, .int j, k => DivOk j ∧ k (.int (i / j))
  | _, _, _ => False
def modD : PyData → PyData → (PyData → Prop) → Prop
  | .int i, .int j, k => 0 < j ∧ k (.int (i % j))
  | _, _, _ => False
def powD : PyData → PyData → (PyData → Prop) → Prop
  | .int i, .int j, k => CPow i j ∧ k (.int (i ^ j.toNat))
  | _, _, _ => False
/-- a rule for ints alone -/
theorem dop_int {f : Value → Value → Sem Value} {g : PyData → PyData → (PyData → Prop) → Prop} {C : Int → Int → Prop} {h : Int → Int → V} {h' : Int → Int → PyData}
    (ho : OpR X f (rI C h)) (hg : ∀ dx dy k, g dx dy k → ∃ i j, dx = .int i ∧ dy = .int j ∧ C i j ∧ k (h' i j)) (hh : ∀ i j (F : Hp), Dp X.K F (h i j) (h' i j)) : DOp X f (gD g) := by
  intro pins s σ H x y v u Q I rx ry hq
  obtain ⟨dx, dy, M, N, P, hr, r1, r2, hf, fo⟩ := gD_of hq
  obtain ⟨i, j, rfl, rfl, hc, hk⟩ := hg _ _ _ hf
  exact ho pins s σ H x y v u Q I rx ry ⟨i, j, r1.int, r2.int, hc, fo.same hr hk (hh i j _)⟩
theorem op_rI {f : Value → Value → Sem Value} {h : Int → Int → V} (ho : OpR X f (rI0 h)) : OpR X f (rI (fun _ _ => True) h) := fun pins s σ H x y v u Q I rx ry ⟨i, j, e1, e2, _, q⟩ => ho pins s σ H x y v u Q I rx ry ⟨i, j, e1, e2, q⟩
theorem dop_sub : DOp X (binaryOp .Sub) (gD subD) := dop_int (op_rI op_sub) (h' := fun i j => .int (i - j)) (fun dx dy k h => by
  cases dx <;> first | (cases dy <;> first | exact ⟨_, _, rfl, rfl, trivial, h⟩ | exact h.elim) | exact h.elim) fun _ _ _ => .int _
theorem op_mulA : OpR X (binaryOp .Mult) (rI MulOk fun i j => .int (i * j)) := fun pins s σ H x y v u Q I rx ry ⟨i, j, e1, e2, hc, q⟩ => by
  rcases hc with hc | hc
  · exact op_mul pins s σ H x y v u Q I rx ry ⟨i, j, e1, e2, hc, q⟩
  · exact op_mulW pins s σ H x y v u Q I rx ry ⟨i, j, e1, e2, hc, q⟩
theorem dop_fdiv : DOp X (binaryOp .FloorDiv) (gD fdivD) := dop_int op_fdivW (h' := fun i j => .int (i / j)) (fun dx dy k h => by
  cases dx <;> first | (cases dy <;> first | exact ⟨_, _, rfl, rfl, h.1, h.2⟩ | exact h.elim) | exact h.elim) fun _ _ _ => .int _
theorem dop_mod : DOp X (binaryOp .Mod) (gD modD) := dop_int op_mod (h' := fun i j => .int (i % j)) (fun dx dy k h => by
  cases dx <;> first | (cases dy <;> first | exact ⟨_, _, rfl, rfl, h.1, h.2⟩ | exact h.elim) | exact h.elim) fun _ _ _ => .int _
theorem dop_pow : DOp X (binaryOp .Pow) (gD powD) := dop_int op_pow (h' := fun i j => .int (i ^ j.toNat)) (fun dx dy k h => by
  cases dx <;> first | (cases dy <;> first | exact ⟨_, _, rfl, rfl, h.1, h.2⟩ | exact h.elim) | exact h.elim) fun _ _ _ => .int _
/-- list + list, however they are known -/
theorem add_sql {pins : List (Addr × Obj)} {s : Shared} {σ : L2.St} {H : Hp} {Q : VK} {p q : Addr} {xs ys : List V} (I : Inv X pins σ H s) (hx : SqL X.K H p xs) (hy : SqL X.K H q ys) (hz : xs.length + ys.length ≤ sizeLine)
    (h : ∀ r, H r = none → Q (.ref r) (upd H r (.lst (xs ++ ys)))) : wpAny (model X.prog X.w) X.A (binaryOp .Add (.ref p) (.ref q)) (EP X pins σ Q) X.xe s := by
  obtain ⟨its, r1, p1, _⟩ := I.list hx
  obtain ⟨its2, r2, p2, _⟩ := I.list hy
  obtain ⟨⟨cls, dd, data, sl⟩, n, ho, hc, hdn, hd⟩ := p1
  obtain ⟨⟨cls2, dd2, data2, sl2⟩, n2, ho2, hc2, hdn2, hd2⟩ := p2
  simp only at hc hd hc2 hd2
  subst hc hd hc2 hd2
  have e : its.toArray ++ its2.toArray = (its ++ its2).toArray := by simp
  have l1 := r1.length
  have l2 := r2.length
  refine concat_meets ⟨_, ho, rfl⟩ ⟨_, ho2, rfl⟩ noFill_list_add seq_list_add PySem.F.slot_list_add PySem.F.entry_list_add (PySem.F.args_list_add_2 _ _) (list_addW p q its.toArray its2.toArray n n2 dd dd2 sl sl2 (by rw [List.size_toArray, List.size_toArray]; omega)) ⟨ho, ho2, ?_⟩
  rw [e]
  exact ⟨.ref _, _, I.lnew (t' := s.toks) (r1.append r2) (by rw [List.length_append]; omega), rfl, h _ I.fresh⟩
theorem dop_add : DOp X (binaryOp .Add) (gD addD) := by
  intro pins s σ H x y v u Q I rx ry hq
  obtain ⟨dx, dy, M, N, P, hr, r1, r2, hf, fo⟩ := gD_of hq
  unfold addD at hf
  split at hf
  · exact op_add pins s σ H x y v u Q I rx ry ⟨_, _, r1.int, r2.int, fo.same hr hf (show Dp _ _ _ _ from .int _)⟩
  · exact op_add_str pins s σ H x y v u Q I rx ry ⟨_, _, r1.str, r2.str, hf.1, fo.same hr hf.2 (show Dp _ _ _ _ from .str _)⟩
  · rename_i xs ys
    obtain ⟨p, vs, rfl, h1, h2, d1⟩ := r1.tuple
    obtain ⟨q, ws, rfl, h3, h4, d2⟩ := r2.tuple
    have l1 := dpAll_len h2
    have l2 := dpAll_len h4
    refine op_catA pins s σ H _ _ v u Q I rx ry ⟨p, q, vs, ws, rfl, rfl, h1, h3, by omega, fun z => ?_, fun _ z => ?_, fun _ _ r hr' => ?_⟩
    · subst z
      have : xs = [] := List.eq_nil_of_length_eq_zero l1.symm
      subst this
      exact fo.same hr hf.2 d2
    · subst z
      have : ys = [] := List.eq_nil_of_length_eq_zero l2.symm
      subst this
      refine fo.same hr hf.2 ?_
      rw [List.append_nil]
      exact d1
    · exact fo.new hr hf.2 hr' (fz_newTup hr hr' (dpAll_app h2 h4))
  · obtain ⟨p, vs, rfl, h1, h2⟩ := r1.list
    obtain ⟨q, ws, rfl, h3, h4⟩ := r2.list
    have l1 := dpAll_len h2
    have l2 := dpAll_len h4
    cases rx
    cases ry
    exact add_sql I h1 h3 (by omega) fun r hr' => fo.new hr hf.2 hr' (fz_newLst hr hr' (dpAll_app h2 h4))
  · exact hf.elim
def negD : D1 := fun x M P => match x with | .d (.int i) => P (.d (.int (-i))) M | _ => False
theorem dun_neg : Un1 X (unaryOp .USub) negD := by
  intro pins s σ H x v Q I rx h
  obtain ⟨dx, M, N, P, hr, ix, hg, fo⟩ := h
  unfold negD at hg
  split at hg
  · cases (show Dp _ _ _ _ from ix)
    exact un_neg pins s σ H _ v Q I rx ⟨_, rfl, fo.same hr hg (show Dp _ _ _ _ from .int _)⟩
  · exact hg.elim

/-! ### comparisons -/
def eqD : PyData → PyData → (PyData → Prop) → Prop := fun x y k => SeqAt.shaped x = true ∧ SeqAt.shaped y = true ∧ k (.bool (PyData.eqv x y))
def neD : PyData → PyData → (PyData → Prop) → Prop := fun x y k => SeqAt.shaped x = true ∧ SeqAt.shaped y = true ∧ k (.bool (!PyData.eqv x y))
theorem dop_eq (hu : X.A.units + 64 < cLine) : DOp X (compareOp .Eq) (gD eqD) := by
  intro pins s σ H x y v u Q I rx ry hq
  obtain ⟨dx, dy, M, N, P, hr, r1, r2, hf, fo⟩ := gD_of hq
  exact op_eqD hu pins s σ H x y v u Q I rx ry ⟨dx, dy, r1.dp, r2.dp, hf.1, hf.2.1, fo.same hr hf.2.2 (show Dp _ _ _ _ from .bl _)⟩
theorem dop_ne (hu : X.A.units + 64 < cLine) : DOp X (compareOp .NotEq) (gD neD) := by
  intro pins s σ H x y v u Q I rx ry hq
  obtain ⟨dx, dy, M, N, P, hr, r1, r2, hf, fo⟩ := gD_of hq
  exact op_neD hu pins s σ H x y v u Q I rx ry ⟨dx, dy, r1.dp, r2.dp, hf.1, hf.2.1, fo.same hr hf.2.2 (show Dp _ _ _ _ from .bl _)⟩
def StrLt (x y : Str) : Bool := decide (x.cps.toList < y.cps.toList)
/-- alike data, not too deep -/
def CmpOk (x y : PyData) : Prop := PySem.W.alike x y = true ∧ x ≠ .none ∧ min x.depth y.depth ≤ 60
def ltD : PyData → PyData → (PyData → Prop) → Prop := fun x y k => CmpOk x y ∧ k (.bool (PySem.W.dataLt x y))
def leD : PyData → PyData → (PyData → Prop) → Prop := fun x y k => CmpOk x y ∧ k (.bool (!PySem.W.dataLt y x))
def gtD : PyData → PyData → (PyData → Prop) → Prop := fun x y k => CmpOk x y ∧ k (.bool (PySem.W.dataLt y x))
def geD : PyData → PyData → (PyData → Prop) → Prop := fun x y k => CmpOk x y ∧ k (.bool (!PySem.W.dataLt x y))
theorem cmp_run {op : CmpOp} {f : PyData → PyData → Bool} (hu : X.A.units + 64 < cLine)
    (hc : ∀ (da db : PyData) (A : Around) (s : Shared) (a b : Value) (as bs : List Addr), Reads s.heap a da as → Reads s.heap b db bs → PySem.W.alike da db = true → da ≠ .none → A.units + min da.depth db.depth < cLine → ∀ (prog : Program) (w : World) (E : Value → Shared → Prop) (Q : Value → Shared → Prop), Q (.bool (f da db)) s → wpAny (model prog w) A (compareOp op a b) Q E s) :
    DOp X (compareOp op) (gD fun x y k => CmpOk x y ∧ k (.bool (f x y))) := by
  intro pins s σ H x y v u Q I rx ry hq
  obtain ⟨dx, dy, M, N, P, hr, r1, r2, hf, fo⟩ := gD_of hq
  obtain ⟨as, q1⟩ := Dp.reads I _ _ _ r1.dp rx
  obtain ⟨bs, q2⟩ := Dp.reads I _ _ _ r2.dp ry
  have hd := hf.1.2.2
  exact hc _ _ X.A s v u as bs q1 q2 hf.1.1 hf.1.2.1 (by omega) X.prog X.w X.xe _ ⟨.bl _, H, I, rfl, fo.same hr hf.2 (show Dp _ _ _ _ from .bl _)⟩
theorem dop_lt (hu : X.A.units + 64 < cLine) : DOp X (compareOp .Lt) (gD ltD) := cmp_run hu PySem.W.rcLt_alike
theorem dop_le (hu : X.A.units + 64 < cLine) : DOp X (compareOp .LtE) (gD leD) := cmp_run (f := fun x y => !PySem.W.dataLt y x) hu PySem.W.rcLe_alike
theorem dop_gt (hu : X.A.units + 64 < cLine) : DOp X (compareOp .Gt) (gD gtD) := cmp_run (f := fun x y => PySem.W.dataLt y x) hu PySem.W.rcGt_alike
theorem dop_ge (hu : X.A.units + 64 < cLine) : DOp X (compareOp .GtE) (gD geD) := cmp_run (f := fun x y => !PySem.W.dataLt x y) hu PySem.W.rcGe_alike
/-- is None -/
def isN (neg : Bool) : D2 := fun x y M P => match y with | .d .none => (match x with | .d .none => P (.d (.bool !neg)) M | _ => P (.d (.bool neg)) M) | _ => False
theorem isD_non {K : PySem.W.Frag} {F : Hp} {v : V} {x : DV} (h : IsD K F v x) : decide (v = .non) = (match x with | .d .none => true | _ => false) := by
  cases x with
  | d x =>
    cases x with
    | none => cases (show Dp _ _ _ _ from h); rfl
    | dict _ => cases (show Dp _ _ _ _ from h)
    | _ => cases (show Dp _ _ _ _ from h); simp
  | r a =>
    have : v = .ref a := h
    subst this
    simp
theorem dop_is : DOp X (compareOp .Is) (isN false) := by
  intro pins s σ H x y v u Q I rx ry h
  obtain ⟨dx, dy, M, N, P, hr, ix, iy, hg, fo⟩ := h
  unfold isN at hg
  split at hg
  · cases (show Dp _ _ _ _ from iy)
    have e := isD_non ix
    refine op_isN pins s σ H x _ v u Q I rx ry ⟨rfl, ?_⟩
    rw [e]
    split at hg
    · exact fo.same hr hg (show Dp _ _ _ _ from .bl _)
    · rename_i hne
      refine fo.same hr hg ?_
      split
      · exact absurd rfl (hne)
      · exact (show Dp _ _ _ _ from .bl _)
  · exact hg.elim
theorem dop_isnot : DOp X (compareOp .IsNot) (isN true) := by
  intro pins s σ H x y v u Q I rx ry h
  obtain ⟨dx, dy, M, N, P, hr, ix, iy, hg, fo⟩ := h
  unfold isN at hg
  split at hg
  · cases (show Dp _ _ _ _ from iy)
    have e := isD_non ix
    refine op_notN pins s σ H x _ v u Q I rx ry ⟨rfl, ?_⟩
    rw [e]
    split at hg
    · exact fo.same hr hg (show Dp _ _ _ _ from .bl _)
    · rename_i hne
      refine fo.same hr hg ?_
      split
      · exact absurd rfl (hne)
      · exact (show Dp _ _ _ _ from .bl _)
  · exact hg.elim

/-! ### subscripts -/
def ixD : PyData → PyData → (PyData → Prop) → Prop
  | .list xs, .int i, k => ∃ y, atI xs i = some y ∧ k y
  | .tuple xs, .int i, k => ∃ y, atI xs i = some y ∧ k y
  | .str z, .int i, k => z.length ≤ sizeLine ∧ ∃ c, atI z.cps.toList i = some c ∧ k (.str ⟨#[c]⟩)
  | _, _, _ => False
theorem atI_dp {K : PySem.W.Frag} {F : Hp} {vs : List V} {ds : List PyData} {i : Int} {y : PyData} (h : DpAll K F vs ds) (e : atI ds i = some y) : ∃ v, atI vs i = some v ∧ Dp K F v y := by
  unfold atI at e ⊢
  rw [dpAll_len h]
  cases q : ixN ds.length i with
  | none => rw [q] at e; cases e
  | some j =>
    rw [q] at e
    exact dpAll_get h e
/-- a[b] of data -/
theorem de_ix (ha : DE X W a ta) (hb : DE X W b tb) (hs : PlainIx b) : DE X W (.Subscript a b pos) (eOp (gD ixD) ta tb) := by
  have hx : IxR X (rD2 X.K (gD ixD)) := by
    intro value slice pins s σ H x y v u Q I rx ry hq hsub
    obtain ⟨dx, dy, M, N, P, hr, r1, r2, hf, fo⟩ := gD_of hq
    unfold ixD at hf
    split at hf
    · obtain ⟨z, hz, q⟩ := hf
      obtain ⟨p, vs, rfl, h1, h2⟩ := r1.list
      obtain ⟨w', hw, hd⟩ := atI_dp h2 hz
      exact ix_list value slice pins s σ H _ _ v u Q I rx ry ⟨p, vs, _, w', rfl, r2.int, h1, hw, fo.same hr q hd⟩ hsub
    · obtain ⟨z, hz, q⟩ := hf
      obtain ⟨p, vs, rfl, h1, h2, _⟩ := r1.tuple
      obtain ⟨w', hw, hd⟩ := atI_dp h2 hz
      exact ix_tup value slice pins s σ H _ _ v u Q I rx ry ⟨p, vs, _, w', rfl, r2.int, h1, hw, fo.same hr q hd⟩ hsub
    · obtain ⟨hl, c, hz, q⟩ := hf
      exact ix_str value slice pins s σ H _ _ v u Q I rx ry ⟨_, _, c, r1.str, r2.int, hl, hz, fo.same hr q (show Dp _ _ _ _ from .str _)⟩ hsub
    · exact hf.elim
  exact ⟨PE.imp (pe_ix hx ha.pe hb.pe hs) fun _ _ _ h => op_imp h⟩
/-- parts of a slice -/
abbrev DTO := DEnv → MHp → (Option Int → MHp → Prop) → DX → Prop
def LO (K : PySem.W.Frag) (W : WX) (t : DTO) : TO := fun σ H Q => ∃ ρ M N P PX, SRel K (fz M N H) σ ρ ∧ HRel K M N H ∧ t ρ M P PX ∧ (∀ o M' H', P o M' → HRel K M' N H' → Af M N H M' H' → Q o H') ∧ XEnd K W σ M N H PX
structure DO (X : Cx) (W : WX) (e : Option Expr) (t : DTO) : Prop where
  po : PO X e (LO X.K W t)
def oNone : DTO := fun _ M P _ => P none M
def oSome (te : DTE) : DTO := fun ρ M P PX => te ρ M (fun x M1 => match x with | .d (.int i) => P (some i) M1 | _ => False) PX
theorem PO.imp {X : Cx} {e : Option Expr} {t u : TO} (h : PO X e t) (i : ∀ σ H Q, u σ H Q → t σ H Q) : PO X e u := ⟨fun pins s σ H Q I q => h.run pins s σ H Q I (i σ H Q q)⟩
theorem do_none : DO X W none oNone := ⟨PO.imp po_none fun σ H Q ⟨ρ, M, N, P, PX, hs, hr, ht, hP, hX⟩ => hP _ M H ht hr .refl⟩
theorem do_some (h : DE X W e te) : DO X W (some e) (oSome te) := ⟨PO.imp (po_some h.pe) fun σ H Q ⟨ρ, M, N, P, PX, hs, hr, ht, hP, hX⟩ => by
  refine ⟨ρ, M, N, _, PX, hs, hr, ht, fun x M1 v H1 p hr1 af1 iv => ?_, hX⟩
  split at p
  · cases (show Dp _ _ _ _ from iv)
    exact ⟨_, rfl, hP _ M1 H1 p hr1 af1⟩
  · exact p.elim⟩
def cutG {α : Type} (xs : List α) (lo hi : Option Int) : List α := (xs.drop (HT.sIx xs.length 0 lo)).take (HT.sIx xs.length xs.length hi - HT.sIx xs.length 0 lo)
theorem cut_dp {K : PySem.W.Frag} {F : Hp} {vs : List V} {ds : List PyData} {lo hi : Option Int} (h : DpAll K F vs ds) : DpAll K F (cutV vs lo hi) (cutG ds lo hi) := by
  unfold cutV cutG
  rw [dpAll_len h]
  exact dpAll_take _ (dpAll_drop _ h)
def cutSt (z : Str) (lo hi : Option Int) : Str := cutS z lo hi
def slD : PyData → Option Int → Option Int → (PyData → Prop) → Prop
  | .list xs, lo, hi, k => k (.list (cutG xs lo hi))
  | .tuple xs, lo, hi, k => k (.tuple (cutG xs lo hi))
  | .str z, lo, hi, k => z.length ≤ sizeLine ∧ k (.str (cutSt z lo hi))
  | _, _, _, _ => False
def eSl (te : DTE) (tl th : DTO) : DTE := fun ρ M P PX => te ρ M (fun x M1 => tl ρ M1 (fun l M2 => th ρ M2 (fun h M3 => rd M3 x fun d => slD d l h fun z => P (.d z) M3) PX) PX) PX
theorem de_slice {lo hi : Option Expr} {tl th : DTO} {p2 : Pos} (he : DE X W e te) (hl : DO X W lo tl) (hh : DO X W hi th) : DE X W (.Subscript e (.Slice lo hi none p2) pos) (eSl te tl th) := by
  have hx : SlR X (fun x lo hi H Q => ∃ dx M N P, HRel X.K M N H ∧ IsD X.K (fz M N H) x dx ∧ (rd M dx fun d => slD d lo hi fun z => P (.d z) M) ∧ Fol X.K M N H P Q) := by
    intro pins s σ H x v vl vu lo hi sl Q I rx hs pl pu h
    obtain ⟨dx, M, N, P, hr, ix, hg, fo⟩ := h
    obtain ⟨d, r1, hf⟩ := rd_of hr ix hg
    unfold slD at hf
    split at hf
    · obtain ⟨p, vs, rfl, h1, h2⟩ := r1.list
      exact sl_list pins s σ H _ v vl vu _ _ sl Q I rx hs pl pu ⟨p, vs, rfl, h1, fun r hr' => fo.new hr hf hr' (fz_newLst hr hr' (cut_dp h2))⟩
    · rename_i xs
      obtain ⟨p, vs, rfl, h1, h2, d1⟩ := r1.tuple
      have l1 := dpAll_len h2
      refine sl_tupA pins s σ H _ v vl vu _ _ sl Q I rx hs pl pu ⟨p, vs, rfl, h1, fun z => ?_, fun _ r hr' => fo.new hr hf hr' (fz_newTup hr hr' (cut_dp h2))⟩
      refine fo.same hr hf ?_
      have e : ∀ lo hi, HT.sIx vs.length 0 lo = 0 ∧ HT.sIx vs.length vs.length hi = vs.length → cutG xs lo hi = xs := by
        intro lo hi z
        unfold cutG
        rw [← l1, z.1, z.2, List.drop_zero, Nat.sub_zero, l1, List.take_length]
      rw [e _ _ z]
      exact d1
    · exact sl_str pins s σ H _ v vl vu _ _ sl Q I rx hs pl pu ⟨_, r1.str, hf.1, fo.same hr hf.2 (show Dp _ _ _ _ from .str _)⟩
    · exact hf.elim
  exact ⟨PE.imp (pe_slice hx he.pe hl.po hh.po) fun σ H Q ⟨ρ, M, N, P, PX, hs, hr, ht, hP, hX⟩ =>
    ⟨ρ, M, N, _, PX, hs, hr, ht, fun x M1 v H1 p hr1 af1 iv => ⟨ρ, M1, N, _, PX, hs.mono af1.fr, hr1, p, fun l M2 H2 p2 hr2 af2 => ⟨ρ, M2, N, _, PX, hs.mono (af1.trans af2).fr, hr2, p2, fun u M3 H3 p3 hr3 af3 =>
      ⟨x, M3, N, P, hr3, isD_mono (af2.trans af3).fr iv, p3, fun z M4 w H4 pz r4 a4 iz => hP z M4 w H4 pz r4 (((af1.trans af2).trans af3).trans a4) iz⟩, (hX.step af1).step af2⟩, hX.step af1⟩, hX⟩⟩

end
end DL

/-! Part 5: in, built-ins, methods, what is walked. -/
namespace DL
open PySem PySem.Spec PyProof.Rows L2

section
variable {X : Cx} {W : WX} {a b c e o : Expr} {es : List Expr} {ta tb tc te to : DTE} {pos : Pos}

/-! ### in -/
def negB (n : Bool) (b : Bool) : Bool := if n = true then !b else b
def memD (neg : Bool) : PyData → PyData → (PyData → Prop) → Prop
  | x, .list ys, k => SeqAt.shaped x = true ∧ SeqAt.shaped (.list ys) = true ∧ k (.bool (negB neg (ys.any fun z => PyData.eqv z x)))
  | x, .tuple ys, k => SeqAt.shaped x = true ∧ SeqAt.shaped (.tuple ys) = true ∧ k (.bool (negB neg (ys.any fun z => PyData.eqv z x)))
  | .str s, .str z, k => ∃ c, s = ⟨#[c]⟩ ∧ k (.bool (negB neg (decide (c ∈ z.cps.toList))))
  | _, _, _ => False
def hasK (kvs : List (Key × DV)) (k : Key) : Bool := kvs.any fun p => decide (p.1 = k)
def asKey : DV → Option Key
  | .d (.int i) => some (.inl i)
  | .d (.str x) => some (.inr x)
  | _ => none
def inD (neg : Bool) : D2 := fun x y M P => match y with
  | .r a => match M a with
    | some (.dk kvs) => match asKey x with | some k => P (.d (.bool (negB neg (hasK kvs k)))) M | none => False
    | some (.ls ys) => rd M x fun dx => memD neg dx (.list ys) fun z => P (.d z) M
    | _ => False
  | .d dy => rd M x fun dx => memD neg dx dy fun z => P (.d z) M
theorem mem_run (hu : X.A.units + 65 < cLine) {neg : Bool} {op : CmpOp} (hop : op = if neg = true then .NotIn else .In) {pins : List (Addr × Obj)} {s : Shared} {σ : L2.St} {H : Hp} {x y : V} {v u : Value} {Q : VK} {M : MHp} {N : Hid} {dx dy : PyData} {P : DK}
    (I : Inv X pins σ H s) (rx : RelV x v) (ry : RelV y u) (hr : HRel X.K M N H) (r1 : Rdd X.K M N H x dx) (r2 : Rdd X.K M N H y dy) (hf : memD neg dx dy fun z => P (.d z) M) (fo : Fol X.K M N H P Q) :
    wpAny (model X.prog X.w) X.A (compareOp op v u) (EP X pins σ Q) X.xe s := by
  have fin : ∀ {b : Bool}, P (.d (.bool (negB neg b))) M → EP X pins σ Q (.bool (negB neg b)) s := fun {b} p => ⟨.bl _, H, I, rfl, fo.same hr p (show Dp _ _ _ _ from .bl _)⟩
  obtain ⟨as, q1⟩ := Dp.reads I _ _ _ r1.dp rx
  obtain ⟨bs, q2⟩ := Dp.reads I _ _ _ r2.dp ry
  unfold memD at hf
  split at hf
  · subst hop
    cases neg with
    | false => exact SeqAt.in_list_reads q2 q1 (by have := SeqAt.canLay_of_shaped hf.2.1; simpa [PyData.canLay0] using this) (SeqAt.canLay_of_shaped hf.1) (room_in_shaped hf.1 hu) (fin hf.2.2)
    | true => exact SeqAt.notIn_list_reads q2 q1 (by have := SeqAt.canLay_of_shaped hf.2.1; simpa [PyData.canLay0] using this) (SeqAt.canLay_of_shaped hf.1) (room_in_shaped hf.1 hu) (fin hf.2.2)
  · subst hop
    cases neg with
    | false => exact SeqAt.in_tuple_reads q2 q1 (by have := SeqAt.canLay_of_shaped hf.2.1; simpa [PyData.canLay0] using this) (SeqAt.canLay_of_shaped hf.1) (room_in_shaped hf.1 hu) (fin hf.2.2)
    | true => exact SeqAt.notIn_tuple_reads q2 q1 (by have := SeqAt.canLay_of_shaped hf.2.1; simpa [PyData.canLay0] using this) (SeqAt.canLay_of_shaped hf.1) (room_in_shaped hf.1 hu) (fin hf.2.2)
  · obtain ⟨c, rfl, q⟩ := hf
    subst hop
    cases neg with
    | false => exact op_in_sign pins s σ H x y v u Q I rx ry ⟨c, _, r1.str, r2.str, fo.same hr q (show Dp _ _ _ _ from .bl _)⟩
    | true => exact op_notIn_sign pins s σ H x y v u Q I rx ry ⟨c, _, r1.str, r2.str, fo.same hr q (show Dp _ _ _ _ from .bl _)⟩
  · exact hf.elim
end

/-! ### built-ins -/
section
variable {X : Cx} {W : WX}
theorem are1 {K : PySem.W.Frag} {F : Hp} {vs : List V} {x : DV} (h : AreD K F vs [x]) : ∃ v, vs = [v] ∧ IsD K F v x := by
  cases h with
  | cons h1 h2 => cases h2; exact ⟨_, rfl, h1⟩
theorem are2 {K : PySem.W.Frag} {F : Hp} {vs : List V} {x y : DV} (h : AreD K F vs [x, y]) : ∃ v u, vs = [v, u] ∧ IsD K F v x ∧ IsD K F u y := by
  cases h with
  | cons h1 h2 =>
    cases h2 with
    | cons h2 h3 => cases h3; exact ⟨_, _, rfl, h1, h2⟩
/-- one argument, read as data -/
def g1 (f : PyData → (PyData → Prop) → Prop) : DN := fun xs M P => match xs with | [x] => rd M x fun d => f d fun z => P (.d z) M | _ => False
theorem g1_of {f : PyData → (PyData → Prop) → Prop} {K : PySem.W.Frag} {M : MHp} {N : Hid} {H : Hp} {xs : List DV} {vs : List V} {P : DK} (hr : HRel K M N H) (ha : AreD K (fz M N H) vs xs) (h : g1 f xs M P) : ∃ v d, vs = [v] ∧ Rdd K M N H v d ∧ f d fun z => P (.d z) M := by
  unfold g1 at h
  split at h
  · obtain ⟨v, rfl, i⟩ := are1 ha
    obtain ⟨d, r, q⟩ := rd_of hr i h
    exact ⟨v, d, rfl, r, q⟩
  · exact h.elim
def lenD : PyData → (PyData → Prop) → Prop
  | .list xs, k => k (.int xs.length)
  | .tuple xs, k => k (.int xs.length)
  | .str x, k => x.length ≤ sizeLine ∧ k (.int x.length)
  | _, _ => False
/-- len: of data, of mutable things -/
def gLen : DN := fun xs M P => match xs with
  | [.r a] => match M a with
    | some (.ls ys) => P (.d (.int ys.length)) M
    | some (.lv ys) => P (.d (.int ys.length)) M
    | _ => False
  | [.d d] => lenD d fun z => P (.d z) M
  | _ => False
theorem dc_len : DCall X (.builtin "len") gLen := by
  intro pins s σ H vs us Q I r h
  obtain ⟨xs, M, N, P, hr, ha, hg, fo⟩ := h
  unfold gLen at hg
  split at hg
  · rename_i a
    obtain ⟨v, rfl, i⟩ := are1 ha
    have i' : v = .ref a := i
    subst i'
    split at hg
    · rename_i ys q
      obtain ⟨o, h1, h2⟩ := hr.obj a _ q
      cases o with
      | lst ws => exact call_len pins s σ H _ us Q I r ⟨_, _, rfl, .inl ⟨ws, .inl (.inl h1), rfl⟩, fo.same hr hg (by rw [← dpAll_len (show DpAll _ _ _ _ from h2)]; exact (show Dp _ _ _ _ from .int _))⟩
      | _ => exact (show False from h2).elim
    · rename_i ys q
      obtain ⟨o, h1, h2⟩ := hr.obj a _ q
      cases o with
      | lst ws => exact call_len pins s σ H _ us Q I r ⟨_, _, rfl, .inl ⟨ws, .inl (.inl h1), rfl⟩, fo.same hr hg (by rw [← paired_len (show AreD _ _ _ _ from h2)]; exact (show Dp _ _ _ _ from .int _))⟩
      | _ => exact (show False from h2).elim
    · exact hg.elim
  · rename_i d
    obtain ⟨v, rfl, i⟩ := are1 ha
    have r1 : Rdd X.K M N H v d := .inl i
    unfold lenD at hg
    split at hg
    · obtain ⟨p, ws, rfl, h1, h2⟩ := r1.list
      exact call_len pins s σ H _ us Q I r ⟨_, _, rfl, .inl ⟨ws, h1, rfl⟩, fo.same hr hg (by rw [← dpAll_len h2]; exact (show Dp _ _ _ _ from .int _))⟩
    · obtain ⟨p, ws, rfl, h1, h2, _⟩ := r1.tuple
      exact call_len pins s σ H _ us Q I r ⟨_, _, rfl, .inr ⟨ws, h1, rfl⟩, fo.same hr hg (by rw [← dpAll_len h2]; exact (show Dp _ _ _ _ from .int _))⟩
    · cases r1.str
      exact call_len pins s σ H _ us Q I r ⟨_, _, rfl, ⟨hg.1, rfl⟩, fo.same hr hg.2 (show Dp _ _ _ _ from .int _)⟩
    · exact hg.elim
  · exact hg.elim
def intD : PyData → (PyData → Prop) → Prop
  | .int i, k => k (.int i)
  | .bool b, k => k (.int (if b then 1 else 0))
  | _, _ => False
theorem dc_int : DCall X (.type "int") (g1 intD) := by
  intro pins s σ H vs us Q I r h
  obtain ⟨xs, M, N, P, hr, ha, hg, fo⟩ := h
  obtain ⟨v, d, rfl, r1, q⟩ := g1_of hr ha hg
  unfold intD at q
  split at q
  · cases r1.int
    exact call_int1 pins s σ H _ us Q I r (.inl ⟨_, rfl, fo.same hr q (show Dp _ _ _ _ from .int _)⟩)
  · cases r1.bool
    exact call_int1 pins s σ H _ us Q I r (.inr ⟨_, rfl, fo.same hr q (show Dp _ _ _ _ from .int _)⟩)
  · exact q.elim
def absD : PyData → (PyData → Prop) → Prop
  | .int i, k => k (.int (if i < 0 then -i else i))
  | _, _ => False
theorem dc_abs : DCall X (.builtin "abs") (g1 absD) := by
  intro pins s σ H vs us Q I r h
  obtain ⟨xs, M, N, P, hr, ha, hg, fo⟩ := h
  obtain ⟨v, d, rfl, r1, q⟩ := g1_of hr ha hg
  unfold absD at q
  split at q
  · cases r1.int
    exact call_abs pins s σ H _ us Q I r ⟨_, rfl, fo.same hr q (show Dp _ _ _ _ from .int _)⟩
  · exact q.elim
def tupleD : PyData → (PyData → Prop) → Prop
  | .list xs, k => k (.tuple xs)
  | .tuple xs, k => k (.tuple xs)
  | _, _ => False
theorem dc_tuple : DCall X (.type "tuple") (g1 tupleD) := by
  intro pins s σ H vs us Q I r h
  obtain ⟨xs, M, N, P, hr, ha, hg, fo⟩ := h
  obtain ⟨v, d, rfl, r1, q⟩ := g1_of hr ha hg
  unfold tupleD at q
  split at q
  · obtain ⟨p, ws, rfl, h1, h2⟩ := r1.list
    exact call_tuple_of pins s σ H _ us Q I r ⟨p, ws, rfl, .inl ⟨h1, fun l hl => fo.new hr q hl (fz_newTup hr hl h2)⟩⟩
  · obtain ⟨p, ws, rfl, h1, h2, d1⟩ := r1.tuple
    exact call_tuple_of pins s σ H _ us Q I r ⟨p, ws, rfl, .inr ⟨h1, fo.same hr q d1⟩⟩
  · exact q.elim
def seqOf : PyData → (List PyData → Prop) → Prop
  | .list xs, k => k xs
  | .tuple xs, k => k xs
  | _, _ => False
theorem seq_rd {K : PySem.W.Frag} {M : MHp} {N : Hid} {H : Hp} {v : V} {d : PyData} {k : List PyData → Prop} (r1 : Rdd K M N H v d) (q : seqOf d k) : ∃ p ws ds, v = .ref p ∧ (SqL K H p ws ∨ SqT K H p ws) ∧ DpAll K (fz M N H) ws ds ∧ k ds := by
  unfold seqOf at q
  split at q
  · obtain ⟨p, ws, rfl, h1, h2⟩ := r1.list
    exact ⟨p, ws, _, rfl, .inl h1, h2, q⟩
  · obtain ⟨p, ws, rfl, h1, h2, d1⟩ := r1.tuple
    exact ⟨p, ws, _, rfl, .inr h1, h2, q⟩
  · exact q.elim
/-- list(x), not changed; changed -/
def listD (d : PyData) (k : PyData → Prop) : Prop := seqOf d fun xs => k (.list xs)
def gListM : DN := fun xs M P => match xs with | [x] => rd M x fun d => seqOf d fun ys => ∀ p, M p = none → P (.r p) (mu M p (.ls ys)) | _ => False
theorem dc_list : DCall X (.type "list") (g1 listD) := by
  intro pins s σ H vs us Q I r h
  obtain ⟨xs, M, N, P, hr, ha, hg, fo⟩ := h
  obtain ⟨v, d, rfl, r1, q⟩ := g1_of hr ha hg
  obtain ⟨p, ws, ds, rfl, h1, h2, q⟩ := seq_rd r1 q
  exact call_list_of pins s σ H _ us Q I r ⟨p, ws, rfl, h1, fun l hl => fo.new hr q hl (fz_newLst hr hl h2)⟩
theorem dc_listM : DCall X (.type "list") gListM := by
  intro pins s σ H vs us Q I r h
  obtain ⟨xs, M, N, P, hr, ha, hg, fo⟩ := h
  unfold gListM at hg
  split at hg
  · obtain ⟨v, rfl, i⟩ := are1 ha
    obtain ⟨d, r1, q⟩ := rd_of hr i hg
    obtain ⟨p, ws, ds, rfl, h1, h2, q⟩ := seq_rd r1 q
    refine call_list_of pins s σ H _ us Q I r ⟨p, ws, rfl, h1, fun l hl => ?_⟩
    obtain ⟨r2, a2⟩ := hr.new (x := .ls ds) (o := .lst ws) hl h2
    exact fo _ _ _ _ (q l (hr.free hl).1) r2 a2 rfl
  · exact hg.elim
theorem dp_bools {K : PySem.W.Frag} {F : Hp} : ∀ {bs : List Bool} {vs : List V}, DpAll K F vs (bs.map .bool) → vs = bs.map .bl
  | [], _, h => by cases h; rfl
  | b :: bs, _, h => by
    cases h with
    | cons h1 h2 =>
      cases h1
      rw [dp_bools h2]
      rfl
theorem dp_ints {K : PySem.W.Frag} {F : Hp} : ∀ {bs : List Int} {vs : List V}, DpAll K F vs (bs.map .int) → vs = bs.map .int
  | [], _, h => by cases h; rfl
  | b :: bs, _, h => by
    cases h with
    | cons h1 h2 =>
      cases h1
      rw [dp_ints h2]
      rfl
def allDb : PyData → (PyData → Prop) → Prop
  | .list xs, k => ∃ bs : List Bool, xs = bs.map .bool ∧ k (.bool (bs.all id))
  | _, _ => False
def anyDb : PyData → (PyData → Prop) → Prop
  | .list xs, k => ∃ bs : List Bool, xs = bs.map .bool ∧ k (.bool (bs.any id))
  | _, _ => False
theorem dc_all (hc : X.calm = true) : DCall X (.builtin "all") (g1 allDb) := by
  intro pins s σ H vs us Q I r h
  obtain ⟨xs, M, N, P, hr, ha, hg, fo⟩ := h
  obtain ⟨v, d, rfl, r1, q⟩ := g1_of hr ha hg
  unfold allDb at q
  split at q
  · obtain ⟨p, ws, rfl, h1, h2⟩ := r1.list
    obtain ⟨bs, rfl, q⟩ := q
    cases dp_bools h2
    exact cr_all hc pins s σ H _ us Q I r ⟨p, bs, rfl, h1, fo.same hr q (show Dp _ _ _ _ from .bl _)⟩
  · exact q.elim
theorem dc_any (hc : X.calm = true) : DCall X (.builtin "any") (g1 anyDb) := by
  intro pins s σ H vs us Q I r h
  obtain ⟨xs, M, N, P, hr, ha, hg, fo⟩ := h
  obtain ⟨v, d, rfl, r1, q⟩ := g1_of hr ha hg
  unfold anyDb at q
  split at q
  · obtain ⟨p, ws, rfl, h1, h2⟩ := r1.list
    obtain ⟨bs, rfl, q⟩ := q
    cases dp_bools h2
    exact cr_any hc pins s σ H _ us Q I r ⟨p, bs, rfl, h1, fo.same hr q (show Dp _ _ _ _ from .bl _)⟩
  · exact q.elim
def sumD : PyData → (PyData → Prop) → Prop
  | .list xs, k => ∃ ns : List Int, xs = ns.map .int ∧ k (.int ns.sum)
  | _, _ => False
theorem dc_sum (hc : X.calm = true) : DCall X (.builtin "sum") (g1 sumD) := by
  intro pins s σ H vs us Q I r h
  obtain ⟨xs, M, N, P, hr, ha, hg, fo⟩ := h
  obtain ⟨v, d, rfl, r1, q⟩ := g1_of hr ha hg
  unfold sumD at q
  split at q
  · obtain ⟨p, ws, rfl, h1, h2⟩ := r1.list
    obtain ⟨bs, rfl, q⟩ := q
    cases dp_ints h2
    exact cr_sum hc pins s σ H _ us Q I r ⟨p, bs, rfl, h1, fo.same hr q (show Dp _ _ _ _ from .int _)⟩
  · exact q.elim
def maxD : PyData → (PyData → Prop) → Prop
  | .list xs, k => ∃ ns : List Int, xs = ns.map .int ∧ 0 < ns.length ∧ ∀ m, m ∈ ns → (∀ y, y ∈ ns → y ≤ m) → k (.int m)
  | _, _ => False
def minD : PyData → (PyData → Prop) → Prop
  | .list xs, k => ∃ ns : List Int, xs = ns.map .int ∧ 0 < ns.length ∧ ∀ m, m ∈ ns → (∀ y, y ∈ ns → m ≤ y) → k (.int m)
  | _, _ => False
theorem dc_max (hc : X.calm = true) : DCall X (.builtin "max") (g1 maxD) := by
  intro pins s σ H vs us Q I r h
  obtain ⟨xs, M, N, P, hr, ha, hg, fo⟩ := h
  obtain ⟨v, d, rfl, r1, q⟩ := g1_of hr ha hg
  unfold maxD at q
  split at q
  · obtain ⟨p, ws, rfl, h1, h2⟩ := r1.list
    obtain ⟨bs, rfl, hl, q⟩ := q
    cases dp_ints h2
    exact cr_max hc pins s σ H _ us Q I r ⟨p, bs, rfl, h1, hl, fun m hm hle => fo.same hr (q m hm hle) (show Dp _ _ _ _ from .int _)⟩
  · exact q.elim
theorem dc_min (hc : X.calm = true) : DCall X (.builtin "min") (g1 minD) := by
  intro pins s σ H vs us Q I r h
  obtain ⟨xs, M, N, P, hr, ha, hg, fo⟩ := h
  obtain ⟨v, d, rfl, r1, q⟩ := g1_of hr ha hg
  unfold minD at q
  split at q
  · obtain ⟨p, ws, rfl, h1, h2⟩ := r1.list
    obtain ⟨bs, rfl, hl, q⟩ := q
    cases dp_ints h2
    exact cr_min hc pins s σ H _ us Q I r ⟨p, bs, rfl, h1, hl, fun m hm hle => fo.same hr (q m hm hle) (show Dp _ _ _ _ from .int _)⟩
  · exact q.elim
/-- two ints -/
def g2I (f : Int → Int → PyData) : DN := fun xs M P => match xs with | [.d (.int i), .d (.int j)] => P (.d (f i j)) M | _ => False
theorem dc_max2 (hc : X.calm = true) : DCall X (.builtin "max") (g2I fun i j => .int (if j > i then j else i)) := by
  intro pins s σ H vs us Q I r h
  obtain ⟨xs, M, N, P, hr, ha, hg, fo⟩ := h
  unfold g2I at hg
  split at hg
  · obtain ⟨v, u, rfl, i1, i2⟩ := are2 ha
    cases (show Dp _ _ _ _ from i1)
    cases (show Dp _ _ _ _ from i2)
    exact call_max2 hc pins s σ H _ us Q I r ⟨_, _, rfl, fo.same hr hg (show Dp _ _ _ _ from .int _)⟩
  · exact hg.elim
theorem dc_min2 (hc : X.calm = true) : DCall X (.builtin "min") (g2I fun i j => .int (if j < i then j else i)) := by
  intro pins s σ H vs us Q I r h
  obtain ⟨xs, M, N, P, hr, ha, hg, fo⟩ := h
  unfold g2I at hg
  split at hg
  · obtain ⟨v, u, rfl, i1, i2⟩ := are2 ha
    cases (show Dp _ _ _ _ from i1)
    cases (show Dp _ _ _ _ from i2)
    exact call_min2 hc pins s σ H _ us Q I r ⟨_, _, rfl, fo.same hr hg (show Dp _ _ _ _ from .int _)⟩
  · exact hg.elim
end

/-! ### methods of mutable lists, stores by place -/
section
variable {X : Cx} {W : WX} {e o i : Expr} {es : List Expr} {te to ti : DTE} {ta : DTA} {pos apos cpos : Pos} {name : Str} {T id : String}
/-- a method of a built-in type: receiver and arguments -/
abbrev DM := DV → List DV → MHp → DK → Prop
def eBm (Ty : DV → MHp → Prop) (g : DM) (to : DTE) (ta : DTA) : DTE := fun ρ M P PX => to ρ M (fun x M1 => Ty x M1 ∧ ta ρ M1 (fun xs M2 => g x xs M2 P) PX) PX
/-- it is a list, for a method's look-up -/
def isLst (x : DV) (M : MHp) : Prop := match x with
  | .r a => match M a with | some (.ls _) => True | some (.lv _) => True | _ => False
  | .d (.list _) => True
  | _ => False
def isDct (x : DV) (M : MHp) : Prop := match x with
  | .r a => match M a with | some (.dk _) => True | _ => False
  | _ => False
def isStr (x : DV) (_ : MHp) : Prop := match x with
  | .d (.str _) => True
  | _ => False
def TyOk (Ty : DV → MHp → Prop) (T : String) : Prop := ∀ {K : PySem.W.Frag} {M : MHp} {N : Hid} {H : Hp} {v : V} {x : DV}, HRel K M N H → IsD K (fz M N H) v x → Ty x M → tyV K T v H
theorem ty_lst : TyOk isLst "list" := fun {K M N H v x} hr hi h => by
  unfold isLst at h
  split at h
  · rename_i a
    have hi' : v = .ref a := hi
    subst hi'
    split at h
    · rename_i q
      obtain ⟨o, h1, h2⟩ := hr.obj a _ q
      cases o with
      | lst ws => exact .inl ⟨rfl, ws, .inl (.inl h1)⟩
      | _ => exact (show False from h2).elim
    · rename_i q
      obtain ⟨o, h1, h2⟩ := hr.obj a _ q
      cases o with
      | lst ws => exact .inl ⟨rfl, ws, .inl (.inl h1)⟩
      | _ => exact (show False from h2).elim
    · exact h.elim
  · cases (show Dp _ _ _ _ from hi) with
    | lst h1 h2 => exact .inl ⟨rfl, _, Same.seq fz_sub h1⟩
  · exact h.elim
theorem ty_str : TyOk isStr "str" := fun {K M N H v x} hr hi h => by
  unfold isStr at h
  split at h
  · cases (show Dp _ _ _ _ from hi)
    rfl
  · exact h.elim
theorem ty_dct : TyOk isDct "dict" := fun {K M N H v x} hr hi h => by
  unfold isDct at h
  split at h
  · rename_i a
    have hi' : v = .ref a := hi
    subst hi'
    split at h
    · rename_i q
      obtain ⟨o, h1, h2⟩ := hr.obj a _ q
      cases o with
      | dK kvs => exact .inr (.inr (.inl ⟨rfl, .inl ⟨kvs, h1⟩⟩))
      | _ => exact (show False from h2).elim
    · exact h.elim
  · exact h.elim
def DMt (X : Cx) (id : String) (g : DM) : Prop := MtR X id (fun v vs H Q => ∃ x xs M N P, HRel X.K M N H ∧ IsD X.K (fz M N H) v x ∧ AreD X.K (fz M N H) vs xs ∧ g x xs M P ∧ Fol X.K M N H P Q)
theorem de_bm {Ty : DV → MHp → Prop} {g : DM} (hT : TyOk Ty T) (pa : PlainAttrs T) (slot : Slot T name id) (hty : typeOf (.builtin id) = pure (.type "method_descriptor")) (hm : DMt X id g) (ho : DE X W o to) (ha : DA X W (e :: es) ta)
    (hbase : attributeBase o name X.env (eval o X.env) = eval o X.env := by rfl)
    (hfew : ((backTo cpos (starEach (e :: es) X.env)).all (fun x => !x.1) && (backToKw cpos (keywordEach [] X.env)).all (fun x => x.1.isSome)
      && decide ((e :: es).length + ([] : List Keyword).length + (if ([] : List Keyword).isEmpty then 0 else 1) < 30)) = true := by rfl)
    (hline : (apos.endLine == cpos.line) = true := by rfl) (hs : starEach (e :: es) X.env = (false, eval e X.env) :: starEach es X.env := by rfl) (hplain : (backTo cpos (starEach es X.env)).any (·.1) = false := by rfl) :
    DE X W (.Call (.Attribute o name apos) (e :: es) [] cpos) (eBm Ty g to ta) :=
  ⟨PE.imp (pe_bm pa slot hty hm ho.pe ha.pa hbase hfew hline hs hplain) fun σ H Q ⟨ρ, M, N, P, PX, hs, hr, ht, hP, hX⟩ =>
    ⟨ρ, M, N, _, PX, hs, hr, ht, fun x M1 v H1 p hr1 af1 iv => ⟨hT hr1 iv p.1, ρ, M1, N, _, PX, hs.mono af1.fr, hr1, p.2, fun xs M2 vs H2 p2 hr2 af2 ivs =>
      ⟨x, xs, M2, N, P, hr2, isD_mono af2.fr iv, ivs, p2, fun z M3 w H3 pz r3 a3 iz => hP z M3 w H3 pz r3 ((af1.trans af2).trans a3) iz⟩, hX.step af1⟩, hX⟩⟩
theorem de_bm0 {Ty : DV → MHp → Prop} {g : DM} (hT : TyOk Ty T) (pa : PlainAttrs T) (slot : Slot T name id) (hty : typeOf (.builtin id) = pure (.type "method_descriptor")) (hm : DMt X id g) (ho : DE X W o to)
    (hbase : attributeBase o name X.env (eval o X.env) = eval o X.env := by rfl) (hline : (apos.endLine == cpos.line) = true := by rfl) :
    DE X W (.Call (.Attribute o name apos) [] [] cpos) (eBm Ty g to aNil) :=
  ⟨PE.imp (pe_bm0 pa slot hty hm ho.pe hbase hline) fun σ H Q ⟨ρ, M, N, P, PX, hs, hr, ht, hP, hX⟩ =>
    ⟨ρ, M, N, _, PX, hs, hr, ht, fun x M1 v H1 p hr1 af1 iv => ⟨hT hr1 iv p.1, x, [], M1, N, P, hr1, iv, .nil, p.2, fun z M3 w H3 pz r3 a3 iz => hP z M3 w H3 pz r3 (af1.trans a3) iz⟩, hX⟩⟩
/-- xs.append(e) -/
def gAppend : DM := fun x xs M P => match x, xs with
  | .r a, [y] => match M a with
    | some (.ls ys) => (match y with | .d d => ys.length < sizeLine ∧ P (.d .none) (mu M a (.ls (ys ++ [d]))) | _ => False)
    | some (.lv ys) => ys.length < sizeLine ∧ P (.d .none) (mu M a (.lv (ys ++ [y])))
    | _ => False
  | _, _ => False
theorem areD_app {K : PySem.W.Frag} {F : Hp} {xs : List V} {ys : List DV} {x : V} {y : DV} (h : AreD K F xs ys) (q : IsD K F x y) : AreD K F (xs ++ [x]) (ys ++ [y]) := by
  induction h with
  | nil => exact .cons q .nil
  | cons h1 h2 ih => exact .cons h1 ih
theorem dm_append : DMt X "list.append" gAppend := by
  intro pins s σ H v vs w us Q I rx rv h
  obtain ⟨x, xs, M, N, P, hr, ix, ixs, hg, fo⟩ := h
  unfold gAppend at hg
  split at hg
  · rename_i a y
    obtain ⟨u, rfl, iy⟩ := are1 ixs
    have i' : v = .ref a := ix
    subst i'
    split at hg
    · rename_i ys q
      obtain ⟨o, h1, h2⟩ := hr.obj a _ q
      cases y with
      | r _ => exact (show False from hg).elim
      | d d =>
      cases o with
      | lst ws =>
        have hz := dpAll_len (show DpAll _ _ _ _ from h2)
        obtain ⟨r2, a2⟩ := hr.write (x := .ls (ys ++ [d])) (o := .lst (ws ++ [u])) q (dpAll_app h2 (.cons iy .nil))
        exact mt_append pins s σ H _ _ w us Q I rx rv ⟨a, ws, u, rfl, rfl, h1, by rw [hz]; exact hg.1, fo _ _ _ _ hg.2 r2 a2 (show Dp _ _ _ _ from .non)⟩
      | _ => exact (show False from h2).elim
    · rename_i ys q
      obtain ⟨o, h1, h2⟩ := hr.obj a _ q
      cases o with
      | lst ws =>
        have hz := paired_len (show AreD _ _ _ _ from h2)
        obtain ⟨r2, a2⟩ := hr.write (x := .lv (ys ++ [y])) (o := .lst (ws ++ [u])) q (areD_app h2 iy)
        exact mt_append pins s σ H _ _ w us Q I rx rv ⟨a, ws, u, rfl, rfl, h1, by rw [hz]; exact hg.1, fo _ _ _ _ hg.2 r2 a2 (show Dp _ _ _ _ from .non)⟩
      | _ => exact (show False from h2).elim
    · exact hg.elim
  · exact hg.elim
/-- o[i] = e, o a mutable list of data -/
def gSetL (to ti : DTE) : DTG := fun x ρ M P PX => to ρ M (fun y M1 => ti ρ M1 (fun k M2 => match y, k, x with
  | .r a, .d (.int n), .d d => match M2 a with
    | some (.ls ys) => ∃ j, ixN ys.length n = some j ∧ P ρ (mu M2 a (.ls (ys.set j d)))
    | _ => False
  | _, _, _ => False) PX) PX
theorem dg_setL (ho : DE X W o to) (hi : DE X W i ti)
    (ha : ∀ v, assign (.Subscript o i pos) X.env v = (do
      let ov ← holding [v] (eval o X.env)
      let iv ← holding [v, ov] (eval i X.env)
      standAt pos
      holding [v, ov, iv] (setItem ov iv v)
      release [v, ov, iv] []) := by intro _; rfl) : DG X W (.Subscript o i pos) [] (gSetL to ti) :=
  ⟨PG.imp (pg_sub ho.pe hi.pe set_list ha) fun v σ H Q ⟨x, ρ, M, N, P, PX, iv, hs, hr, ht, hP, hX⟩ =>
    ⟨ρ, M, N, _, PX, hs, hr, ht, fun y M1 u H1 p hr1 af1 iu => ⟨ρ, M1, N, _, PX, hs.mono af1.fr, hr1, p, fun k M2 z H2 p2 hr2 af2 iz => by
      split at p2
      · rename_i a n d
        split at p2
        · rename_i ys q
          obtain ⟨j, hj, pz⟩ := p2
          have iu' : u = .ref a := iu
          subst iu'
          cases (show Dp _ _ _ _ from iz)
          obtain ⟨oo, h1, h2⟩ := hr2.obj a _ q
          cases oo with
          | lst ws =>
            have hz := dpAll_len (show DpAll _ _ _ _ from h2)
            have af := af1.trans af2
            obtain ⟨r3, a3⟩ := hr2.write (x := .ls (ys.set j d)) (o := .lst (ws.set j v)) q (dpAll_set (dp_mono af.fr _ _ iv) j h2)
            exact ⟨a, ws, n, j, rfl, rfl, h1, by rw [hz]; exact hj, hP _ _ _ _ pz (hs.mono (af.trans a3).fr) r3 (af.trans a3) .refl⟩
          | _ => exact (show False from h2).elim
        · exact p2.elim
      · exact p2.elim, hX.step af1⟩, hX⟩⟩
end

/-! ### what is walked -/
section
variable {X : Cx} {W : WX} {e tg : Expr} {es : List Expr} {te : DTE} {ta : DTA} {pos : Pos}
/-- lists, tuples, texts -/
def walkD : PyData → (List DV → Prop) → Prop
  | .list xs, k => k (xs.map .d)
  | .tuple xs, k => k (xs.map .d)
  | .str x, k => k (x.cps.toList.map fun c => .d (.str ⟨#[c]⟩))
  | _, _ => False
def iSeq (te : DTE) : DTI := fun ρ M P PX => te ρ M (fun x M1 => match x with
  | .r a => match M1 a with
    | some (.ls ys) => P (ys.map .d) (fun M' => M' a = some (.ls ys)) M1
    | some (.lv ys) => P ys (fun M' => M' a = some (.lv ys)) M1
    | _ => False
  | .d d => walkD d fun xs => P xs (fun _ => True) M1) PX
/-- a list, a tuple or a text that is walked -/
theorem pi_any {te : TE} (h : PE X e te) : PI X tg e (fun σ H R => te σ H fun x H1 => (∃ a, x = .ref a ∧ (∃ xs, SqL X.K H1 a xs) ∧ R (Itl X.K a) H1) ∨ (∃ a, x = .ref a ∧ (∃ xs, SqT X.K H1 a xs) ∧ R (Itt X.K a) H1) ∨ ∃ z, x = .str z ∧ R (Its z) H1) := by
  refine ⟨fun pins s σ H R I hq => ?_⟩
  refine thn (h.run pins s σ H _ I hq) fun v s1 ⟨x, H1, I1, r1, q1⟩ => ?_
  have vpe : ∀ (v : Value), True := fun _ => trivial
  rcases q1 with ⟨a, rfl, ⟨xs, hx⟩, q⟩ | ⟨a, rfl, ⟨xs, hx⟩, q⟩ | ⟨z, rfl, q⟩
  · cases r1
    obtain ⟨its, rv, p, hz⟩ := I1.list hx
    refine wpAny_pyIter_list p.isList ?_
    refine ⟨s1.heap.objs.size, [s1.heap.objs.size], _, _, H1, rfl, I1.kept (t' := s1.toks) fun b o e => Heap.get?_push_of_some _ e, turn_list a _, ⟨_, Heap.get?_push_size _ rfl, rfl, rfl⟩, fun b hb => ?_, q⟩
    have e : b = s1.heap.objs.size := by simpa using hb
    subst e
    exact I1.fpOk (Nat.le_refl _) (I1.hok.fresh (Nat.le_refl _))
  · cases r1
    obtain ⟨its, rv, p, hz⟩ := I1.tuple hx
    refine wpAny_pyIter_tuple (show s1.heap.IsTuple a its.toArray from p) ?_
    refine ⟨s1.heap.objs.size, [s1.heap.objs.size], _, _, H1, rfl, I1.kept (t' := s1.toks) fun b o e => Heap.get?_push_of_some _ e, turn_tuple a _, ⟨_, Heap.get?_push_size _ rfl, rfl, rfl⟩, fun b hb => ?_, q⟩
    have e : b = s1.heap.objs.size := by simpa using hb
    subst e
    exact I1.fpOk (Nat.le_refl _) (I1.hok.fresh (Nat.le_refl _))
  · obtain ⟨t, rfl⟩ := r1
    cases ha : z.cps.all (· < 128)
    · exact wpAny_pyIter_wide ha (pi_one (tk := s1.toks) I1 _ (turn_str _ z t "str_iterator" (.inr rfl)) ⟨_, Heap.get?_push_size _ rfl, rfl, rfl⟩ q)
    · exact wpAny_pyIter_ascii ha (pi_one (tk := s1.toks) I1 _ (turn_str _ z t "str_ascii_iterator" (.inl rfl)) ⟨_, Heap.get?_push_size _ rfl, rfl, rfl⟩ q)
theorem sql_inj {K : PySem.W.Frag} {F H : Hp} (s : Same F H) {a : Addr} {xs ys : List V} (h1 : Rd F a (.lst xs)) (h2 : Rd H a (.lst ys)) : xs = ys := by
  rcases h1 with h1 | ⟨o, h1⟩
  · rcases h2 with h2 | ⟨o', h2⟩
    · have := s _ _ h1
      rw [h2] at this; cases this; rfl
    · have := s _ _ h1
      rw [h2] at this; cases this
  · rcases h2 with h2 | ⟨o', h2⟩
    · have := s _ _ h1
      rw [h2] at this; cases this
    · have := s _ _ h1
      rw [h2] at this; cases this; rfl
theorem it_lst {K : PySem.W.Frag} {F0 : Hp} {a : Addr} {vs : List V} {ds : List PyData} (hq : SqL K F0 a vs) (hd : DpAll K F0 vs ds) : ItD K F0 (Itl K a) (ds.map .d) (fun _ => True) where
  go := fun i M N H s hr _ hi => ⟨vs, vs[i]'(by rw [dpAll_len hd]; simpa using hi), Same.seq (s.trans fz_sub) hq, List.getElem?_eq_getElem _⟩
  stop := fun M N H s hr _ => ⟨vs, Same.seq (s.trans fz_sub) hq, by rw [dpAll_len hd]; simp⟩
  yld := fun i M N H v H' x s hr _ hx y => by
    obtain ⟨rfl, y⟩ := y
    have e := y vs (Same.seq (s.trans fz_sub) hq)
    obtain ⟨d, e1, e2⟩ := dpAll_get' hd e
    rw [List.getElem?_map, e1] at hx
    cases hx
    exact ⟨Same.refl _, dp_mono s _ _ e2⟩
theorem it_tup {K : PySem.W.Frag} {F0 : Hp} {a : Addr} {vs : List V} {ds : List PyData} (hq : SqT K F0 a vs) (hd : DpAll K F0 vs ds) : ItD K F0 (Itt K a) (ds.map .d) (fun _ => True) where
  go := fun i M N H s hr _ hi => ⟨vs, vs[i]'(by rw [dpAll_len hd]; simpa using hi), same_tup (s.trans fz_sub) hq, List.getElem?_eq_getElem _⟩
  stop := fun M N H s hr _ => ⟨vs, same_tup (s.trans fz_sub) hq, by rw [dpAll_len hd]; simp⟩
  yld := fun i M N H v H' x s hr _ hx y => by
    obtain ⟨rfl, y⟩ := y
    have e := y vs (same_tup (s.trans fz_sub) hq)
    obtain ⟨d, e1, e2⟩ := dpAll_get' hd e
    rw [List.getElem?_map, e1] at hx
    cases hx
    exact ⟨Same.refl _, dp_mono s _ _ e2⟩
theorem it_str {K : PySem.W.Frag} {F0 : Hp} {z : Str} : ItD K F0 (Its z) (z.cps.toList.map fun c => .d (.str ⟨#[c]⟩)) (fun _ => True) where
  go := fun i M N H s hr _ hi => by
    show i < z.cps.size
    simpa using hi
  stop := fun M N H s hr _ => by
    show z.cps.size ≤ _
    simp
  yld := fun i M N H v H' x s hr _ hx y => by
    obtain ⟨rfl, c, hc, rfl⟩ := y
    rw [List.getElem?_map, Array.getElem?_toList, hc] at hx
    cases hx
    exact ⟨Same.refl _, (show Dp _ _ _ _ from .str _)⟩
theorem it_ls {K : PySem.W.Frag} {F0 : Hp} {a : Addr} {ds : List PyData} : ItD K F0 (Itl K a) (ds.map .d) (fun M => M a = some (.ls ds)) where
  go := fun i M N H s hr hC hi => by
    obtain ⟨o, h1, h2⟩ := hr.obj a _ hC
    cases o with
    | lst ws => exact ⟨ws, ws[i]'(by rw [dpAll_len (show DpAll _ _ _ _ from h2)]; simpa using hi), .inl (.inl h1), List.getElem?_eq_getElem _⟩
    | _ => exact (show False from h2).elim
  stop := fun M N H s hr hC => by
    obtain ⟨o, h1, h2⟩ := hr.obj a _ hC
    cases o with
    | lst ws => exact ⟨ws, .inl (.inl h1), by rw [dpAll_len (show DpAll _ _ _ _ from h2)]; simp⟩
    | _ => exact (show False from h2).elim
  yld := fun i M N H v H' x s hr hC hx y => by
    obtain ⟨rfl, y⟩ := y
    obtain ⟨o, h1, h2⟩ := hr.obj a _ hC
    cases o with
    | lst ws =>
      have e := y ws (.inl (.inl h1))
      obtain ⟨d, e1, e2⟩ := dpAll_get' (show DpAll _ _ _ _ from h2) e
      rw [List.getElem?_map, e1] at hx
      cases hx
      exact ⟨Same.refl _, e2⟩
    | _ => exact (show False from h2).elim
theorem areD_get {K : PySem.W.Frag} {F : Hp} : ∀ {vs : List V} {ds : List DV} {i : Nat} {v : V}, AreD K F vs ds → vs[i]? = some v → ∃ d, ds[i]? = some d ∧ IsD K F v d
  | _, _, i, v, .nil, e => by simp at e
  | _, _, 0, v, .cons h1 h2, e => by simp at e; subst e; exact ⟨_, rfl, h1⟩
  | _, _, i + 1, v, .cons h1 h2, e => by
    obtain ⟨d, q1, q2⟩ := areD_get (i := i) h2 (by simpa using e)
    exact ⟨d, by simpa using q1, q2⟩
theorem it_lv {K : PySem.W.Frag} {F0 : Hp} {a : Addr} {ds : List DV} : ItD K F0 (Itl K a) ds (fun M => M a = some (.lv ds)) where
  go := fun i M N H s hr hC hi => by
    obtain ⟨o, h1, h2⟩ := hr.obj a _ hC
    cases o with
    | lst ws => exact ⟨ws, ws[i]'(by rw [paired_len (show AreD _ _ _ _ from h2)]; exact hi), .inl (.inl h1), List.getElem?_eq_getElem _⟩
    | _ => exact (show False from h2).elim
  stop := fun M N H s hr hC => by
    obtain ⟨o, h1, h2⟩ := hr.obj a _ hC
    cases o with
    | lst ws => exact ⟨ws, .inl (.inl h1), by rw [paired_len (show AreD _ _ _ _ from h2)]; exact Nat.le_refl _⟩
    | _ => exact (show False from h2).elim
  yld := fun i M N H v H' x s hr hC hx y => by
    obtain ⟨rfl, y⟩ := y
    obtain ⟨o, h1, h2⟩ := hr.obj a _ hC
    cases o with
    | lst ws =>
      have e := y ws (.inl (.inl h1))
      obtain ⟨d, e1, e2⟩ := areD_get (show AreD _ _ _ _ from h2) e
      rw [hx] at e1
      cases e1
      exact ⟨Same.refl _, e2⟩
    | _ => exact (show False from h2).elim
theorem di_seq (h : DE X W e te) : DI X W tg e (iSeq te) := ⟨PI.imp (pi_any h.pe) fun σ H R ⟨ρ, M, N, P, PX, hs, hr, ht, hP, hX⟩ => by
  refine ⟨ρ, M, N, _, PX, hs, hr, ht, fun x M1 v H1 p hr1 af1 iv => ?_, hX⟩
  split at p
  · rename_i a
    have iv' : v = .ref a := iv
    subst iv'
    split at p
    · rename_i ys q
      obtain ⟨o, h1, h2⟩ := hr1.obj a _ q
      cases o with
      | lst ws => exact .inl ⟨a, rfl, ⟨ws, .inl (.inl h1)⟩, hP _ _ M1 _ H1 p hr1 af1 it_ls⟩
      | _ => exact (show False from h2).elim
    · rename_i ys q
      obtain ⟨o, h1, h2⟩ := hr1.obj a _ q
      cases o with
      | lst ws => exact .inl ⟨a, rfl, ⟨ws, .inl (.inl h1)⟩, hP _ _ M1 _ H1 p hr1 af1 it_lv⟩
      | _ => exact (show False from h2).elim
    · exact p.elim
  · rename_i d
    unfold walkD at p
    split at p
    · cases (show Dp _ _ _ _ from iv) with
      | lst h1 h2 => exact .inl ⟨_, rfl, ⟨_, Same.seq fz_sub h1⟩, hP _ _ M1 _ H1 p hr1 af1 (it_lst h1 h2)⟩
    · cases (show Dp _ _ _ _ from iv) with
      | tup h1 h2 => exact .inr (.inl ⟨_, rfl, ⟨_, same_tup fz_sub h1⟩, hP _ _ M1 _ H1 p hr1 af1 (it_tup h1 h2)⟩)
    · cases (show Dp _ _ _ _ from iv)
      exact .inr (.inr ⟨_, rfl, hP _ _ M1 _ H1 p hr1 af1 it_str⟩)
    · exact p.elim⟩
/-- range(lo, lo + n) -/
def rangeD (lo : Int) (n : Nat) : List DV := (List.range n).map fun i => .d (.int (lo + (i : Nat)))
theorem rangeD_len {lo : Int} {n : Nat} : (rangeD lo n).length = n := by simp [rangeD]
theorem it_rng {K : PySem.W.Frag} {F0 : Hp} {lo : Int} {n : Nat} : ItD K F0 (Itr lo n) (rangeD lo n) (fun _ => True) where
  go := fun i M N H s hr _ hi => by
    show i < n
    rw [rangeD_len] at hi; exact hi
  stop := fun M N H s hr _ => by
    show n ≤ _
    rw [rangeD_len]
    exact Nat.le_refl _
  yld := fun i M N H v H' x s hr _ hx y => by
    obtain ⟨rfl, rfl⟩ := y
    unfold rangeD at hx
    rw [List.getElem?_map] at hx
    have : (List.range n)[i]? = some i ∨ (List.range n)[i]? = none := by
      by_cases h : i < n
      · exact .inl (List.getElem?_range h)
      · exact .inr (List.getElem?_eq_none (by simpa using h))
    rcases this with q | q
    · rw [q] at hx; cases hx
      exact ⟨Same.refl _, (show Dp _ _ _ _ from .int _)⟩
    · rw [q] at hx; cases hx
def iRange1 (ta : DTA) : DTI := fun ρ M P PX => ta ρ M (fun xs M1 => match xs with
  | [.d (.int j)] => -(2 ^ 62) ≤ j ∧ j < 2 ^ 62 ∧ P (rangeD 0 j.toNat) (fun _ => True) M1
  | _ => False) PX
def iRange2 (ta : DTA) : DTI := fun ρ M P PX => ta ρ M (fun xs M1 => match xs with
  | [.d (.int i), .d (.int j)] => (-(2 ^ 62) ≤ i ∧ i < 2 ^ 62 ∧ -(2 ^ 62) ≤ j ∧ j < 2 ^ 62) ∧ P (rangeD i (j - i).toNat) (fun _ => True) M1
  | _ => False) PX
theorem di_range1 {a : Expr} {p : Pos} (hm : X.mg "range" = none) (ha : DA X W [a] ta) (hg : Gl X "range" := by rfl) (hs : starEach [a] X.env = [(false, eval a X.env)] := by rfl) : DI X W tg (.Call (.Name "range" p) [a] [] pos) (iRange1 ta) :=
  ⟨PI.imp (pi_range1 hg hm ha.pa hs) fun σ H R ⟨ρ, M, N, P, PX, hs, hr, ht, hP, hX⟩ => by
    refine ⟨ρ, M, N, _, PX, hs, hr, ht, fun xs M1 vs H1 p hr1 af1 iv => ?_, hX⟩
    split at p
    · obtain ⟨v, rfl, i⟩ := are1 iv
      cases (show Dp _ _ _ _ from i)
      exact ⟨_, rfl, p.1, p.2.1, hP _ _ M1 _ H1 p.2.2 hr1 af1 it_rng⟩
    · exact p.elim⟩
theorem di_range2 {a b : Expr} {p : Pos} (hm : X.mg "range" = none) (ha : DA X W [a, b] ta) (hg : Gl X "range" := by rfl) (hs : starEach [a, b] X.env = [(false, eval a X.env), (false, eval b X.env)] := by rfl) (hs2 : starEach [b] X.env = [(false, eval b X.env)] := by rfl) : DI X W tg (.Call (.Name "range" p) [a, b] [] pos) (iRange2 ta) :=
  ⟨PI.imp (pi_range2 hg hm ha.pa hs hs2) fun σ H R ⟨ρ, M, N, P, PX, hs, hr, ht, hP, hX⟩ => by
    refine ⟨ρ, M, N, _, PX, hs, hr, ht, fun xs M1 vs H1 p hr1 af1 iv => ?_, hX⟩
    split at p
    · obtain ⟨v, u, rfl, i, j⟩ := are2 iv
      cases (show Dp _ _ _ _ from i)
      cases (show Dp _ _ _ _ from j)
      exact ⟨_, _, rfl, p.1, hP _ _ M1 _ H1 p.2 hr1 af1 it_rng⟩
    · exact p.elim⟩
end
end DL

/-! Part 6: errors, isinstance. -/
namespace DL
open PySem PySem.Spec PyProof.Rows L2

section
variable {X : Cx} {W : WX} {e : Expr} {te : DTE} {pos : Pos}
/-! ### raise X('..') -/
/-- an own error class without own __init__ -/
structure ErrC (K : PySem.W.Frag) (mg : Str → Option Value) (x : Str) (C : Addr) : Prop where
  ex : PySem.W.excIn K C [.type "ValueError", .type "Exception", .type "BaseException", .type "object"] "ValueError.__new__" = true
  mg : mg x = some (.ref C)
  kp : PySem.W.keepIn K (.ref C) = true
  sb : PySem.W.subIn K (.ref C) (.type "BaseException") = some true
  ty : PySem.W.typeIn K (.ref C) = some (.type "type")
def sRaise (cls : Value) : DTS := fun E ρ M => E.ex { cls := cls } ρ M
theorem ds_raise {x m : Str} {j : Nat} {p p2 p3 : Pos} {C : Addr} (T : ErrC X.K X.mg x C) (hc : X.calm = true) (tk : Takes X W) (hg : Gl X x := by rfl) (hdb : (x == ("__debug__" : Str)) = false := by decide) :
    DS X W (.Raise (some (.Call (.Name x p) [.Constant (.str m) j p2] [] p3)) none pos) (sRaise (.ref C)) :=
  ⟨PS.imp (ps_raise hc tk (pmk_own PySem.F.excBase_ValueError T.ex T.mg T.kp (raises_own T.sb T.ty) hg hdb)) fun D σ H ⟨ρ, M, N, E, hs, hr, ht, hE⟩ => hE.ex _ ρ M none σ H ht hs hr .refl rfl⟩

/-! ### try: body / except X as n: suite -/
/-- what stands for an exception in hand -/
def XOk (K : PySem.W.Frag) (F : Hp) (x : XD) (cls : Value) (d : Option Addr) : Prop := x.cls = cls ∧ ExD K F x d
/-- the readings of suites: by the exception's address and what it is -/
abbrev DSu := Addr → XD → DTS
/-- a suite's reading, where the exception is known -/
def LSu (K : PySem.W.Frag) (a : Addr) (cls : Value) (d : Option Addr) (ts : DSu) : TS := fun D σ H => ∃ x ρ M N E, x.cls = cls ∧ ExD K (fz M N H) x d ∧ H a = none ∧ SRel K (fz M N H) σ ρ ∧ HRel K M N H ∧ ts a x E ρ M ∧ EndsOk K W0 M N H E D
structure DSusp (X : Cx) (st : List Stmt) (ts : DSu) : Prop where
  run : ∀ (a : Addr) (oe : Obj) (cls : Value) (d : Option Addr) (pn : List (Addr × Obj)), Zc cls d oe → (∃ vs, oe.data = .fields vs) → PSs (X.suite a ((a, oe) :: pn)) st (LSu X.K a cls d ts)
/-- body; the class that the clause names (with what it takes); suite -/
def sTryAs (ml : List (Value × Bool)) (i : Nat) (tb : DTS) (ts : DSu) : DTS := fun E ρ M => tb { E with ex := fun x ρ1 M1 => ∃ b, (x.cls, b) ∈ ml ∧ (if b = true then ∀ a, M1 a = none →
    ts a x { nx := fun ρ2 M2 => E.nx (ρ2.set i none) M2, rt := E.rt, bk := fun ρ2 M2 => E.bk (ρ2.set i none) M2, ct := fun ρ2 M2 => E.ct (ρ2.set i none) M2 } (ρ1.set i (some (.r a))) M1 else E.ex x ρ1 M1) } ρ M
def sTry (ml : List (Value × Bool)) (tb : DTS) (ts : DSu) : DTS := fun E ρ M => tb { E with ex := fun x ρ1 M1 => ∃ b, (x.cls, b) ∈ ml ∧ (if b = true then ∀ a, M1 a = none →
    ts a x { nx := E.nx, rt := E.rt, bk := E.bk, ct := E.ct } ρ1 M1 else E.ex x ρ1 M1) } ρ M
theorem takes0' {X : Cx} : Takes X W0 := fun _ _ x => by
  obtain ⟨_, _, _, _, _, _, _, _, _, _, _, _, _, _, _, _, z⟩ := x
  exact z.elim
/-- the body's own wish about exceptions, where the clause stands -/
theorem ds_tryAs {x n : Str} {c : Value} {i : Nat} {body suite : List Stmt} {b₀ : Stmt} {np pos' : Pos} {tb : DTS} {ts : DSu} {ml : List (Value × Bool)} (hN : X.N.Nodup) (hc : Names X x c) (tk : Takes X W) (hml : ∀ p ∈ ml, PySem.W.exmOne X.K p.1 c = some p.2)
    (hb : ∀ (W' : WX) (pn : List (Addr × Obj)) (xe : Value → Shared → Prop), Takes (X.tr pn xe) W' → PassesOwn (model X.prog X.w) X.A X.env xe → DSs (X.tr pn xe) W' body tb)
    (hsu : DSusp X (b₀ :: suite) ts) (hs : X.stack = X.env :: X.outer := by rfl) (hf : X.env.frame = some X.env.locals := by rfl) (hi : X.N[i]? = some n := by rfl) (hln : X.env.kindOf n = some .local := by rfl) :
    DS X W (.Try body [.ExceptHandler (some (.Name x np)) (some n) (b₀ :: suite) pos'] [] [] pos) (sTryAs ml i tb ts) := by
  refine ⟨PS.imp (ps_try_as hs hf hN hi hln hc tk (tb := fun W' => LS X.K W' tb) (fun W' pn xe tk' hp => (hb W' pn xe tk' hp).ps) (fun a oe cls d pn hz hf' => hsu.run a oe cls d pn hz hf')) fun D σ H ⟨ρ, M, N, E, hs, hr, ht, hE⟩ => ?_⟩
  refine ⟨ρ, M, N, _, hs, hr, ht, ⟨hE.nx, hE.rt, hE.bk, hE.ct, fun x ρ' M' d σ' H' q s' r' f' ed => ?_⟩⟩
  obtain ⟨b, hb1, q⟩ := q
  refine ⟨b, hml _ hb1, fun e a ha => ?_, fun e => ?_⟩
  · subst e
    have q := q a (r'.free ha).1
    refine ⟨x, ρ'.set i (some (.r a)), M', N, _, rfl, ed, ha, s'.set (x := .r a) rfl i, r', q, ⟨fun ρ2 M2 σ2 H2 p s2 r2 a2 => ?_, fun y M2 v H2 p r2 a2 iv => hE.rt y M2 v H2 p r2 (f'.trans a2) iv, fun ρ2 M2 σ2 H2 p s2 r2 a2 => ?_, fun ρ2 M2 σ2 H2 p s2 r2 a2 => ?_, fun _ _ _ _ _ _ z => z.elim⟩⟩
    · exact hE.nx _ M2 _ H2 p (s2.setNone none i) r2 (f'.trans a2)
    · exact hE.bk _ M2 _ H2 p (s2.setNone none i) r2 (f'.trans a2)
    · exact hE.ct _ M2 _ H2 p (s2.setNone none i) r2 (f'.trans a2)
  · subst e
    exact hE.ex x ρ' M' d σ' H' q s' r' f' ed
theorem ds_try {x : Str} {c : Value} {body suite : List Stmt} {b₀ : Stmt} {np pos' : Pos} {tb : DTS} {ts : DSu} {ml : List (Value × Bool)} (hc : Names X x c) (tk : Takes X W) (hml : ∀ p ∈ ml, PySem.W.exmOne X.K p.1 c = some p.2)
    (hb : ∀ (W' : WX) (pn : List (Addr × Obj)) (xe : Value → Shared → Prop), Takes (X.tr pn xe) W' → PassesOwn (model X.prog X.w) X.A X.env xe → DSs (X.tr pn xe) W' body tb)
    (hsu : DSusp X (b₀ :: suite) ts) (hs : X.stack = X.env :: X.outer := by rfl) (hf : X.env.frame = some X.env.locals := by rfl) :
    DS X W (.Try body [.ExceptHandler (some (.Name x np)) none (b₀ :: suite) pos'] [] [] pos) (sTry ml tb ts) := by
  refine ⟨PS.imp (ps_try_only hs hf hc tk (tb := fun W' => LS X.K W' tb) (fun W' pn xe tk' hp => (hb W' pn xe tk' hp).ps) (fun a oe cls d pn hz hf' => hsu.run a oe cls d pn hz hf')) fun D σ H ⟨ρ, M, N, E, hs, hr, ht, hE⟩ => ?_⟩
  refine ⟨ρ, M, N, _, hs, hr, ht, ⟨hE.nx, hE.rt, hE.bk, hE.ct, fun x ρ' M' d σ' H' q s' r' f' ed => ?_⟩⟩
  obtain ⟨b, hb1, q⟩ := q
  refine ⟨b, hml _ hb1, fun e a ha => ?_, fun e => ?_⟩
  · subst e
    have q := q a (r'.free ha).1
    exact ⟨x, ρ', M', N, _, rfl, ed, ha, s', r', q, ⟨fun ρ2 M2 σ2 H2 p s2 r2 a2 => hE.nx ρ2 M2 σ2 H2 p s2 r2 (f'.trans a2), fun y M2 v H2 p r2 a2 iv => hE.rt y M2 v H2 p r2 (f'.trans a2) iv, fun ρ2 M2 σ2 H2 p s2 r2 a2 => hE.bk ρ2 M2 σ2 H2 p s2 r2 (f'.trans a2), fun ρ2 M2 σ2 H2 p s2 r2 a2 => hE.ct ρ2 M2 σ2 H2 p s2 r2 (f'.trans a2), fun _ _ _ _ _ _ z => z.elim⟩⟩
  · subst e
    exact hE.ex x ρ' M' d σ' H' q s' r' f' ed
/-- a suite that does not look at the exception -/
theorem dsu_plain {st : List Stmt} {t : DTS} (h : ∀ (a : Addr) (oe : Obj) (pn : List (Addr × Obj)), DSs (X.suite a ((a, oe) :: pn)) W0 st t) : DSusp X st (fun _ _ => t) :=
  ⟨fun a oe cls d pn hz hf => PSs.imp (h a oe pn).ps fun D σ H ⟨x, ρ, M, N, E, _, _, _, hs, hr, ht, hE⟩ => ⟨ρ, M, N, E, hs, hr, ht, hE⟩⟩

/-! ### expressions of a suite that look at the exception -/
/-- an expression within a suite: the exception at a is x -/
abbrev DSE := Addr → XD → DTE
def LSe (K : PySem.W.Frag) (a : Addr) (cls : Value) (d : Option Addr) (t : DSE) : TE := fun σ H Q => ∃ x ρ M N P PX, x.cls = cls ∧ ExD K (fz M N H) x d ∧ SRel K (fz M N H) σ ρ ∧ HRel K M N H ∧ t a x ρ M P PX ∧
  (∀ y M' v H', P y M' → HRel K M' N H' → Af M N H M' H' → IsD K (fz M' N H') v y → Q v H') ∧ XEnd K W0 σ M N H PX
structure DXE (X : Cx) (e : Expr) (t : DSE) : Prop where
  run : ∀ (a : Addr) (oe : Obj) (cls : Value) (d : Option Addr) (pn : List (Addr × Obj)), Zc cls d oe → (∃ vs, oe.data = .fields vs) → PE (X.suite a ((a, oe) :: pn)) e (LSe X.K a cls d t)
/-- isinstance(e, C), e the exception -/
def xIs (ml : List (Value × Bool)) (i : Nat) : DSE := fun a x ρ M P _ => ρ[i]? = some (some (.r a)) ∧ x.fs = none ∧ ∃ b, (x.cls, b) ∈ ml ∧ P (.d (.bool b)) M
theorem dx_is {n cn : Str} {i : Nat} {C : Addr} {ml : List (Value × Bool)} {p0 p1 p2 : Pos} (hm : X.mg "isinstance" = none) (hC : X.mg cn = some (.ref C)) (hml : ∀ p ∈ ml, ∃ D, p.1 = .ref D ∧ ExcC X.K D ∧ PySem.W.kitOne X.K (.ref D) (.ref C) = some p.2)
    (hN : X.N[i]? = some n := by rfl) (hv : Vis X.env.scope n := by first | exact Or.inl rfl | exact Or.inr (Or.inl rfl)) (hg : Gl X "isinstance" := by rfl) (hgc : Gl X cn := by rfl) (hd : (n == ("__debug__" : Str)) = false := by decide) (hcd : (n == ("__classdict__" : Str)) = false := by decide) (hdc : (cn == ("__debug__" : Str)) = false := by decide)
    (he : starEach [.Name n p1, .Name cn p2] X.env = (false, eval (.Name n p1) X.env) :: starEach [.Name cn p2] X.env := by rfl) (he2 : starEach [.Name cn p2] X.env = (false, eval (.Name cn p2) X.env) :: starEach [] X.env := by rfl) (hpl : (backTo pos (starEach [.Name cn p2] X.env)).any (·.1) = false := by rfl) :
    DXE X (.Call (.Name "isinstance" p0) [.Name n p1, .Name cn p2] [] pos) (xIs ml i) := by
  refine ⟨fun a oe cls d pn hz hf => ⟨fun pins s σ H Q I h => ?_⟩⟩
  obtain ⟨x, ρ, M, N, P, PX, hx, hed, hs, hr, ht, hP, hX⟩ := h
  obtain ⟨hi, hfs, b, hb, p⟩ := ht
  obtain ⟨D, eD, T, hk⟩ := hml _ hb
  have hd' : d = none := by
    unfold ExD at hed
    rw [hfs] at hed
    exact hed
  subst hd'
  have hcls : cls = .ref D := hx.symm.trans eD
  subst hcls
  obtain ⟨v, ev, iv⟩ := hs.2 i _ hi
  have iv' : v = .ref a := iv
  subst iv'
  have PAs : PA (X.suite a ((a, oe) :: pn)) [.Name n p1, .Name cn p2] (tCons (tVar i) (tCons (tC (.ref C)) tNil)) :=
    pa_cons (pe_var (X := X.suite a ((a, oe) :: pn)) hN hv hd hcd) (pa_cons (pe_glob (X := X.suite a ((a, oe) :: pn)) (v := .ref C) hgc hC rfl hdc) pa_nil he2) he
  refine (pe_callB (call_isE T hz hf) hg hm (by decide +kernel) PAs (by decide) (by decide) he hpl).run pins s σ H Q I ?_
  refine ⟨.ref a, ev, ?_⟩
  refine ⟨.ref C, .ref C, b, rfl, fun u ru => ru, hk, ?_⟩
  exact hP _ M _ H p hr .refl (show Dp _ _ _ _ from .bl _)
/-- other expressions of a suite -/
theorem dx_plain {e : Expr} {t : DTE} (h : ∀ (a : Addr) (oe : Obj) (pn : List (Addr × Obj)), DE (X.suite a ((a, oe) :: pn)) W0 e t) : DXE X e (fun _ _ => t) :=
  ⟨fun a oe cls d pn hz hf => PE.imp (h a oe pn).pe fun σ H Q ⟨x, ρ, M, N, P, PX, _, _, hs, hr, ht, hP, hX⟩ => ⟨ρ, M, N, P, PX, hs, hr, ht, hP, hX⟩⟩
/-- a suite: return e -/
def xRet (t : DSE) : DSu := fun a x E ρ M => t a x ρ M E.rt (fun _ _ => False)
theorem dsu_ret {e : Expr} {t : DSE} {pos : Pos} (h : DXE X e t) : DSusp X [.Return (some e) pos] (xRet t) :=
  ⟨fun a oe cls d pn hz hf => PSs.imp (pss_one (ps_ret (h.run a oe cls d pn hz hf))) fun D σ H ⟨x, ρ, M, N, E, hx, hed, _, hs, hr, ht, hE⟩ =>
    ⟨x, ρ, M, N, E.rt, fun _ _ => False, hx, hed, hs, hr, ht, hE.rt, fun _ _ _ _ z => z.elim⟩⟩

/-! ### isinstance of data -/
def tyOf : PyData → String
  | .none => "NoneType"
  | .bool _ => "bool"
  | .int _ => "int"
  | .str _ => "str"
  | .list _ => "list"
  | .tuple _ => "tuple"
  | .dict _ => "dict"
theorem tyx_of {K : PySem.W.Frag} {H : Hp} {v : V} {x : PyData} (h : Dp K H v x) : TyX K H v (.type (tyOf x)) := by
  cases h with
  | non => exact .base .non
  | bl b => exact .base (.bl b)
  | int i => exact .base (.int i)
  | str z => exact .base (.str z)
  | lst h1 h2 =>
    rcases h1 with (h | ⟨o, h⟩) | ⟨o, its, n, hk, hc, _⟩
    · exact .base (.lst h)
    · exact .base (.frz h)
    · exact .kList hk hc
  | tup h1 h2 =>
    rcases h1 with (h | ⟨o, h⟩) | ⟨o, its, n, hk, hc, _⟩
    · exact .base (.tup h)
    · exact .fTuple h
    · exact .kTuple hk hc
/-- isinstance(e, T), T a built-in type by its name -/
def isB (T : String) (x : PyData) : Bool := (kitB (tyOf x) T).getD false
def eIsi (T : String) (te : DTE) : DTE := fun ρ M P PX => te ρ M (fun x M1 => match x with
  | .d d => kitB (tyOf d) T = some (isB T d) ∧ P (.d (.bool (isB T d))) M1
  | _ => False) PX
theorem de_isi {T : String} {cn : Str} {p0 p2 : Pos} (h : DE X W e te) (hm : X.mg "isinstance" = none) (hc : X.mg cn = none) (hv : bootBuiltins cn = some (.type T)) (hg : Gl X "isinstance" := by rfl) (hgc : Gl X cn := by rfl) (hn : cn ≠ "__name__" := by decide) (hdc : (cn == ("__debug__" : Str)) = false := by decide)
    (he : starEach [e, .Name cn p2] X.env = (false, eval e X.env) :: starEach [.Name cn p2] X.env := by rfl) (he2 : starEach [.Name cn p2] X.env = (false, eval (.Name cn p2) X.env) :: starEach [] X.env := by rfl) (hpl : (backTo pos (starEach [.Name cn p2] X.env)).any (·.1) = false := by rfl) :
    DE X W (.Call (.Name "isinstance" p0) [e, .Name cn p2] [] pos) (eIsi T te) := by
  have PAs : PA X [e, .Name cn p2] (tCons (LE X.K W te) (tCons (tC (.ty T)) tNil)) := pa_cons h.pe (pa_cons (pe_bltn (v := .ty T) hgc hc hv rfl hn hdc) pa_nil he2) he
  refine ⟨PE.imp (pe_callB call_isi hg hm (by decide +kernel) PAs (by decide) (by decide) he hpl) fun σ H Q ⟨ρ, M, N, P, PX, hs, hr, ht, hP, hX⟩ => ?_⟩
  refine ⟨ρ, M, N, _, PX, hs, hr, ht, fun x M1 v H1 p hr1 af1 iv => ?_, hX⟩
  split at p
  · rename_i d
    refine ⟨v, .ty T, .type (tyOf d), .type T, isB T d, rfl, .ty T, tyx_of (dp_mono fz_sub _ _ iv), kit_ty p.1, ?_⟩
    exact hP _ M1 _ H1 p.2 hr1 af1 (show Dp _ _ _ _ from .bl _)
  · exact p.elim

/-! ### math.gcd -/
def gcdG : DN := g2I fun a b => .int ((Nat.gcd a.natAbs b.natAbs : Nat) : Int)
theorem dc_gcd : DCall X (.builtin "math.gcd") gcdG := by
  intro pins s σ H vs us Q I r h
  obtain ⟨xs, M, N, P, hr, ha, hg, fo⟩ := h
  unfold gcdG g2I at hg
  split at hg
  · obtain ⟨v, u, rfl, i1, i2⟩ := are2 ha
    cases (show Dp _ _ _ _ from i1)
    cases (show Dp _ _ _ _ from i2)
    exact cr_gcd pins s σ H _ us Q I r ⟨_, _, rfl, fo.same hr hg (show Dp _ _ _ _ from .int _)⟩
  · exact hg.elim
theorem de_callBf {g : DN} {x : Str} {p : Pos} {es : List Expr} {ta : DTA} {id : String} (hc : DCall X (.builtin id) g) (hm : X.mg x = some (.builtin id)) (ha : DA X W (e :: es) ta) (hg : Gl X x := by rfl) (hdb : (x == ("__debug__" : Str)) = false := by decide)
    (he : starEach (e :: es) X.env = (false, eval e X.env) :: starEach es X.env := by rfl) (hpl : (backTo pos (starEach es X.env)).any (·.1) = false := by rfl) : DE X W (.Call (.Name x p) (e :: es) [] pos) (eCB g ta) :=
  ⟨PE.imp (pe_callBfun hc hg hm ha.pa hdb he hpl) fun _ _ _ h => cb_imp h⟩
end
end DL

/-! Part 7: what the printed derivations name besides. -/
namespace DL
open PySem PySem.Spec PyProof.Rows L2

section
variable {X : Cx} {W : WX} {a b c e : Expr} {es : List Expr} {ta tb tc te : DTE} {pos : Pos}
theorem room5 {A : Around} {k : Nat} (hr : Room k A) : A.units + 65 < cLine := by have := hr.un; omega
/-! ### products -/
def repL {α : Type} (k : Int) (xs : List α) : List α := (List.replicate k.toNat xs).flatten
theorem dop_mul : DOp X (binaryOp .Mult) (gD mulD) := dop_int op_mulA (h' := fun i j => .int (i * j)) (fun dx dy k h => by
  cases dx <;> first | (cases dy <;> first | exact ⟨_, _, rfl, rfl, h.1, h.2⟩ | exact h.elim) | exact h.elim) fun _ _ _ => .int _
theorem dpAll_rep {K : PySem.W.Frag} {F : Hp} {vs : List V} {ds : List PyData} (h : DpAll K F vs ds) : ∀ n : Nat, DpAll K F (List.replicate n vs).flatten (List.replicate n ds).flatten
  | 0 => .nil
  | n + 1 => by
    rw [List.replicate_succ, List.replicate_succ, List.flatten_cons, List.flatten_cons]
    exact dpAll_app h (dpAll_rep h n)
/-- [..] * n of a display that is mutable, n an int: a new mutable list -/
def gMulM : D2 := fun x y M P => match x, y with
  | .r a, .d (.int k) => match M a with
    | some (.ls ys) => (-(2 ^ 63) ≤ k ∧ k < 2 ^ 63 ∧ ys.length * k.toNat ≤ sizeLine) ∧ ∀ p, M p = none → P (.r p) (mu M p (.ls (repL k ys)))
    | _ => False
  | _, _ => False
theorem dop_mulM : DOp X (binaryOp .Mult) gMulM := by
  intro pins s σ H x y v u Q I rx ry h
  obtain ⟨dx, dy, M, N, P, hr, ix, iy, hg, fo⟩ := h
  unfold gMulM at hg
  split at hg
  · rename_i a k
    have ix' : x = .ref a := ix
    subst ix'
    cases (show Dp _ _ _ _ from iy)
    split at hg
    · rename_i ys q
      obtain ⟨o, h1, h2⟩ := hr.obj a _ q
      cases o with
      | lst ws =>
        have hz := dpAll_len (show DpAll _ _ _ _ from h2)
        refine op_rep pins s σ H _ _ v u Q I rx ry ⟨a, k, ws, rfl, rfl, h1, hg.1.1, hg.1.2.1, by rw [hz]; exact hg.1.2.2, fun p hp => ?_⟩
        obtain ⟨r2, a2⟩ := hr.new (x := .ls (repL k ys)) (o := .lst (List.replicate k.toNat ws).flatten) hp (dpAll_rep h2 _)
        exact fo _ _ _ _ (hg.2 p (hr.free hp).1) r2 a2 rfl
      | _ => exact (show False from h2).elim
    · exact hg.elim
  · exact hg.elim

/-! ### in, not in -/
theorem dop_mem (hu : X.A.units + 65 < cLine) {neg : Bool} {op : CmpOp} (hop : op = if neg = true then .NotIn else .In)
    (hd : ∀ (pins : List (Addr × Obj)) (s : Shared) (σ : L2.St) (H : Hp) (x : V) (a : Addr) (v : Value) (Q : VK) (kvs : List (Key × V)) (k : Key), Inv X pins σ H s → RelV x v → x = kV k → H a = some (.dK kvs) →
      Q (.bl (negB neg (kvs.any fun p => decide (p.1 = k)))) H → wpAny (model X.prog X.w) X.A (compareOp op v (.ref a)) (EP X pins σ Q) X.xe s) : DOp X (compareOp op) (inD neg) := by
  intro pins s σ H x y v u Q I rx ry h
  obtain ⟨dx, dy, M, N, P, hr, ix, iy, hg, fo⟩ := h
  unfold inD at hg
  split at hg
  · rename_i a
    have iy' : y = .ref a := iy
    subst iy'
    cases ry
    split at hg
    · rename_i kvs q
      obtain ⟨o, h1, h2⟩ := hr.obj a _ q
      cases o with
      | dK ws =>
        split at hg
        · rename_i k hk
          have hx : x = kV k := by
            cases dx with
            | r _ => cases hk
            | d z =>
              cases z with
              | int i => cases hk; cases (show Dp _ _ _ _ from ix); rfl
              | str i => cases hk; cases (show Dp _ _ _ _ from ix); rfl
              | _ => cases hk
          refine hd pins s σ H x a v Q ws k I rx hx h1 ?_
          have e : (ws.any fun p => decide (p.1 = k)) = hasK kvs k := by
            have : ∀ {ws : List (Key × V)} {kvs : List (Key × DV)}, Paired (fun (p : Key × V) (q : Key × DV) => p.1 = q.1 ∧ IsD X.K (fz M N H) p.2 q.2) ws kvs → (ws.any fun p => decide (p.1 = k)) = kvs.any fun p => decide (p.1 = k) := by
              intro ws kvs h
              induction h with
              | nil => rfl
              | cons h1 h2 ih => rw [List.any_cons, List.any_cons, ih, h1.1]
            exact this h2
          rw [e]
          exact fo.same hr hg (show Dp _ _ _ _ from .bl _)
        · exact hg.elim
      | _ => exact (show False from h2).elim
    · rename_i ys q
      obtain ⟨px, r1, h1⟩ := rd_of hr ix hg
      obtain ⟨o, h2, h3⟩ := hr.obj a _ q
      cases o with
      | lst ws => exact mem_run hu hop I rx (show RelV (V.ref a) (Value.ref a) from rfl) hr r1 (.inr ⟨a, ys, ws, rfl, rfl, h2, h3⟩) h1 fo
      | _ => exact (show False from h3).elim
    · exact hg.elim
  · obtain ⟨px, r1, h1⟩ := rd_of hr ix hg
    exact mem_run hu hop I rx ry hr r1 (.inl iy) h1 fo
end
theorem find_any {κ α : Type} [DecidableEq κ] : ∀ (kvs : List (κ × α)) (k : κ), (kvs.find? fun p => decide (p.1 = k)).isSome = kvs.any fun p => decide (p.1 = k)
  | [], _ => rfl
  | p :: r, k => by
    rw [List.find?_cons, List.any_cons, ← find_any r k]
    cases decide (p.1 = k) <;> rfl
theorem valV_any {kvs : List (Key × V)} {k : Key} : (valV kvs k).isSome = kvs.any fun p => decide (p.1 = k) := by
  unfold valV
  rw [Option.isSome_map]
  exact find_any kvs k
section
variable {X : Cx}
theorem dop_in (hu : X.A.units + 65 < cLine) : DOp X (compareOp .In) (inD false) := dop_mem hu (neg := false) rfl fun pins s σ H x a v Q kvs k I rx hx e q => by
  subst hx
  exact d_in (by omega) I (DGet.k e) rx fun s' I' => ⟨.bl _, H, I', rfl, by rw [valV_any]; exact q⟩
theorem dop_notin (hu : X.A.units + 65 < cLine) : DOp X (compareOp .NotIn) (inD true) := dop_mem hu (neg := true) rfl fun pins s σ H x a v Q kvs k I rx hx e q => by
  subst hx
  exact d_notIn (by omega) I (DGet.k e) rx fun s' I' => ⟨.bl _, H, I', rfl, by rw [valV_any]; exact q⟩
end
section
variable {X : Cx} {W : WX} {a b c e : Expr} {es : List Expr} {ta tb tc te : DTE} {pos : Pos}
/-! ### truth -/
def truD (M : MHp) : DV → (Bool → Prop) → Prop
  | .d .none, k => k false
  | .d (.bool b), k => k b
  | .d (.int i), k => k (i != 0)
  | .d (.str s), k => s.length ≤ sizeLine ∧ k ((s.length : Int) != 0)
  | .d (.list xs), k => k (!xs.isEmpty)
  | .d (.tuple xs), k => k (!xs.isEmpty)
  | .r a, k => match M a with
    | some (.ls ys) => k (!ys.isEmpty)
    | some (.lv ys) => k (!ys.isEmpty)
    | some (.dk kvs) => k (!kvs.isEmpty)
    | _ => False
  | _, _ => False
theorem empty_all {K : PySem.W.Frag} {F : Hp} {vs : List V} {ds : List PyData} (h : DpAll K F vs ds) : (!vs.isEmpty) = !ds.isEmpty := by
  cases ds with
  | nil => cases h; rfl
  | cons d ds => cases h; rfl
theorem empty_pair {α β : Type} {R : α → β → Prop} {vs : List α} {ds : List β} (h : Paired R vs ds) : (!vs.isEmpty) = !ds.isEmpty := by
  cases h <;> rfl
theorem tru_of {K : PySem.W.Frag} {M : MHp} {N : Hid} {H : Hp} {v : V} {x : DV} {k : Bool → Prop} (hr : HRel K M N H) (i : IsD K (fz M N H) v x) (h : truD M x k) : ∃ b, TruV K v H b ∧ k b := by
  cases x with
  | d x =>
    cases x with
    | none => cases (show Dp _ _ _ _ from i); exact ⟨false, rfl, h⟩
    | bool b => cases (show Dp _ _ _ _ from i); exact ⟨b, rfl, h⟩
    | int z => cases (show Dp _ _ _ _ from i); exact ⟨_, rfl, h⟩
    | str z => cases (show Dp _ _ _ _ from i); exact ⟨_, ⟨h.1, rfl⟩, h.2⟩
    | list xs =>
      cases (show Dp _ _ _ _ from i) with
      | lst h1 h2 => exact ⟨_, .inl ⟨_, Same.seq fz_sub h1, rfl⟩, by rw [empty_all h2]; exact h⟩
    | tuple xs =>
      cases (show Dp _ _ _ _ from i) with
      | tup h1 h2 => exact ⟨_, .inr (.inl ⟨_, same_tup fz_sub h1, rfl⟩), by rw [empty_all h2]; exact h⟩
    | dict _ => exact (show False from h).elim
  | r a =>
    have i' : v = .ref a := i
    subst i'
    have h' : (match M a with | some (.ls ys) => k (!ys.isEmpty) | some (.lv ys) => k (!ys.isEmpty) | some (.dk kvs) => k (!kvs.isEmpty) | _ => False) := h
    cases q : M a with
    | none => rw [q] at h'; exact (show False from h').elim
    | some o =>
      rw [q] at h'
      obtain ⟨o2, h1, h2⟩ := hr.obj a _ q
      cases o with
      | ls ys =>
        cases o2 with
        | lst ws => exact ⟨_, .inl ⟨ws, .inl (.inl h1), rfl⟩, by rw [empty_all (show DpAll _ _ _ _ from h2)]; exact h'⟩
        | _ => exact (show False from h2).elim
      | lv ys =>
        cases o2 with
        | lst ws => exact ⟨_, .inl ⟨ws, .inl (.inl h1), rfl⟩, by rw [empty_pair (show AreD _ _ _ _ from h2)]; exact h'⟩
        | _ => exact (show False from h2).elim
      | dk ys =>
        cases o2 with
        | dK ws => exact ⟨_, .inr (.inr ⟨ws, h1, rfl⟩), by rw [empty_pair (show Paired _ _ _ from h2)]; exact h'⟩
        | _ => exact (show False from h2).elim
      | _ => exact (show False from h').elim
def tTru (te : DTE) : DTT := fun ρ M P PX => te ρ M (fun x M1 => truD M1 x fun b => P b M1) PX
theorem dt_tru (h : DE X W e te) (he : ∀ whole, isTrue e X.env whole = (do let v ← whole; standAt e.pos; holding [v] (truthy v))) : DT X W e (tTru te) := ⟨PT.imp (pt_truth h.pe he) fun σ H Q ⟨ρ, M, N, P, PX, hs, hr, ht, hP, hX⟩ =>
  ⟨ρ, M, N, _, PX, hs, hr, ht, fun x M1 v H1 p hr1 af1 iv => let ⟨b, h1, h2⟩ := tru_of hr1 iv p; ⟨b, h1, hP b M1 H1 h2 hr1 af1⟩, hX⟩⟩
/-- not t, as a value -/
def eNotT (t : DTT) : DTE := fun ρ M P PX => t ρ M (fun b M1 => P (.d (.bool !b)) M1) PX

theorem de_notT (h : DE X W a ta) : DE X W (.UnaryOp .Not a pos) (eNotT (tTru ta)) := ⟨PE.imp (L2.pe_notT h.pe) fun σ H Q ⟨ρ, M, N, P, PX, hs, hr, ht, hP, hX⟩ =>
  ⟨ρ, M, N, _, PX, hs, hr, ht, fun x M1 v H1 p hr1 af1 iv => let ⟨b, h1, h2⟩ := tru_of hr1 iv p; ⟨b, h1, hP _ M1 _ H1 h2 hr1 af1 (show Dp _ _ _ _ from .bl _)⟩, hX⟩⟩
abbrev max2G : DN := g2I fun i j => .int (if j > i then j else i)
abbrev min2G : DN := g2I fun i j => .int (if j < i then j else i)

theorem de_globD {x : Str} {o : Addr} {y : PyData} (hg : Gl X x) (hm : X.mg x = some (.ref o)) (hd : ∀ F : Hp, Dp X.K F (.ref o) y) (hdb : (x == ("__debug__" : Str)) = false := by decide) : DE X W (.Name x pos) (eC y) := de_glob (v := .ref o) hg hm rfl hd hdb
/-! ### defs by their names -/
/-- a def as it stands, callable by its name -/
def Cal (P : Program) (w : World) (K : PySem.W.Frag) (mg : Str → Option Value) (base : Heap) (k : Nat) (x : Str) (ps : List Str) (sp : DSp) : Prop :=
  ∃ f fd, DFn P w K mg base k f fd ps sp ∧ PySem.W.keepIn K (.ref f) = true ∧ Binds K fd ps [] ∧ mg x = some (.ref f)
theorem de_calC {k : Nat} {x : Str} {ps : List Str} {sp : DSp} {ta : DTA} {p : Pos} (c : Cal X.prog X.w X.K X.mg X.base k x ps sp) (hr : Room k X.A) (tk : Takes X W) (ha : DA X W (e :: es) ta) (hg : Gl X x := by rfl)
    (hdb : (x == ("__debug__" : Str)) = false := by decide) (he : starEach (e :: es) X.env = (false, eval e X.env) :: starEach es X.env := by rfl) (hpl : (backTo pos (starEach es X.env)).any (·.1) = false := by rfl) :
    DE X W (.Call (.Name x p) (e :: es) [] pos) (eCall sp ta) := by
  obtain ⟨f, fd, F, hk, hb, hm⟩ := c
  exact de_call F hr tk hg hm hk hb ha hdb he hpl
end

/-! ### the law's end -/
theorem law_start {K : PySem.W.Frag} {H : Hp} {a : Addr} {ns : List Int} {sp : DSp} (hS : SqL K H a (ns.map V.int)) (h : ∀ (P : DK) (PX : DX), (∀ M, P (.d (.bool true)) M) → sp [.d (.list (ns.map .int))] (fun _ => none) P PX) :
    liftSp K sp [.ref a] H (fun v _ => v = .bl true) fun _ _ _ => False := by
  have ef : fz (fun _ => none) (fun _ => false) H = H := by
    funext b
    unfold fz
    rw [if_neg Bool.false_ne_true]
  have hr0 : HRel K (fun _ => none) (fun _ => false) H := ⟨fun a o z => (by cases z), fun a z => (by cases z)⟩
  refine ⟨[.d (.list (ns.map .int))], fun _ => none, fun _ => false, fun x _ => x = .d (.bool true), fun _ _ => False, .cons ?_ .nil, hr0, h _ _ fun _ => rfl, ?_, fun _ _ _ _ z => z.elim⟩
  · rw [ef]
    have : ∀ ns : List Int, DpAll K H (ns.map V.int) (ns.map PyData.int) := fun ns => by
      induction ns with
      | nil => exact .nil
      | cons n r ih => exact .cons (.int n) ih
    exact .lst hS (this ns)
  · rintro z M' v H' rfl _ _ i
    cases (show Dp _ _ _ _ from i)
    rfl
theorem cx_false {P : Program} {w : World} {H : Hp} {s : Shared} {e : Value} {s' : Shared} (h : L2.CX P w [] H s (fun _ _ _ => False) e s') : False := by
  obtain ⟨_, _, _, _, _, _, _, _, _, _, _, _, z⟩ := h
  exact z
/-- a tuple of the written part, by its object -/
theorem dp_k {K : PySem.W.Frag} {F : Hp} {v : V} {x : PyData} (h : Dp K (fun _ => none) v x) : Dp K F v x := dp_mono (fun _ _ z => by cases z) _ _ h
end DL

/-! Part 8: rules by which a reading is walked. -/
namespace DL
open PySem PySem.Spec PyProof.Rows L2

/-- a choice that waits -/
def Br (k : Bool) (a b : Prop) : Prop := if k = true then a else b
section
variable {a b : Prop} {k : Bool}
theorem x_brT (h : a) : Br true a b := h
theorem x_brF (h : b) : Br false a b := h
theorem x_brN (h : Br k b a) : Br (!k) a b := by cases k <;> exact h
theorem x_br (h1 : k = true → a) (h2 : k = false → b) : Br k a b := by cases k; exact h2 rfl; exact h1 rfl
theorem x_brD {p : Prop} [d : Decidable p] (h1 : p → a) (h2 : ¬ p → b) : Br (decide p) a b := x_br (fun e => h1 (of_decide_eq_true e)) fun e => h2 (of_decide_eq_false e)
theorem x_brY {p : Prop} [d : Decidable p] (h : p) (h1 : a) : Br (decide p) a b := x_brD (fun _ => h1) fun n => absurd h n
theorem x_brZ {p : Prop} [d : Decidable p] (h : ¬ p) (h1 : b) : Br (decide p) a b := x_brD (fun n => absurd n h) fun _ => h1
theorem x_brAnd {j : Bool} (h : Br k (Br j a b) b) : Br (k && j) a b := by cases k <;> exact h
theorem x_brOr {j : Bool} (h : Br k a (Br j a b)) : Br (k || j) a b := by cases k <;> exact h
end
/-- isinstance of data -/
def asIs (T : String) (x : PyData) (K : Bool → Prop) : Prop := kitB (tyOf x) T = some (isB T x) ∧ K (isB T x)
theorem asIs_of {T : String} {x : PyData} {K : Bool → Prop} {b : Bool} (h : kitB (tyOf x) T = some b) (q : K b) : asIs T x K := by
  have e : isB T x = b := by unfold isB; rw [h]; rfl
  unfold asIs
  rw [e]
  exact ⟨h, q⟩
theorem x_is_int_int {v : Int} {K : Bool → Prop} (q : K true) : asIs "int" (.int v) K := asIs_of (show kitB "int" "int" = some true by decide +kernel) q
theorem x_is_int_bool {v : Int} {K : Bool → Prop} (q : K false) : asIs "bool" (.int v) K := asIs_of (show kitB "int" "bool" = some false by decide +kernel) q
theorem x_is_int_str {v : Int} {K : Bool → Prop} (q : K false) : asIs "str" (.int v) K := asIs_of (show kitB "int" "str" = some false by decide +kernel) q
theorem x_is_int_list {v : Int} {K : Bool → Prop} (q : K false) : asIs "list" (.int v) K := asIs_of (show kitB "int" "list" = some false by decide +kernel) q
theorem x_is_int_tuple {v : Int} {K : Bool → Prop} (q : K false) : asIs "tuple" (.int v) K := asIs_of (show kitB "int" "tuple" = some false by decide +kernel) q
theorem x_is_bool_int {v : Bool} {K : Bool → Prop} (q : K true) : asIs "int" (.bool v) K := asIs_of (show kitB "bool" "int" = some true by decide +kernel) q
theorem x_is_bool_bool {v : Bool} {K : Bool → Prop} (q : K true) : asIs "bool" (.bool v) K := asIs_of (show kitB "bool" "bool" = some true by decide +kernel) q
theorem x_is_bool_str {v : Bool} {K : Bool → Prop} (q : K false) : asIs "str" (.bool v) K := asIs_of (show kitB "bool" "str" = some false by decide +kernel) q
theorem x_is_bool_list {v : Bool} {K : Bool → Prop} (q : K false) : asIs "list" (.bool v) K := asIs_of (show kitB "bool" "list" = some false by decide +kernel) q
theorem x_is_bool_tuple {v : Bool} {K : Bool → Prop} (q : K false) : asIs "tuple" (.bool v) K := asIs_of (show kitB "bool" "tuple" = some false by decide +kernel) q
theorem x_is_str_int {v : Str} {K : Bool → Prop} (q : K false) : asIs "int" (.str v) K := asIs_of (show kitB "str" "int" = some false by decide +kernel) q
theorem x_is_str_bool {v : Str} {K : Bool → Prop} (q : K false) : asIs "bool" (.str v) K := asIs_of (show kitB "str" "bool" = some false by decide +kernel) q
theorem x_is_str_str {v : Str} {K : Bool → Prop} (q : K true) : asIs "str" (.str v) K := asIs_of (show kitB "str" "str" = some true by decide +kernel) q
theorem x_is_str_list {v : Str} {K : Bool → Prop} (q : K false) : asIs "list" (.str v) K := asIs_of (show kitB "str" "list" = some false by decide +kernel) q
theorem x_is_str_tuple {v : Str} {K : Bool → Prop} (q : K false) : asIs "tuple" (.str v) K := asIs_of (show kitB "str" "tuple" = some false by decide +kernel) q
theorem x_is_list_int {v : List PyData} {K : Bool → Prop} (q : K false) : asIs "int" (.list v) K := asIs_of (show kitB "list" "int" = some false by decide +kernel) q
theorem x_is_list_bool {v : List PyData} {K : Bool → Prop} (q : K false) : asIs "bool" (.list v) K := asIs_of (show kitB "list" "bool" = some false by decide +kernel) q
theorem x_is_list_str {v : List PyData} {K : Bool → Prop} (q : K false) : asIs "str" (.list v) K := asIs_of (show kitB "list" "str" = some false by decide +kernel) q
theorem x_is_list_list {v : List PyData} {K : Bool → Prop} (q : K true) : asIs "list" (.list v) K := asIs_of (show kitB "list" "list" = some true by decide +kernel) q
theorem x_is_list_tuple {v : List PyData} {K : Bool → Prop} (q : K false) : asIs "tuple" (.list v) K := asIs_of (show kitB "list" "tuple" = some false by decide +kernel) q
theorem x_is_tuple_int {v : List PyData} {K : Bool → Prop} (q : K false) : asIs "int" (.tuple v) K := asIs_of (show kitB "tuple" "int" = some false by decide +kernel) q
theorem x_is_tuple_bool {v : List PyData} {K : Bool → Prop} (q : K false) : asIs "bool" (.tuple v) K := asIs_of (show kitB "tuple" "bool" = some false by decide +kernel) q
theorem x_is_tuple_str {v : List PyData} {K : Bool → Prop} (q : K false) : asIs "str" (.tuple v) K := asIs_of (show kitB "tuple" "str" = some false by decide +kernel) q
theorem x_is_tuple_list {v : List PyData} {K : Bool → Prop} (q : K false) : asIs "list" (.tuple v) K := asIs_of (show kitB "tuple" "list" = some false by decide +kernel) q
theorem x_is_tuple_tuple {v : List PyData} {K : Bool → Prop} (q : K true) : asIs "tuple" (.tuple v) K := asIs_of (show kitB "tuple" "tuple" = some true by decide +kernel) q
theorem x_is_NoneType_int  {K : Bool → Prop} (q : K false) : asIs "int" .none K := asIs_of (show kitB "NoneType" "int" = some false by decide +kernel) q
theorem x_is_NoneType_bool  {K : Bool → Prop} (q : K false) : asIs "bool" .none K := asIs_of (show kitB "NoneType" "bool" = some false by decide +kernel) q
theorem x_is_NoneType_str  {K : Bool → Prop} (q : K false) : asIs "str" .none K := asIs_of (show kitB "NoneType" "str" = some false by decide +kernel) q
theorem x_is_NoneType_list  {K : Bool → Prop} (q : K false) : asIs "list" .none K := asIs_of (show kitB "NoneType" "list" = some false by decide +kernel) q
theorem x_is_NoneType_tuple  {K : Bool → Prop} (q : K false) : asIs "tuple" .none K := asIs_of (show kitB "NoneType" "tuple" = some false by decide +kernel) q
/-- readings by shape -/
def asB (x : DV) (K : Bool → Prop) : Prop := match x with | .d (.bool k) => K k | _ => False
def asI (x : DV) (K : Int → Prop) : Prop := match x with | .d (.int k) => K k | _ => False
def asD (x : DV) (K : PyData → Prop) : Prop := match x with | .d k => K k | _ => False
def as2 (xs : List DV) (K : DV → DV → Prop) : Prop := match xs with | [x, y] => K x y | _ => False
def asI1 (xs : List DV) (K : Int → Prop) : Prop := match xs with | [.d (.int j)] => K j | _ => False
def asI2 (xs : List DV) (K : Int → Int → Prop) : Prop := match xs with | [.d (.int i), .d (.int j)] => K i j | _ => False
def asSq (x : DV) (M1 : MHp) (K : List DV → (MHp → Prop) → MHp → Prop) : Prop := match x with
  | .r a => match M1 a with
    | some (.ls ys) => K (ys.map .d) (fun M' => M' a = some (.ls ys)) M1
    | some (.lv ys) => K ys (fun M' => M' a = some (.lv ys)) M1
    | _ => False
  | .d d => walkD d fun xs => K xs (fun _ => True) M1
theorem x_asB {b : Bool} {K : Bool → Prop} (h : K b) : asB (.d (.bool b)) K := h
theorem x_asI {b : Int} {K : Int → Prop} (h : K b) : asI (.d (.int b)) K := h
theorem x_asD {b : PyData} {K : PyData → Prop} (h : K b) : asD (.d b) K := h
theorem x_as2 {x y : DV} {K : DV → DV → Prop} (h : K x y) : as2 [x, y] K := h
theorem x_asI1 {i : Int} {K : Int → Prop} (h : K i) : asI1 [.d (.int i)] K := h
theorem x_asI2 {i j : Int} {K : Int → Int → Prop} (h : K i j) : asI2 [.d (.int i), .d (.int j)] K := h
theorem x_asSqD {d : PyData} {M1 : MHp} {K : List DV → (MHp → Prop) → MHp → Prop} (h : walkD d fun xs => K xs (fun _ => True) M1) : asSq (.d d) M1 K := h
theorem x_asSqM {a : Addr} {ys : List PyData} {M1 : MHp} {K : List DV → (MHp → Prop) → MHp → Prop} (e : M1 a = some (.ls ys)) (h : K (ys.map .d) (fun M' => M' a = some (.ls ys)) M1) : asSq (.r a) M1 K := by unfold asSq; simp only [e]; exact h
theorem x_asSqV {a : Addr} {ys : List DV} {M1 : MHp} {K : List DV → (MHp → Prop) → MHp → Prop} (e : M1 a = some (.lv ys)) (h : K ys (fun M' => M' a = some (.lv ys)) M1) : asSq (.r a) M1 K := by unfold asSq; simp only [e]; exact h
section
variable {i j : Nat} {n m : Int} {x y : DV} {ρ : DEnv} {M : MHp} {P : DK} {PX : DX} {ta tb tc te : DTE} {tA tB0 : DTT} {t u : DTS} {E : DEnds} {d e : PyData} {k : PyData → Prop} {a : Addr} {ys zs : List PyData} {PT' : Bool → MHp → Prop} {PA' : List DV → MHp → Prop}
theorem x_var (h : ρ[i]? = some (some x)) (q : P x M) : eVar i ρ M P PX := by unfold eVar; rw [h]; exact q
theorem x_c (q : P (.d d) M) : eC d ρ M P PX := q
theorem x_op {g : D2} (q : ta ρ M (fun x M1 => tb ρ M1 (fun y M2 => g x y M2 P) PX) PX) : eOp g ta tb ρ M P PX := q
theorem x_un {g : D1} (q : ta ρ M (fun x M1 => g x M1 P) PX) : eUn g ta ρ M P PX := q
theorem x_gD {f : PyData → PyData → (PyData → Prop) → Prop} (q : rd M x fun dx => rd M y fun dy => f dx dy fun z => P (.d z) M) : gD f x y M P := q
theorem x_rd (q : k d) : rd M (.d d) k := q
theorem x_rdM (h : M a = some (.ls ys)) (q : k (.list ys)) : rd M (.r a) k := by unfold rd; simp only [h]; exact q
theorem x_addI (q : k (.int (n + m))) : addD (.int n) (.int m) k := q
theorem x_addL (h : ys.length + zs.length ≤ sizeLine) (q : k (.list (ys ++ zs))) : addD (.list ys) (.list zs) k := ⟨h, q⟩
theorem x_addT (h : ys.length + zs.length ≤ sizeLine) (q : k (.tuple (ys ++ zs))) : addD (.tuple ys) (.tuple zs) k := ⟨h, q⟩
theorem x_addS {y z : Str} (h : y.length + z.length ≤ sizeLine) (q : k (.str (y ++ z))) : addD (.str y) (.str z) k := ⟨h, q⟩
theorem x_sub (q : k (.int (n - m))) : subD (.int n) (.int m) k := q
theorem x_mul (h : MulOk n m) (q : k (.int (n * m))) : mulD (.int n) (.int m) k := ⟨h, q⟩
theorem x_fdiv (h : DivOk m) (q : k (.int (n / m))) : fdivD (.int n) (.int m) k := ⟨h, q⟩
theorem x_mod (h : 0 < m) (q : k (.int (n % m))) : modD (.int n) (.int m) k := ⟨h, q⟩
theorem x_pow (h : CPow n m) (q : k (.int (n ^ m.toNat))) : powD (.int n) (.int m) k := ⟨h, q⟩
theorem x_neg (q : P (.d (.int (-n))) M) : negD (.d (.int n)) M P := q
theorem x_eqI (q : k (.bool (decide (n = m)))) : eqD (.int n) (.int m) k := ⟨rfl, rfl, by
  have e : PyData.eqv (.int n) (.int m) = decide (n = m) := by
    show (n == m) = decide (n = m)
    rfl
  rw [e]; exact q⟩
theorem x_neI (q : k (.bool (decide (n ≠ m)))) : neD (.int n) (.int m) k := ⟨rfl, rfl, by
  have e : (!PyData.eqv (.int n) (.int m)) = decide (n ≠ m) := by
    show (!(n == m)) = decide (n ≠ m)
    rw [decide_not]
    rfl
  rw [e]; exact q⟩
theorem x_eq (h1 : SeqAt.shaped d = true) (h2 : SeqAt.shaped e = true) (q : k (.bool (PyData.eqv d e))) : eqD d e k := ⟨h1, h2, q⟩
theorem x_ne (h1 : SeqAt.shaped d = true) (h2 : SeqAt.shaped e = true) (q : k (.bool (!PyData.eqv d e))) : neD d e k := ⟨h1, h2, q⟩
theorem cmpOk_int : CmpOk (.int n) (.int m) := ⟨rfl, nofun, Nat.zero_le _⟩
theorem x_ltI (q : k (.bool (decide (n < m)))) : ltD (.int n) (.int m) k := ⟨cmpOk_int, by rw [PySem.W.dataLt_int]; exact q⟩
theorem x_leI (q : k (.bool (decide (n ≤ m)))) : leD (.int n) (.int m) k := ⟨cmpOk_int, by rw [PySem.W.dataLt_int, PySem.W.not_lt_int]; exact q⟩
theorem x_gtI (q : k (.bool (decide (m < n)))) : gtD (.int n) (.int m) k := ⟨cmpOk_int, by rw [PySem.W.dataLt_int]; exact q⟩
theorem x_geI (q : k (.bool (decide (m ≤ n)))) : geD (.int n) (.int m) k := ⟨cmpOk_int, by rw [PySem.W.dataLt_int, PySem.W.not_lt_int]; exact q⟩
theorem x_ixL (h : atI ys n = some d) (q : k d) : ixD (.list ys) (.int n) k := ⟨d, h, q⟩
theorem x_ixT (h : atI ys n = some d) (q : k d) : ixD (.tuple ys) (.int n) k := ⟨d, h, q⟩
theorem x_isNN {neg : Bool} (q : P (.d (.bool !neg)) M) : isN neg (.d .none) (.d .none) M P := q
theorem x_isN {neg : Bool} (h : x ≠ .d .none) (q : P (.d (.bool neg)) M) : isN neg x (.d .none) M P := by
  cases x with
  | r a => exact q
  | d x => cases x <;> first | exact q | exact absurd rfl h
theorem x_tB (q : te ρ M (fun x M1 => asB x fun k => PT' k M1) PX) : DL.tB te ρ M PT' PX := q
theorem x_tTru (q : te ρ M (fun x M1 => truD M1 x fun b => PT' b M1) PX) : tTru te ρ M PT' PX := q
theorem x_truI {K : Bool → Prop} (q : K (decide (n ≠ 0))) : truD M (.d (.int n)) K := by
  have e : (n != 0) = decide (n ≠ 0) := by rw [decide_not]; rfl
  show K (n != 0)
  rw [e]; exact q
theorem x_truB {K : Bool → Prop} {b : Bool} (q : K b) : truD M (.d (.bool b)) K := q
theorem x_truN {K : Bool → Prop} (q : K false) : truD M (.d .none) K := q
theorem x_truL {K : Bool → Prop} (q : K (!ys.isEmpty)) : truD M (.d (.list ys)) K := q
theorem x_truT {K : Bool → Prop} (q : K (!ys.isEmpty)) : truD M (.d (.tuple ys)) K := q
theorem x_tAnd (q : tA ρ M (fun c M1 => Br c (tB0 ρ M1 PT' PX) (PT' false M1)) PX) : tAnd tA tB0 ρ M PT' PX := q
theorem x_tOr (q : tA ρ M (fun c M1 => Br c (PT' true M1) (tB0 ρ M1 PT' PX)) PX) : tOr tA tB0 ρ M PT' PX := q
theorem x_tNot (q : tA ρ M (fun c M1 => PT' (!c) M1) PX) : tNot tA ρ M PT' PX := q
theorem x_eAnd (q : ta ρ M (fun x M1 => asB x fun k => Br k (tb ρ M1 P PX) (P (.d (.bool false)) M1)) PX) : eAnd ta tb ρ M P PX := q
theorem x_eOr (q : ta ρ M (fun x M1 => asB x fun k => Br k (P (.d (.bool true)) M1) (tb ρ M1 P PX)) PX) : eOr ta tb ρ M P PX := q
theorem x_eNotT (q : tA ρ M (fun b M1 => P (.d (.bool !b)) M1) PX) : eNotT tA ρ M P PX := q
theorem x_eIf (q : tA ρ M (fun c M1 => Br c (ta ρ M1 P PX) (tb ρ M1 P PX)) PX) : eIf tA ta tb ρ M P PX := q
theorem x_chain {g g' : D2} (q : ta ρ M (fun x M1 => tb ρ M1 (fun y M2 => g x y M2 fun z M3 => asB z fun k => Br k (tc ρ M3 (fun w M4 => g' y w M4 P) PX) (P (.d (.bool false)) M3)) PX) PX) : eChain g g' ta tb tc ρ M P PX := q
theorem x_aNil (q : PA' [] M) : aNil ρ M PA' PX := q
theorem x_aCons {tr : DTA} (q : te ρ M (fun x M1 => tr ρ M1 (fun xs M2 => PA' (x :: xs) M2) PX) PX) : aCons te tr ρ M PA' PX := q
theorem x_tup {ta : DTA} (q : ta ρ M (fun xs M1 => allD xs fun ds => ds.length ≤ sizeLine ∧ P (.d (.tuple ds)) M1) PX) : eTup ta ρ M P PX := q
theorem x_lst {ta : DTA} (q : ta ρ M (fun xs M1 => allD xs fun ds => ds.length ≤ sizeLine ∧ P (.d (.list ds)) M1) PX) : eLst ta ρ M P PX := q
theorem x_lstM {ta : DTA} (q : ta ρ M (fun xs M1 => allD xs fun ds => ds.length ≤ sizeLine ∧ ∀ p, M1 p = none → P (.r p) (mu M1 p (.ls ds))) PX) : eLstM ta ρ M P PX := q
theorem x_lstV {ta : DTA} (q : ta ρ M (fun xs M1 => xs.length ≤ sizeLine ∧ ∀ p, M1 p = none → P (.r p) (mu M1 p (.lv xs))) PX) : eLstV ta ρ M P PX := q
theorem x_allN {K : List PyData → Prop} (q : K []) : allD [] K := q
theorem x_allC {K : List PyData → Prop} {r : List DV} (q : allD r fun xs => K (d :: xs)) : allD (.d d :: r) K := q
theorem x_call {sp : DSp} {ta : DTA} (q : ta ρ M (fun xs M1 => sp xs M1 P PX) PX) : eCall sp ta ρ M P PX := q
theorem x_cb {g : DN} {ta : DTA} (q : ta ρ M (fun xs M1 => g xs M1 P) PX) : eCB g ta ρ M P PX := q
theorem x_g1 {f : PyData → (PyData → Prop) → Prop} (q : rd M x fun d => f d fun z => P (.d z) M) : g1 f [x] M P := q
theorem x_lenL (q : k (.int ys.length)) : lenD (.list ys) k := q
theorem x_lenT (q : k (.int ys.length)) : lenD (.tuple ys) k := q
theorem x_gLenD (q : lenD d fun z => P (.d z) M) : gLen [.d d] M P := q
theorem x_gLenM (h : M a = some (.ls ys)) (q : P (.d (.int ys.length)) M) : gLen [.r a] M P := by unfold gLen; simp only [h]; exact q
theorem x_gLenV {ys : List DV} (h : M a = some (.lv ys)) (q : P (.d (.int ys.length)) M) : gLen [.r a] M P := by unfold gLen; simp only [h]; exact q
theorem x_int (q : k (.int n)) : intD (.int n) k := q
theorem x_intB {b : Bool} (q : k (.int (if b then 1 else 0))) : intD (.bool b) k := q
theorem x_abs (q : k (.int (if n < 0 then -n else n))) : absD (.int n) k := q
theorem x_tupL (q : k (.tuple ys)) : tupleD (.list ys) k := q
theorem x_tupT (q : k (.tuple ys)) : tupleD (.tuple ys) k := q
theorem x_listD (q : seqOf d fun xs => k (.list xs)) : listD d k := q
theorem x_seqL {K : List PyData → Prop} (q : K ys) : seqOf (.list ys) K := q
theorem x_seqT {K : List PyData → Prop} (q : K ys) : seqOf (.tuple ys) K := q
theorem x_all {bs : List Bool} (h : ys = bs.map .bool) (q : k (.bool (bs.all id))) : allDb (.list ys) k := ⟨bs, h, q⟩
theorem x_any {bs : List Bool} (h : ys = bs.map .bool) (q : k (.bool (bs.any id))) : anyDb (.list ys) k := ⟨bs, h, q⟩
theorem x_sum {ns : List Int} (h : ys = ns.map .int) (q : k (.int ns.sum)) : sumD (.list ys) k := ⟨ns, h, q⟩
theorem x_g2 {f : Int → Int → PyData} (q : P (.d (f n m)) M) : g2I f [.d (.int n), .d (.int m)] M P := q
theorem x_gcd (q : P (.d (.int ((Nat.gcd n.natAbs m.natAbs : Nat) : Int))) M) : gcdG [.d (.int n), .d (.int m)] M P := q
theorem x_isi {T : String} (q : te ρ M (fun x M1 => asD x fun d => asIs T d fun b => P (.d (.bool b)) M1) PX) : eIsi T te ρ M P PX := q
theorem x_bm {Ty : DV → MHp → Prop} {g : DM} {ta : DTA} (q : te ρ M (fun x M1 => Ty x M1 ∧ ta ρ M1 (fun xs M2 => g x xs M2 P) PX) PX) : eBm Ty g te ta ρ M P PX := q
theorem x_append (h : M a = some (.ls ys)) (hl : ys.length < sizeLine) (q : P (.d .none) (mu M a (.ls (ys ++ [d])))) : gAppend (.r a) [.d d] M P := by unfold gAppend; simp only [h]; exact ⟨hl, q⟩
theorem x_appendV {ys : List DV} (h : M a = some (.lv ys)) (hl : ys.length < sizeLine) (q : P (.d .none) (mu M a (.lv (ys ++ [y])))) : gAppend (.r a) [y] M P := by unfold gAppend; simp only [h]; exact ⟨hl, q⟩
theorem x_isLst {xs : List PyData} (h : M a = some (.ls xs)) : isLst (.r a) M := by unfold isLst; simp only [h]
theorem x_isLstV {xs : List DV} (h : M a = some (.lv xs)) : isLst (.r a) M := by unfold isLst; simp only [h]
theorem x_sl {tl th : DTO} (q : te ρ M (fun x M1 => tl ρ M1 (fun l M2 => th ρ M2 (fun h M3 => rd M3 x fun d => slD d l h fun z => P (.d z) M3) PX) PX) PX) : eSl te tl th ρ M P PX := q
theorem x_oN {PO' : Option Int → MHp → Prop} (q : PO' none M) : oNone ρ M PO' PX := q
theorem x_oS {PO' : Option Int → MHp → Prop} (q : te ρ M (fun x M1 => asI x fun i => PO' (some i) M1) PX) : oSome te ρ M PO' PX := q
theorem x_slL {lo hi : Option Int} (q : k (.list (cutG ys lo hi))) : slD (.list ys) lo hi k := q
theorem x_slT {lo hi : Option Int} (q : k (.tuple (cutG ys lo hi))) : slD (.tuple ys) lo hi k := q
theorem x_mulM (h : M a = some (.ls ys)) (hl : -(2 ^ 63) ≤ n ∧ n < 2 ^ 63 ∧ ys.length * n.toNat ≤ sizeLine) (q : ∀ p, M p = none → P (.r p) (mu M p (.ls (repL n ys)))) : gMulM (.r a) (.d (.int n)) M P := by unfold gMulM; simp only [h]; exact ⟨hl, q⟩
/-! ### statements -/
theorem x_next (q : E.nx ρ M) : sNext E ρ M := q
theorem x_seq (q : t { E with nx := u E } ρ M) : sSeq t u E ρ M := q
theorem x_break (q : E.bk ρ M) : sBreak E ρ M := q
theorem x_cont (q : E.ct ρ M) : sCont E ρ M := q
theorem x_expr (q : te ρ M (fun _ M1 => E.nx ρ M1) (fun x M1 => E.ex x ρ M1)) : sExpr te E ρ M := q
theorem x_ret (q : te ρ M E.rt (fun x M1 => E.ex x ρ M1)) : sRet te E ρ M := q
theorem x_retN (q : E.rt (.d .none) M) : sRetN E ρ M := q
theorem x_if (q : tA ρ M (fun k M1 => Br k (t E ρ M1) (u E ρ M1)) (fun x M1 => E.ex x ρ M1)) : sIf tA t u E ρ M := q
theorem x_set (q : te ρ M (fun x M1 => E.nx (ρ.set i (some x)) M1) (fun x M1 => E.ex x ρ M1)) : sSet i te E ρ M := q
theorem x_par {ta : DTA} (q : ta ρ M (fun xs M1 => as2 xs fun x y => E.nx ((ρ.set i (some x)).set j (some y)) M1) (fun x M1 => E.ex x ρ M1)) : sPar i j ta E ρ M := q
theorem x_asg {g : DTG} (q : te ρ M (fun x M1 => g x ρ M1 E.nx (fun x M1 => E.ex x ρ M1)) (fun x M1 => E.ex x ρ M1)) : sAsg te g E ρ M := q
theorem x_for {wi : DTI} {g : DTG} (q : wi ρ M (fun xs C M1 => forI xs C g t E ρ M1) (fun x M1 => E.ex x ρ M1)) : sFor wi g t E ρ M := q
theorem x_raise {cls : Value} (q : E.ex { cls := cls } ρ M) : sRaise cls E ρ M := q
theorem x_gName {PG' : DEnv → MHp → Prop} (q : PG' (ρ.set i (some x)) M) : gN i x ρ M PG' PX := q
theorem x_gTp {PG' : DEnv → MHp → Prop} {n : Nat} {u : DTGs} (h : ys.length = n) (q : u (ys.map .d) ρ M PG' PX) : gTp n u (.d (.tuple ys)) ρ M PG' PX := ⟨h, q⟩
theorem x_gsN {PG' : DEnv → MHp → Prop} (q : PG' ρ M) : gsNil [] ρ M PG' PX := q
theorem x_gsC {PG' : DEnv → MHp → Prop} {t : DTG} {u : DTGs} {r : List DV} (q : t x ρ M (fun ρ1 M1 => u r ρ1 M1 PG' PX) PX) : gsCons t u (x :: r) ρ M PG' PX := q
/-- o[i] = e -/
def setLK (y k x : DV) (M2 : MHp) (PG' : MHp → Prop) : Prop := match y, k, x with
  | .r a, .d (.int n), .d d => match M2 a with
    | some (.ls ys) => ∃ j, ixN ys.length n = some j ∧ PG' (mu M2 a (.ls (ys.set j d)))
    | _ => False
  | _, _, _ => False
theorem x_gSetL {PG' : DEnv → MHp → Prop} (q : ta ρ M (fun y M1 => tb ρ M1 (fun k M2 => setLK y k x M2 (fun M3 => PG' ρ M3)) PX) PX) : gSetL ta tb x ρ M PG' PX := q
theorem x_setLK {PG' : MHp → Prop} (h : M a = some (.ls ys)) (hj : ixN ys.length n = some j) (q : PG' (mu M a (.ls (ys.set j d)))) : setLK (.r a) (.d (.int n)) (.d d) M PG' := by unfold setLK; simp only [h]; exact ⟨j, hj, q⟩
theorem x_tryAs {ml : List (Value × Bool)} {ts : DSu} (q : t { E with ex := fun x ρ1 M1 => ∃ b, (x.cls, b) ∈ ml ∧ (if b = true then ∀ a, M1 a = none →
    ts a x { nx := fun ρ2 M2 => E.nx (ρ2.set i none) M2, rt := E.rt, bk := fun ρ2 M2 => E.bk (ρ2.set i none) M2, ct := fun ρ2 M2 => E.ct (ρ2.set i none) M2 } (ρ1.set i (some (.r a))) M1 else E.ex x ρ1 M1) } ρ M) : sTryAs ml i t ts E ρ M := q
theorem x_try {ml : List (Value × Bool)} {ts : DSu} (q : t { E with ex := fun x ρ1 M1 => ∃ b, (x.cls, b) ∈ ml ∧ (if b = true then ∀ a, M1 a = none →
    ts a x { nx := E.nx, rt := E.rt, bk := E.bk, ct := E.ct } ρ1 M1 else E.ex x ρ1 M1) } ρ M) : sTry ml t ts E ρ M := q
theorem x_ex1 {ml : List (Value × Bool)} {c : Value} {A B : Prop} (h : (c, true) ∈ ml) (q : A) : ∃ b, (c, b) ∈ ml ∧ (if b = true then A else B) := ⟨true, h, by rw [if_pos rfl]; exact q⟩
theorem x_ex0 {ml : List (Value × Bool)} {c : Value} {A B : Prop} (h : (c, false) ∈ ml) (q : B) : ∃ b, (c, b) ∈ ml ∧ (if b = true then A else B) := ⟨false, h, by rw [if_neg Bool.false_ne_true]; exact q⟩
theorem x_xRet {ts : DSE} {a : Addr} {x : XD} (q : ts a x ρ M E.rt (fun _ _ => False)) : xRet ts a x E ρ M := q
/-! ### what is walked -/
theorem x_iSeqM {PI' : List DV → (MHp → Prop) → MHp → Prop} (q : te ρ M (fun x M1 => asSq x M1 PI') PX) : iSeq te ρ M PI' PX := q
theorem x_walkL {K : List DV → Prop} (q : K (ys.map .d)) : walkD (.list ys) K := q
theorem x_walkT {K : List DV → Prop} (q : K (ys.map .d)) : walkD (.tuple ys) K := q
theorem x_r1 {PI' : List DV → (MHp → Prop) → MHp → Prop} {ta : DTA} (q : ta ρ M (fun xs M1 => asI1 xs fun j => -(2 ^ 62) ≤ j ∧ j < 2 ^ 62 ∧ PI' (rangeD 0 j.toNat) (fun _ => True) M1) PX) : iRange1 ta ρ M PI' PX := q
theorem x_r2 {PI' : List DV → (MHp → Prop) → MHp → Prop} {ta : DTA} (q : ta ρ M (fun xs M1 => asI2 xs fun i j => (-(2 ^ 62) ≤ i ∧ i < 2 ^ 62 ∧ -(2 ^ 62) ≤ j ∧ j < 2 ^ 62) ∧ PI' (rangeD i (j - i).toNat) (fun _ => True) M1) PX) : iRange2 ta ρ M PI' PX := q
end
def AllM {α : Type} (p : α → Prop) : List α → Prop
  | [] => True
  | x :: r => p x ∧ AllM p r
theorem allM_of {α : Type} {p : α → Prop} : ∀ {l : List α}, AllM p l → ∀ x ∈ l, p x
  | _ :: _, h, x, hx => by
    rcases List.mem_cons.mp hx with e | e
    · exact e ▸ h.1
    · exact allM_of h.2 x e
/-! ### the draws of a law -/
def DSt (st : List PyData) : Prop := ∃ (ns : List Int) (pos rest seed : Int), st = [.list (ns.map .int), .int pos, .int rest, .int seed] ∧ 0 ≤ pos ∧ 0 ≤ rest ∧ 0 ≤ seed ∧ seed < 2147483647
/-- a is where draws are taken -/
def Drw (M : MHp) (a : Addr) : Prop := ∃ st, M a = some (.ls st) ∧ DSt st
def sp_law_begin : DSp := fun xs M P _ => ∃ ns : List Int, xs = [.d (.list (ns.map .int))] ∧ ∀ p st, M p = none → DSt st → P (.r p) (mu M p (.ls st))
def sp_law_take : DSp := fun xs M P _ => ∃ a m st, xs = [.r a, .d (.int m)] ∧ M a = some (.ls st) ∧ DSt st ∧ DivOk m ∧ ∀ n st', DSt st' → 0 ≤ n → n < m → P (.d (.int n)) (mu M a (.ls st'))
theorem mu_at {M : MHp} {a b : Addr} {o : MO} {x : Option MO} (h : b ≠ a) (q : M b = x) : mu M a o b = x := by rw [mu_ne h]; exact q
theorem ne_of_mn {M : MHp} {a b : Addr} {o : MO} (h : M a = some o) (q : M b = none) : a ≠ b := by rintro rfl; rw [h] at q; cases q
theorem atI_map {α β : Type} (f : α → β) (xs : List α) (i : Int) : atI (xs.map f) i = (atI xs i).map f := by
  unfold atI
  rw [List.length_map]
  cases ixN xs.length i with
  | none => rfl
  | some j => simp
theorem ixN_nn {n : Nat} {i : Int} (h0 : 0 ≤ i) (h1 : i < n) : ixN n i = some i.toNat := by
  unfold ixN
  rw [if_pos h0, if_pos h1]
theorem atI_nn {α : Type} {xs : List α} {i : Int} {y : α} (h0 : 0 ≤ i) (h : xs[i.toNat]? = some y) : atI xs i = some y := by
  obtain ⟨h1, _⟩ := List.getElem?_eq_some_iff.mp h
  unfold atI
  rw [ixN_nn h0 (by omega)]
  exact h
theorem getL {xs : List PyData} {i : Nat} {x : DV} (h : (xs.map DV.d)[i]? = some x) : ∃ d, xs[i]? = some d ∧ x = .d d := by
  rw [List.getElem?_map] at h
  obtain ⟨d, h1, h2⟩ := Option.map_eq_some_iff.mp h
  exact ⟨d, h1, h2.symm⟩
theorem getI {xs : List Int} {i : Nat} {x : DV} (h : ((xs.map PyData.int).map DV.d)[i]? = some x) : ∃ n, xs[i]? = some n ∧ x = .d (.int n) := by
  obtain ⟨d, h1, rfl⟩ := getL h
  rw [List.getElem?_map] at h1
  obtain ⟨n, h1, h2⟩ := Option.map_eq_some_iff.mp h1
  exact ⟨n, h1, by rw [← h2]⟩
theorem getR {lo : Int} {n i : Nat} {x : DV} (h : (rangeD lo n)[i]? = some x) : i < n ∧ x = .d (.int (lo + (i : Nat))) := by
  have hl : i < n := by
    obtain ⟨h1, _⟩ := List.getElem?_eq_some_iff.mp h
    rw [rangeD_len] at h1
    exact h1
  refine ⟨hl, ?_⟩
  unfold rangeD at h
  rw [List.getElem?_map, List.getElem?_range hl] at h
  cases h
  rfl
theorem atI_int {ns : List Int} {i : Int} (h0 : 0 ≤ i) (h : i < ns.length) : ∃ x, atI (ns.map PyData.int) i = some (.int x) := by
  have hl : i.toNat < ns.length := by omega
  exact ⟨_, atI_nn h0 (by rw [List.getElem?_map, List.getElem?_eq_getElem hl]; rfl)⟩
theorem take_succ_of {α : Type} {l : List α} {i : Nat} {x : α} (h : l[i]? = some x) : l.take (i + 1) = l.take i ++ [x] := by
  rw [List.take_add_one, h]
  rfl
theorem eqv_self {x : PyData} (h : SeqAt.shaped x = true) : PyData.eqv x x = true := SeqAt.eqv_refl x (SeqAt.canLay_of_shaped h)
theorem x_eqS {d : PyData} {k : PyData → Prop} (h1 : SeqAt.shaped d = true) (q : k (.bool true)) : eqD d d k := ⟨h1, h1, by rw [eqv_self h1]; exact q⟩
/-! ### constants of a module -/
def flatV : Value → Option PyData
  | .int i _ => some (.int i)
  | .str x _ => some (.str x)
  | .bool b => some (.bool b)
  | .none => some .none
  | _ => none
theorem dp_flat1 {K : PySem.W.Frag} {F : Hp} {v : Value} {d : PyData} (h : flatV v = some d) : ∃ u, RelV u v ∧ Dp K F u d := by
  cases v with
  | int i t => cases h; exact ⟨.int i, ⟨t, rfl⟩, .int i⟩
  | str x t => cases h; exact ⟨.str x, ⟨t, rfl⟩, .str x⟩
  | bool b => cases h; exact ⟨.bl b, rfl, .bl b⟩
  | none => cases h; exact ⟨.non, rfl, .non⟩
  | _ => cases h
theorem dp_flat {K : PySem.W.Frag} {F : Hp} : ∀ {vs : List Value} {ds : List PyData}, vs.map flatV = ds.map some → ∃ us, Vals us vs ∧ DpAll K F us ds
  | [], [], _ => ⟨[], .nil, .nil⟩
  | [], _ :: _, h => by cases h
  | _ :: _, [], h => by cases h
  | v :: vs, d :: ds, h => by
    rw [List.map_cons, List.map_cons] at h
    obtain ⟨h1, h2⟩ := List.cons.inj h
    obtain ⟨u, r, q⟩ := dp_flat1 (K := K) (F := F) h1
    obtain ⟨us, rs, qs⟩ := dp_flat (K := K) (F := F) h2
    exact ⟨u :: us, .cons r rs, .cons q qs⟩
theorem dp_ktup {K : PySem.W.Frag} {g : Addr} {o : Obj} {its : Array Value} {n : Nat} {ds : List PyData} (l : K.lookup g = some o) (hc : o.cls = .type "tuple") (hd : o.data = .seq its n) (hs : its.size ≤ sizeLine) (hf : its.toList.map flatV = ds.map some) (F : Hp) : Dp K F (.ref g) (.tuple ds) := by
  obtain ⟨us, rs, qs⟩ := dp_flat (K := K) (F := F) hf
  exact .tup (.inr ⟨o, its, n, l, hc, hd, hs, rs⟩) qs
theorem kit_ref {K : PySem.W.Frag} {C : Addr} {t : Value} {b : Bool} (hdct : PySem.W.hasDictIn K C = true) (ht : PySem.W.typeIn K (.ref C) = some (.type "type")) (h4 : PySem.W.subIn K t (.ref C) = some b) (hb : b = true ∨ (t == Value.ref C) = false) : PySem.W.kitOne K t (.ref C) = some b := by
  obtain ⟨cd, hc, _⟩ := PySem.W.any_some hdct
  have e2 : ((PySem.W.clsIn K C).isSome && PySem.W.typeIn K (.ref C) == some (.type "type")) = true := by rw [hc, ht] <;> rfl
  show (if (t == Value.ref C) = true then some true else (if ((PySem.W.clsIn K C).isSome && PySem.W.typeIn K (.ref C) == some (.type "type")) = true then PySem.W.subIn K t (.ref C) else none)) = some b
  rw [if_pos e2]
  by_cases q : (t == Value.ref C) = true
  · rw [if_pos q]
    rcases hb with hb | hb
    · rw [hb]
    · rw [hb] at q; cases q
  · rw [if_neg q]
    exact h4
theorem mn_of {M : MHp} {a b : Addr} {o : MO} (h : mu M a o b = none) : M b = none := by
  unfold mu at h
  split at h
  · cases h
  · exact h
theorem MLe.put {M0 M1 : MHp} {a : Addr} {o : MO} (h : MLe M0 M1) (n : M0 a = none) : MLe M0 (DL.mu M1 a o) := fun b u e => by
  rw [mu_ne (by rintro rfl; rw [n] at e; cases e)]
  exact h b u e
end DL

/-! Part 9: sorted, sets. -/
namespace DL
open PySem PySem.Spec PyProof.Rows L2

/-! ### sorted -/
def sortL (xs : List PyData) : List PyData := xs.mergeSort (PySem.W.dataLe false id)
def SortOk (xs : List PyData) : Prop := PySem.W.AllAlike xs ∧ PySem.W.Sortable xs ∧ ∀ d ∈ xs, d.depth ≤ 60
def sortD : PyData → (PyData → Prop) → Prop
  | .list xs, k => SortOk xs ∧ k (.list (sortL xs))
  | .tuple xs, k => SortOk xs ∧ k (.list (sortL xs))
  | _, _ => False
theorem each_zip {K : PySem.W.Frag} {F : Hp} : ∀ {ws : List V} {ds : List PyData} {us : List Value}, DpAll K F ws ds → Vals ws us → PySem.W.EachIs (fun v (b : PyData × V) => RelV b.2 v) us (ds.zip ws) ∧ ∀ b ∈ ds.zip ws, Dp K F b.2 b.1
  | _, [], _, h, r => by
    cases h
    cases r
    exact ⟨.nil, fun b hb => by cases hb⟩
  | _, d :: ds, _, h, r => by
    cases h with
    | cons h1 h2 =>
      cases r with
      | cons r1 r2 =>
        obtain ⟨a, b⟩ := each_zip h2 r2
        refine ⟨.cons r1 a, fun c hc => ?_⟩
        rcases List.mem_cons.mp hc with e | hc
        · rw [e]; exact h1
        · exact b c hc
theorem dpAll_of {K : PySem.W.Frag} {F : Hp} : ∀ {bs : List (PyData × V)}, (∀ b ∈ bs, Dp K F b.2 b.1) → DpAll K F (bs.map (·.2)) (bs.map (·.1))
  | [], _ => .nil
  | b :: bs, h => .cons (h b (by simp)) (dpAll_of fun c hc => h c (List.mem_cons_of_mem _ hc))
theorem vals_of_each : ∀ {bs : List (PyData × V)} {out : List Value}, PySem.W.EachIs (fun v (b : PyData × V) => RelV b.2 v) out bs → Vals (bs.map (·.2)) out
  | [], _, h => by cases h; exact .nil
  | b :: bs, _, h => by
    cases h with
    | cons h1 h2 => exact .cons h1 (vals_of_each h2)
section
open PySem.Calls PySem.W
variable {prog : Program} {w : World} {A : Around} {E : Value → Shared → Prop} {s : Shared} {β : Type}
theorem collect_tup {l : Addr} {vs : List Value} {Q : List Value → Shared → Prop} (hl : IsTup s.heap l vs.toArray)
    (h : Q vs { s with heap := (s.heap.push (seqObj "list" #[] 0)).update s.heap.objs.size (Obj.mapSeq (· ++ vs.toArray)) }) (hsz : vs.length ≤ sizeLine) :
    wpAny (model prog w) A (collect (.ref l)) Q E s := by
  obtain ⟨o, ho, hc, n, hd⟩ := id hl
  unfold collect
  refine wpAny_bind (wpAny_runValue (codeAny_builtin entry_proto_collect' ?_))
  show wpAny _ _ (do again (.builtin "list.__iadd__" ⟨[← newList [], .ref l], []⟩)) _ _ s
  refine wpAny_bind (wpAny_newList (wpAny_pure ⟨Code.quiet_builtin _ (by decide +kernel), codeAny_builtin entry_list_iadd' ?_⟩))
  show wpAny _ _ (Builtin.List.listExtendWith (.ref s.heap.objs.size) (.ref l) (.ref s.heap.objs.size)) _ _ { s with heap := s.heap.push (seqObj "list" #[] 0) }
  unfold Builtin.List.listExtendWith
  have ho' : (s.heap.push (seqObj "list" #[] 0)).get? l = some o := Heap.get?_push_of_some _ ho
  refine wpAny_bind (wpAny_typeOf (T := "tuple") ⟨o, ho', hc⟩ ?_)
  have ht : (Value.type "tuple" == Value.type "tuple") = true := by rfl
  rw [if_pos (by rw [ht]; simp)]
  refine wpAny_bind (listItems_at ho' hd ?_)
  refine wpAny_bind (listItems_at (xs := #[]) (n := 0) (Heap.get?_push_size _ rfl) rfl ?_)
  rw [if_neg (by simp)]
  refine wpAny_bind (listUpdate_at (xs := #[]) (n := 0) (Heap.get?_push_size _ rfl) rfl ?_ (Nat.zero_le _) (by show (#[] ++ vs.toArray).size ≤ sizeLine + 1; simp only [Array.size_append, List.size_toArray, List.length_nil]; omega))
  refine wpAny_pure ?_
  show wpAny (model prog w) A (do
      let o ← load s.heap.objs.size
      match o.data with
      | .seq xs _ => pure xs.toList
      | _ => unsupported "internal:collect") Q E { s with heap := (s.heap.push (seqObj "list" #[] 0)).update s.heap.objs.size (Obj.mapSeq (· ++ vs.toArray)) }
  refine wpAny_bind (wpAny_load (get?_update_seq (Heap.get?_push_size _ rfl) _) ?_)
  show wpAny _ _ (pure ((#[] : Array Value) ++ vs.toArray).toList) Q E _
  rw [show ((#[] : Array Value) ++ vs.toArray).toList = vs by simp]
  exact wpAny_pure h
theorem sortedT_of_sort {l : Addr} {vs : List Value} {kw : List (Str × Value)} {Q : Value → Shared → Prop} (hl : IsTup s.heap l vs.toArray) (hL : vs.length ≤ sizeLine) (ha1 : argsOk "sorted" ⟨[.ref l], kw⟩) (ha2 : ∀ x, argsOk "list.sort" ⟨[.ref x], kw⟩)
    (body : ∀ E' : Value → Shared → Prop, wpAny (model prog w) A.in1.in1 (Builtin.«list.sort» ⟨[.ref (s.heap.objs.size + 1)], kw⟩) (fun f s' => f = .done (.ret .none) ∧ Q (.ref (s.heap.objs.size + 1)) s') E' { s with heap := copyHeap s.heap vs }) :
    wpAny (model prog w) A (call (.builtin "sorted") [.ref l] kw) Q E s := by
  refine call_function_entry_kw kind_sorted plain_sorted entry_sorted ha1 ?_
  unfold Builtin.«sorted»
  refine wpAny_bind (m := checkCount "sorted" 1 1 _) (wpAny_pure ?_)
  refine wpAny_bind (collect_tup hl ?_ hL)
  refine wpAny_bind (wpAny_newList ?_ hL)
  have hsz : ((s.heap.push (seqObj "list" #[] 0)).update s.heap.objs.size (Obj.mapSeq (· ++ vs.toArray))).objs.size = s.heap.objs.size + 1 := by
    rw [Heap.size_update, size_push']
  show wpAny _ _ _ _ _ { s with heap := copyHeap s.heap vs }
  rw [hsz]
  refine wpAny_bind (wpAny_holding (wpAny_call_entry_kw slot_list_sort ⟨_, copyHeap_at s.heap vs, rfl⟩ entry_list_sort ?body (ha2 _)))
  case body =>
    show wpAny (model prog w) A.in1.in1 (Builtin.«list.sort» ⟨[.ref (s.heap.objs.size + 1)], kw⟩) _ _ _
    refine wpAny_mono (body _) (fun f s' hf => ?_) fun _ _ e => e
    obtain ⟨rfl, hq⟩ := hf
    exact ⟨_, rfl, wpAny_pure ⟨_, rfl, hq⟩⟩
theorem sorted_dataT {vs : List Value} {bs : List β} {enc : β → PyData} {R : Value → β → Prop} {l : Addr} {Q : Value → Shared → Prop} (hl : IsTup s.heap l vs.toArray) (e : EachIs R vs bs) (er : EachIs (fun v b => ∃ as, Reads s.heap v (enc b) as) vs bs) (hal : AllAlike (bs.map enc)) (hk : Sortable (bs.map enc)) (hL : bs.length ≤ sizeLine)
    (hu : ∀ b, b ∈ bs → A.units + 2 + (enc b).depth < cLine) (h : ∀ out, out.length = bs.length → EachIs R out (bs.mergeSort (dataLe false enc)) → Q (.ref (s.heap.objs.size + 1)) { s with heap := sortedAll s.heap vs (List.toArray out) }) :
    wpAny (model prog w) A (call (.builtin "sorted") [.ref l]) Q E s := by
  have er' : EachIs (fun v b => ∃ as, Reads (sortingHeap (copyHeap s.heap vs) (s.heap.objs.size + 1) vs) v (enc b) as) vs bs := er.mono fun _ _ ⟨as, r⟩ => ⟨as, PyProof.Rows.Reads.keeps (fun _ _ => sorting_copy_old) r⟩
  have hL' : vs.length ≤ sizeLine := by rw [e.length]; exact hL
  exact sortedT_of_sort hl hL' (args_sorted1 _) (fun _ => args_list_sort _) fun _ => list_sort_vals (s := { s with heap := copyHeap s.heap vs }) (copyHeap_at s.heap vs)
    (SortsAt.data (s := { s with heap := sortingHeap (copyHeap s.heap vs) (s.heap.objs.size + 1) vs }) (each_map (R := fun v d => ∃ as, Reads (sortingHeap (copyHeap s.heap vs) (s.heap.objs.size + 1) vs) v d as) enc er') hal hk (bound_map hu)) hL'
    ⟨rfl, h _ (by rw [sortVals_length false rfl]; exact e.length) (sortVals_data false e er' hal)⟩
end
theorem sort_run {X : Cx} (hu : X.A.units + 64 < cLine) {pins : List (Addr × Obj)} {s : Shared} {σ : L2.St} {H : Hp} {p : Addr} {ws : List V} {F : Hp} {ds : List PyData} {Q : VK} (I : Inv X pins σ H s) (h1 : SqL X.K H p ws) (hF : Same F H) (h2 : DpAll X.K F ws ds) (ok : SortOk ds)
    (h : ∀ q ws', H q = none → DpAll X.K F ws' (sortL ds) → Q (.ref q) (upd H q (.lst ws'))) : wpAny (model X.prog X.w) X.A (call (.builtin "sorted") [.ref p]) (EP X pins σ Q) X.xe s := by
  obtain ⟨its, rv, hl, hz⟩ := I.list h1
  obtain ⟨e1, e2⟩ := each_zip h2 rv
  have hlen := dpAll_len h2
  have m1 : (ds.zip ws).map Prod.fst = ds := List.map_fst_zip (by omega)
  have er : PySem.W.EachIs (fun v (b : PyData × V) => ∃ as, Reads s.heap v b.1 as) its (ds.zip ws) := by
    have : ∀ {us : List Value} {bs : List (PyData × V)}, PySem.W.EachIs (fun v (b : PyData × V) => RelV b.2 v) us bs → (∀ b ∈ bs, Dp X.K F b.2 b.1) → PySem.W.EachIs (fun v (b : PyData × V) => ∃ as, Reads s.heap v b.1 as) us bs := by
      intro us bs h
      induction h with
      | nil => intro _; exact .nil
      | cons h1 h2 ih =>
        intro q
        exact .cons (Dp.reads I _ _ _ (dp_mono hF _ _ (q _ (by simp))) h1) (ih fun b hb => q b (List.mem_cons_of_mem _ hb))
    exact this e1 e2
  refine PySem.W.sorted_data (R := fun v (b : PyData × V) => RelV b.2 v) (enc := Prod.fst) hl.isList e1 er (by rw [m1]; exact ok.1) (by rw [m1]; exact ok.2.1) (by rw [List.length_zip]; omega) (fun b hb => ?_) fun out ho eo => ?_
  · have : b.1 ∈ ds := by
      rw [← m1]
      exact List.mem_map.mpr ⟨b, hb, rfl⟩
    have := ok.2.2 _ this
    omega
  · obtain ⟨ep, he'⟩ := PyProof.Rows.sortedAll_at s.heap its (List.toArray out)
    have hv := vals_of_each eo
    have hp := List.mergeSort_perm (ds.zip ws) (PySem.W.dataLe false Prod.fst)
    have m2 : ((ds.zip ws).mergeSort (PySem.W.dataLe false Prod.fst)).map Prod.fst = sortL ds := by
      have : sortL ds = ((ds.zip ws).map Prod.fst).mergeSort (PySem.W.dataLe false id) := by rw [m1]; rfl
      rw [this]
      exact List.map_mergeSort fun _ _ _ _ => rfl
    have hd : DpAll X.K F (((ds.zip ws).mergeSort (PySem.W.dataLe false Prod.fst)).map (·.2)) (sortL ds) := by
      rw [← m2]
      exact dpAll_of fun b hb => e2 b (hp.mem_iff.mp hb)
    have hn : (((ds.zip ws).mergeSort (PySem.W.dataLe false Prod.fst)).map (·.2)).length ≤ sizeLine := by
      rw [List.length_map, hp.length_eq, List.length_zip]
      omega
    exact ⟨.ref _, _, I.laid (o := .lst (((ds.zip ws).mergeSort (PySem.W.dataLe false Prod.fst)).map (·.2))) (t' := s.toks) (fun _ _ => PyProof.Rows.sortedAll_old) (Nat.le_succ _) ⟨hn, out, ep, hv, he'⟩, rfl, h _ _ (I.hok.fresh (Nat.le_succ _)) hd⟩
theorem sort_runT {X : Cx} (hu : X.A.units + 64 < cLine) {pins : List (Addr × Obj)} {s : Shared} {σ : L2.St} {H : Hp} {p : Addr} {ws : List V} {F : Hp} {ds : List PyData} {Q : VK} (I : Inv X pins σ H s) (h1 : SqT X.K H p ws) (hF : Same F H) (h2 : DpAll X.K F ws ds) (ok : SortOk ds)
    (h : ∀ q ws', H q = none → DpAll X.K F ws' (sortL ds) → Q (.ref q) (upd H q (.lst ws'))) : wpAny (model X.prog X.w) X.A (call (.builtin "sorted") [.ref p]) (EP X pins σ Q) X.xe s := by
  obtain ⟨its, rv, hl, hz⟩ := I.tuple h1
  obtain ⟨e1, e2⟩ := each_zip h2 rv
  have hlen := dpAll_len h2
  have m1 : (ds.zip ws).map Prod.fst = ds := List.map_fst_zip (by omega)
  have er : PySem.W.EachIs (fun v (b : PyData × V) => ∃ as, Reads s.heap v b.1 as) its (ds.zip ws) := by
    have : ∀ {us : List Value} {bs : List (PyData × V)}, PySem.W.EachIs (fun v (b : PyData × V) => RelV b.2 v) us bs → (∀ b ∈ bs, Dp X.K F b.2 b.1) → PySem.W.EachIs (fun v (b : PyData × V) => ∃ as, Reads s.heap v b.1 as) us bs := by
      intro us bs h
      induction h with
      | nil => intro _; exact .nil
      | cons h1 h2 ih =>
        intro q
        exact .cons (Dp.reads I _ _ _ (dp_mono hF _ _ (q _ (by simp))) h1) (ih fun b hb => q b (List.mem_cons_of_mem _ hb))
    exact this e1 e2
  refine sorted_dataT (R := fun v (b : PyData × V) => RelV b.2 v) (enc := Prod.fst) hl e1 er (by rw [m1]; exact ok.1) (by rw [m1]; exact ok.2.1) (by rw [List.length_zip]; omega) (fun b hb => ?_) fun out ho eo => ?_
  · have : b.1 ∈ ds := by
      rw [← m1]
      exact List.mem_map.mpr ⟨b, hb, rfl⟩
    have := ok.2.2 _ this
    omega
  · obtain ⟨ep, he'⟩ := PyProof.Rows.sortedAll_at s.heap its (List.toArray out)
    have hv := vals_of_each eo
    have hp := List.mergeSort_perm (ds.zip ws) (PySem.W.dataLe false Prod.fst)
    have m2 : ((ds.zip ws).mergeSort (PySem.W.dataLe false Prod.fst)).map Prod.fst = sortL ds := by
      have : sortL ds = ((ds.zip ws).map Prod.fst).mergeSort (PySem.W.dataLe false id) := by rw [m1]; rfl
      rw [this]
      exact List.map_mergeSort fun _ _ _ _ => rfl
    have hd : DpAll X.K F (((ds.zip ws).mergeSort (PySem.W.dataLe false Prod.fst)).map (·.2)) (sortL ds) := by
      rw [← m2]
      exact dpAll_of fun b hb => e2 b (hp.mem_iff.mp hb)
    have hn : (((ds.zip ws).mergeSort (PySem.W.dataLe false Prod.fst)).map (·.2)).length ≤ sizeLine := by
      rw [List.length_map, hp.length_eq, List.length_zip]
      omega
    exact ⟨.ref _, _, I.laid (o := .lst (((ds.zip ws).mergeSort (PySem.W.dataLe false Prod.fst)).map (·.2))) (t' := s.toks) (fun _ _ => PyProof.Rows.sortedAll_old) (Nat.le_succ _) ⟨hn, out, ep, hv, he'⟩, rfl, h _ _ (I.hok.fresh (Nat.le_succ _)) hd⟩
theorem dc_sorted {X : Cx} (hu : X.A.units + 64 < cLine) : DCall X (.builtin "sorted") (g1 sortD) := by
  intro pins s σ H vs us Q I r h
  obtain ⟨xs, M, N, P, hr, ha, hg, fo⟩ := h
  obtain ⟨v, d, rfl, r1, q⟩ := g1_of hr ha hg
  unfold sortD at q
  split at q
  · obtain ⟨p, ws, rfl, h1, h2⟩ := r1.list
    rw [Vals.ref1 r]
    exact sort_run hu I h1 fz_sub h2 q.1 fun l ws' hl hd => fo.new hr q.2 hl (fz_newLst hr hl hd)
  · obtain ⟨p, ws, rfl, h1, h2, _⟩ := r1.tuple
    rw [Vals.ref1 r]
    exact sort_runT hu I h1 fz_sub h2 q.1 fun l ws' hl hd => fo.new hr q.2 hl (fz_newLst hr hl hd)
  · exact q.elim
def sortDM : PyData → (List PyData → Prop) → Prop
  | .list ys, k => SortOk ys ∧ k (sortL ys)
  | .tuple ys, k => SortOk ys ∧ k (sortL ys)
  | _, _ => False
def gSortM : DN := fun xs M P => match xs with | [x] => rd M x fun d => sortDM d fun ys => ∀ p, M p = none → P (.r p) (mu M p (.ls ys)) | _ => False
theorem dc_sortedM {X : Cx} (hu : X.A.units + 64 < cLine) : DCall X (.builtin "sorted") gSortM := by
  intro pins s σ H vs us Q I r h
  obtain ⟨xs, M, N, P, hr, ha, hg, fo⟩ := h
  unfold gSortM at hg
  split at hg
  · obtain ⟨v, rfl, i⟩ := are1 ha
    obtain ⟨d, r1, q⟩ := rd_of hr i hg
    unfold sortDM at q
    split at q
    · obtain ⟨p, ws, rfl, h1, h2⟩ := r1.list
      rw [Vals.ref1 r]
      refine sort_run hu I h1 fz_sub h2 q.1 fun l ws' hl hd => ?_
      obtain ⟨r2, a2⟩ := hr.new (x := .ls (sortL _)) (o := .lst ws') hl hd
      exact fo _ _ _ _ (q.2 l (hr.free hl).1) r2 a2 rfl
    · obtain ⟨p, ws, rfl, h1, h2, _⟩ := r1.tuple
      rw [Vals.ref1 r]
      refine sort_runT hu I h1 fz_sub h2 q.1 fun l ws' hl hd => ?_
      obtain ⟨r2, a2⟩ := hr.new (x := .ls (sortL _)) (o := .lst ws') hl hd
      exact fo _ _ _ _ (q.2 l (hr.free hl).1) r2 a2 rfl
    · exact q.elim
  · exact hg.elim
/-- of ints -/
def sortI (ns : List Int) : List Int := ns.mergeSort fun a b => decide (a ≤ b)
theorem sortL_int (ns : List Int) : sortL (ns.map .int) = (sortI ns).map .int := by
  unfold sortL sortI
  refine (List.map_mergeSort fun a _ b _ => ?_).symm
  have := congrFun (congrFun (PySem.W.dataLe_int (β := Int) id) a) b
  exact this.symm
theorem sortI_perm (ns : List Int) : (sortI ns).Perm ns := List.mergeSort_perm _ _
theorem sortI_le (ns : List Int) : (sortI ns).Pairwise (· ≤ ·) := by
  have h := List.pairwise_mergeSort (le := fun a b : Int => decide (a ≤ b)) (by simp; omega) (by simp; omega) ns
  exact h.imp fun h => by simpa using h
theorem sortOk_int (ns : List Int) : SortOk (ns.map .int) := ⟨PySem.W.AllAlike.of fun _ _ => rfl, PySem.W.Sortable.others fun _ => ⟨nofun, nofun⟩, fun d hd => by
  obtain ⟨n, _, rfl⟩ := List.mem_map.mp hd
  exact Nat.zero_le _⟩

/-! ### set(list of ints) -/
section
variable {P : Program} {w : World} {A : Around} {E : Value → Shared → Prop} {s : Shared}
abbrev newSet (w : World) : Obj := { cls := .type "set", dict := none, data := .set #[] 0 (.fresh 0 0 (!w.params.followText "set-order")) }
/-- set(a list): what the set is at the end is the loop's word -/
theorem set_of_list {l : Addr} {items : Array Value} {G : Heap → Prop} {Q : Value → Shared → Prop} (hh : A.handled = none) (hl : s.heap.IsList l items)
    (loop : ∀ (A' : Around) (I : Addr) (h2 : Heap) (R : Result → Shared → Prop), A'.in1.handled = none → A'.units ≤ A.units + 2 → I = s.heap.objs.size + 1 → (∀ b o, s.heap.get? b = some o → h2.get? b = some o) → h2.get? s.heap.objs.size = some (newSet w) → h2.IsListIter I l 0 → h2.IsList l items →
      (∀ h3 tk3, (∀ b o, b ≠ s.heap.objs.size → b ≠ I → h2.get? b = some o → h3.get? b = some o) → G h3 → R (.ok (.ret .none)) { s with heap := h3, toks := tk3 }) →
      codeAny (model P w) A' (.builtin "set.update.loop" ⟨[.ref s.heap.objs.size, .ref I], []⟩) R { s with heap := h2 })
    (h : ∀ (h' : Heap) (tk : Nat), G h' → (∀ b o, s.heap.get? b = some o → h'.get? b = some o) → Q (.ref s.heap.objs.size) { s with heap := h', toks := tk }) :
    wpAny (model P w) A (call (.type "set") [.ref l]) Q E s := by
  obtain ⟨c, tl, hmro⟩ := F.called_set.mro; have hmade := F.called_set.made; have hsub := F.called_set.sub
  refine wpAny_call (codeAny_of_tree ?_); show wpAny _ _ (callAny (.type "set") _) _ _ _
  refine wpAny_pure ⟨Code.quiet_builtin _ (by decide +kernel), codeAny_builtin F.entry_type_call ?_⟩; rw [Around.under_plain (weight_type_call_type "set" [.ref l] []) rfl]
  have h1 := F.called_set.notType; have h2 := F.called_set.canCreate
  have hct := F.typeCall_set_1 (.ref l); repeat (any_goals (first | assumption | wp_step))
  refine codeAny_mono (code_set_led1 (.ref l) (E := E) (Q₁ := fun obj s₁ => obj = .ref s.heap.objs.size ∧ s₁ = { s with heap := s.heap.push (newSet w) }) ⟨rfl, rfl⟩) fun r s₁ hr => ?_
  cases r with
  | error e => exact hr
  | ok fl =>
    cases fl with
    | ret obj =>
      obtain ⟨rfl, rfl⟩ := hr
      have hS : (s.heap.push (newSet w)).get? s.heap.objs.size = some (newSet w) := Heap.get?_push_size _ rfl
      have hT : Shared.TypeIs { s with heap := s.heap.push (newSet w) } (.ref s.heap.objs.size) "set" := ⟨_, hS, rfl⟩
      have hli := F.called_set.init.lookup; have hbi := F.called_set.init.bind (.ref s.heap.objs.size)
      repeat (any_goals (first | assumption | wp_step))
      refine codeAny_mono (codeAny_call_builtin (R := wants (fun r s₂ => r = .none ∧ ∃ h' tk, s₂ = { s with heap := h', toks := tk } ∧ G h' ∧ (∀ b o, s.heap.get? b = some o → h'.get? b = some o)) E) F.called_set.init.plain F.entry_set_init (check_set_init_1 hT ?_)) fun r₂ s₂ hr₂ => ?_
      · obtain ⟨ol, hol, hcl, nl, hdl⟩ := hl; obtain ⟨ocls, odict, odata, oslots⟩ := ol
        simp only at hcl hdl
        subst hcl; subst hdl
        have hol' : (s.heap.push (newSet w)).get? l = some { cls := .type "list", dict := odict, data := .seq items nl, slots := oslots } := Heap.get?_push_of_some _ hol
        have hsls := F.sub_list_set; have hslf := F.sub_list_frozenset
        have hne : (Value.type "list" == Value.type "dict") = false := by decide
        have hl1 : (s.heap.push (newSet w)).IsList l items := ⟨_, hol', rfl, nl, rfl⟩
        unfold Builtin.«set.__init__» noKeywords Builtin.Frozenset.updateFrom
        generalize hPI : pyIter = PI
        wp_walk
        subst hPI
        refine wpAny_pyIter_list hl1 ?_; refine wpAny_bind (wpAny_runValue ?_)
        have hz : (s.heap.push (newSet w)).objs.size = s.heap.objs.size + 1 := Heap.size_push ..
        refine loop _ (s.heap.push (newSet w)).objs.size _ _ (by simp [hh]) (by simp [Around.in1]) hz (fun b o e => Heap.get?_push_of_some _ (Heap.get?_push_of_some _ e)) (Heap.get?_push_of_some _ hS) ⟨_, Heap.get?_push_size _ rfl, rfl, rfl⟩ (hl1.push _) fun h3 tk3 k3 g3 => ?_
        show wpAny _ _ _ _ _ _
        refine wpAny_pure ?_; show wpAny _ _ (ret Value.none) _ _ _
        refine wpAny_pure ⟨rfl, h3, tk3, rfl, g3, fun b o e => ?_⟩
        have hb0 : b < s.heap.objs.size := Heap.lt_size e
        exact k3 b o (Nat.ne_of_lt hb0) (by rw [hz]; exact Nat.ne_of_lt (Nat.lt_succ_of_lt hb0)) (Heap.get?_push_of_some _ (Heap.get?_push_of_some _ e))
      · cases r₂ with
        | error e => exact hr₂
        | ok fl₂ =>
          cases fl₂ with
          | ret r =>
            obtain ⟨rfl, h', tk, rfl, g', hk'⟩ := hr₂
            repeat (any_goals (first | assumption | wp_step))
            exact h _ _ g' hk'
          | _ => exact hr₂.elim
    | _ => exact hr.elim
/-- set(a list of ints) -/
theorem set_ints {l : Addr} {items : Array Value} (ns : List Int) {Q : Value → Shared → Prop} (hh : A.handled = none) (hl : s.heap.IsList l items) (hi : IntsAre items.toList ns) (hb : ns.length + 1 < scanBound)
    (h : ∀ (h' : Heap) (tk c : Nat), SetR w h' s.heap.objs.size (fun j => decide (j ∈ ns)) c → c ≤ ns.length → (∀ b o, s.heap.get? b = some o → h'.get? b = some o) → Q (.ref s.heap.objs.size) { s with heap := h', toks := tk }) :
    wpAny (model P w) A (call (.type "set") [.ref l]) Q E s := by
  have hisz : items.size = ns.length := by have q := IntsAre.length hi; rw [Array.length_toList] at q; exact q
  have hlS : l < s.heap.objs.size := by obtain ⟨o, ho, _⟩ := hl; exact Heap.lt_size ho
  refine set_of_list (G := fun h' => ∃ c, c ≤ ns.length ∧ SetR w h' s.heap.objs.size (fun j => decide (j ∈ ns)) c) hh hl (fun A' I h2 R hA hu hI k hS hit hl2 hR => ?_) fun h' tk ⟨c, hc, g⟩ k => h h' tk c g hc k
  have hne : l ≠ I := by rw [hI]; exact Nat.ne_of_lt (Nat.lt_succ_of_lt hlS)
  have hSf : s.heap.objs.size ∉ [I, l] := by
    simp only [List.mem_cons, List.not_mem_nil, or_false, not_or]
    exact ⟨by rw [hI]; exact Nat.ne_of_lt (Nat.lt_succ_self _), Nat.ne_of_gt hlS⟩
  have hval : ∀ (i : Nat) (v : Value), items[i]? = some v → ∃ k t, ns[i]? = some k ∧ v = .int k t := fun i v hv => by
    have hi' : i < ns.length := by rw [← hisz]; exact (Array.getElem?_eq_some_iff.mp hv).1
    obtain ⟨t, e⟩ := PyProof.Rows.IntsAre.int_at hi i v (by rw [Array.getElem?_toList]; exact hv)
    refine ⟨ns[i], t, List.getElem?_eq_getElem hi', ?_⟩
    rw [e, List.getD_eq_getElem?_getD, List.getElem?_eq_getElem hi'] <;> rfl
  refine set_update_ints ((Walks.list hA _ l hne items).toS) s.heap.objs.size hSf ns hisz hb hval (items.size - 0) 0 _ (by omega) (Nat.zero_le _) ⟨hit, hl2⟩ ⟨0, Nat.le_refl 0, setR_new_at hS⟩ fun s' c' hm hc' hS' => ?_
  obtain ⟨h3, g3, d3, tk3, os3⟩ := s'
  have eg : g3 = s.gens := hm.gens; have ed : d3 = s.drawn := hm.drawn; have eo : os3 = s.os := hm.os
  subst eg; subst ed; subst eo
  exact hR h3 tk3 (fun b o n1 n2 e => hm.heap b o (by simp only [List.mem_cons, List.not_mem_nil, or_false, not_or]; exact ⟨n1, n2⟩) e) ⟨c', by rw [← hisz]; exact hc', hS'⟩
/-- sorted(a set of ints) -/
theorem sorted_ints {a : Addr} {S : Int → Bool} {n : Nat} {Q : Value → Shared → Prop} (R : SetR w s.heap a S n) (hh : A.handled = none) (hu : A.units + 64 < cLine)
    (hQ : ∀ s' p (out : Array Value) (c : Nat) (ns : List Int), (∀ b o, s.heap.get? b = some o → s'.heap.get? b = some o) → s'.gens = s.gens → s'.os = s.os → s.heap.objs.size ≤ p →
      s'.heap.get? p = some (seqObj "list" out c) → IntsAre out.toList ns → ns.Pairwise (· < ·) → (∀ k, k ∈ ns ↔ S k = true) → ns.length = n → n < scanBound → Q (.ref p) s') :
    wpAny (model P w) A (call (.builtin "sorted") [.ref a]) Q E s := by
  obtain ⟨o, es, ep, t, ho, hex, hd, g, nd, hm, hb, hf, hn, hr, hl⟩ := R
  refine Calls.call_function_entry kind_sorted plain_sorted entry_sorted (args_sorted1 _) ?_; unfold Builtin.«sorted»
  refine wpAny_bind (m := checkCount "sorted" 1 1 _) (wpAny_pure ?_); refine wpAny_bind (collect_set (A := A.in1) hh ⟨o, ho, hex.1, hd⟩ hf hb hr hl fun s1 vs k1 hz g1 o1 pm => ?_)
  have hvl : vs.length = n := by rw [pm.length_eq, List.length_map, Array.length_toList]; exact hn
  have hI : IntsAre vs (vs.map Builtin.Re.reRawOf) := ints_of vs fun v hv => by
    obtain ⟨e, he, q⟩ := List.mem_map.mp (pm.mem_iff.mp hv); obtain ⟨k, tk, h1, _⟩ := g e he
    exact ⟨k, tk, by rw [← q]; exact h1⟩
  have pk : (vs.map Builtin.Re.reRawOf).Perm (es.toList.map keyOf) := by
    have q := pm.map Builtin.Re.reRawOf; rw [List.map_map] at q
    exact q
  generalize hks : vs.map Builtin.Re.reRawOf = ks at hI pk
  have hsz : vs.length ≤ sizeLine := by rw [hvl, sizeLine_eq, ← hn]; unfold scanBound at hb; omega
  refine wpAny_bind (wpAny_newList ?_ hsz); have hoL : (s1.heap.push (seqObj "list" vs.toArray 0)).get? s1.heap.objs.size = some (seqObj "list" vs.toArray 0) := Heap.get?_push_size _ rfl
  have each : ∀ {us : List Value} {ms : List Int}, IntsAre us ms → PySem.W.EachIs (fun v (k : Int) => ∃ t, v = Value.int k t) us ms := by
    intro us ms h
    induction h with
    | nil => exact .nil
    | cons n t _ ih => exact .cons ⟨t, rfl⟩ ih
  have back : ∀ {ms : List Int} {us : List Value}, PySem.W.EachIs (fun v (k : Int) => ∃ t, v = Value.int k t) us ms → IntsAre us ms := by
    intro ms us h
    induction h with
    | nil => exact .nil
    | cons h1 _ ih => obtain ⟨t, rfl⟩ := h1; exact .cons _ t ih
  have e1 := each hI
  refine wpAny_bind (wpAny_holding (PySem.W.list_sort_data (R := fun v (k : Int) => ∃ t, v = Value.int k t) (enc := .int) hoL e1 (e1.mono fun v k ⟨t, e⟩ => ⟨[], by rw [e]; exact .int _ _, by simp⟩) (PySem.W.AllAlike.of fun _ _ => rfl) (PySem.W.Sortable.others fun _ => ⟨nofun, nofun⟩) (by rw [← e1.length]; exact hsz) (fun b _ => ?_) fun out ho2 eo => ?_))
  · show A.in1.units + 1 + 0 < cLine
    have : A.in1.units = A.units + 1 := rfl
    omega
  · obtain ⟨c, hc⟩ := sortedHeap_at (vs := vs) (out := out.toArray) hoL
    have a1 := back eo
    have a2 := List.mergeSort_perm ks (PySem.W.dataLe false PyData.int)
    have pn := a2.trans pk
    have a3 : (ks.mergeSort (PySem.W.dataLe false PyData.int)).Pairwise (· ≤ ·) := by
      have e : PySem.W.dataLe false PyData.int = fun a b : Int => decide (a ≤ b) := PySem.W.dataLe_int (β := Int) id
      rw [e]
      exact sortI_le ks
    refine wpAny_pure ⟨_, rfl, hQ _ s1.heap.objs.size out.toArray c _ (fun b u e => ?_) g1 o1 hz hc a1 (lt_of_le_nodup _ a3 (pn.nodup_iff.mpr nd)) (fun k => by rw [pn.mem_iff, ← hm k]) ?_ (by rw [← hn]; exact hb)⟩
    · have q := k1 b u e; have hlt := Heap.lt_size q
      show (sortedHeap (s1.heap.push (seqObj "list" vs.toArray 0)) s1.heap.objs.size vs out.toArray).get? b = some u
      rw [sortedHeap_old (Nat.ne_of_lt hlt) (by rw [size_push']; exact Nat.lt_succ_of_lt hlt)]; exact Heap.get?_push_of_some _ q
    · rw [pn.length_eq, List.length_map, Array.length_toList]; exact hn
end
/-! ### sorted(set(e)), len(set(e)) -/
def setSort : PyData → (List PyData → Prop) → Prop
  | .list xs, k => ∃ ns : List Int, xs = ns.map .int ∧ ns.length + 1 < scanBound ∧ ∀ ms : List Int, ms.Pairwise (· < ·) → (∀ x, x ∈ ms ↔ x ∈ ns) → k (ms.map .int)
  | _, _ => False
def setLen : PyData → (Int → Prop) → Prop
  | .list xs, k => ∃ ns : List Int, xs = ns.map .int ∧ ns.length + 1 < scanBound ∧ ∀ ms : List Int, ms.Pairwise (· < ·) → (∀ x, x ∈ ms ↔ x ∈ ns) → k ms.length
  | _, _ => False
def eSortedSet (te : DTE) : DTE := fun ρ M P PX => te ρ M (fun x M1 => rd M1 x fun d => setSort d fun ds => P (.d (.list ds)) M1) PX
def eSortedSetM (te : DTE) : DTE := fun ρ M P PX => te ρ M (fun x M1 => rd M1 x fun d => setSort d fun ds => ∀ p, M1 p = none → P (.r p) (mu M1 p (.ls ds))) PX
def eLenSet (te : DTE) : DTE := fun ρ M P PX => te ρ M (fun x M1 => rd M1 x fun d => setLen d fun n => P (.d (.int n)) M1) PX
section
variable {X : Cx} {W : WX} {a : Expr} {te : DTE} {p p2 q pos : Pos}
theorem sset_run (hc : X.calm = true) (hu : X.A.units + 64 < cLine) (hg : Gl X "sorted") (hm : X.mg "sorted" = none) (hg2 : Gl X "set") (hm2 : X.mg "set" = none) (ha : DE X W a te)
    (na : starEach [a] X.env = (false, eval a X.env) :: starEach [] X.env := by rfl) {pins : List (Addr × Obj)} {s : Shared} {σ : L2.St} {H : Hp} {Q : VK} (I : Inv X pins σ H s)
    (h : LE X.K W te σ H fun x H1 => ∃ l vs, x = .ref l ∧ SqL X.K H1 l vs ∧ ∃ ns : List Int, vs = ns.map V.int ∧ ns.length + 1 < scanBound ∧ ∀ (ms : List Int) r, ms.Pairwise (· < ·) → (∀ x, x ∈ ms ↔ x ∈ ns) → H1 r = none → Q (.ref r) (upd H1 r (.lst (ms.map V.int)))) :
    wpAny (model X.prog X.w) X.A (eval (.Call (.Name "sorted" p) [.Call (.Name "set" p2) [a] [] q] [] pos) X.env) (EP X pins σ Q) X.xe s := by
  refine Call_ (ld_blt I hg hm PyProof.Rows.boot_sorted ?_); refine PyProof.Rows.callWith_builtin1 (PyProof.Rows.args_cons ?_ rfl) rfl rfl
  refine Call_ (ld_blt I hg2 hm2 PyProof.Rows.boot_set ?_); refine PyProof.Rows.callWith_type1 (PyProof.Rows.args_cons (thn (ha.pe.run pins s σ H _ I h) fun v s1 ⟨x, H1, I1, r1, q1⟩ => PyProof.Rows.args_nil ?_) na) na rfl
  obtain ⟨l, vs, rfl, hq, ns, rfl, hb, q1⟩ := q1
  cases r1
  obtain ⟨its, rv, pl, hz⟩ := I1.list hq
  have hd := I1.ok.hd hc
  refine set_ints ns hd pl.isList (by simpa using ints_of_vals rv) hb fun h' tk c R hcn k => ?_
  refine PyProof.Rows.args_nil ?_
  refine sorted_ints (s := { s1 with heap := h', toks := tk }) R hd hu fun s' pa out c' ms k2 g2 o2 hp hgt hio pw hmem hln hnb => ?_
  have k3 : ∀ b o, s1.heap.get? b = some o → s'.heap.get? b = some o := fun b o e => k2 b o (k b o e)
  have hlt : s1.heap.objs.size < h'.objs.size := R.lt
  have hp1 : s1.heap.objs.size ≤ pa := Nat.le_trans (Nat.le_of_lt hlt) hp
  have hn : H1 pa = none := I1.hok.fresh hp1
  have hlen : (ms.map V.int).length ≤ sizeLine := by rw [List.length_map, sizeLine_eq]; unfold scanBound at hnb; omega
  have vi : ∀ {us : List Value} {ms : List Int}, IntsAre us ms → Vals (ms.map V.int) us := by
    intro us ms h
    induction h with
    | nil => exact .nil
    | cons n t _ ih => exact .cons ⟨t, rfl⟩ ih
  have J : Inv X pins σ (upd H1 pa (.lst (ms.map V.int))) { s1 with heap := s'.heap, gens := s'.gens, drawn := s'.drawn, toks := s'.toks } :=
    I1.call (ch := []) (Un.laid k3 hp1 hn) (I1.hok.laid k3 hp1 ⟨hlen, out.toList, c', vi hio, hgt⟩) (by rw [g2]; exact I1.bare) (fun _ z => nomatch z)
  have e : s' = { s1 with heap := s'.heap, gens := s'.gens, drawn := s'.drawn, toks := s'.toks } := by
    cases s'; cases s1; cases o2; rfl
  rw [e]
  exact ⟨.ref pa, _, J, rfl, q1 ms pa pw (fun x => by rw [hmem x, decide_eq_true_eq]) hn⟩
theorem dp_int_list {K : PySem.W.Frag} {F : Hp} (ms : List Int) : DpAll K F (ms.map V.int) (ms.map PyData.int) := by
  induction ms with
  | nil => exact .nil
  | cons n r ih => exact .cons (.int n) ih
theorem de_sortedSet (hc : X.calm = true) (hu : X.A.units + 64 < cLine) (ha : DE X W a te) (hm : X.mg "sorted" = none) (hm2 : X.mg "set" = none) (hg : Gl X "sorted" := by rfl) (hg2 : Gl X "set" := by rfl)
    (na : starEach [a] X.env = (false, eval a X.env) :: starEach [] X.env := by rfl) : DE X W (.Call (.Name "sorted" p) [.Call (.Name "set" p2) [a] [] q] [] pos) (eSortedSet te) :=
  ⟨⟨fun pins s σ H Q I h => by
    obtain ⟨ρ, M, N, P, PX, hs, hr, ht, hP, hX⟩ := h
    refine sset_run hc hu hg hm hg2 hm2 ha na I ⟨ρ, M, N, _, PX, hs, hr, ht, fun x M1 v H1 p hr1 af1 iv => ?_, hX⟩
    obtain ⟨d, r1, qq⟩ := rd_of hr1 iv p
    unfold setSort at qq
    split at qq
    · obtain ⟨l, ws, rfl, h1, h2⟩ := r1.list
      obtain ⟨ns, rfl, hb, qq⟩ := qq
      exact ⟨l, ws, rfl, h1, ns, dp_ints h2, hb, fun ms r pw hmem hn => hP _ M1 _ _ (qq ms pw hmem) (hr1.grow (same_new hn)) (af1.trans (.grow hr1 (same_new hn))) (fz_newLst hr1 hn (dp_int_list ms))⟩
    · exact qq.elim⟩⟩
theorem de_sortedSetM (hc : X.calm = true) (hu : X.A.units + 64 < cLine) (ha : DE X W a te) (hm : X.mg "sorted" = none) (hm2 : X.mg "set" = none) (hg : Gl X "sorted" := by rfl) (hg2 : Gl X "set" := by rfl)
    (na : starEach [a] X.env = (false, eval a X.env) :: starEach [] X.env := by rfl) : DE X W (.Call (.Name "sorted" p) [.Call (.Name "set" p2) [a] [] q] [] pos) (eSortedSetM te) :=
  ⟨⟨fun pins s σ H Q I h => by
    obtain ⟨ρ, M, N, P, PX, hs, hr, ht, hP, hX⟩ := h
    refine sset_run hc hu hg hm hg2 hm2 ha na I ⟨ρ, M, N, _, PX, hs, hr, ht, fun x M1 v H1 p hr1 af1 iv => ?_, hX⟩
    obtain ⟨d, r1, qq⟩ := rd_of hr1 iv p
    unfold setSort at qq
    split at qq
    · obtain ⟨l, ws, rfl, h1, h2⟩ := r1.list
      obtain ⟨ns, rfl, hb, qq⟩ := qq
      refine ⟨l, ws, rfl, h1, ns, dp_ints h2, hb, fun ms r pw hmem hn => ?_⟩
      obtain ⟨r2, a2⟩ := hr1.new (x := .ls (ms.map .int)) (o := .lst (ms.map V.int)) hn (dp_int_list ms)
      exact hP _ _ _ _ (qq ms pw hmem r (hr1.free hn).1) r2 (af1.trans a2) rfl
    · exact qq.elim⟩⟩
end
/-! rules by which they are walked -/
section
variable {ρ : DEnv} {M : MHp} {P : DK} {PX : DX} {te : DTE}
theorem x_sset (q : te ρ M (fun x M1 => rd M1 x fun d => setSort d fun ds => P (.d (.list ds)) M1) PX) : eSortedSet te ρ M P PX := q
theorem x_ssetM (q : te ρ M (fun x M1 => rd M1 x fun d => setSort d fun ds => ∀ p, M1 p = none → P (.r p) (mu M1 p (.ls ds))) PX) : eSortedSetM te ρ M P PX := q
theorem x_setI {ns : List Int} {k : List PyData → Prop} (hb : ns.length + 1 < scanBound) (q : ∀ ms : List Int, ms.Pairwise (· < ·) → (∀ x, x ∈ ms ↔ x ∈ ns) → k (ms.map .int)) : setSort (.list (ns.map .int)) k := ⟨ns, rfl, hb, q⟩
end
/-! ### comprehensions, walked -/
/-- what is left of a comprehension when its list is known -/
def lcI (fin : Fin') (xs : List DV) (C : MHp → Prop) (g : DTG) (tt : DTT) (te : DTE) (vs : List Nat) (ρ : DEnv) (M1 : MHp) (P : DK) : Prop := ∃ I : Nat → List DV → MHp → Prop, (∃ M', MLe M' M1 ∧ I 0 [] M') ∧ (∀ i acc M, i ≤ xs.length → I i acc M → C M) ∧
  (∀ i acc M x, xs[i]? = some x → I i acc M → g x (wipeD ρ vs) M (fun ρ2 M2 => tt ρ2 M2 (fun b M3 => if b = true then te ρ2 M3 (fun y M4 => acc.length < sizeLine ∧ ∃ M', MLe M' M4 ∧ I (i + 1) (acc ++ [y]) M') fun _ _ => False else ∃ M', MLe M' M3 ∧ I (i + 1) acc M') fun _ _ => False) fun _ _ => False) ∧
  ∀ acc M, I xs.length acc M → fin acc M P
section
variable {ρ : DEnv} {M : MHp} {P : DK} {PX : DX} {te : DTE} {fin : Fin'} {wi : DTI} {g : DTG} {tt : DTT} {vs : List Nat} {xs : List DV} {C : MHp → Prop}
theorem x_lc (q : wi ρ M (fun xs C M1 => lcI fin xs C g tt te vs ρ M1 P) PX) : eLc fin wi g tt te vs ρ M P PX := q
theorem x_yes {PT' : Bool → MHp → Prop} (q : PT' true M) : tYes ρ M PT' PX := q
theorem allD_map {ds : List PyData} {k : List PyData → Prop} (q : k ds) : allD (ds.map .d) k := by
  induction ds generalizing k with
  | nil => exact q
  | cons d r ih => exact ih q
/-- the state stays as it is: item by item what comes of it (none: left out) -/
theorem lc_opt (fs : List (Option PyData)) (hl : fs.length = xs.length) (hz : fs.length ≤ sizeLine) (hC : C M)
    (hb : ∀ (i : Nat) (x : DV) (o : Option PyData), xs[i]? = some x → fs[i]? = some o → ∀ (KT : DK) (KF : MHp → Prop), (∀ d, o = some d → KT (.d d) M) → (o = none → KF M) → g x (wipeD ρ vs) M (fun ρ2 M2 => tt ρ2 M2 (fun b M3 => Br b (te ρ2 M3 KT fun _ _ => False) (KF M3)) fun _ _ => False) fun _ _ => False)
    (q : fin ((fs.filterMap id).map .d) M P) : lcI fin xs C g tt te vs ρ M P := by
  refine ⟨fun i acc M' => M = M' ∧ acc = ((fs.take i).filterMap id).map .d, ⟨M, .refl, rfl, rfl⟩, ?_, ?_, ?_⟩
  · rintro _ _ _ _ ⟨rfl, _⟩
    exact hC
  · rintro i _ _ x hx ⟨rfl, rfl⟩
    have hi : i < fs.length := by rw [hl]; exact (List.getElem?_eq_some_iff.mp hx).1
    have ho : fs[i]? = some fs[i] := List.getElem?_eq_getElem hi
    have hs := take_succ_of ho
    refine hb i x fs[i] hx ho _ _ (fun d hd => ?_) (fun hd => ?_)
    · have hlt : (((fs.take i).filterMap id).map DV.d).length < sizeLine := by
        rw [List.length_map]
        have := List.length_filterMap_le id (fs.take i)
        rw [List.length_take] at this
        omega
      exact ⟨hlt, M, .refl, rfl, by show _ = ((fs.take (i + 1)).filterMap id).map DV.d; rw [hs, List.filterMap_append, hd]; simp⟩
    · exact ⟨M, .refl, rfl, by show _ = ((fs.take (i + 1)).filterMap id).map DV.d; rw [hs, List.filterMap_append, hd]; simp⟩
  · rintro acc _ ⟨rfl, rfl⟩
    rw [← hl, List.take_length]
    exact q
theorem fm_some {α β : Type} (f : α → β) : ∀ l : List α, (l.map fun x => some (f x)).filterMap id = l.map f
  | [] => rfl
  | x :: r => by
    rw [List.map_cons, List.filterMap_cons]
    exact congrArg _ (fm_some f r)
theorem fm_if {α : Type} (c : α → Bool) : ∀ l : List α, (l.map fun x => if c x = true then some x else none).filterMap id = l.filter c
  | [] => rfl
  | x :: r => by
    rw [List.map_cons, List.filterMap_cons, List.filter_cons]
    cases h : c x
    · exact fm_if c r
    · exact congrArg (x :: ·) (fm_if c r)
/-- each item gives one: no test -/
theorem lc_map (ds : List PyData) (hl : ds.length = xs.length) (hz : ds.length ≤ sizeLine) (hC : C M)
    (hb : ∀ (i : Nat) (x : DV) (d : PyData), xs[i]? = some x → ds[i]? = some d → ∀ KT : DK, KT (.d d) M → g x (wipeD ρ vs) M (fun ρ2 M2 => te ρ2 M2 KT fun _ _ => False) fun _ _ => False)
    (q : fin (ds.map .d) M P) : lcI fin xs C g tYes te vs ρ M P := by
  refine lc_opt (ds.map some) (by rw [List.length_map]; exact hl) (by rw [List.length_map]; exact hz) hC (fun i x o hx ho KT KF h1 h2 => ?_) (by rw [show ds.map some = ds.map (fun x => some (id x)) from rfl, fm_some, List.map_id]; exact q)
  rw [List.getElem?_map] at ho
  obtain ⟨d, hd, rfl⟩ := Option.map_eq_some_iff.mp ho
  exact hb i x d hx hd KT (h1 d rfl)
theorem finD_of {ds : List PyData} (q : P (.d (.list ds)) M) : finD (ds.map .d) M P := allD_map q
theorem finM_of {ds : List PyData} (q : ∀ p, M p = none → P (.r p) (mu M p (.ls ds))) : finM (ds.map .d) M P := allD_map q
end
/-! ### ints in lists -/
theorem canLay_ints : ∀ ns : List Int, PyData.canLayAll0 (ns.map .int) = true
  | [] => rfl
  | n :: r => by
    rw [List.map_cons]
    show (PyData.canLay0 (.int n) && PyData.canLayAll0 (r.map .int)) = true
    rw [canLay_ints r]
    rfl
theorem shaped_tupI (ns : List Int) : SeqAt.shaped (.tuple (ns.map .int)) = true := by
  unfold SeqAt.shaped
  rw [PyData.depth, PySem.W.depth_ints]
  show (PyData.canLayAll0 (ns.map .int) && _) = true
  rw [canLay_ints]
  rfl
theorem shaped_lstI (ns : List Int) : SeqAt.shaped (.list (ns.map .int)) = true := by
  unfold SeqAt.shaped
  rw [PyData.depth, PySem.W.depth_ints]
  show (PyData.canLayAll0 (ns.map .int) && _) = true
  rw [canLay_ints]
  rfl
theorem any_int (ns : List Int) (n : Int) : ((ns.map PyData.int).any fun z => PyData.eqv z (.int n)) = decide (n ∈ ns) := by
  induction ns with
  | nil => rfl
  | cons m r ih =>
    rw [List.map_cons, List.any_cons, ih]
    show ((m == n) || decide (n ∈ r)) = _
    by_cases h : n = m
    · subst h; simp
    · have h' : ¬ m = n := fun e => h e.symm
      simp [h, h']
theorem x_inTI {M : MHp} {P : DK} {ns : List Int} {n : Int} (q : P (.d (.bool (decide (n ∈ ns)))) M) : inD false (.d (.int n)) (.d (.tuple (ns.map .int))) M P := by
  refine ⟨rfl, shaped_tupI ns, ?_⟩
  rw [any_int]
  exact q
theorem x_ninTI {M : MHp} {P : DK} {ns : List Int} {n : Int} (q : P (.d (.bool (!decide (n ∈ ns)))) M) : inD true (.d (.int n)) (.d (.tuple (ns.map .int))) M P := by
  refine ⟨rfl, shaped_tupI ns, ?_⟩
  rw [any_int]
  exact q
end DL

/-! Part 10: choices and sums within a suite, turned lists, texts of numbers, ranges in tuples. -/
namespace DL
open PySem PySem.Spec PyProof.Rows L2

section
variable {X : Cx} {a b c : Expr} {ta tb tc : DSE} {pos : Pos}
/-- x if c else y, within a suite -/
def xIf (t ta tb : DSE) : DSE := fun ad x ρ M P PX => t ad x ρ M (fun y M1 => asB y fun k => Br k (ta ad x ρ M1 P PX) (tb ad x ρ M1 P PX)) PX
theorem dx_if (hc : DXE X c tc) (ha : DXE X a ta) (hb : DXE X b tb) (he : ∀ (ad : Addr) (oe : Obj) (pn : List (Addr × Obj)) whole, isTrue c (X.suite ad ((ad, oe) :: pn)).env whole = (do let v ← whole; standAt c.pos; holding [v] (truthy v)) := by intro _ _ _ _; rfl) :
    DXE X (.IfExp c a b pos) (xIf tc ta tb) := ⟨fun ad oe cls d pn hz hf => PE.imp (pe_ifExp (pt_val (hc.run ad oe cls d pn hz hf) (he ad oe pn)) (ha.run ad oe cls d pn hz hf) (hb.run ad oe cls d pn hz hf)) fun σ H Q ⟨x, ρ, M, N, P, PX, hx, hed, hs, hr, ht, hP, hX⟩ => by
  refine ⟨x, ρ, M, N, _, PX, hx, hed, hs, hr, ht, fun y M1 v H1 p hr1 af1 iv => ?_, hX⟩
  unfold asB at p
  split at p
  · rename_i k
    cases (show Dp _ _ _ _ from iv)
    refine ⟨k, rfl, ?_⟩
    cases k with
    | true => exact ⟨x, ρ, M1, N, _, PX, hx, exD_mono af1.fr hed, hs.mono af1.fr, hr1, p, fun z M2 w H2 q hr2 af2 iw => hP z M2 w H2 q hr2 (af1.trans af2) iw, hX.step af1⟩
    | false => exact ⟨x, ρ, M1, N, _, PX, hx, exD_mono af1.fr hed, hs.mono af1.fr, hr1, p, fun z M2 w H2 q hr2 af2 iw => hP z M2 w H2 q hr2 (af1.trans af2) iw, hX.step af1⟩
  · exact p.elim⟩
/-- an operation, within a suite -/
def xOp (g : D2) (ta tb : DSE) : DSE := fun ad x ρ M P PX => ta ad x ρ M (fun u M1 => tb ad x ρ M1 (fun v M2 => g u v M2 P) PX) PX
def xAdd (ta tb : DSE) : DSE := xOp (gD addD) ta tb
theorem dx_op {op : Operator} {g : D2} (ho : ∀ (ad : Addr) (oe : Obj) (pn : List (Addr × Obj)), DOp (X.suite ad ((ad, oe) :: pn)) (binaryOp op) g) (ha : DXE X a ta) (hb : DXE X b tb) : DXE X (.BinOp a op b pos) (xOp g ta tb) :=
  ⟨fun ad oe cls d pn hz hf => PE.imp (pe_op (ho ad oe pn) (ha.run ad oe cls d pn hz hf) (hb.run ad oe cls d pn hz hf)) fun σ H Q ⟨x, ρ, M, N, P, PX, hx, hed, hs, hr, ht, hP, hX⟩ =>
    ⟨x, ρ, M, N, _, PX, hx, hed, hs, hr, ht, fun u M1 v H1 p hr1 af1 iv => ⟨x, ρ, M1, N, _, PX, hx, exD_mono af1.fr hed, hs.mono af1.fr, hr1, p, fun y M2 w H2 p2 hr2 af2 iw =>
      ⟨u, y, M2, N, P, hr2, isD_mono af2.fr iv, iw, p2, fun z M3 w' H3 p3 hr3 af3 iw' => hP z M3 w' H3 p3 hr3 ((af1.trans af2).trans af3) iw'⟩, hX.step af1⟩, hX⟩⟩
theorem dx_add (ha : DXE X a ta) (hb : DXE X b tb) : DXE X (.BinOp a .Add b pos) (xAdd ta tb) := dx_op (fun _ _ _ => dop_add) ha hb
end
section
variable {X : Cx} {W : WX} {e : Expr} {te : DTE} {ta : DTA} {pos : Pos}
/-! ### str -/
def strD : PyData → (PyData → Prop) → Prop
  | .int i, k => i.natAbs.log2 < 1920 ∧ k (.str (toString i))
  | .str a, k => k (.str a)
  | _, _ => False
theorem dc_str : DCall X (.type "str") (g1 strD) := by
  intro pins s σ H vs us Q I r h
  obtain ⟨xs, M, N, P, hr, ha, hg, fo⟩ := h
  obtain ⟨v, d, rfl, r1, q⟩ := g1_of hr ha hg
  unfold strD at q
  split at q
  · cases r1.int
    exact call_str_int pins s σ H _ us Q I r ⟨_, rfl, q.1, fo.same hr q.2 (show Dp _ _ _ _ from .str _)⟩
  · cases r1.str
    exact SkE.call_str_str pins s σ H _ us Q I r ⟨_, rfl, fo.same hr q (show Dp _ _ _ _ from .str _)⟩
  · exact q.elim
/-! ### xs[::-1] of a list -/
def revD : PyData → (PyData → Prop) → Prop
  | .list xs, k => k (.list xs.reverse)
  | .tuple xs, k => k (.tuple xs.reverse)
  | _, _ => False
def eRev (te : DTE) : DTE := fun ρ M P PX => te ρ M (fun x M1 => rd M1 x fun d => revD d fun z => P (.d z) M1) PX
end
/-! ### t[::-1] of a tuple -/
section
variable {prog : Program} {w : World} {A : Around} {E : Value → Shared → Prop} {s : Shared}
theorem applied_rev {sl : Addr} {vl vu vs : Value} {n : Nat} {Q : Int × Int × Nat → Shared → Prop} (hs : s.heap.IsSliceOf sl vl vu vs) (pl : IsPart vl none) (pu : IsPart vu none) (ps : IsPart vs (some (-1)))
    (h : Q ((n : Int) - 1, -1, n) s) : wpAny (model prog w) A (Builtin.Slice.sliceApplied (.ref sl) (pure (n : Int))) Q E s := by
  obtain ⟨os, hos, hcs, hds⟩ := id hs; unfold Builtin.Slice.sliceApplied Builtin.Slice.sliceFields
  refine wpAny_bind (wpAny_bind (wpAny_field hos hds (x := vl) rfl (wpAny_bind (wpAny_field hos hds (x := vu) rfl (wpAny_bind (wpAny_field hos hds (x := vs) rfl (wpAny_pure ?_)))))))
  refine wpAny_bind (HT.slicePart_ ps ?_); show wpAny _ _ (if ((-1 : Int) == 0) = true then _ else _) _ _ s
  rw [if_neg (by decide)]; refine wpAny_bind (HT.slicePart_ pl (wpAny_bind (HT.slicePart_ pu (wpAny_bind (wpAny_pure ?_)))))
  show wpAny _ _ (match Builtin.Slice.sliceAdjust none none (-1) (n : Int) with | (lo, hi) => pure (lo, (-1 : Int), Builtin.Slice.slicePlaces lo hi (-1))) _ _ s
  have e1 : Builtin.Slice.sliceAdjust none none (-1) (n : Int) = ((n : Int) - 1, -1) := by
    unfold Builtin.Slice.sliceAdjust
    simp
  rw [e1]
  show wpAny _ _ (pure ((n : Int) - 1, (-1 : Int), Builtin.Slice.slicePlaces ((n : Int) - 1) (-1) (-1))) _ _ s
  have e2 : Builtin.Slice.slicePlaces ((n : Int) - 1) (-1) (-1) = n := by
    unfold Builtin.Slice.slicePlaces
    simp
    try omega
  rw [e2]; exact wpAny_pure h
theorem rev_pick (xs : Array Value) : ((List.range xs.size).filterMap fun (m : Nat) => xs[((xs.size : Int) - 1 + (m : Int) * -1).toNat]?).toArray = xs.toList.reverse.toArray := by
  have h := PySem.W.krv_pick xs
  rw [← PySem.W.krv_all xs, ← List.filterMap_reverse, ← PySem.W.krv_range, List.filterMap_map]
  have : ∀ l : List Nat, (∀ m ∈ l, m < xs.size) → (l.filterMap fun (m : Nat) => xs[((xs.size : Int) - 1 + (m : Int) * -1).toNat]?) = l.filterMap ((fun x => xs[x]?) ∘ fun k => xs.size - 1 - k) := by
    intro l
    induction l with
    | nil => intro _; rfl
    | cons m l ih =>
      intro hm
      have h1 := hm m (by simp)
      have e : ((xs.size : Int) - 1 + (m : Int) * -1).toNat = xs.size - 1 - m := by omega
      rw [List.filterMap_cons, List.filterMap_cons, ih fun k hk => hm k (List.mem_cons_of_mem _ hk), e]
      rfl
  rw [this _ fun m hm => List.mem_range.mp hm]
theorem getItem_tuple_rev {t sl : Addr} {items : Array Value} {vl vu vs : Value} {Q : Value → Shared → Prop} (ht : IsTup s.heap t items) (hs : s.heap.IsSliceOf sl vl vu vs) (pl : IsPart vl none) (pu : IsPart vu none) (ps : IsPart vs (some (-1)))
    (h : Q (.ref s.heap.objs.size) { s with heap := s.heap.push { cls := .type "tuple", data := .seq items.toList.reverse.toArray } }) (hsz : items.size ≤ sizeLine) : wpAny (model prog w) A (getItem (.ref t) (.ref sl)) Q E s := by
  have hok : sizeOk (.seq items.toList.reverse.toArray) := by
    show items.toList.reverse.toArray.size ≤ sizeLine
    rw [List.size_toArray, List.length_reverse, Array.length_toList]; exact hsz
  obtain ⟨os, hos, hcs, hds⟩ := id hs; have hTs : s.TypeIs (.ref sl) "slice" := ⟨os, hos, hcs⟩
  unfold getItem; try with_reducible refine wpAny_holding ?_
  first | refine wpAny_bind (wpAny_pure ?_) | skip
  refine wpAny_bind (wpAny_sequenceKey ht.typeIs (by decide) ?_); refine wpAny_bind (wpAny_callSpecial?_slot (name := Str.ofString "__getitem__") ht.typeIs PyProof.Rows.slot_tuple_getitem (wpAny_call_entry PyProof.Rows.slot_tuple_getitem ht.typeIs entry_tuple_getitem ?_ (args_tuple_getitem _ _)))
  show wpAny _ _ (Builtin.Tuple.tupleItemsOf (.ref t) >>= _) _ _ s; refine wpAny_bind (tupleItemsOf_ ht ?_)
  refine wpAny_bind (wpAny_typeOf hTs ?_); rw [if_pos (by decide)]; refine wpAny_bind (applied_rev hs pl pu ps ?_)
  have hno : ¬ ((((items.size : Int) - 1) == 0 && (-1 : Int) == 1 && items.size == items.size) = true) := by
    intro q; rw [Bool.and_eq_true, Bool.and_eq_true] at q; exact absurd q.1.2 (by decide)
  show wpAny _ _ (if (((items.size : Int) - 1) == 0 && (-1 : Int) == 1 && items.size == items.size) = true then _ else _) _ _ s
  rw [if_neg hno, rev_pick]; first
    | exact wpAny_bind (m := Builtin.Tuple.tupleExact _) (wpAny_newObj_type (wpAny_pure ⟨_, rfl, wpAny_pure h⟩) hok)
    | exact wpAny_bind (m := Builtin.Tuple.tupleExact _) (wpAny_newObj_type (wpAny_bind (wpAny_pure (wpAny_pure ⟨_, rfl, wpAny_pure h⟩))) hok)
    | exact wpAny_bind (wpAny_bind (m := Builtin.Tuple.tupleExact _) (wpAny_newObj_type (wpAny_pure (wpAny_pure ⟨_, rfl, wpAny_pure h⟩)) hok))
    | exact wpAny_bind (wpAny_bind (m := Builtin.Tuple.tupleExact _) (wpAny_newObj_type (wpAny_pure ⟨_, rfl, wpAny_pure h⟩) hok))
end
section
variable {X : Cx} {W : WX} {e : Expr} {te : DTE} {pos : Pos}
def tRevT (K : PySem.W.Frag) (te : TE) : TE := fun σ H Q => te σ H fun x H1 => ∃ a xs, x = .ref a ∧ ((SqL K H1 a xs ∧ ∀ p, H1 p = none → Q (.ref p) (upd H1 p (.lst xs.reverse))) ∨ (SqT K H1 a xs ∧ ∀ p, H1 p = none → Q (.ref p) (upd H1 p (.tup xs.reverse))))
theorem pe_revT {te : TE} {k : Nat} {p1 p2 p3 : Pos} (he : PE X e te) : PE X (.Subscript e (.Slice none none (some (.UnaryOp .USub (.Constant (.int 1) k p1) p2)) p3) pos) (tRevT X.K te) := by
  refine ⟨fun pins s σ H Q I h => ?_⟩; refine Subscript_ (thn (he.run pins s σ H _ I h) fun v s1 ⟨x, H1, I1, r1, q1⟩ => ?_)
  obtain ⟨a, xs, ex, hq⟩ := q1
  subst ex; cases r1
  have hst : PO X (some (.UnaryOp .USub (.Constant (.int 1) k p1) p2)) (tPart (tUn (rU fun i => .int (-i)) (tC (.int 1)))) := po_some (pe_un un_neg pe_int); refine wpAny_Slice (thn (po_none.run pins s1 σ H1 (fun o H2 => o = none ∧ H2 = H1) I1 ⟨rfl, rfl⟩) fun vl s2 ⟨l, H2, I2, pl, el, e2⟩ => ?_)
  subst el e2; refine thn (po_none.run pins s2 σ H2 (fun o H3 => o = none ∧ H3 = H2) I2 ⟨rfl, rfl⟩) fun vu s3 ⟨u, H3, I3, pu, eu, e3⟩ => ?_
  subst eu e3; refine thn (hst.run pins s3 σ H3 (fun o H4 => o = some (-1) ∧ H4 = H3) I3 ⟨1, rfl, -1, rfl, rfl, rfl⟩) fun vs s4 ⟨o, H4, I4, ps, eo, e4⟩ => ?_
  subst eo e4; have I5 : Inv X pins σ H4 { s4 with heap := s4.heap.push { cls := .type "slice", data := .fields #[vl, vu, vs] } } := I4.kept (t' := s4.toks) fun b ob q => Heap.get?_push_of_some _ q
  show wpAny (model X.prog X.w) X.A (subscriptTail e (.Slice none none (some (.UnaryOp .USub (.Constant (.int 1) k p1) p2)) p3) (.ref a) (.ref s4.heap.objs.size)) (EP X pins σ Q) X.xe { s4 with heap := s4.heap.push { cls := .type "slice", data := .fields #[vl, vu, vs] } }
  rcases hq with ⟨hx, q⟩ | ⟨hx, q⟩
  · obtain ⟨its, r, ht, hz⟩ := I5.list hx
    have hlen := r.length
    refine tail_any (ops := [.ref a, .ref s4.heap.objs.size]) ht.isList.typeIs (PySem.slot_list_getitem.lookup) ?_ (by with_unfolding_all rfl); refine wpAny_getItem_list_slice ht.isList (Heap.IsSliceOf.new _ vl vu vs) pl pu ps (by decide) ?_ (by rw [List.size_toArray]; omega)
    rw [PySem.W.krv_pick]; refine ⟨.ref _, _, I5.laid (t' := s4.toks) (o := .lst xs.reverse) (fun b ob q => Heap.get?_push_of_some _ q) (Nat.le_refl _) ?_, rfl, q _ (I5.hok.fresh (Nat.le_refl _))⟩
    exact ⟨by rw [List.length_reverse]; exact hz, its.reverse, 0, r.reverse, Heap.get?_push_size _ rfl⟩
  · obtain ⟨its, r, ht, hz⟩ := I5.tuple hx
    refine tail_any (ops := [.ref a, .ref s4.heap.objs.size]) ht.typeIs (PyProof.Rows.slot_tuple_getitem.lookup) ?_ (by with_unfolding_all rfl)
    refine getItem_tuple_rev ht (Heap.IsSliceOf.new _ vl vu vs) pl pu ps ?_ (by rw [List.size_toArray, ← r.length]; exact hz)
    refine ⟨.ref _, _, I5.laid (t' := s4.toks) (o := .tup xs.reverse) (fun b ob q => Heap.get?_push_of_some _ q) (Nat.le_refl _) ?_, rfl, q _ (I5.hok.fresh (Nat.le_refl _))⟩
    exact ⟨by rw [List.length_reverse]; exact hz, _, r.reverse, IsTup.new _ _⟩
theorem de_rev {k : Nat} {p1 p2 p3 : Pos} (he : DE X W e te) : DE X W (.Subscript e (.Slice none none (some (.UnaryOp .USub (.Constant (.int 1) k p1) p2)) p3) pos) (eRev te) :=
  ⟨PE.imp (pe_revT he.pe) fun σ H Q ⟨ρ, M, N, P, PX, hs, hr, ht, hP, hX⟩ =>
    ⟨ρ, M, N, _, PX, hs, hr, ht, fun x M1 v H1 p hr1 af1 iv => by
      obtain ⟨d, r1, q⟩ := rd_of hr1 iv p
      unfold revD at q
      split at q
      · obtain ⟨l, ws, rfl, h1, h2⟩ := r1.list
        exact ⟨l, ws, rfl, .inl ⟨h1, fun r hn => hP _ M1 _ _ q (hr1.grow (same_new hn)) (af1.trans (.grow hr1 (same_new hn))) (fz_newLst hr1 hn (dpAll_rev h2))⟩⟩
      · obtain ⟨l, ws, rfl, h1, h2, _⟩ := r1.tuple
        exact ⟨l, ws, rfl, .inr ⟨h1, fun r hn => hP _ M1 _ _ q (hr1.grow (same_new hn)) (af1.trans (.grow hr1 (same_new hn))) (fz_newTup hr1 hn (dpAll_rev h2))⟩⟩
      · exact q.elim, hX⟩⟩
end
/-! ### tuple(range(..)), list(range(..)) -/
def rgD (a b : Int) : List PyData := (List.range (b - a).toNat).map fun i => .int (a + (i : Nat))
theorem rg_dp {K : PySem.W.Frag} {F : Hp} (a b : Int) : DpAll K F (rgV a b) (rgD a b) := by
  unfold rgV rgD
  generalize List.range (b - a).toNat = l
  induction l with
  | nil => exact .nil
  | cons i l ih => exact .cons (.int _) ih
/-- the bounds -/
abbrev DTR := DEnv → MHp → (Int → Int → MHp → Prop) → DX → Prop
def rRg1 (te : DTE) : DTR := fun ρ M P PX => te ρ M (fun x M1 => asI x fun j => P 0 j M1) PX
def rRg2 (ta tb : DTE) : DTR := fun ρ M P PX => ta ρ M (fun x M1 => tb ρ M1 (fun y M2 => asI x fun i => asI y fun j => P i j M2) PX) PX
def LR (K : PySem.W.Frag) (W : WX) (t : DTR) : L2.St → Hp → (Int → Int → Hp → Prop) → Prop := fun σ H Q => ∃ ρ M N P PX, SRel K (fz M N H) σ ρ ∧ HRel K M N H ∧ t ρ M P PX ∧ (∀ i j M' H', P i j M' → HRel K M' N H' → Af M N H M' H' → Q i j H') ∧ XEnd K W σ M N H PX
section
variable {X : Cx} {W : WX} {a b : Expr} {ta tb : DTE} {tr : DTR} {p p2 pos pos2 : Pos}
structure DR (X : Cx) (W : WX) (e : Expr) (t : DTR) : Prop where
  pr : PRg X e (LR X.K W t)
theorem dr_1 (hm : X.mg "range" = none) (ha : DE X W a ta) (hg : Gl X "range" := by rfl) (na : starEach [a] X.env = (false, eval a X.env) :: starEach [] X.env := by rfl) : DR X W (.Call (.Name "range" p) [a] [] pos) (rRg1 ta) :=
  ⟨fun pins s σ H Q I ⟨ρ, M, N, P, PX, hs, hr, ht, hP, hX⟩ => prg_1 hg hm ha.pe na pins s σ H Q I ⟨ρ, M, N, _, PX, hs, hr, ht, fun x M1 v H1 q hr1 af1 iv => by
    unfold asI at q
    split at q
    · cases (show Dp _ _ _ _ from iv)
      exact ⟨_, rfl, hP _ _ M1 H1 q hr1 af1⟩
    · exact q.elim, hX⟩⟩
theorem dr_2 (hm : X.mg "range" = none) (ha : DE X W a ta) (hb : DE X W b tb) (hg : Gl X "range" := by rfl) (na : starEach [a, b] X.env = (false, eval a X.env) :: starEach [b] X.env := by rfl) (nb : starEach [b] X.env = (false, eval b X.env) :: starEach [] X.env := by rfl)
    (hp : (backTo pos (starEach [b] X.env)).any (·.1) = false := by rfl) : DR X W (.Call (.Name "range" p) [a, b] [] pos) (rRg2 ta tb) :=
  ⟨fun pins s σ H Q I ⟨ρ, M, N, P, PX, hs, hr, ht, hP, hX⟩ => prg_2 hg hm ha.pe hb.pe na nb hp pins s σ H Q I ⟨ρ, M, N, _, PX, hs, hr, ht, fun x M1 v H1 q hr1 af1 iv => ⟨ρ, M1, N, _, PX, hs.mono af1.fr, hr1, q, fun y M2 w H2 q2 hr2 af2 iw => by
    unfold asI at q2
    split at q2
    · cases (show Dp _ _ _ _ from iv)
      split at q2
      · cases (show Dp _ _ _ _ from iw)
        exact ⟨_, _, rfl, rfl, hP _ _ M2 H2 q2 hr2 (af1.trans af2)⟩
      · exact q2.elim
    · exact q2.elim, hX.step af1⟩, hX⟩⟩
def eTupRg (tr : DTR) : DTE := fun ρ M P PX => tr ρ M (fun i j M1 => RgOk i j ∧ P (.d (.tuple (rgD i j))) M1) PX
def eLstRg (tr : DTR) : DTE := fun ρ M P PX => tr ρ M (fun i j M1 => RgOk i j ∧ P (.d (.list (rgD i j))) M1) PX
def eLstRgM (tr : DTR) : DTE := fun ρ M P PX => tr ρ M (fun i j M1 => RgOk i j ∧ ∀ p, M1 p = none → P (.r p) (mu M1 p (.ls (rgD i j)))) PX
theorem de_tupRg {e : Expr} (hc : X.calm = true) (hm : X.mg "tuple" = none) (hr : DR X W e tr) (hg : Gl X "tuple" := by rfl) (na : starEach [e] X.env = (false, eval e X.env) :: starEach [] X.env := by rfl) : DE X W (.Call (.Name "tuple" p) [e] [] pos) (eTupRg tr) :=
  ⟨PE.imp (pe_tupRg hc hg hm hr.pr na) fun σ H Q ⟨ρ, M, N, P, PX, hs, hr, ht, hP, hX⟩ => ⟨ρ, M, N, _, PX, hs, hr, ht, fun i j M1 H1 q hr1 af1 => ⟨q.1, fun l hl => hP _ M1 _ _ q.2 (hr1.grow (same_new hl)) (af1.trans (.grow hr1 (same_new hl))) (fz_newTup hr1 hl (rg_dp i j))⟩, hX⟩⟩
theorem de_lstRg {e : Expr} (hc : X.calm = true) (hm : X.mg "list" = none) (hr : DR X W e tr) (hg : Gl X "list" := by rfl) (na : starEach [e] X.env = (false, eval e X.env) :: starEach [] X.env := by rfl) : DE X W (.Call (.Name "list" p) [e] [] pos) (eLstRg tr) :=
  ⟨PE.imp (pe_listRg hc hg hm hr.pr na) fun σ H Q ⟨ρ, M, N, P, PX, hs, hr, ht, hP, hX⟩ => ⟨ρ, M, N, _, PX, hs, hr, ht, fun i j M1 H1 q hr1 af1 => ⟨q.1, fun l hl => hP _ M1 _ _ q.2 (hr1.grow (same_new hl)) (af1.trans (.grow hr1 (same_new hl))) (fz_newLst hr1 hl (rg_dp i j))⟩, hX⟩⟩
theorem de_lstRgM {e : Expr} (hc : X.calm = true) (hm : X.mg "list" = none) (hr : DR X W e tr) (hg : Gl X "list" := by rfl) (na : starEach [e] X.env = (false, eval e X.env) :: starEach [] X.env := by rfl) : DE X W (.Call (.Name "list" p) [e] [] pos) (eLstRgM tr) :=
  ⟨PE.imp (pe_listRg hc hg hm hr.pr na) fun σ H Q ⟨ρ, M, N, P, PX, hs, hr, ht, hP, hX⟩ => ⟨ρ, M, N, _, PX, hs, hr, ht, fun i j M1 H1 q hr1 af1 => ⟨q.1, fun l hl => by
    obtain ⟨r2, a2⟩ := hr1.new (x := .ls (rgD i j)) (o := .lst (rgV i j)) hl (rg_dp i j)
    exact hP _ _ _ _ (q.2 l (hr1.free hl).1) r2 (af1.trans a2) rfl⟩, hX⟩⟩
end
/-! ### a text, many times -/
def repS (x : Str) (n : Int) : Str := ⟨(List.replicate n.toNat x.cps).foldl (· ++ ·) #[]⟩
def mulSD : PyData → PyData → (PyData → Prop) → Prop
  | .str x, .int n, k => 2 ≤ n ∧ n ≤ 1000 ∧ 1 ≤ x.length ∧ x.length ≤ 1000 ∧ (repS x n).length ≤ sizeLine ∧ k (.str (repS x n))
  | _, _, _ => False
theorem dop_mulS {X : Cx} : DOp X (binaryOp .Mult) (gD mulSD) := by
  intro pins s σ H x y v u Q I rx ry hq
  obtain ⟨dx, dy, M, N, P, hr, r1, r2, hf, fo⟩ := gD_of hq
  unfold mulSD at hf
  split at hf
  · rename_i z n
    obtain ⟨a1, a2, a3, a4, a5, q⟩ := hf
    cases r1.str; cases r2.int
    obtain ⟨t, rfl⟩ := rx
    obtain ⟨t', rfl⟩ := ry
    have hno : ¬ n < 1 := by omega
    have hz : (n == 1 || z.length == 0) = false := by
      rw [Bool.or_eq_false_iff]
      exact ⟨beq_eq_false_iff_ne.mpr (by omega), beq_eq_false_iff_ne.mpr (by omega)⟩
    refine PySem.P.mul_str (by rw [decide_eq_false (by omega), decide_eq_false (by omega)]; rfl) (fun _ _ => ?_) (fun _ _ => ?_) ?_
    · have : n ≤ (2 ^ 63 - 1) / 1000 := by omega
      have h2 : (1000 : Int) ≤ (2 ^ 63 - 1) / n := (Int.le_ediv_iff_mul_le (by omega)).mpr (by omega)
      omega
    · show decide (z.length * n.toNat > sizeLine) = false
      have h3 : z.length * n.toNat ≤ 1000 * 1000 := Nat.mul_le_mul a4 (by omega)
      rw [sizeLine_eq]
      exact decide_eq_false (by omega)
    · rw [if_neg hno, if_neg (by rw [hz]; exact Bool.false_ne_true)]
      exact ⟨a5, .str (repS z n), H, I.tok _, ⟨_, rfl⟩, fo.same hr q (show Dp _ _ _ _ from .str _)⟩
  · exact hf.elim
/-! rules by which they are walked -/
section
variable {ρ : DEnv} {M : MHp} {P : DK} {PX : DX} {te ta tb : DTE} {k : PyData → Prop} {ys : List PyData} {n m : Int} {ad : Addr} {x : XD} {tr : DTR} {PR : Int → Int → MHp → Prop}
theorem x_rev (q : te ρ M (fun x M1 => rd M1 x fun d => revD d fun z => P (.d z) M1) PX) : eRev te ρ M P PX := q
theorem x_revL (q : k (.list ys.reverse)) : revD (.list ys) k := q
theorem x_revT (q : k (.tuple ys.reverse)) : revD (.tuple ys) k := q
theorem x_strI (h : n.natAbs.log2 < 1920) (q : k (.str (toString n))) : strD (.int n) k := ⟨h, q⟩
theorem x_strS {z : Str} (q : k (.str z)) : strD (.str z) k := q
theorem x_xIf {t ta tb : DSE} (q : t ad x ρ M (fun y M1 => asB y fun k => Br k (ta ad x ρ M1 P PX) (tb ad x ρ M1 P PX)) PX) : xIf t ta tb ad x ρ M P PX := q
theorem x_xAdd {ta tb : DSE} (q : ta ad x ρ M (fun u M1 => tb ad x ρ M1 (fun v M2 => gD addD u v M2 P) PX) PX) : xAdd ta tb ad x ρ M P PX := q
theorem x_tupRg (q : tr ρ M (fun i j M1 => RgOk i j ∧ P (.d (.tuple (rgD i j))) M1) PX) : eTupRg tr ρ M P PX := q
theorem x_lstRg (q : tr ρ M (fun i j M1 => RgOk i j ∧ P (.d (.list (rgD i j))) M1) PX) : eLstRg tr ρ M P PX := q
theorem x_lstRgM (q : tr ρ M (fun i j M1 => RgOk i j ∧ ∀ p, M1 p = none → P (.r p) (mu M1 p (.ls (rgD i j)))) PX) : eLstRgM tr ρ M P PX := q
theorem x_rRg1 (q : te ρ M (fun x M1 => asI x fun j => PR 0 j M1) PX) : rRg1 te ρ M PR PX := q
theorem x_rRg2 (q : ta ρ M (fun x M1 => tb ρ M1 (fun y M2 => asI x fun i => asI y fun j => PR i j M2) PX) PX) : rRg2 ta tb ρ M PR PX := q
end
end DL

/-! Part 11: rules for texts, walked. -/
namespace DL
open PySem PySem.Spec PyProof.Rows L2
section
variable {M : MHp} {P : DK} {k : PyData → Prop} {x y z : Str} {n : Int} {c : Nat}
theorem shaped_str (h : PyData.strOk x = true) : SeqAt.shaped (.str x) = true := by
  unfold SeqAt.shaped
  rw [PyData.depth]
  show (PyData.strOk x && _) = true
  rw [h]
  rfl
theorem beq_str : (x == y) = decide (x = y) := by
  by_cases h : x = y
  · subst h; simp
  · simp [h]
theorem x_eqStr (h1 : PyData.strOk x = true) (h2 : PyData.strOk y = true) (q : k (.bool (decide (x = y)))) : eqD (.str x) (.str y) k := ⟨shaped_str h1, shaped_str h2, by
  have e : PyData.eqv (.str x) (.str y) = decide (x = y) := beq_str
  rw [e]; exact q⟩
theorem x_neStr (h1 : PyData.strOk x = true) (h2 : PyData.strOk y = true) (q : k (.bool (decide (x ≠ y)))) : neD (.str x) (.str y) k := ⟨shaped_str h1, shaped_str h2, by
  have e : (!PyData.eqv (.str x) (.str y)) = decide (x ≠ y) := by
    rw [decide_not]
    exact congrArg _ beq_str
  rw [e]; exact q⟩
theorem x_lenS (h : x.length ≤ sizeLine) (q : k (.int x.length)) : lenD (.str x) k := ⟨h, q⟩
theorem x_ixS (hl : x.length ≤ sizeLine) (h : atI x.cps.toList n = some c) (q : k (.str ⟨#[c]⟩)) : ixD (.str x) (.int n) k := ⟨hl, c, h, q⟩
theorem x_inS (q : P (.d (.bool (decide (c ∈ y.cps.toList)))) M) : inD false (.d (.str ⟨#[c]⟩)) (.d (.str y)) M P := ⟨c, rfl, q⟩
theorem x_ninS (q : P (.d (.bool (!decide (c ∈ y.cps.toList)))) M) : inD true (.d (.str ⟨#[c]⟩)) (.d (.str y)) M P := ⟨c, rfl, q⟩
theorem x_walkS {K : List DV → Prop} (q : K (x.cps.toList.map fun c => .d (.str ⟨#[c]⟩))) : walkD (.str x) K := q
theorem x_slS {lo hi : Option Int} (h : x.length ≤ sizeLine) (q : k (.str (cutSt x lo hi))) : slD (.str x) lo hi k := ⟨h, q⟩
theorem x_mulS (h : 2 ≤ n ∧ n ≤ 1000 ∧ 1 ≤ x.length ∧ x.length ≤ 1000 ∧ (repS x n).length ≤ sizeLine) (q : k (.str (repS x n))) : mulSD (.str x) (.int n) k := ⟨h.1, h.2.1, h.2.2.1, h.2.2.2.1, h.2.2.2.2, q⟩
/-- all([c(x) for x in ..]) over what a list of data is made of -/
theorem bools_map {α : Type} (l : List α) (f : α → Bool) : (l.map fun a => PyData.bool (f a)) = (l.map f).map .bool := by rw [List.map_map]; rfl
theorem all_id {α : Type} (l : List α) (f : α → Bool) : (l.map f).all id = l.all f := by rw [List.all_map]; rfl
theorem any_id {α : Type} (l : List α) (f : α → Bool) : (l.map f).any id = l.any f := by rw [List.any_map]; rfl
theorem x_allM {α : Type} {l : List α} {f : α → Bool} (q : k (.bool (l.all f))) : allDb (.list (l.map fun a => .bool (f a))) k := ⟨l.map f, bools_map l f, by rw [all_id]; exact q⟩
theorem x_anyM {α : Type} {l : List α} {f : α → Bool} (q : k (.bool (l.any f))) : anyDb (.list (l.map fun a => .bool (f a))) k := ⟨l.map f, bools_map l f, by rw [any_id]; exact q⟩
end
/-- over the items of a list of things, each gives one -/
theorem lc_of {ρ : DEnv} {M : MHp} {P : DK} {te : DTE} {fin : Fin'} {g : DTG} {vs : List Nat} {C : MHp → Prop} {α : Type} {l : List α} {e : α → DV} (f : α → PyData) (hz : l.length ≤ sizeLine) (hC : C M)
    (hb : ∀ a ∈ l, ∀ KT : DK, KT (.d (f a)) M → g (e a) (wipeD ρ vs) M (fun ρ2 M2 => te ρ2 M2 KT fun _ _ => False) fun _ _ => False)
    (q : fin ((l.map f).map .d) M P) : lcI fin (l.map e) C g tYes te vs ρ M P := by
  refine lc_map (l.map f) (by simp) (by rw [List.length_map]; exact hz) hC (fun i x d hx hd KT hK => ?_) q
  rw [List.getElem?_map] at hx hd
  obtain ⟨a, ha, rfl⟩ := Option.map_eq_some_iff.mp hx
  rw [ha] at hd
  cases hd
  exact hb a (List.mem_of_getElem? ha) KT hK
section
variable {ρ : DEnv} {M : MHp} {PX : DX} {PG' : DEnv → MHp → Prop} {u : DTGs} {a b c d e : PyData}
theorem x_gTp1 (q : u [.d a] ρ M PG' PX) : gTp 1 u (.d (.tuple [a])) ρ M PG' PX := ⟨rfl, q⟩
theorem x_gTp2 (q : u [.d a, .d b] ρ M PG' PX) : gTp 2 u (.d (.tuple [a, b])) ρ M PG' PX := ⟨rfl, q⟩
theorem x_gTp3 (q : u [.d a, .d b, .d c] ρ M PG' PX) : gTp 3 u (.d (.tuple [a, b, c])) ρ M PG' PX := ⟨rfl, q⟩
theorem x_gTp4 (q : u [.d a, .d b, .d c, .d d] ρ M PG' PX) : gTp 4 u (.d (.tuple [a, b, c, d])) ρ M PG' PX := ⟨rfl, q⟩
theorem x_gTp5 (q : u [.d a, .d b, .d c, .d d, .d e] ρ M PG' PX) : gTp 5 u (.d (.tuple [a, b, c, d, e])) ρ M PG' PX := ⟨rfl, q⟩
end
/-! ### rows of ints -/
theorem dataLt_tpI (a b : List Int) : PySem.W.dataLt (.tuple (a.map .int)) (.tuple (b.map .int)) = decide (a < b) := by
  rw [PySem.W.dataLt_tuple]
  exact PySem.W.dataLt_ints a b
def sortR (R : List (List Int)) : List (List Int) := R.mergeSort fun a b => decide (a ≤ b)
theorem sortL_rows (R : List (List Int)) : sortL (R.map fun r => .tuple (r.map .int)) = (sortR R).map fun r => .tuple (r.map .int) := by
  unfold sortL sortR
  refine (List.map_mergeSort fun a _ b _ => ?_).symm
  show _ = !PySem.W.dataLt (.tuple (b.map .int)) (.tuple (a.map .int))
  rw [dataLt_tpI]
  by_cases h : b < a
  · have h' : ¬ a ≤ b := fun r => List.not_lt.mpr r h
    simp [h, h']
  · have h' : a ≤ b := List.not_lt.mp h
    simp [h, h']
end DL

/-! Part 12: slices by take and drop, ranges of ints, order of rows and names. -/
namespace DL
open PySem PySem.Spec PyProof.Rows L2

theorem cut_take {α : Type} {xs : List α} {n : Int} (h0 : 0 ≤ n) : cutG xs none (some n) = xs.take n.toNat := by
  unfold cutG
  rw [HT.sIx_none, show HT.sIx xs.length xs.length (some n) = min n.toNat xs.length from if_neg (by omega), List.drop_zero, Nat.sub_zero]
  rcases Nat.le_total n.toNat xs.length with g | g
  · rw [Nat.min_eq_left g]
  · rw [Nat.min_eq_right g, List.take_length, List.take_of_length_le g]
theorem cut_drop {α : Type} {xs : List α} {n : Int} (h0 : 0 ≤ n) : cutG xs (some n) none = xs.drop n.toNat := by
  unfold cutG
  rw [HT.sIx_none, show HT.sIx xs.length 0 (some n) = min n.toNat xs.length from if_neg (by omega)]
  rcases Nat.le_total n.toNat xs.length with g | g
  · rw [Nat.min_eq_left g, List.take_of_length_le (by rw [List.length_drop]; omega)]
  · rw [Nat.min_eq_right g, List.drop_length, List.drop_of_length_le g, List.take_nil]
theorem cut_m1 {α : Type} {xs : List α} : cutG xs none (some (-1)) = xs.dropLast := by
  unfold cutG
  have e : HT.sIx xs.length xs.length (some (-1)) = xs.length - 1 := by
    show (if (-1 : Int) < 0 then (-1 + (xs.length : Int)).toNat else min (-1 : Int).toNat xs.length) = _
    rw [if_pos (by decide)]
    omega
  rw [HT.sIx_none, e, List.drop_zero, List.dropLast_eq_take]
  rfl
theorem cut_len {α : Type} {xs : List α} {lo hi : Option Int} : (cutG xs lo hi).length ≤ xs.length := by
  unfold cutG
  rw [List.length_take, List.length_drop]
  omega
theorem at_last {xs : List PyData} {x : PyData} : atI (xs ++ [x]) (-1) = some x := by
  have e : ixN (xs ++ [x]).length (-1) = some xs.length := by
    unfold ixN
    rw [if_neg (by decide), List.length_append]
    simp
    omega
  unfold atI
  rw [e]
  simp
theorem last_of {α : Type} {l : List α} (h : 0 < l.length) : ∃ i x, l = i ++ [x] := by
  cases e : l.reverse with
  | nil => rw [List.reverse_eq_nil_iff] at e; subst e; simp at h
  | cons a b => exact ⟨b.reverse, a, by rw [← List.reverse_reverse l, e, List.reverse_cons]⟩
theorem x_neSelf {d : PyData} {k : PyData → Prop} (h1 : SeqAt.shaped d = true) (q : k (.bool false)) : neD d d k := ⟨h1, h1, by rw [eqv_self h1]; exact q⟩
/-- a .. b - 1 -/
def rI (a b : Int) : List Int := (List.range (b - a).toNat).map fun i => a + (i : Nat)
theorem rgD_eq (a b : Int) : rgD a b = (rI a b).map .int := by unfold rgD rI; rw [List.map_map]; rfl
end DL

/-! Part 13: suites of an except clause, statement by statement. -/
namespace DL
open PySem PySem.Spec PyProof.Rows L2

def LSv (K : PySem.W.Frag) (a : Addr) (cls : Value) (d : Option Addr) (ts : DSu) : TS := fun D σ H => ∃ x ρ M N E, x.cls = cls ∧ ExD K (fz M N H) x d ∧ SRel K (fz M N H) σ ρ ∧ HRel K M N H ∧ ts a x E ρ M ∧ EndsOk K W0 M N H E D
structure DSusq (X : Cx) (st : List Stmt) (ts : DSu) : Prop where
  run : ∀ (a : Addr) (oe : Obj) (cls : Value) (d : Option Addr) (pn : List (Addr × Obj)), Zc cls d oe → (∃ vs, oe.data = .fields vs) → PSs (X.suite a ((a, oe) :: pn)) st (LSv X.K a cls d ts)
section
variable {X : Cx} {e : Expr} {t : DSE} {rest st : List Stmt} {ts : DSu} {pos : Pos}
theorem dsu_of (h : DSusq X st ts) : DSusp X st ts := ⟨fun a oe cls d pn hz hf => PSs.imp (h.run a oe cls d pn hz hf) fun D σ H ⟨x, ρ, M, N, E, hx, hed, _, hs, hr, ht, hE⟩ => ⟨x, ρ, M, N, E, hx, hed, hs, hr, ht, hE⟩⟩
theorem dsq_plain {t : DTS} (h : ∀ (a : Addr) (oe : Obj) (pn : List (Addr × Obj)), DSs (X.suite a ((a, oe) :: pn)) W0 st t) : DSusq X st (fun _ _ => t) :=
  ⟨fun a oe cls d pn hz hf => PSs.imp (h a oe pn).ps fun D σ H ⟨x, ρ, M, N, E, _, _, hs, hr, ht, hE⟩ => ⟨ρ, M, N, E, hs, hr, ht, hE⟩⟩
theorem dsq_ret (h : DXE X e t) : DSusq X [.Return (some e) pos] (xRet t) :=
  ⟨fun a oe cls d pn hz hf => PSs.imp (pss_one (ps_ret (h.run a oe cls d pn hz hf))) fun D σ H ⟨x, ρ, M, N, E, hx, hed, hs, hr, ht, hE⟩ =>
    ⟨x, ρ, M, N, E.rt, fun _ _ => False, hx, hed, hs, hr, ht, hE.rt, fun _ _ _ _ z => z.elim⟩⟩
/-- v = e, the rest of the suite -/
def xSet (i : Nat) (t : DSE) (ts : DSu) : DSu := fun a x E ρ M => t a x ρ M (fun v M1 => ts a x E (ρ.set i (some v)) M1) (fun _ _ => False)
theorem dsq_set {i : Nat} {n : Str} {pos' : Pos} (hN : X.N.Nodup) (h : DXE X e t) (hr : DSusq X rest ts) (hi : X.N[i]? = some n := by rfl) (hx : Loc X.env.scope n := by first | exact Or.inl rfl | exact Or.inr rfl)
    (hs : ∀ (a : Addr) (oe : Obj) (pn : List (Addr × Obj)), swapsWith e (some (.Name n pos')) pos.line (X.suite a ((a, oe) :: pn)).env = pure false := by intro _ _ _; rfl)
    (hf : X.fn n = true ∨ X.env.scope.names.lookup n = some .local := by first | exact .inl rfl | exact .inr rfl | assumption) : DSusq X (.Assign [.Name n pos'] e pos :: rest) (xSet i t ts) :=
  ⟨fun a oe cls d pn hz hf' => PSs.imp (pss_cons (ps_set (X := X.suite a ((a, oe) :: pn)) hN hi hx (h.run a oe cls d pn hz hf') (hs a oe pn) hf) (hr.run a oe cls d pn hz hf')) fun D σ H ⟨x, ρ, M, N, E, hx, hed, hs, hr, ht, hE⟩ =>
    ⟨x, ρ, M, N, (fun v M1 => ts a x E (ρ.set i (some v)) M1), fun _ _ => False, hx, hed, hs, hr, ht, fun y M' v H' p hr' af iv => ⟨x, ρ.set i (some y), M', N, E, hx, exD_mono af.fr hed, (hs.mono af.fr).set iv i, hr', p, hE.step af⟩, fun _ _ _ _ z => z.elim⟩⟩
theorem x_xSet {i : Nat} {a : Addr} {x : XD} {E : DEnds} {ρ : DEnv} {M : MHp} (q : t a x ρ M (fun v M1 => ts a x E (ρ.set i (some v)) M1) (fun _ _ => False)) : xSet i t ts a x E ρ M := q
end
end DL

/-! Part 14: dicts whose keys are ints and texts. -/
namespace DL
open PySem PySem.Spec PyProof.Rows L2

def keyData : Key → PyData
  | .inl i => .int i
  | .inr x => .str x
def valD (kvs : List (Key × DV)) (k : Key) : Option DV := (kvs.find? fun p => decide (p.1 = k)).map (·.2)
def putD (kvs : List (Key × DV)) (k : Key) (v : DV) : List (Key × DV) :=
  if (kvs.any fun kv => decide (kv.1 = k)) = true then kvs.map (fun kv => if kv.1 = k then (kv.1, v) else kv) else kvs ++ [(k, v)]
abbrev PKV (K : PySem.W.Frag) (F : Hp) : List (Key × V) → List (Key × DV) → Prop := Paired fun (p : Key × V) (q : Key × DV) => p.1 = q.1 ∧ IsD K F p.2 q.2
theorem isKey {K : PySem.W.Frag} {F : Hp} {v : V} {x : DV} {k : Key} (q : IsD K F v x) (h : asKey x = some k) : v = kV k := by
  cases x with
  | r _ => cases h
  | d z =>
    cases z with
    | int i => cases h; cases (show Dp _ _ _ _ from q); rfl
    | str i => cases h; cases (show Dp _ _ _ _ from q); rfl
    | _ => cases h
theorem pk_val {K : PySem.W.Frag} {F : Hp} {ws : List (Key × V)} {kvs : List (Key × DV)} (h : PKV K F ws kvs) (k : Key) : (valV ws k = none ∧ valD kvs k = none) ∨ ∃ v x, valV ws k = some v ∧ valD kvs k = some x ∧ IsD K F v x := by
  induction h with
  | nil => exact .inl ⟨rfl, rfl⟩
  | @cons p q ws kvs h1 h2 ih =>
    obtain ⟨e, i⟩ := h1
    by_cases hk : p.1 = k
    · refine .inr ⟨p.2, q.2, valV_pos hk, ?_, i⟩
      unfold valD
      rw [List.find?_cons, decide_eq_true (e ▸ hk : q.1 = k)]
      rfl
    · have e2 : valD (q :: kvs) k = valD kvs k := by
        unfold valD
        rw [List.find?_cons, decide_eq_false (fun z => hk (e.trans z) : ¬ q.1 = k)]
      rw [valV_neg hk, e2]
      exact ih
theorem pk_any {K : PySem.W.Frag} {F : Hp} {ws : List (Key × V)} {kvs : List (Key × DV)} (h : PKV K F ws kvs) (k : Key) : (ws.any fun p => decide (p.1 = k)) = kvs.any fun p => decide (p.1 = k) := by
  induction h with
  | nil => rfl
  | cons h1 h2 ih => rw [List.any_cons, List.any_cons, ih, h1.1]
theorem pk_repl {K : PySem.W.Frag} {F : Hp} {ws : List (Key × V)} {kvs : List (Key × DV)} {v : V} {x : DV} (h : PKV K F ws kvs) (k : Key) (i : IsD K F v x) : PKV K F (ws.map fun kv => if kv.1 = k then (kv.1, v) else kv) (kvs.map fun kv => if kv.1 = k then (kv.1, x) else kv) := by
  induction h with
  | nil => exact .nil
  | @cons p q ws kvs h1 h2 ih =>
    rw [List.map_cons, List.map_cons]
    refine .cons ?_ ih
    by_cases hk : p.1 = k
    · rw [if_pos hk, if_pos (h1.1 ▸ hk : q.1 = k)]
      exact ⟨h1.1, i⟩
    · rw [if_neg hk, if_neg (fun z => hk (h1.1.trans z) : ¬ q.1 = k)]
      exact h1
theorem pk_snoc {K : PySem.W.Frag} {F : Hp} {ws : List (Key × V)} {kvs : List (Key × DV)} {v : V} {x : DV} (h : PKV K F ws kvs) (k : Key) (i : IsD K F v x) : PKV K F (ws ++ [(k, v)]) (kvs ++ [(k, x)]) := by
  induction h with
  | nil => exact .cons ⟨rfl, i⟩ .nil
  | cons h1 h2 ih => exact .cons h1 ih
theorem pk_put {K : PySem.W.Frag} {F : Hp} {ws : List (Key × V)} {kvs : List (Key × DV)} {v : V} {x : DV} (h : PKV K F ws kvs) (k : Key) (i : IsD K F v x) : PKV K F (putK ws k v) (putD kvs k x) := by
  unfold putK putD
  rw [pk_any h k]
  split
  · exact pk_repl h k i
  · exact pk_snoc h k i
theorem pk_mono {K : PySem.W.Frag} {F G : Hp} (s : Same F G) {ws : List (Key × V)} {kvs : List (Key × DV)} (h : PKV K F ws kvs) : PKV K G ws kvs := Paired.mapP h fun _ _ z => ⟨z.1, isD_mono s z.2⟩
section
variable {K : PySem.W.Frag} {M : MHp} {N : Hid} {H : Hp}
theorem dk_at (hr : HRel K M N H) {a : Addr} {kvs : List (Key × DV)} (e : M a = some (.dk kvs)) : ∃ ws, H a = some (.dK ws) ∧ PKV K (fz M N H) ws kvs := by
  obtain ⟨o, h1, h2⟩ := hr.obj a _ e
  cases o with
  | dK ws => exact ⟨ws, h1, h2⟩
  | _ => exact (show False from h2).elim
end
section
variable {X : Cx} {W : WX} {e o i f value : Expr} {es : List Expr} {te to ti tx tv : DTE} {ta : DTA} {pos pos' apos cpos : Pos}
/-- {} -/
def eDkM : DTE := fun _ M P _ => ∀ p, M p = none → P (.r p) (mu M p (.dk []))
theorem de_dkM : DE X W (.Dict [] [] pos) eDkM := ⟨PE.imp pe_dnewK fun σ H Q ⟨ρ, M, N, P, PX, hs, hr, ht, hP, hX⟩ => fun p hp => by
  obtain ⟨r2, a2⟩ := hr.new (x := .dk []) (o := .dK []) hp .nil
  exact hP _ _ _ _ (ht p (hr.free hp).1) r2 a2 rfl⟩
/-- d[k] -/
def gGetK : D2 := fun x y M P => match x, asKey y with
  | .r a, some k => match M a with
    | some (.dk kvs) => ∃ v, valD kvs k = some v ∧ P v M
    | _ => False
  | _, _ => False
theorem de_getK (hu : X.A.units + 1 < cLine) (ho : DE X W o to) (hi : DE X W i ti) (hs : NoSl i) : DE X W (.Subscript o i pos) (eOp gGetK to ti) :=
  ⟨PE.imp (pe_dget hu ho.pe hi.pe hs) fun σ H Q ⟨ρ, M, N, P, PX, hs, hr, ht, hP, hX⟩ => ⟨ρ, M, N, _, PX, hs, hr, ht, fun x M1 v H1 p hr1 af1 iv => ⟨ρ, M1, N, _, PX, hs.mono af1.fr, hr1, p, fun y M2 u H2 p2 hr2 af2 iu => by
    unfold gGetK at p2
    split at p2
    · rename_i a k hk
      split at p2
      · rename_i kvs q
        obtain ⟨w, hw, pw⟩ := p2
        obtain ⟨ws, h1, h2⟩ := dk_at hr2 q
        rcases pk_val h2 k with z | ⟨v', x', z1, z2, z3⟩
        · rw [z.2] at hw; cases hw
        · rw [z2] at hw
          cases hw
          refine ⟨a, v', iv, ?_, hP _ M2 _ H2 pw hr2 (af1.trans af2) z3⟩
          rw [isKey iu hk, ← z1]
          exact DGet.k h1
      · exact p2.elim
    · exact p2.elim, hX.step af1⟩, hX⟩⟩
/-- d[k] = v -/
def putDK (x y v : DV) (M : MHp) (K : MHp → Prop) : Prop := match x, asKey y with
  | .r a, some k => match M a with
    | some (.dk kvs) => kvs.length < sizeLine ∧ K (mu M a (.dk (putD kvs k v)))
    | _ => False
  | _, _ => False
def sPutK (to ti tv : DTE) : DTS := fun E ρ M => tv ρ M (fun v M1 => to ρ M1 (fun x M2 => ti ρ M2 (fun y M3 => putDK x y v M3 fun M4 => E.nx ρ M4) fun x M1 => E.ex x ρ M1) fun x M1 => E.ex x ρ M1) fun x M1 => E.ex x ρ M1
theorem ds_putK (hu : X.A.units + 1 < cLine) (ho : DE X W o to) (hi : DE X W i ti) (hv : DE X W value tv) (hs : swapsWith value (some (.Subscript o i pos')) pos.line X.env = pure false := by rfl) : DS X W (.Assign [.Subscript o i pos'] value pos) (sPutK to ti tv) :=
  ⟨PS.imp (ps_dput hu ho.pe hi.pe hv.pe hs) fun D σ H ⟨ρ, M, N, E, hs, hr, ht, hE⟩ => ⟨ρ, M, N, _, _, hs, hr, ht, fun v M1 u H1 p1 hr1 af1 iv => ⟨ρ, M1, N, _, _, hs.mono af1.fr, hr1, p1, fun x M2 w H2 p2 hr2 af2 iw =>
    ⟨ρ, M2, N, _, _, (hs.mono af1.fr).mono af2.fr, hr2, p2, fun y M3 z H3 p3 hr3 af3 iz => by
      unfold putDK at p3
      split at p3
      · rename_i a k hk
        split at p3
        · rename_i kvs q
          obtain ⟨hl, p3⟩ := p3
          obtain ⟨ws, h1, h2⟩ := dk_at hr3 q
          have afs := (af1.trans af2).trans af3
          obtain ⟨r4, a4⟩ := hr3.write (x := .dk (putD kvs k v)) (o := .dK (putK ws k u)) q (pk_put h2 k (isD_mono (af2.trans af3).fr iv))
          refine ⟨a, _, iw, ?_, hE.nx _ _ _ _ p3 (hs.mono (afs.trans a4).fr) r4 (afs.trans a4)⟩
          rw [isKey iz hk]
          exact DPut.k h1 (by rw [paired_len h2]; exact hl)
        · exact p3.elim
      · exact p3.elim, ((hE.step af1).step af2).xend ((hs.mono af1.fr).mono af2.fr)⟩, (hE.step af1).xend (hs.mono af1.fr)⟩, hE.xend hs⟩⟩
/-- d.get(k, x) -/
def isDk (x : DV) (M : MHp) : Prop := match x with
  | .r a => match M a with | some (.dk _) => True | _ => False
  | _ => False
def getDK (x y z : DV) (M : MHp) (P : DK) : Prop := match x, asKey y with
  | .r a, some k => match M a with
    | some (.dk kvs) => P ((valD kvs k).getD z) M
    | _ => False
  | _, _ => False
def eGet2 (to ti tx : DTE) : DTE := fun ρ M P PX => to ρ M (fun x M1 => isDk x M1 ∧ ti ρ M1 (fun y M2 => tx ρ M2 (fun z M3 => getDK x y z M3 P) PX) PX) PX
theorem isDk_of {K : PySem.W.Frag} {M : MHp} {N : Hid} {H : Hp} {x : DV} {v : V} (hr : HRel K M N H) (i : IsD K (fz M N H) v x) (h : isDk x M) : ∃ a, v = .ref a ∧ L2.IsD H a := by
  unfold isDk at h
  split at h
  · rename_i a
    split at h
    · rename_i kvs q
      obtain ⟨ws, h1, h2⟩ := dk_at hr q
      exact ⟨a, i, .inl ⟨ws, .inl h1⟩⟩
    · exact h.elim
  · exact h.elim
theorem de_get2 (hu : X.A.units + 1 < cLine) (ho : DE X W o to) (he : DE X W e ti) (hf : DE X W f tx) (m : M2 X o "get" apos e f cpos) : DE X W (.Call (.Attribute o "get" apos) [e, f] [] cpos) (eGet2 to ti tx) :=
  ⟨PE.imp (pe_dget2 hu ho.pe he.pe hf.pe m) fun σ H Q ⟨ρ, M, N, P, PX, hs, hr, ht, hP, hX⟩ => ⟨ρ, M, N, _, PX, hs, hr, ht, fun x M1 v H1 p hr1 af1 iv => by
    obtain ⟨a, ea, da⟩ := isDk_of hr1 iv p.1
    refine ⟨a, ea, da, ρ, M1, N, _, PX, hs.mono af1.fr, hr1, p.2, fun y M2 u H2 p2 hr2 af2 iu => ⟨ρ, M2, N, _, PX, (hs.mono af1.fr).mono af2.fr, hr2, p2, fun z M3 w H3 p3 hr3 af3 iw => ?_, (hX.step af1).step af2⟩, hX.step af1⟩
    unfold getDK at p3
    split at p3
    · rename_i a' k hk
      split at p3
      · rename_i kvs q
        obtain ⟨ws, h1, h2⟩ := dk_at hr3 q
        cases (iv : v = .ref a').symm.trans ea
        refine ⟨valV ws k, ?_, ?_⟩
        · rw [isKey iu hk]
          exact DGet.k h1
        · refine hP _ M3 _ H3 p3 hr3 ((af1.trans af2).trans af3) ?_
          rcases pk_val h2 k with z | ⟨v', x', z1, z2, z3⟩
          · rw [z.1, z.2]; exact iw
          · rw [z1, z2]; exact z3
      · exact p3.elim
    · exact p3.elim, hX⟩⟩
end
end DL

/-! Part 15: instances of own classes, their fields and methods. -/
namespace DL
open PySem PySem.Spec PyProof.Rows L2

/-! ### methods and new instances, where exceptions may come out -/
section
variable {X : Cx} {CX : CXT} {k : Nat} {f C : Addr} {fd : FuncData} {ps : List Str} {sp : Sp} {E : L2.St → XK} {x m : Str} {p pos apos : Pos} {e o : Expr} {es : List Expr} {ta : TE} {t : TA}
def tMethS (C : Addr) (m : Str) (sp : Sp) (E : L2.St → XK) (ta : TE) (t : TA) : TE := fun σ H Q => ta σ H fun x H1 => ∃ a dx fs, x = .ref a ∧ H1 a = some (.ins C dx fs) ∧ fs.lookup m = none ∧ t σ H1 fun vs H2 => sp (x :: vs) H2 Q (E σ)
theorem pe_methT {pl : Sem Bool} (he : PE X o ta) (c : Cls X.K C) (hm : Meth X.K C m f) (F : FnOk X.prog X.w X.K X.mg X.base CX k f fd ps sp) (hr : Room k X.A) (hb : Binds X.K fd ps []) (hx : ∀ σ, PassesAt CX X σ (E σ)) (ha : PA X (e :: es) t)
    (hst : starEach (e :: es) X.env = (false, eval e X.env) :: starEach es X.env) (hpl : (backTo pos (starEach es X.env)).any (·.1) = false)
    (ht : eval (.Call (.Attribute o m apos) (e :: es) [] pos) X.env = (do
      let ov ← eval o X.env
      standAt apos.atName
      let (f, first) ← holding [ov] (getMethod ov m pl)
      callWith pos f first (backTo pos (starEach (e :: es) X.env)) (backToKw pos (keywordEach [] X.env)))) :
    PE X (.Call (.Attribute o m apos) (e :: es) [] pos) (tMethS C m sp E ta t) := by
  refine ⟨fun pins s σ H Q I h => ?_⟩
  refine PySem.W.methodCall_KW (pl := pl) (thn (he.run pins s σ H _ I h) fun u s1 ⟨x, H1, I1, rx, a, dx, fs, ex, ea, l, q⟩ => ?_) ht
  subst ex
  obtain rfl : u = Value.ref a := rx
  refine getmeth_ok I1 ea c hm l ?_
  refine PySem.W.callWith_K (first := [.ref a]) (h₀ := X.base) I.ok.mod.kin hm.kp (thn (ha.run pos pins s1 σ H1 _ I1 q) fun us s2 ⟨vs, H2, I2, r, q2⟩ => ⟨I2.kIn, ?_⟩) hst hpl
  exact run_fnS (us := .ref a :: us) (vs := .ref a :: vs) F hr hb (hx σ) I2 (.cons rfl r) q2
theorem pe_methT0 {pl : Sem Bool} (he : PE X o ta) (c : Cls X.K C) (hm : Meth X.K C m f) (F : FnOk X.prog X.w X.K X.mg X.base CX k f fd ps sp) (hr : Room k X.A) (hb : Binds X.K fd ps []) (hx : ∀ σ, PassesAt CX X σ (E σ))
    (ht : eval (.Call (.Attribute o m apos) [] [] pos) X.env = (do
      let ov ← eval o X.env
      standAt apos.atName
      let (f, first) ← holding [ov] (getMethod ov m pl)
      callWith pos f first (backTo pos (starEach [] X.env)) (backToKw pos (keywordEach [] X.env)))) :
    PE X (.Call (.Attribute o m apos) [] [] pos) (tMethS C m sp E ta tNil) := by
  refine ⟨fun pins s σ H Q I h => ?_⟩
  refine PySem.W.methodCall_KW (pl := pl) (thn (he.run pins s σ H _ I h) fun u s1 ⟨x, H1, I1, rx, a, dx, fs, ex, ea, l, q⟩ => ?_) ht
  subst ex
  obtain rfl : u = Value.ref a := rx
  refine getmeth_ok I1 ea c hm l ?_
  exact PySem.W.callWith_K0 (first := [.ref a]) I1.kIn hm.kp (run_fnS (us := [.ref a]) (vs := [.ref a]) F hr hb (hx σ) I1 (.cons rfl .nil) q)
theorem run_makeT {pins : List (Addr × Obj)} {σ : L2.St} {H : Hp} {s : Shared} {Q : VK} {us : List Value} {vs : List V} {E : XK} (M : Mk X.K C f) (F : FnOk X.prog X.w X.K X.mg X.base CX k f fd ps sp) (hr : Room (k + 1) X.A) (hb : Binds X.K fd ps [])
    (hx : PassesAt CX X σ E) (I : Inv X pins σ H s) (r : Vals vs us)
    (h : ∀ x dx, H x = none → H dx = none → dx ≠ x → sp (.ref x :: vs) (upd (upd H dx (.own x)) x (.ins C dx [])) (fun v H2 => v = .non ∧ Q (.ref x) H2) E) :
    wpAny (model X.prog X.w) X.A (call (.ref C) us) (EP X pins σ Q) X.xe s := by
  have hq := h (s.heap.objs.size + 1) s.heap.objs.size (I.hok.fresh (Nat.le_succ _)) (I.hok.fresh (Nat.le_refl _)) (Nat.ne_of_lt (Nat.lt_succ_self _))
  have I2 := Inv.made (C := C) I
  have r2 : Vals (V.ref (s.heap.objs.size + 1) :: vs) (Value.ref (s.heap.objs.size + 1) :: us) := .cons rfl r
  have hl : (Value.ref (s.heap.objs.size + 1) :: us).length = ps.length := by
    have e := r2.length
    rw [F.len _ _ _ _ hq] at e
    exact e.symm
  have b := hb _ (Value.ref (s.heap.objs.size + 1) :: us) I2.kIn (by rw [List.append_nil]; exact hl)
  rw [List.append_nil] at b
  refine wpAny_call (make_map (f := f) I.kIn M.makes M.init (beq_iff_eq.mp M.fn) (codeAny_mono (F.run _ X.stack _ _ ⟨Value.ref (s.heap.objs.size + 1) :: us, []⟩ (Value.ref (s.heap.objs.size + 1) :: us) _ _ E (hr.make C us [])
    (I2.env0.make C us []) b r2 hq) fun r s' hq' => ?_))
  cases r with
  | error e => exact hx pins _ _ e s' I2 hq'
  | ok fl =>
    cases fl with
    | ret u =>
      obtain ⟨v, H', I3, rv, ev, q3⟩ := I2.after hq'
      subst ev
      exact ⟨rv, ⟨V.ref (s.heap.objs.size + 1), H', I3, rfl, q3⟩⟩
    | next => exact False.elim hq'
    | brk => exact False.elim hq'
    | cont => exact False.elim hq'
def tMakeS (C : Addr) (sp : Sp) (E : L2.St → XK) (t : TA) : TE := fun σ H Q => t σ H fun vs H1 => ∀ x dx, H1 x = none → H1 dx = none → dx ≠ x →
  sp (.ref x :: vs) (upd (upd H1 dx (.own x)) x (.ins C dx [])) (fun v H2 => v = .non ∧ Q (.ref x) H2) (E σ)
theorem pe_makeT (M : Mk X.K C f) (F : FnOk X.prog X.w X.K X.mg X.base CX k f fd ps sp) (hr : Room (k + 1) X.A) (hg : Gl X x) (hm : X.mg x = some (.ref C)) (hb : Binds X.K fd ps []) (hx : ∀ σ, PassesAt CX X σ (E σ))
    (ha : PA X (e :: es) t) (hdb : (x == ("__debug__" : Str)) = false) (he : starEach (e :: es) X.env = (false, eval e X.env) :: starEach es X.env) (hpl : (backTo pos (starEach es X.env)).any (·.1) = false) :
    PE X (.Call (.Name x p) (e :: es) [] pos) (tMakeS C sp E t) := by
  refine ⟨fun pins s σ H Q I h => ?_⟩
  refine wpAny_Call_Name_kw (ld_glob I hg hm ?_ hdb)
  refine PySem.W.callWith_K (h₀ := X.base) I.ok.mod.kin M.kp (thn (ha.run pos pins s σ H _ I h) fun us s1 ⟨vs, H1, I1, r, q⟩ => ⟨I1.kIn, ?_⟩) he hpl
  exact run_makeT M F hr hb (hx σ) I1 r q
end

/-! ### readings -/
def setF (f : Str) (v : DV) (fs : List (Str × DV)) : List (Str × DV) := match fs with
  | [] => [(f, v)]
  | p :: r => if p.1 = f then (f, v) :: r else p :: setF f v r
/-- x is an instance of the class at C -/
def insD (C : Addr) (x : DV) (M : MHp) (k : Addr → Addr → List (Str × DV) → Prop) : Prop := match x with
  | .r a => match M a with
    | some (.ins C' dx fs) => C' = C ∧ k a dx fs
    | _ => False
  | _ => False
def eFld (C : Addr) (f : Str) (te : DTE) : DTE := fun ρ M P PX => te ρ M (fun x M1 => insD C x M1 fun _ _ fs => ∃ v, fs.lookup f = some v ∧ P v M1) PX
def sFldD (C : Addr) (f : Str) (to tv : DTE) : DTS := fun E ρ M => tv ρ M (fun v M1 => to ρ M1 (fun x M2 => insD C x M2 fun a dx fs => fs.length < 1000 ∧ E.nx ρ (mu M2 a (.ins C dx (setF f v fs)))) fun x M1 => E.ex x ρ M1) fun x M1 => E.ex x ρ M1
def eMeth (C : Addr) (m : Str) (sp : DSp) (to : DTE) (ta : DTA) : DTE := fun ρ M P PX => to ρ M (fun x M1 => insD C x M1 fun _ _ fs => fs.lookup m = none ∧ ta ρ M1 (fun xs M2 => sp (x :: xs) M2 P PX) PX) PX
def eMake (C : Addr) (sp : DSp) (ta : DTA) : DTE := fun ρ M P PX => ta ρ M (fun xs M1 => ∀ a dx, M1 a = none → M1 dx = none → dx ≠ a → sp (.r a :: xs) (mu M1 a (.ins C dx [])) (fun v M2 => v = .d .none ∧ P (.r a) M2) PX) PX

abbrev PF (K : PySem.W.Frag) (F : Hp) : List (Str × V) → List (Str × DV) → Prop := Paired fun (p : Str × V) (q : Str × DV) => p.1 = q.1 ∧ IsD K F p.2 q.2
theorem lookup_pos {α : Type} {f : Str} {p : Str × α} {r : List (Str × α)} (h : p.1 = f) : (p :: r).lookup f = some p.2 := by
  obtain ⟨g, x⟩ := p
  subst h
  rw [List.lookup_cons, show (g == g) = true from by simp]
theorem lookup_neg {α : Type} {f : Str} {p : Str × α} {r : List (Str × α)} (h : ¬ p.1 = f) : (p :: r).lookup f = r.lookup f := by
  obtain ⟨g, x⟩ := p
  have : (f == g) = false := beq_eq_false_iff_ne.mpr fun z => h z.symm
  rw [List.lookup_cons, this]
theorem pf_some {K : PySem.W.Frag} {F : Hp} {ws : List (Str × V)} {fs : List (Str × DV)} (h : PF K F ws fs) {f : Str} {x : DV} (e : fs.lookup f = some x) : ∃ v, ws.lookup f = some v ∧ IsD K F v x := by
  induction h with
  | nil => cases e
  | @cons p q ws fs h1 h2 ih =>
    by_cases hk : p.1 = f
    · rw [lookup_pos (h1.1 ▸ hk : q.1 = f)] at e
      cases e
      exact ⟨p.2, lookup_pos hk, h1.2⟩
    · rw [lookup_neg (fun z => hk (h1.1.trans z) : ¬ q.1 = f)] at e
      rw [lookup_neg hk]
      exact ih e
theorem pf_none {K : PySem.W.Frag} {F : Hp} {ws : List (Str × V)} {fs : List (Str × DV)} (h : PF K F ws fs) {f : Str} (e : fs.lookup f = none) : ws.lookup f = none := by
  induction h with
  | nil => rfl
  | @cons p q ws fs h1 h2 ih =>
    by_cases hk : p.1 = f
    · rw [lookup_pos (h1.1 ▸ hk : q.1 = f)] at e
      cases e
    · rw [lookup_neg (fun z => hk (h1.1.trans z) : ¬ q.1 = f)] at e
      rw [lookup_neg hk]
      exact ih e
theorem pf_put {K : PySem.W.Frag} {F : Hp} {ws : List (Str × V)} {fs : List (Str × DV)} (h : PF K F ws fs) (f : Str) {v : V} {x : DV} (i : IsD K F v x) : PF K F (putF f v ws) (setF f x fs) := by
  induction h with
  | nil => exact .cons ⟨rfl, i⟩ .nil
  | @cons p q ws fs h1 h2 ih =>
    obtain ⟨g, y⟩ := p
    show PF K F (if g = f then (g, v) :: ws else (g, y) :: putF f v ws) (if q.1 = f then (f, x) :: fs else q :: setF f x fs)
    have e : g = q.1 := h1.1
    by_cases hk : g = f
    · rw [if_pos hk, if_pos (e ▸ hk)]
      exact .cons ⟨hk, i⟩ h2
    · rw [if_neg hk, if_neg (fun z => hk (e.trans z))]
      exact .cons h1 ih
section
variable {K : PySem.W.Frag} {M : MHp} {N : Hid} {H : Hp}
theorem ins_at (hr : HRel K M N H) {a C dx : Addr} {fs : List (Str × DV)} (e : M a = some (.ins C dx fs)) : ∃ ws, H a = some (.ins C dx ws) ∧ PF K (fz M N H) ws fs := by
  obtain ⟨o, h1, h2⟩ := hr.obj a _ e
  cases o with
  | ins C' dx' ws =>
    obtain ⟨rfl, rfl, q⟩ := (show _ ∧ _ ∧ _ from h2)
    exact ⟨ws, h1, q⟩
  | _ => exact (show False from h2).elim
theorem insD_of {C : Addr} {x : DV} {v : V} {k : Addr → Addr → List (Str × DV) → Prop} (hr : HRel K M N H) (i : IsD K (fz M N H) v x) (h : insD C x M k) : ∃ a dx fs ws, v = .ref a ∧ x = .r a ∧ M a = some (.ins C dx fs) ∧ H a = some (.ins C dx ws) ∧ PF K (fz M N H) ws fs ∧ k a dx fs := by
  unfold insD at h
  split at h
  · rename_i a
    split at h
    · rename_i C' dx fs q
      obtain ⟨rfl, h⟩ := h
      obtain ⟨ws, h1, h2⟩ := ins_at hr q
      exact ⟨a, dx, fs, ws, i, rfl, q, h1, h2, h⟩
    · exact h.elim
  · exact h.elim
end
section
variable {X : Cx} {W : WX} {k : Nat} {f C : Addr} {fd : FuncData} {ps : List Str} {sp : DSp} {x m : Str} {p pos pos' apos : Pos} {e o value : Expr} {es : List Expr} {ta : DTA} {te to tv : DTE}
theorem de_fld {n : Str} (c : Cls X.K C) (na : NoAttr X.K C n) (he : DE X W e te) (hb : attributeBase e n X.env (eval e X.env) = eval e X.env := by rfl) : DE X W (.Attribute e n pos) (eFld C n te) :=
  ⟨PE.imp (pe_fld he.pe hb) fun σ H Q ⟨ρ, M, N, P, PX, hs, hr, ht, hP, hX⟩ => ⟨ρ, M, N, _, PX, hs, hr, ht, fun x M1 v H1 p hr1 af1 iv => by
    obtain ⟨a, dx, fs, ws, rfl, rfl, h1, h2, h3, w, hw, pw⟩ := insD_of hr1 iv p
    obtain ⟨u, hu, iu⟩ := pf_some h3 hw
    exact ⟨a, C, dx, ws, u, rfl, h2, c, na, hu, hP _ M1 _ H1 pw hr1 af1 iu⟩, hX⟩⟩
theorem ds_fld {n : Str} (c : Cls X.K C) (na : NoAttr X.K C n) (ho : DE X W o to) (hv : DE X W value tv) (hs : swapsWith value (some (.Attribute o n pos')) pos.line X.env = pure false := by rfl) : DS X W (.Assign [.Attribute o n pos'] value pos) (sFldD C n to tv) :=
  ⟨PS.imp (ps_fld ho.pe hv.pe hs) fun D σ H ⟨ρ, M, N, E, hs, hr, ht, hE⟩ => ⟨ρ, M, N, _, _, hs, hr, ht, fun v M1 u H1 p1 hr1 af1 iv => ⟨ρ, M1, N, _, _, hs.mono af1.fr, hr1, p1, fun x M2 w H2 p2 hr2 af2 iw => by
    obtain ⟨a, dx, fs, ws, rfl, rfl, h1, h2, h3, hl, q⟩ := insD_of hr2 iw p2
    have af := af1.trans af2
    obtain ⟨r4, a4⟩ := hr2.write (x := .ins C dx (setF n v fs)) (o := .ins C dx (putF n u ws)) h1 ⟨rfl, rfl, pf_put h3 n (isD_mono af2.fr iv)⟩
    exact ⟨a, C, dx, ws, rfl, h2, c, na, by rw [paired_len h3]; exact hl, hE.nx _ _ _ _ q (hs.mono (af.trans a4).fr) r4 (af.trans a4)⟩, (hE.step af1).xend (hs.mono af1.fr)⟩, hE.xend hs⟩⟩
/-- a method as it stands -/
def MetC (P : Program) (w : World) (K : PySem.W.Frag) (mg : Str → Option Value) (base : Heap) (k : Nat) (C : Addr) (m : Str) (ps : List Str) (sp : DSp) : Prop :=
  ∃ f fd, DFn P w K mg base k f fd ps sp ∧ Meth K C m f ∧ Binds K fd ps []
/-- a class as it stands, with its __init__ -/
def MakC (P : Program) (w : World) (K : PySem.W.Frag) (mg : Str → Option Value) (base : Heap) (k : Nat) (C : Addr) (x : Str) (ps : List Str) (sp : DSp) : Prop :=
  ∃ f fd, DFn P w K mg base k f fd ps sp ∧ Mk K C f ∧ Binds K fd ps [] ∧ mg x = some (.ref C)
theorem meth_imp {σ : L2.St} {H : Hp} {Q : VK} {K : PySem.W.Frag} {ta' : TA} (hta : ∀ σ H Q, LA K W ta σ H Q → ta' σ H Q) (h : LE K W (eMeth C m sp to ta) σ H Q) : tMethS C m (liftSp K sp) (WE W) (LE K W to) ta' σ H Q := by
  obtain ⟨ρ, M, N, P, PX, hs, hr, ht, hP, hX⟩ := h
  refine ⟨ρ, M, N, _, PX, hs, hr, ht, fun x M1 v H1 p hr1 af1 iv => ?_, hX⟩
  obtain ⟨a, dx, fs, ws, rfl, rfl, h1, h2, h3, hl, q⟩ := insD_of hr1 iv p
  refine ⟨a, dx, ws, rfl, h2, pf_none h3 hl, hta _ _ _ ⟨ρ, M1, N, _, PX, hs.mono af1.fr, hr1, q, fun xs M2 vs H2 p2 hr2 af2 ivs => ?_, hX.step af1⟩⟩
  exact ⟨.r a :: xs, M2, N, P, PX, .cons rfl ivs, hr2, p2, fun z M3 v H3 pz r3 a3 iz => hP z M3 v H3 pz r3 ((af1.trans af2).trans a3) iz, (hX.step af1).step af2⟩
theorem de_meth {pl : Sem Bool} (c : Cls X.K C) (mt : MetC X.prog X.w X.K X.mg X.base k C m ps sp) (hr : Room k X.A) (tk : Takes X W) (ho : DE X W o to) (ha : DA X W (e :: es) ta)
    (hst : starEach (e :: es) X.env = (false, eval e X.env) :: starEach es X.env := by rfl) (hpl : (backTo pos (starEach es X.env)).any (·.1) = false := by rfl)
    (ht : eval (.Call (.Attribute o m apos) (e :: es) [] pos) X.env = (do
      let ov ← eval o X.env
      standAt apos.atName
      let (f, first) ← holding [ov] (getMethod ov m pl)
      callWith pos f first (backTo pos (starEach (e :: es) X.env)) (backToKw pos (keywordEach [] X.env))) := by rfl) :
    DE X W (.Call (.Attribute o m apos) (e :: es) [] pos) (eMeth C m sp to ta) := by
  obtain ⟨f, fd, F, hm, hb⟩ := mt
  exact ⟨PE.imp (pe_methT ho.pe c hm F hr hb (fun σ => passAt tk σ) ha.pa hst hpl ht) fun _ _ _ h => meth_imp (fun _ _ _ q => q) h⟩
theorem de_meth0 {pl : Sem Bool} (c : Cls X.K C) (mt : MetC X.prog X.w X.K X.mg X.base k C m ps sp) (hr : Room k X.A) (tk : Takes X W) (ho : DE X W o to)
    (ht : eval (.Call (.Attribute o m apos) [] [] pos) X.env = (do
      let ov ← eval o X.env
      standAt apos.atName
      let (f, first) ← holding [ov] (getMethod ov m pl)
      callWith pos f first (backTo pos (starEach [] X.env)) (backToKw pos (keywordEach [] X.env))) := by rfl) :
    DE X W (.Call (.Attribute o m apos) [] [] pos) (eMeth C m sp to aNil) := by
  obtain ⟨f, fd, F, hm, hb⟩ := mt
  exact ⟨PE.imp (pe_methT0 ho.pe c hm F hr hb (fun σ => passAt tk σ) ht) fun _ _ _ h => meth_imp (fun σ H Q ⟨ρ, M, N, P, PX, hs, hr, ht, hP, hX⟩ => hP _ M _ H ht hr .refl .nil) h⟩
theorem de_make (mk : MakC X.prog X.w X.K X.mg X.base k C x ps sp) (hr : Room (k + 1) X.A) (tk : Takes X W) (ha : DA X W (e :: es) ta) (hg : Gl X x := by rfl) (hdb : (x == ("__debug__" : Str)) = false := by decide)
    (he : starEach (e :: es) X.env = (false, eval e X.env) :: starEach es X.env := by rfl) (hpl : (backTo pos (starEach es X.env)).any (·.1) = false := by rfl) : DE X W (.Call (.Name x p) (e :: es) [] pos) (eMake C sp ta) := by
  obtain ⟨f, fd, F, hm, hb, hmg⟩ := mk
  refine ⟨PE.imp (pe_makeT hm F hr hg hmg hb (fun σ => passAt tk σ) ha.pa hdb he hpl) fun σ H Q ⟨ρ, M, N, P, PX, hs, hr, ht, hP, hX⟩ => ⟨ρ, M, N, _, PX, hs, hr, ht, fun xs M1 vs H1 p hr1 af1 ivs => ?_, hX⟩⟩
  intro a dx na nd ne
  have s1 : Same H1 (upd H1 dx (.own a)) := same_new nd
  have r2 := hr1.grow s1
  have a2 := Af.grow hr1 s1
  have na' : (upd H1 dx (.own a)) a = none := by rw [upd_ne (Ne.symm ne)]; exact na
  obtain ⟨r3, a3⟩ := r2.new (x := .ins C dx []) (o := .ins C dx []) na' ⟨rfl, rfl, .nil⟩
  have af := (af1.trans a2).trans a3
  refine ⟨.r a :: xs, _, N, _, PX, .cons rfl (areD_mono (a2.trans a3).fr ivs), r3, p a dx (hr1.free na).1 (hr1.free nd).1 ne, fun z M4 v H4 pz r4 a4 iz => ?_, hX.step af⟩
  obtain ⟨rfl, pz⟩ := pz
  cases (show Dp _ _ _ _ from iz)
  exact ⟨rfl, hP _ M4 _ H4 pz r4 (af.trans a4) rfl⟩
end
section
variable {ρ : DEnv} {M : MHp} {P : DK} {PX : DX} {te to tv : DTE} {ta : DTA} {C a dx : Addr} {f : Str} {fs : List (Str × DV)} {v : DV} {E : DEnds} {k : Addr → Addr → List (Str × DV) → Prop} {sp : DSp}
theorem x_insD (h : M a = some (.ins C dx fs)) (q : k a dx fs) : insD C (.r a) M k := by
  unfold insD
  simp only [h]
  exact ⟨trivial, q⟩
theorem x_fld (q : te ρ M (fun x M1 => insD C x M1 fun _ _ fs => ∃ v, fs.lookup f = some v ∧ P v M1) PX) : eFld C f te ρ M P PX := q
theorem x_sfld (q : tv ρ M (fun v M1 => to ρ M1 (fun x M2 => insD C x M2 fun a dx fs => fs.length < 1000 ∧ E.nx ρ (mu M2 a (.ins C dx (setF f v fs)))) fun x M1 => E.ex x ρ M1) fun x M1 => E.ex x ρ M1) : sFldD C f to tv E ρ M := q
theorem x_meth (q : to ρ M (fun x M1 => insD C x M1 fun _ _ fs => fs.lookup f = none ∧ ta ρ M1 (fun xs M2 => sp (x :: xs) M2 P PX) PX) PX) : eMeth C f sp to ta ρ M P PX := q
theorem x_make (q : ta ρ M (fun xs M1 => ∀ a dx, M1 a = none → M1 dx = none → dx ≠ a → sp (.r a :: xs) (mu M1 a (.ins C dx [])) (fun v M2 => v = .d .none ∧ P (.r a) M2) PX) PX) : eMake C sp ta ρ M P PX := q
theorem x_dkM (q : ∀ p, M p = none → P (.r p) (mu M p (.dk []))) : eDkM ρ M P PX := q
end
end DL

/-! Part 16: comprehensions of two clauses. -/
namespace DL
open PySem PySem.Spec PyProof.Rows L2

/-- what is left of the inner clause -/
def lcJ (xs1 : List DV) (C1 : MHp → Prop) (g1 : DTG) (tt1 : DTT) (te : DTE) (vs1 : List Nat) (ρ2 : DEnv) (M4 : MHp) (acc : List DV) (K : List DV → MHp → Prop) : Prop := ∃ I1 : Nat → List DV → MHp → Prop, (∃ M', MLe M' M4 ∧ I1 0 acc M') ∧ (∀ j acc M, j ≤ xs1.length → I1 j acc M → C1 M) ∧
  (∀ j acc M x, xs1[j]? = some x → I1 j acc M → g1 x (wipeD ρ2 vs1) M (fun ρ3 M5 => tt1 ρ3 M5 (fun b M6 => if b = true then te ρ3 M6 (fun y M7 => acc.length < sizeLine ∧ ∃ M', MLe M' M7 ∧ I1 (j + 1) (acc ++ [y]) M') fun _ _ => False else ∃ M', MLe M' M6 ∧ I1 (j + 1) acc M') fun _ _ => False) fun _ _ => False) ∧
  ∀ acc M, I1 xs1.length acc M → K acc M
/-- what is left of it all when the outer list is known -/
def lcI2 (fin : Fin') (xs : List DV) (C : MHp → Prop) (g : DTG) (tt : DTT) (wi1 : DTI) (g1 : DTG) (tt1 : DTT) (te : DTE) (vs vs1 : List Nat) (ρ : DEnv) (M1 : MHp) (P : DK) : Prop := ∃ I : Nat → List DV → MHp → Prop, (∃ M', MLe M' M1 ∧ I 0 [] M') ∧ (∀ i acc M, i ≤ xs.length → I i acc M → C M) ∧
  (∀ i acc M x, xs[i]? = some x → I i acc M → g x (wipeD ρ vs) M (fun ρ2 M2 => tt ρ2 M2 (fun b M3 => if b = true then
    wi1 ρ2 M3 (fun xs1 C1 M4 => lcJ xs1 C1 g1 tt1 te vs1 ρ2 M4 acc fun acc M => ∃ M', MLe M' M ∧ I (i + 1) acc M') fun _ _ => False
    else ∃ M', MLe M' M3 ∧ I (i + 1) acc M') fun _ _ => False) fun _ _ => False) ∧
  ∀ acc M, I xs.length acc M → fin acc M P
def eLc2 (fin : Fin') (wi : DTI) (g : DTG) (tt : DTT) (wi1 : DTI) (g1 : DTG) (tt1 : DTT) (te : DTE) (vs vs1 : List Nat) : DTE := fun ρ M P PX => wi ρ M (fun xs C M1 => lcI2 fin xs C g tt wi1 g1 tt1 te vs vs1 ρ M1 P) PX
theorem areD_snoc {K : PySem.W.Frag} {xs : List V} {ys : List DV} {x : V} {y : DV} {F : Hp} (h : AreD K F xs ys) (q : IsD K F x y) : AreD K F (xs ++ [x]) (ys ++ [y]) := by
  induction h with
  | nil => exact .cons q .nil
  | cons h1 h2 ih => exact .cons h1 ih
theorem lc2_imp {K : PySem.W.Frag} {W : WX} {fin : Fin'} (hfin : FinAt fin) {wi wi1 : DTI} {g g1 : DTG} {tt tt1 : DTT} {te : DTE} {sl sl1 vs vs1 : List Nat} (hsl : ∀ j ∈ sl, j ∈ vs) (hsl1 : ∀ j ∈ sl1, j ∈ vs1) {σ : L2.St} {H : Hp} {Q : VK} (h : LE K W (eLc2 fin wi g tt wi1 g1 tt1 te vs vs1) σ H Q) :
    tLc2 (LI K W wi) (LG K W0 sl g) (LT K W0 tt) (LI K W0 wi1) (LG K W0 sl1 g1) (LT K W0 tt1) (LE K W0 te) vs vs1 σ H Q := by
  obtain ⟨ρ, M, N, P, PX, hs, hr, ht, hP, hX⟩ := h
  refine ⟨ρ, M, N, _, PX, hs, hr, ht, fun xs C M1 J H1 p r1 a1 T D hD => ?_, hX⟩
  obtain ⟨I, ⟨M0, l0, i0⟩, hC, turn, done⟩ := p
  have w0 := r1.le l0
  have hN := (r1.free hD).2
  obtain ⟨rh, sh⟩ := w0.1.hide (o := .lst []) hD
  refine ⟨fun i m H2 => m = xs.length - i ∧ i ≤ xs.length ∧ ∃ acc M2 ws, H2 D = some (.lst ws) ∧ AreD K (fz M2 (hidE N D) H2) ws acc ∧ HRel K M2 (hidE N D) H2 ∧ Same (fz M0 N H1) (fz M2 (hidE N D) H2) ∧ (∀ a, N a = true → H2 a = H1 a) ∧ I i acc M2,
    ⟨xs.length, by simp, Nat.zero_le _, [], M0, [], upd_same, .nil, rh, sh, fun a ha => upd_ne (by rintro rfl; rw [hN] at ha; cases ha), i0⟩, ?_⟩
  rintro i m H2 ⟨rfl, hi, acc, M2, ws, e2, ar2, r2, s2, n2, i2⟩
  have T0 : Same (fz M1 N H1) (fz M2 (hidE N D) H2) := w0.2.fr.trans s2
  by_cases hlt : i < xs.length
  · refine .inr ⟨T.go i M2 _ H2 T0 r2 (hC i acc M2 hi i2) hlt, fun H' => ∃ acc M2 ws, H' D = some (.lst ws) ∧ AreD K (fz M2 (hidE N D) H') ws acc ∧ HRel K M2 (hidE N D) H' ∧ Same (fz M0 N H1) (fz M2 (hidE N D) H') ∧ (∀ a, N a = true → H' a = H1 a) ∧ I (i + 1) acc M2,
      fun H' q => ⟨xs.length - (i + 1), by omega, rfl, hlt, q⟩, fun v H3 y => ?_⟩
    have hx : xs[i]? = some xs[i] := List.getElem?_eq_getElem hlt
    obtain ⟨g3, iv⟩ := T.yld i M2 _ H2 v H3 xs[i] T0 r2 (hC i acc M2 hi i2) hx y
    have r3 := r2.grow g3
    have a3 := Af.grow r2 g3
    have nD : ∀ {M' : MHp} {H' : Hp}, Af M2 (hidE N D) H2 M' H' → ∀ a, N a = true → H' a = H1 a := fun {M' H'} af a ha => (af.hd a (by simp [hidE, ha])).trans (n2 a ha)
    have eD : ∀ {M' : MHp} {H' : Hp}, Af M2 (hidE N D) H2 M' H' → H' D = some (.lst ws) := fun {M' H'} af => (af.hd D hidE_self).trans e2
    refine ⟨xs[i], wipeD ρ vs, M2, hidE N D, _, fun _ _ => False, iv, wipe_rel ((hs.mono (a1.fr.trans (T0.trans a3.fr)))) vs, r3, turn i acc M2 xs[i] hx i2, fun ρ4 M4 σ4 H4 p4 s4 r4 a4 b4 => ⟨wipe_but hsl b4, ?_⟩, fun _ _ _ _ z => z.elim⟩
    refine ⟨ρ4, M4, hidE N D, _, fun _ _ => False, s4, r4, p4, fun b M5 H5 p5 r5 a5 => ?_, fun _ _ _ _ z => z.elim⟩
    cases b with
    | false =>
      obtain ⟨M6, l6, i6⟩ := p5
      have w := r5.le l6
      have af := ((a3.trans a4).trans a5).trans w.2
      exact ⟨acc, M6, ws, eD af, areD_mono af.fr ar2, w.1, s2.trans af.fr, nD af, i6⟩
    | true =>
      refine ⟨ρ4, M5, hidE N D, _, fun _ _ => False, s4.mono a5.fr, r5, p5, fun xs1 C1 M6 J1 H6 p6 r6 a6 T1 => ?_, fun _ _ _ _ z => z.elim⟩
      obtain ⟨I1, ⟨M7, l7, i7⟩, hC1, turn1, done1⟩ := p6
      have w7 := r6.le l7
      have afb := ((a3.trans a4).trans a5).trans a6
      have af0 := afb.trans w7.2
      have s4' := s4.mono (a5.trans a6).fr
      -- the state behind j turns within
      refine ⟨fun j m H2 => m = xs1.length - j ∧ j ≤ xs1.length ∧ ∃ acc M2 ws, H2 D = some (.lst ws) ∧ AreD K (fz M2 (hidE N D) H2) ws acc ∧ HRel K M2 (hidE N D) H2 ∧ Same (fz M7 (hidE N D) H6) (fz M2 (hidE N D) H2) ∧ (∀ a, N a = true → H2 a = H1 a) ∧ I1 j acc M2,
        ⟨xs1.length, by simp, Nat.zero_le _, acc, M7, ws, eD af0, areD_mono af0.fr ar2, w7.1, .refl _, nD af0, i7⟩, ?_⟩
      rintro j m H8 ⟨rfl, hj, acc8, M8, ws8, e8, ar8, r8, s8, n8, i8⟩
      have T8 : Same (fz M6 (hidE N D) H6) (fz M8 (hidE N D) H8) := w7.2.fr.trans s8
      by_cases hlt1 : j < xs1.length
      · refine .inr ⟨T1.go j M8 _ H8 T8 r8 (hC1 j acc8 M8 hj i8) hlt1, fun H' => ∃ acc M2 ws, H' D = some (.lst ws) ∧ AreD K (fz M2 (hidE N D) H') ws acc ∧ HRel K M2 (hidE N D) H' ∧ Same (fz M7 (hidE N D) H6) (fz M2 (hidE N D) H') ∧ (∀ a, N a = true → H' a = H1 a) ∧ I1 (j + 1) acc M2,
          fun H' q => ⟨xs1.length - (j + 1), by omega, rfl, hlt1, q⟩, fun v9 H9 y9 => ?_⟩
        have hx1 : xs1[j]? = some xs1[j] := List.getElem?_eq_getElem hlt1
        obtain ⟨g9, iv9⟩ := T1.yld j M8 _ H8 v9 H9 xs1[j] T8 r8 (hC1 j acc8 M8 hj i8) hx1 y9
        have r9 := r8.grow g9
        have a9 := Af.grow r8 g9
        have nD1 : ∀ {M' : MHp} {H' : Hp}, Af M8 (hidE N D) H8 M' H' → ∀ a, N a = true → H' a = H1 a := fun {M' H'} af a ha => (af.hd a (by simp [hidE, ha])).trans (n8 a ha)
        have eD1 : ∀ {M' : MHp} {H' : Hp}, Af M8 (hidE N D) H8 M' H' → H' D = some (.lst ws8) := fun {M' H'} af => (af.hd D hidE_self).trans e8
        refine ⟨xs1[j], wipeD ρ4 vs1, M8, hidE N D, _, fun _ _ => False, iv9, wipe_rel (s4'.mono (T8.trans a9.fr)) vs1, r9, turn1 j acc8 M8 xs1[j] hx1 i8, fun ρ10 M10 σ10 H10 p10 s10 r10 a10 b10 => ⟨wipe_but hsl1 b10, ?_⟩, fun _ _ _ _ z => z.elim⟩
        refine ⟨ρ10, M10, hidE N D, _, fun _ _ => False, s10, r10, p10, fun b M11 H11 p11 r11 a11 => ?_, fun _ _ _ _ z => z.elim⟩
        cases b with
        | false =>
          obtain ⟨M12, l12, i12⟩ := p11
          have w := r11.le l12
          have af := ((a9.trans a10).trans a11).trans w.2
          exact ⟨acc8, M12, ws8, eD1 af, areD_mono af.fr ar8, w.1, s8.trans af.fr, nD1 af, i12⟩
        | true =>
          refine ⟨ρ10, M11, hidE N D, _, fun _ _ => False, s10.mono a11.fr, r11, p11, fun z M12 u H12 p12 r12 a12 iu => ?_, fun _ _ _ _ z => z.elim⟩
          obtain ⟨hz, M13, l13, i13⟩ := p12
          have w := r12.le l13
          have af := (((a9.trans a10).trans a11).trans a12).trans w.2
          refine ⟨ws8, eD1 af, by rw [paired_len ar8]; exact hz, acc8 ++ [z], M13, ws8 ++ [u], upd_same, ?_, w.1.writeHid, ?_, fun a ha => ?_, i13⟩
          · rw [fz_upd_hid]
            exact areD_snoc (areD_mono af.fr ar8) (isD_mono w.2.fr iu)
          · rw [fz_upd_hid]
            exact s8.trans af.fr
          · rw [upd_ne (by rintro rfl; rw [hN] at ha; cases ha)]
            exact nD1 af a ha
      · have e : j = xs1.length := by omega
        subst e
        refine .inl ⟨T1.stop M8 _ H8 T8 r8 (hC1 _ acc8 M8 hj i8), ?_⟩
        obtain ⟨M14, l14, i14⟩ := done1 acc8 M8 i8
        have w := r8.le l14
        exact ⟨acc8, M14, ws8, e8, areD_mono w.2.fr ar8, w.1, ((s2.trans afb.fr).trans T8).trans w.2.fr, n8, i14⟩
  · have e : i = xs.length := by omega
    subst e
    refine .inl ⟨T.stop M2 _ H2 T0 r2 (hC _ acc M2 hi i2), ?_⟩
    refine hfin r2 hN (r2.hid D hidE_self).1 e2 ar2 (done acc M2 i2) fun z M' v pz r' s' iz => hP z M' v H2 pz r' ?_ iz
    exact a1.trans ⟨T0.trans s', fun a ha => n2 a ha⟩
section
variable {X : Cx} {W : WX} {elt tg iter tg1 iter1 : Expr} {ifs ifs1 : List Expr} {scope : Scope} {own : List (Str × Nat)} {pos : Pos} {wi wi1 : DTI} {g g1 : DTG} {tt tt1 : DTT} {te : DTE} {fin : Fin'} {sl sl1 : List Nat}
theorem de_lc2 {vs vs1 : List Nat} (hfin : FinAt fin) (hc : X.calm = true) (hN : X.N.Nodup) (hi : DI X W tg iter wi) (ok : BlkOk X.N X.env.scope scope own) (hv1 : ∀ i ∈ vs1, i ∈ own.map (·.2))
    (hg : ∀ (s : Shared) (H : Hp) (C : Addr) (cl : List (Str × Addr)) (fp : List Addr), DG (X.blk s H scope (compEnvC scope cl C X.env) fp) W0 tg sl g) (hsl : ∀ j ∈ sl, j ∈ own.map (·.2)) (ht : ∀ (s : Shared) (H : Hp) (C : Addr) (cl : List (Str × Addr)) (fp : List Addr), DTs (X.blk s H scope (compEnvC scope cl C X.env) fp) W0 ifs tt)
    (hi1 : ∀ (s : Shared) (H : Hp) (C : Addr) (cl : List (Str × Addr)) (fp : List Addr), DI (X.blk s H scope (compEnvC scope cl C X.env) fp) W0 tg1 iter1 wi1)
    (hg1 : ∀ (s : Shared) (H : Hp) (C : Addr) (cl : List (Str × Addr)) (fp : List Addr), DG (X.blk s H scope (compEnvC scope cl C X.env) fp) W0 tg1 sl1 g1) (hsl1 : ∀ j ∈ sl1, j ∈ vs1) (ht1 : ∀ (s : Shared) (H : Hp) (C : Addr) (cl : List (Str × Addr)) (fp : List Addr), DTs (X.blk s H scope (compEnvC scope cl C X.env) fp) W0 ifs1 tt1)
    (he : ∀ (s : Shared) (H : Hp) (C : Addr) (cl : List (Str × Addr)) (fp : List Addr), DE (X.blk s H scope (compEnvC scope cl C X.env) fp) W0 elt te) (hs : ∀ x, foldedSetIterable iter X.env x = pure x := by intro _; rfl) (hs1 : ∀ env x, foldedSetIterable iter1 env x = pure x := by intro _ _; rfl) (hv : own.map (·.2) = vs := by rfl) :
    DE X W (.ListComp elt [⟨tg, iter, ifs, 0⟩, ⟨tg1, iter1, ifs1, 0⟩] scope pos) (eLc2 fin wi g tt wi1 g1 tt1 te vs vs1) := by
  subst hv
  exact ⟨PE.imp (pe_lc2 hc hN hi.pi ok hv1 (fun s H C cl fp => (hg s H C cl fp).pg) (fun s H C cl fp => (ht s H C cl fp).pt) (fun s H C cl fp => (hi1 s H C cl fp).pi) (fun s H C cl fp => (hg1 s H C cl fp).pg) (fun s H C cl fp => (ht1 s H C cl fp).pt) (fun s H C cl fp => (he s H C cl fp).pe) hs hs1) fun σ H Q h => lc2_imp hfin hsl hsl1 h⟩
theorem ds_setLc2 {vs vs1 : List Nat} {i : Nat} {y : Str} {py : Pos} {spos : Pos} (hfin : FinAt fin) (hc : X.calm = true) (hN : X.N.Nodup) (hi : DI X W tg iter wi) (ok : BlkOk X.N X.env.scope scope own) (hv1 : ∀ i ∈ vs1, i ∈ own.map (·.2))
    (hg : ∀ (s : Shared) (H : Hp) (C : Addr) (cl : List (Str × Addr)) (fp : List Addr), DG (X.blk s H scope (compEnvC scope cl C X.env) fp) W0 tg sl g) (hsl : ∀ j ∈ sl, j ∈ own.map (·.2)) (ht : ∀ (s : Shared) (H : Hp) (C : Addr) (cl : List (Str × Addr)) (fp : List Addr), DTs (X.blk s H scope (compEnvC scope cl C X.env) fp) W0 ifs tt)
    (hi1 : ∀ (s : Shared) (H : Hp) (C : Addr) (cl : List (Str × Addr)) (fp : List Addr), DI (X.blk s H scope (compEnvC scope cl C X.env) fp) W0 tg1 iter1 wi1)
    (hg1 : ∀ (s : Shared) (H : Hp) (C : Addr) (cl : List (Str × Addr)) (fp : List Addr), DG (X.blk s H scope (compEnvC scope cl C X.env) fp) W0 tg1 sl1 g1) (hsl1 : ∀ j ∈ sl1, j ∈ vs1) (ht1 : ∀ (s : Shared) (H : Hp) (C : Addr) (cl : List (Str × Addr)) (fp : List Addr), DTs (X.blk s H scope (compEnvC scope cl C X.env) fp) W0 ifs1 tt1)
    (he : ∀ (s : Shared) (H : Hp) (C : Addr) (cl : List (Str × Addr)) (fp : List Addr), DE (X.blk s H scope (compEnvC scope cl C X.env) fp) W0 elt te)
    (hsw : swapsWith (.ListComp elt [⟨tg, iter, ifs, 0⟩, ⟨tg1, iter1, ifs1, 0⟩] scope pos) (some (.Name y py)) spos.line X.env = pure true) (hy : X.N[i]? = some y := by rfl) (hyl : X.env.scope.names.lookup y = some .local := by rfl) (hs : ∀ x, foldedSetIterable iter X.env x = pure x := by intro _; rfl) (hs1 : ∀ env x, foldedSetIterable iter1 env x = pure x := by intro _ _; rfl) (hv : own.map (·.2) = vs := by rfl) :
    DS X W (.Assign [.Name y py] (.ListComp elt [⟨tg, iter, ifs, 0⟩, ⟨tg1, iter1, ifs1, 0⟩] scope pos) spos) (sSet i (eLc2 fin wi g tt wi1 g1 tt1 te vs vs1)) := by
  subst hv
  exact ⟨PS.imp (ps_setLc2 hc hN hy hyl hsw hi.pi ok hv1 (fun s H C cl fp => (hg s H C cl fp).pg) (fun s H C cl fp => (ht s H C cl fp).pt) (fun s H C cl fp => (hi1 s H C cl fp).pi) (fun s H C cl fp => (hg1 s H C cl fp).pg) (fun s H C cl fp => (ht1 s H C cl fp).pt) (fun s H C cl fp => (he s H C cl fp).pe) hs hs1) fun D σ H ⟨ρ, M, N, E, hs, hr, ht, hE⟩ =>
    lc2_imp (W := W) hfin hsl hsl1 ⟨ρ, M, N, _, _, hs, hr, ht, fun x M1 v H1 p hr1 af1 iv => hE.nx _ M1 _ H1 p ((hs.mono af1.fr).set iv i) hr1 af1, hE.xend hs⟩⟩
end
section
variable {ρ : DEnv} {M : MHp} {P : DK} {PX : DX} {fin : Fin'} {wi wi1 : DTI} {g g1 : DTG} {tt tt1 : DTT} {te : DTE} {vs vs1 : List Nat}
theorem x_lc2 (q : wi ρ M (fun xs C M1 => lcI2 fin xs C g tt wi1 g1 tt1 te vs vs1 ρ M1 P) PX) : eLc2 fin wi g tt wi1 g1 tt1 te vs vs1 ρ M P PX := q
end
end DL

/-! Part 17: sorted sets of rows, the sorted keys of a dict, a dict's length, a dict's copy. -/
namespace DL
open PySem PySem.Spec PyProof.Rows L2

theorem code_le {B : Int} : ∀ {a b : List Int}, a.length = b.length → TS.Bd B a → TS.Bd B b → a < b → TS.code B a < TS.code B b
  | [], [], _, _, _, h => absurd h (List.lt_irrefl _)
  | [], _ :: _, h, _, _, _ => by cases h
  | _ :: _, [], h, _, _, _ => by cases h
  | x :: a, y :: b, hl, ha, hb, h => by
    have hl' : a.length = b.length := Nat.succ.inj hl
    rcases List.cons_lt_cons_iff.mp h with h1 | ⟨rfl, h1⟩
    · exact TS.code_lt hl' ha.tail hb.tail h1
    · have := code_le hl' ha.tail hb.tail h1
      show x * B ^ a.length + TS.code B a < x * B ^ b.length + TS.code B b
      rw [hl']
      omega
theorem lt_code {B : Int} {a b : List Int} (hl : a.length = b.length) (ha : TS.Bd B a) (hb : TS.Bd B b) (h : TS.code B a ≤ TS.code B b) (ne : a ≠ b) : a < b := by
  apply Classical.byContradiction
  intro z
  have h1 : b ≤ a := List.not_lt.mp z
  have h2 : b < a := by
    apply Classical.byContradiction
    intro z2
    exact ne (List.le_antisymm (List.not_lt.mp z2) h1)
  have := code_le hl.symm hb ha h2
  omega
abbrev rowT (r : List Int) : PyData := .tuple (r.map .int)
theorem rows_dp {K : PySem.W.Frag} {F : Hp} : ∀ {R : List (List Int)} {ws : List V}, DpAll K F ws (R.map rowT) → ∃ ks : List (Addr × List Int), ws = ks.map (fun p => V.ref p.1) ∧ ks.map (·.2) = R ∧ ∀ p ∈ ks, SqT K F p.1 (p.2.map V.int)
  | [], _, h => by
    cases h
    exact ⟨[], rfl, rfl, fun p hp => by cases hp⟩
  | r :: R, _, h => by
    rw [List.map_cons] at h
    cases h with
    | cons h1 h2 =>
      obtain ⟨ks, rfl, e, q⟩ := rows_dp h2
      cases h1 with
      | tup hs hd =>
        rename_i a vs
        have := dp_ints hd
        subst this
        refine ⟨(a, r) :: ks, rfl, by rw [List.map_cons, e], fun p hp => ?_⟩
        rcases List.mem_cons.mp hp with z | z
        · subst z; exact hs
        · exact q p z
theorem dp_rows {K : PySem.W.Frag} {F : Hp} : ∀ {ks : List (Addr × List Int)}, (∀ p ∈ ks, SqT K F p.1 (p.2.map V.int)) → DpAll K F (ks.map fun p => V.ref p.1) ((ks.map (·.2)).map rowT)
  | [], _ => .nil
  | p :: ks, h => .cons (.tup (h p (by simp)) (dp_int_list _)) (dp_rows fun q hq => h q (List.mem_cons_of_mem _ hq))
def setSortT : PyData → (List PyData → Prop) → Prop
  | .list xs, k => ∃ (R : List (List Int)) (d : Nat) (B : Int), xs = R.map rowT ∧ R.length < 64 ∧ 1 ≤ d ∧ (∀ r ∈ R, r.length = d ∧ ∀ n ∈ r, 0 ≤ n ∧ n < B) ∧ ∀ S : List (List Int), S.Pairwise (· < ·) → (∀ x, x ∈ S ↔ x ∈ R) → k (S.map rowT)
  | _, _ => False
/-- sorted(set(a list of tuples of ints)) -/
def eSortedSetT (te : DTE) : DTE := fun ρ M P PX => te ρ M (fun x M1 => rd M1 x fun d => setSortT d fun ds => P (.d (.list ds)) M1) PX
section
variable {X : Cx} {W : WX} {a : Expr} {te : DTE} {p p2 q pos : Pos}
theorem de_sortedSetT (hc : X.calm = true) (hu : X.A.units + 64 < cLine) (ha : DE X W a te) (hm : X.mg "sorted" = none) (hm2 : X.mg "set" = none) (hg : Gl X "sorted" := by rfl) (hg2 : Gl X "set" := by rfl)
    (na : starEach [a] X.env = (false, eval a X.env) :: starEach [] X.env := by rfl)
    (na2 : starEach [.Call (.Name "set" p2) [a] [] q] X.env = (false, eval (.Call (.Name "set" p2) [a] [] q) X.env) :: starEach [] X.env := by rfl) (hpl : (backTo q (starEach [] X.env)).any (·.1) = false := by rfl) (hpl2 : (backTo pos (starEach [] X.env)).any (·.1) = false := by rfl) :
    DE X W (.Call (.Name "sorted" p) [.Call (.Name "set" p2) [a] [] q] [] pos) (eSortedSetT te) := by
  have h1 := pe_callTy (p := p2) (pos := q) (cr_setOfT hc hu) hg2 hm2 PyProof.Rows.boot_set (pa_cons ha.pe pa_nil na) (by decide) (by decide) na hpl
  have h2 := pe_callB (p := p) (pos := pos) (cr_sortedT hc) hg hm PyProof.Rows.boot_sorted (pa_cons h1 pa_nil na2) (by decide) (by decide) na2 hpl2
  refine ⟨PE.imp h2 fun σ H Q h => ?_⟩
  obtain ⟨ρ, M, N, P, PX, hs, hr, ht, hP, hX⟩ := h
  refine ⟨ρ, M, N, _, PX, hs, hr, ht, fun x M1 v H1 p hr1 af1 iv => ?_, hX⟩
  obtain ⟨d, r1, qq⟩ := rd_of hr1 iv p
  unfold setSortT at qq
  split at qq
  · obtain ⟨l, ws, rfl, h3, h4⟩ := r1.list
    obtain ⟨R, d, B, rfl, h64, hd, hB, k⟩ := qq
    obtain ⟨ks, rfl, eR, hk⟩ := rows_dp h4
    have hkH : ∀ p ∈ ks, SqT X.K H1 p.1 (p.2.map V.int) := fun p hp => same_tup fz_sub (hk p hp)
    have inR : ∀ p ∈ ks, p.2 ∈ R := fun p hp => by rw [← eR]; exact List.mem_map_of_mem hp
    refine ⟨l, ks, rfl, h3, hkH, by rw [← List.length_map (f := Prod.snd), eR]; exact h64, fun a L na hL1 hL2 => ?_⟩
    have s1 : Same H1 (upd H1 a (SetTO X.prog X.w a L)) := same_new na
    have r2 := hr1.grow s1
    have a2 := Af.grow hr1 s1
    have B2 : ∀ p ∈ L, p.2.length = d ∧ TS.Bd B p.2 := fun p hp => ⟨(hB _ (inR p (hL1 p hp))).1, fun m hm => (hB _ (inR p (hL1 p hp))).2 m hm⟩
    refine ⟨a, L, d, B, rfl, upd_same, fun p hp => same_tup s1 (hkH p (hL1 p hp)), hd, B2, fun L' p perm nd h64' pw np => ?_⟩
    have hd2 : DpAll X.K (fz M1 N (upd H1 a (SetTO X.prog X.w a L))) (L'.map fun p => V.ref p.1) ((L'.map (·.2)).map rowT) := dp_rows fun q hq => same_tup a2.fr (hk q (hL1 q (perm.mem_iff.mp hq)))
    have pw2 : (L'.map (·.2)).Pairwise (· < ·) := by
      rw [List.pairwise_map]
      refine List.Pairwise.imp_of_mem (fun {x y} hx hy h => ?_) (List.Pairwise.and pw (List.pairwise_map.mp nd))
      have bx := B2 x (perm.mem_iff.mp hx)
      have by' := B2 y (perm.mem_iff.mp hy)
      exact lt_code (bx.1.trans by'.1.symm) bx.2 by'.2 h.1 h.2
    refine hP _ M1 _ _ (k (L'.map (·.2)) pw2 fun x => ?_) (r2.grow (same_new np)) (af1.trans (a2.trans (.grow r2 (same_new np)))) (fz_newLst r2 np hd2)
    constructor
    · intro hx
      obtain ⟨q, hq, rfl⟩ := List.mem_map.mp hx
      exact inR q (hL1 q (perm.mem_iff.mp hq))
    · intro hx
      rw [← eR] at hx
      obtain ⟨q, hq, rfl⟩ := List.mem_map.mp hx
      obtain ⟨u, hu, e⟩ := List.mem_map.mp (hL2 q hq)
      rw [← e]
      exact List.mem_map_of_mem (perm.mem_iff.mpr hu)
  · exact qq.elim
end
/-! ### dicts again -/
def keysOf (kvs : List (Key × DV)) : List PyData := kvs.map fun p => keyData p.1
theorem pk_keys {K : PySem.W.Frag} {F : Hp} {ws : List (Key × V)} {kvs : List (Key × DV)} (h : PKV K F ws kvs) : ws.map (·.1) = kvs.map (·.1) := by
  induction h with
  | nil => rfl
  | cons h1 h2 ih => rw [List.map_cons, List.map_cons, ih, h1.1]
section
variable {X : Cx}
/-- len(d) -/
def gLenK : DN := fun xs M P => match xs with
  | [.r a] => match M a with
    | some (.dk kvs) => P (.d (.int kvs.length)) M
    | _ => False
  | _ => False
theorem dc_lenK : DCall X (.builtin "len") gLenK := by
  intro pins s σ H vs us Q I r h
  obtain ⟨xs, M, N, P, hr, ha, hg, fo⟩ := h
  unfold gLenK at hg
  split at hg
  · rename_i a
    obtain ⟨v, rfl, i⟩ := are1 ha
    have i' : v = .ref a := i
    subst i'
    split at hg
    · rename_i kvs q
      obtain ⟨ws, h1, h2⟩ := dk_at hr q
      exact call_lenD pins s σ H _ us Q I r ⟨_, _, rfl, h1, fo.same hr hg (by rw [← paired_len h2]; exact (show Dp _ _ _ _ from .int _))⟩
    · exact hg.elim
  · exact hg.elim
/-- dict(d): a copy -/
def gDictK : DN := fun xs M P => match xs with
  | [.r a] => match M a with
    | some (.dk kvs) => ∀ p, M p = none → P (.r p) (mu M p (.dk kvs))
    | _ => False
  | _ => False
theorem dc_dictK : DCall X (.type "dict") gDictK := by
  intro pins s σ H vs us Q I r h
  obtain ⟨xs, M, N, P, hr, ha, hg, fo⟩ := h
  unfold gDictK at hg
  split at hg
  · rename_i a
    obtain ⟨v, rfl, i⟩ := are1 ha
    have i' : v = .ref a := i
    subst i'
    split at hg
    · rename_i kvs q
      obtain ⟨ws, h1, h2⟩ := dk_at hr q
      refine call_dictD pins s σ H _ us Q I r ⟨a, ws, rfl, .inl h1, fun p hp => ?_⟩
      obtain ⟨r2, a2⟩ := hr.new (x := .dk kvs) (o := .dK ws) hp h2
      exact fo _ _ _ _ (hg p (hr.free hp).1) r2 a2 rfl
    · exact hg.elim
  · exact hg.elim
/-- sorted(d), the keys ints, fewer than 64 -/
def gSortKI : DN := fun xs M P => match xs with
  | [.r a] => match M a with
    | some (.dk kvs) => ∃ ks : List Int, kvs.map (·.1) = ks.map Sum.inl ∧ ks.length < 64 ∧ ∀ ys : List Int, ys.Perm ks → ys.Pairwise (· ≤ ·) → P (.d (.list (ys.map .int))) M
    | _ => False
  | _ => False
theorem dc_sortKI (hc : X.calm = true) : DCall X (.builtin "sorted") gSortKI := by
  intro pins s σ H vs us Q I r h
  obtain ⟨xs, M, N, P, hr, ha, hg, fo⟩ := h
  unfold gSortKI at hg
  split at hg
  · rename_i a
    obtain ⟨v, rfl, i⟩ := are1 ha
    have i' : v = .ref a := i
    subst i'
    split at hg
    · rename_i kvs q
      obtain ⟨ws, h1, h2⟩ := dk_at hr q
      obtain ⟨ks, e, hl, hg⟩ := hg
      exact call_sortedDI hc pins s σ H _ us Q I r ⟨a, ws, ks, rfl, .inl h1, (pk_keys h2).trans e, hl, fun ys p pm pw hp => fo.new hr (hg ys pm pw) hp (fz_newLst hr hp (dp_int_list ys))⟩
    · exact hg.elim
  · exact hg.elim
end
/-! ### rules by which they are walked -/
section
variable {ρ : DEnv} {M : MHp} {P : DK} {PX : DX} {te to tv : DTE} {ta : DTA} {C a dx p : Addr} {f : Str} {fs : List (Str × DV)} {v x : DV} {E : DEnds} {sp : DSp} {kvs : List (Key × DV)} {k : Key} {y z : DV} {K : MHp → Prop}
theorem x_fldR {k : DV → Prop} (h : M a = some (.ins C dx fs)) (l : fs.lookup f = some v) (q : k v) : insD C (.r a) M fun _ _ fs => ∃ v, fs.lookup f = some v ∧ k v := x_insD h ⟨v, l, q⟩
theorem x_sfldR {k : Addr → Addr → List (Str × DV) → Prop} (h : M a = some (.ins C dx fs)) (l : fs.length < 1000) (q : k a dx fs) : insD C (.r a) M fun a dx fs => fs.length < 1000 ∧ k a dx fs := x_insD h ⟨l, q⟩
theorem x_methR {k : Prop} (h : M a = some (.ins C dx fs)) (l : fs.lookup f = none) (q : k) : insD C (.r a) M fun _ _ fs => fs.lookup f = none ∧ k := x_insD h ⟨l, q⟩
theorem x_getK (hk : asKey y = some k) (h : M a = some (.dk kvs)) (l : valD kvs k = some v) (q : P v M) : gGetK (.r a) y M P := by
  unfold gGetK
  simp only [hk, h]
  exact ⟨v, l, q⟩
theorem x_putDK (hk : asKey y = some k) (h : M a = some (.dk kvs)) (l : kvs.length < sizeLine) (q : K (mu M a (.dk (putD kvs k v)))) : putDK (.r a) y v M K := by
  unfold putDK
  simp only [hk, h]
  exact ⟨l, q⟩
theorem x_sput {ti : DTE} (q : tv ρ M (fun v M1 => to ρ M1 (fun x M2 => ti ρ M2 (fun y M3 => putDK x y v M3 fun M4 => E.nx ρ M4) fun x M1 => E.ex x ρ M1) fun x M1 => E.ex x ρ M1) fun x M1 => E.ex x ρ M1) : sPutK to ti tv E ρ M := q
theorem x_inK (hk : asKey y = some k) (h : M a = some (.dk kvs)) (q : P (.d (.bool (hasK kvs k))) M) : inD false y (.r a) M P := by
  unfold inD
  simp only [h, hk]
  exact q
theorem x_ninK (hk : asKey y = some k) (h : M a = some (.dk kvs)) (q : P (.d (.bool (!hasK kvs k))) M) : inD true y (.r a) M P := by
  unfold inD
  simp only [h, hk]
  exact q
theorem x_get2 {ti tx : DTE} (q : to ρ M (fun x M1 => isDk x M1 ∧ ti ρ M1 (fun y M2 => tx ρ M2 (fun z M3 => getDK x y z M3 P) PX) PX) PX) : eGet2 to ti tx ρ M P PX := q
theorem x_isDk (h : M a = some (.dk kvs)) : isDk (.r a) M := by
  unfold isDk
  simp only [h]
theorem x_getDK (hk : asKey y = some k) (h : M a = some (.dk kvs)) (q : P ((valD kvs k).getD z) M) : getDK (.r a) y z M P := by
  unfold getDK
  simp only [h, hk]
  exact q
theorem x_ssetT (q : te ρ M (fun x M1 => rd M1 x fun d => setSortT d fun ds => P (.d (.list ds)) M1) PX) : eSortedSetT te ρ M P PX := q
theorem x_gLenK (h : M a = some (.dk kvs)) (q : P (.d (.int kvs.length)) M) : gLenK [.r a] M P := by
  unfold gLenK
  simp only [h]
  exact q
theorem x_gSortKI (h : M a = some (.dk kvs)) (q : ∃ ks : List Int, kvs.map (·.1) = ks.map Sum.inl ∧ ks.length < 64 ∧ ∀ ys : List Int, ys.Perm ks → ys.Pairwise (· ≤ ·) → P (.d (.list (ys.map .int))) M) : gSortKI [.r a] M P := by
  unfold gSortKI
  simp only [h]
  exact q
theorem hasK_val {kvs : List (Key × DV)} {k : Key} : hasK kvs k = (valD kvs k).isSome := by
  unfold hasK valD
  rw [Option.isSome_map]
  exact (find_any kvs k).symm
theorem valD_put (kvs : List (Key × DV)) (k j : Key) (y : DV) : valD (putD kvs k y) j = if j = k then some y else valD kvs j := by
  unfold putD
  have e0 : (kvs.any fun kv => decide (kv.1 = k)) = (valD kvs k).isSome := hasK_val
  have cons : ∀ (p : Key × DV) (r : List (Key × DV)) (j : Key), valD (p :: r) j = if p.1 = j then some p.2 else valD r j := by
    intro p r j
    unfold valD
    rw [List.find?_cons]
    by_cases h : p.1 = j
    · rw [if_pos h, decide_eq_true h]; rfl
    · rw [if_neg h, decide_eq_false h]
  split
  · rename_i h
    rw [e0] at h
    clear e0
    induction kvs with
    | nil => cases h
    | cons p r ih =>
      rw [List.map_cons, cons, cons]
      rw [cons] at h
      by_cases hp : p.1 = k
      · rw [if_pos hp]
        show (if p.1 = j then some y else _) = _
        by_cases hj : j = k
        · rw [if_pos hj, if_pos (hp.trans hj.symm)]
        · rw [if_neg hj, if_neg (fun z => hj (z.symm.trans hp)), if_neg (fun z => hj (z.symm.trans hp))]
          clear ih h
          have : ∀ r : List (Key × DV), valD (r.map fun kv => if kv.1 = k then (kv.1, y) else kv) j = valD r j := by
            intro r
            induction r with
            | nil => rfl
            | cons q r ih =>
              rw [List.map_cons, cons, cons, ih]
              by_cases hq : q.1 = k
              · rw [if_pos hq]
                show (if q.1 = j then some y else _) = _
                rw [if_neg (fun z => hj (z.symm.trans hq)), if_neg (fun z => hj (z.symm.trans hq))]
              · rw [if_neg hq]
          exact this r
      · rw [if_neg hp] at h
        rw [if_neg hp, ih h]
        by_cases hj : j = k
        · rw [if_pos hj, if_neg (fun z => hp (z.trans hj))]
          rw [if_pos hj]
        · by_cases hpj : p.1 = j
          · rw [if_pos hpj, if_neg hj, if_pos hpj]
          · rw [if_neg hpj, if_neg hpj, if_neg hj]
  · rename_i h
    rw [e0] at h
    clear e0
    induction kvs with
    | nil =>
      rw [List.nil_append, cons]
      by_cases hj : j = k
      · rw [if_pos hj.symm, if_pos hj]
      · rw [if_neg (fun z => hj z.symm), if_neg hj]
    | cons p r ih =>
      rw [cons] at h
      have hp : ¬ p.1 = k := fun z => h (by rw [if_pos z]; rfl)
      rw [if_neg hp] at h
      rw [List.cons_append, cons, cons, ih h]
      by_cases hpj : p.1 = j
      · rw [if_pos hpj, if_pos hpj, if_neg (fun z => hp (hpj.trans z))]
      · rw [if_neg hpj, if_neg hpj]
theorem len_putD (kvs : List (Key × DV)) (k : Key) (v : DV) : (putD kvs k v).length ≤ kvs.length + 1 := by
  unfold putD
  split
  · rw [List.length_map]; omega
  · rw [List.length_append]; exact Nat.le_refl _
theorem putD_new {kvs : List (Key × DV)} {k : Key} (v : DV) (h : valD kvs k = none) : putD kvs k v = kvs ++ [(k, v)] := by
  unfold putD
  have e0 : (kvs.any fun kv => decide (kv.1 = k)) = (valD kvs k).isSome := hasK_val
  rw [e0, h, if_neg (by exact Bool.false_ne_true)]
end
/-! ### two clauses, the state as it is -/
section
variable {ρ ρ2 : DEnv} {M : MHp} {P : DK} {fin : Fin'} {g g1 : DTG} {wi1 : DTI} {tt1 : DTT} {te : DTE} {vs vs1 : List Nat} {C C1 : MHp → Prop}
theorem lcJ_of {β : Type} {l2 : List β} {e2 : β → DV} {acc : List DV} {K : List DV → MHp → Prop} (f : β → PyData) (hz : acc.length + l2.length ≤ sizeLine) (hC : C1 M)
    (hb : ∀ b ∈ l2, ∀ KT : DK, KT (.d (f b)) M → g1 (e2 b) (wipeD ρ2 vs1) M (fun ρ3 M5 => te ρ3 M5 KT fun _ _ => False) fun _ _ => False) (q : K (acc ++ (l2.map f).map .d) M) : lcJ (l2.map e2) C1 g1 tYes te vs1 ρ2 M acc K := by
  refine ⟨fun j a M' => M = M' ∧ a = acc ++ ((l2.take j).map f).map .d, ⟨M, .refl, rfl, by simp⟩, ?_, ?_, ?_⟩
  · rintro _ _ _ _ ⟨rfl, _⟩
    exact hC
  · rintro j _ _ x hx ⟨rfl, rfl⟩
    rw [List.getElem?_map] at hx
    obtain ⟨b, hb', rfl⟩ := Option.map_eq_some_iff.mp hx
    have hj := (List.getElem?_eq_some_iff.mp hb').1
    refine hb b (List.mem_of_getElem? hb') _ ⟨?_, M, .refl, rfl, ?_⟩
    · rw [List.length_append, List.length_map, List.length_map, List.length_take]
      omega
    · rw [take_succ_of hb', List.map_append, List.map_append, List.append_assoc]
      rfl
  · rintro _ _ ⟨rfl, rfl⟩
    rw [List.length_map, List.take_length]
    exact q
theorem lc2_of {α : Type} {l : List α} {e : α → DV} (F : α → List PyData) (hz : (l.flatMap F).length ≤ sizeLine) (hC : C M)
    (hb : ∀ a ∈ l, ∀ (acc : List DV) (K : List DV → MHp → Prop), acc.length + (F a).length ≤ sizeLine → K (acc ++ (F a).map .d) M → g (e a) (wipeD ρ vs) M (fun ρ2 M2 => wi1 ρ2 M2 (fun xs1 C1 M4 => lcJ xs1 C1 g1 tt1 te vs1 ρ2 M4 acc K) fun _ _ => False) fun _ _ => False)
    (q : fin ((l.flatMap F).map .d) M P) : lcI2 fin (l.map e) C g tYes wi1 g1 tt1 te vs vs1 ρ M P := by
  refine ⟨fun j a M' => M = M' ∧ a = ((l.take j).flatMap F).map .d, ⟨M, .refl, rfl, by simp⟩, ?_, ?_, ?_⟩
  · rintro _ _ _ _ ⟨rfl, _⟩
    exact hC
  · rintro j _ _ x hx ⟨rfl, rfl⟩
    rw [List.getElem?_map] at hx
    obtain ⟨b, hb', rfl⟩ := Option.map_eq_some_iff.mp hx
    have e1 := take_succ_of hb'
    have e2 : (l.take (j + 1)).flatMap F = (l.take j).flatMap F ++ F b := by rw [e1, List.flatMap_append]; simp
    have e3 : l.flatMap F = (l.take (j + 1)).flatMap F ++ (l.drop (j + 1)).flatMap F := by rw [← List.flatMap_append, List.take_append_drop]
    refine hb b (List.mem_of_getElem? hb') _ _ ?_ ⟨M, .refl, rfl, ?_⟩
    · rw [e3, List.length_append, e2, List.length_append] at hz
      rw [List.length_map]
      omega
    · rw [e2, List.map_append]
  · rintro _ _ ⟨rfl, rfl⟩
    rw [List.length_map, List.take_length]
    exact q
end
end DL

/-! Part 18: xs.pop(), xs.extend(ys) of mutable lists of data. -/
namespace DL
open PySem PySem.Spec PyProof.Rows L2
section
variable {X : Cx}
theorem dpAll_dropLast {K : PySem.W.Frag} {F : Hp} {vs : List V} {ds : List PyData} (h : DpAll K F vs ds) : DpAll K F vs.dropLast ds.dropLast := by
  rw [List.dropLast_eq_take, List.dropLast_eq_take, dpAll_len h]
  exact dpAll_take _ h
def gPop : DM := fun x xs M P => match x, xs with
  | .r a, [] => match M a with
    | some (.ls ys) => ∃ y, ys[ys.length - 1]? = some y ∧ P (.d y) (mu M a (.ls ys.dropLast))
    | _ => False
  | _, _ => False
theorem dm_pop : DMt X "list.pop" gPop := by
  intro pins s σ H v vs w us Q I rx rv h
  obtain ⟨x, xs, M, N, P, hr, ix, ixs, hg, fo⟩ := h
  unfold gPop at hg
  split at hg
  · rename_i a
    cases ixs
    have i' : v = .ref a := ix
    subst i'
    split at hg
    · rename_i ys q
      obtain ⟨y, hy, hg⟩ := hg
      obtain ⟨o, h1, h2⟩ := hr.obj a _ q
      cases o with
      | lst ws =>
        have h2' : DpAll X.K (fz M N H) ws ys := h2
        have hz := dpAll_len h2'
        obtain ⟨u, hu, iu⟩ := dpAll_get h2' hy
        obtain ⟨r2, a2⟩ := hr.write (x := .ls ys.dropLast) (o := .lst ws.dropLast) q (dpAll_dropLast h2')
        exact mt_pop pins s σ H _ _ w us Q I rx rv ⟨a, ws, u, rfl, rfl, h1, by rw [hz]; exact hu, fo _ _ _ _ hg r2 a2 (dp_mono a2.fr _ _ iu)⟩
      | _ => exact (show False from h2).elim
    · exact hg.elim
  · exact hg.elim
theorem x_pop {M : MHp} {P : DK} {a : Addr} {ys : List PyData} {y : PyData} (h : M a = some (.ls ys)) (hy : ys[ys.length - 1]? = some y) (q : P (.d y) (mu M a (.ls ys.dropLast))) : gPop (.r a) [] M P := by
  unfold gPop
  simp only [h]
  exact ⟨y, hy, q⟩
end
end DL

local macro_rules | `(tactic| walk_at "ne") => `(tactic| first | assumption | exact Ne.symm (by assumption) | exact DL.ne_of_mn (by assumption) (by assumption) | exact Ne.symm (DL.ne_of_mn (by assumption) (by assumption)))
local macro_rules | `(tactic| walk_at "m") => `(tactic| first
  | exact DL.mu_same | assumption
  | (refine DL.mu_at (by walk_at "ne") ?_; walk_at "m"))
local macro_rules | `(tactic| walk_at "s1") => `(tactic| with_reducible first
  | (apply DL.x_var; next => with_unfolding_all exact rfl)
  | refine DL.x_op ?_ | refine DL.x_c ?_ | refine DL.x_gD ?_ | refine DL.x_rd ?_ | refine DL.x_seq ?_ | refine DL.x_set ?_ | refine DL.x_tB ?_ | refine DL.x_asB ?_ | refine DL.x_if ?_
  | refine DL.x_aCons ?_ | refine DL.x_aNil ?_ | refine DL.x_call ?_ | refine DL.x_cb ?_ | refine DL.x_brT ?_ | refine DL.x_brF ?_
  | refine DL.x_addI ?_ | refine DL.x_sub ?_ | refine DL.x_neg ?_ | refine DL.x_eqI ?_ | refine DL.x_neI ?_ | refine DL.x_ltI ?_ | refine DL.x_leI ?_ | refine DL.x_gtI ?_ | refine DL.x_geI ?_
  | refine DL.x_tAnd ?_ | refine DL.x_tOr ?_ | refine DL.x_tNot ?_ | refine DL.x_eAnd ?_ | refine DL.x_eOr ?_ | refine DL.x_eNotT ?_ | refine DL.x_eIf ?_ | refine DL.x_chain ?_ | refine DL.x_tTru ?_ | refine DL.x_brN ?_ | refine DL.x_brAnd ?_ | refine DL.x_brOr ?_
  | refine DL.x_ret ?_ | refine DL.x_retN ?_ | refine DL.x_next ?_ | refine DL.x_expr ?_ | refine DL.x_par ?_ | refine DL.x_asg ?_ | refine DL.x_for ?_ | refine DL.x_raise ?_ | refine DL.x_break ?_ | refine DL.x_cont ?_
  | refine DL.x_asI ?_ | refine DL.x_asD ?_ | refine DL.x_as2 ?_ | refine DL.x_asI1 ?_ | refine DL.x_asI2 ?_ | refine DL.x_asSqD ?_ | refine DL.x_walkL ?_ | refine DL.x_walkT ?_ | refine DL.x_iSeqM ?_ | refine DL.x_r1 ?_ | refine DL.x_r2 ?_
  | refine DL.x_un ?_ | refine DL.x_g1 ?_ | refine DL.x_g2 ?_ | refine DL.x_gcd ?_ | refine DL.x_gLenD ?_ | refine DL.x_lenL ?_ | refine DL.x_lenT ?_ | refine DL.x_int ?_ | refine DL.x_intB ?_ | refine DL.x_abs ?_ | refine DL.x_tupL ?_ | refine DL.x_tupT ?_ | refine DL.x_listD ?_ | refine DL.x_seqL ?_ | refine DL.x_seqT ?_
  | refine DL.x_allN ?_ | refine DL.x_allC ?_ | refine DL.x_tup ?_ | refine DL.x_lst ?_ | refine DL.x_lstM ?_ | refine DL.x_lstV ?_ | refine DL.x_bm ?_ | refine DL.x_isi ?_
  | refine DL.x_truI ?_ | refine DL.x_truB ?_ | refine DL.x_truN ?_ | refine DL.x_truL ?_ | refine DL.x_truT ?_ | refine DL.x_isNN ?_
  | refine DL.x_sl ?_ | refine DL.x_oN ?_ | refine DL.x_oS ?_ | refine DL.x_slL ?_ | refine DL.x_slT ?_
  | refine DL.x_is_int_int ?_  | refine DL.x_is_int_bool ?_  | refine DL.x_is_int_str ?_  | refine DL.x_is_int_list ?_  | refine DL.x_is_int_tuple ?_  | refine DL.x_is_bool_int ?_  | refine DL.x_is_bool_bool ?_  | refine DL.x_is_bool_str ?_  | refine DL.x_is_bool_list ?_  | refine DL.x_is_bool_tuple ?_  | refine DL.x_is_str_int ?_  | refine DL.x_is_str_bool ?_  | refine DL.x_is_str_str ?_  | refine DL.x_is_str_list ?_  | refine DL.x_is_str_tuple ?_  | refine DL.x_is_list_int ?_  | refine DL.x_is_list_bool ?_  | refine DL.x_is_list_str ?_  | refine DL.x_is_list_list ?_  | refine DL.x_is_list_tuple ?_  | refine DL.x_is_tuple_int ?_  | refine DL.x_is_tuple_bool ?_  | refine DL.x_is_tuple_str ?_  | refine DL.x_is_tuple_list ?_  | refine DL.x_is_tuple_tuple ?_  | refine DL.x_is_NoneType_int ?_  | refine DL.x_is_NoneType_bool ?_  | refine DL.x_is_NoneType_str ?_  | refine DL.x_is_NoneType_list ?_  | refine DL.x_is_NoneType_tuple ?_
  | refine DL.x_tryAs ?_ | refine DL.x_try ?_ | refine DL.x_xRet ?_ | refine DL.x_xSet ?_ | refine DL.x_fld ?_ | refine DL.x_sfld ?_ | refine DL.x_meth ?_ | refine DL.x_make ?_ | refine DL.x_dkM ?_ | refine DL.x_lc2 ?_ | refine DL.x_sput ?_ | refine DL.x_get2 ?_ | refine DL.x_ssetT ?_
  | refine DL.x_sset ?_ | refine DL.x_ssetM ?_ | refine DL.x_lc ?_ | refine DL.x_yes ?_ | refine DL.x_inTI ?_ | refine DL.x_ninTI ?_
  | refine DL.x_rev ?_ | refine DL.x_revL ?_ | refine DL.x_revT ?_ | refine DL.x_strS ?_ | refine DL.x_xIf ?_ | refine DL.x_xAdd ?_ | refine DL.x_tupRg ?_ | refine DL.x_lstRg ?_ | refine DL.x_lstRgM ?_ | refine DL.x_rRg1 ?_ | refine DL.x_rRg2 ?_
  | refine DL.x_inS ?_ | refine DL.x_ninS ?_ | refine DL.x_walkS ?_ | refine DL.x_allM ?_ | refine DL.x_anyM ?_
  | refine DL.x_gTp1 ?_ | refine DL.x_gTp2 ?_ | refine DL.x_gTp3 ?_ | refine DL.x_gTp4 ?_ | refine DL.x_gTp5 ?_
  | refine DL.x_gName ?_ | refine DL.x_gsN ?_ | refine DL.x_gsC ?_ | refine DL.x_gSetL ?_)
local macro_rules | `(tactic| walk_at "s2") => `(tactic| first
  | ((with_reducible apply DL.x_rdM); next => walk_at "m")
  | ((with_reducible apply DL.x_mod); next => first | assumption | omega)
  | ((with_reducible apply DL.x_fdiv); next => first | assumption | exact DL.divOk_small (by omega) (by omega))
  | ((with_reducible apply DL.x_mul); next => first | assumption | exact DL.mulOk_left (by omega) (by omega) | exact DL.mulOk_right (by omega) (by omega))
  | ((with_reducible apply DL.x_pow); next => exact ⟨by omega, by omega, by decide⟩)
  | ((with_reducible apply DL.x_ixL); next => first | with_reducible rfl | assumption | with_unfolding_all exact rfl)
  | ((with_reducible apply DL.x_ixT); next => first | with_reducible rfl | assumption | with_unfolding_all exact rfl)
  | ((with_reducible apply DL.x_brY); next => first | assumption | omega | (simp only [List.length_cons, List.length_nil]; omega))
  | ((with_reducible apply DL.x_brZ); next => first | assumption | omega | (simp only [List.length_cons, List.length_nil]; omega))
  | ((with_reducible apply DL.x_gLenM); next => walk_at "m")
  | ((with_reducible apply DL.x_append); next => walk_at "m")
  | ((with_reducible apply DL.x_setLK); (next => walk_at "m"); (next => first | assumption | with_unfolding_all exact rfl))
  | ((with_reducible apply DL.x_asSqM); next => walk_at "m")
  | ((with_reducible apply DL.x_lenS); next => first | assumption | (rw [PySem.sizeLine_eq]; omega))
  | ((with_reducible apply DL.x_ixS); (next => first | assumption | (rw [PySem.sizeLine_eq]; omega)); (next => first | assumption | with_unfolding_all exact rfl))
  | ((with_reducible apply DL.x_fldR); (next => walk_at "m"); (next => first | assumption | with_unfolding_all exact rfl))
  | ((with_reducible apply DL.x_sfldR); (next => walk_at "m"); (next => first | assumption | exact Nat.le_of_ble_eq_true rfl))
  | ((with_reducible apply DL.x_methR); (next => walk_at "m"); (next => first | assumption | with_unfolding_all exact rfl))
  | ((with_reducible apply DL.x_inK); (next => exact rfl); (next => walk_at "m"))
  | ((with_reducible apply DL.x_ninK); (next => exact rfl); (next => walk_at "m"))
  | ((with_reducible apply DL.x_getK); (next => exact rfl); (next => walk_at "m"); (next => assumption))
  | ((with_reducible apply DL.x_putDK); (next => exact rfl); (next => walk_at "m"); (next => first | assumption | omega))
  | ((with_reducible apply DL.x_gSortKI); next => walk_at "m")
  | (with_reducible refine And.intro (DL.x_isLst (by walk_at "m")) ?_)
  | ((with_reducible refine And.intro ?_ ?_); next => exact Nat.le_of_ble_eq_true rfl))
local macro_rules | `(tactic| walk_at "st") => `(tactic| repeat (first | walk_at "s1" | walk_at "s2"))

namespace DL.K09
open PySem PySem.Spec PyProof.Rows L2 DL
def topS (i : Nat) : Stmt := PySem.Challenge.pw_tableguild_k09_walkers.main.body.getD i (.Pass ⟨0, 0, 0, 0⟩)
def clsS (i j : Nat) : Stmt := match topS i with | .ClassDef _ _ _ b _ _ _ _ _ _ _ => b.getD j (.Pass ⟨0, 0, 0, 0⟩) | _ => .Pass ⟨0, 0, 0, 0⟩
abbrev s_Trie___init__ : Stmt := clsS 6 0
abbrev n_Trie___init__ : List Str := ["self", "rows", "positions", "good", "row", "k"]
abbrev p_Trie___init__ : List Str := ["self", "rows", "positions"]
abbrev s_Trie_put : Stmt := clsS 6 1
abbrev n_Trie_put : List Str := ["self", "entries", "node", "k"]
abbrev p_Trie_put : List Str := ["self", "entries"]
abbrev s_Trie_node_at : Stmt := clsS 6 3
abbrev n_Trie_node_at : List Str := ["self", "prefix", "node", "entry"]
abbrev p_Trie_node_at : List Str := ["self", "prefix"]
abbrev s_Trie_children : Stmt := clsS 6 4
abbrev n_Trie_children : List Str := ["self", "prefix", "node"]
abbrev p_Trie_children : List Str := ["self", "prefix"]
abbrev s_place_from : Stmt := topS 7
abbrev n_place_from : List Str := ["row", "start", "n", "low", "high", "middle"]
abbrev p_place_from : List Str := ["row", "start", "n"]
abbrev s_Walker___init__ : Stmt := clsS 9 0
abbrev n_Walker___init__ : List Str := ["self", "trie"]
abbrev p_Walker___init__ : List Str := ["self", "trie"]
abbrev s_Walker_level : Stmt := clsS 9 1
abbrev n_Walker_level : List Str := ["self"]
abbrev p_Walker_level : List Str := ["self"]
abbrev s_Walker_moves : Stmt := clsS 9 2
abbrev n_Walker_moves : List Str := ["self"]
abbrev p_Walker_moves : List Str := ["self"]
abbrev s_Walker_at_end : Stmt := clsS 9 3
abbrev n_Walker_at_end : List Str := ["self"]
abbrev p_Walker_at_end : List Str := ["self"]
abbrev s_Walker_check_at_key : Stmt := clsS 9 4
abbrev n_Walker_check_at_key : List Str := ["self"]
abbrev p_Walker_check_at_key : List Str := ["self"]
abbrev s_Walker_down : Stmt := clsS 9 5
abbrev n_Walker_down : List Str := ["self", "prefix", "children"]
abbrev p_Walker_down : List Str := ["self"]
abbrev s_Walker_up : Stmt := clsS 9 6
abbrev n_Walker_up : List Str := ["self"]
abbrev p_Walker_up : List Str := ["self"]
abbrev s_Walker_key : Stmt := clsS 9 7
abbrev n_Walker_key : List Str := ["self"]
abbrev p_Walker_key : List Str := ["self"]
abbrev s_Walker_next : Stmt := clsS 9 8
abbrev n_Walker_next : List Str := ["self"]
abbrev p_Walker_next : List Str := ["self"]
abbrev s_Walker_seek : Stmt := clsS 9 9
abbrev n_Walker_seek : List Str := ["self", "n"]
abbrev p_Walker_seek : List Str := ["self", "n"]
abbrev s_law_begin : Stmt := topS 11
abbrev n_law_begin : List Str := ["script", "seed", "cell"]
abbrev p_law_begin : List Str := ["script"]
abbrev s_law_take : Stmt := topS 12
abbrev n_law_take : List Str := ["d", "many", "small", "digit"]
abbrev p_law_take : List Str := ["d", "many"]
abbrev s_law_rows : Stmt := topS 13
abbrev n_law_rows : List Str := ["d", "columns", "most", "reach", "rows", "k", "row", "j"]
abbrev p_law_rows : List Str := ["d", "columns", "most", "reach"]
abbrev s_law_told : Stmt := topS 14
abbrev n_law_told : List Str := ["walker", "word", "n", "found"]
abbrev p_law_told : List Str := ["walker", "word", "n"]
abbrev s_law_children : Stmt := topS 15
abbrev n_law_children : List Str := ["rows", "prefix", "many", "row"]
abbrev p_law_children : List Str := ["rows", "prefix"]
abbrev s_law_move : Stmt := topS 16
abbrev n_law_move : List Str := ["rows", "place", "word", "n", "prefix", "lists", "at", "ended", "inner", "children", "step", "c"]
abbrev p_law_move : List Str := ["rows", "place", "word", "n"]
abbrev s_law : Stmt := topS 17
abbrev n_law : List Str := ["script", "d", "columns", "rows", "walker", "place", "made", "turn", "word", "n", "fresh", "told", "prefix", "lists", "at", "ended", "key"]
abbrev p_law : List Str := ["script"]
section
variable (C_RowError C_WalkError C_HallError : Addr)
def ml_WalkError : List (Value × Bool) := [(.ref C_RowError, false), (.ref C_WalkError, true), (.ref C_HallError, false)]
end
abbrev tpI (r : List Int) : PyData := .tuple (r.map .int)
abbrev rwsD (R : List (List Int)) : PyData := .tuple (R.map tpI)
def ascD (xs : List PyData) : Bool := (List.range (xs.length - 1)).all fun k => PySem.W.dataLt (xs.getD k .none) (xs.getD (k + 1) .none)
def sp_law_rows : DSp := fun xs M P _ => ∃ (a : Addr) (st : List PyData) (n m q : Nat), xs = [.r a, .d (.int n), .d (.int m), .d (.int q)] ∧ M a = some (.ls st) ∧ DSt st ∧ 0 < n ∧ n ≤ 4 ∧ m ≤ 100 ∧ 0 < q ∧ q ≤ 1000000000 ∧
  ∀ (R : List (List Int)) st', DSt st' → (∀ r ∈ R, r.length = n ∧ ∀ x ∈ r, (0 : Int) ≤ x ∧ x < q) → ascD (R.map tpI) = true → R.length ≤ m → P (.d (rwsD R)) (mu M a (.ls st'))
def Asc (r : List Int) : Prop := r.Pairwise (· < ·)
def Plc (r : List Int) (low : Nat) (n : Int) (p : Nat) : Prop := low ≤ p ∧ p ≤ r.length ∧ (∀ i x, low ≤ i → i < p → r[i]? = some x → x < n) ∧ ∀ x, r[p]? = some x → n ≤ x
def sp_place_from : DSp := fun xs M P _ => ∃ (r : List Int) (low : Nat) (n : Int), xs = [.d (tpI r), .d (.int low), .d (.int n)] ∧ Asc r ∧ low ≤ r.length ∧ r.length < 2 ^ 61 ∧ ∀ p : Nat, Plc r low n p → P (.d (.int p)) M
structure Tri (M : MHp) (T : List Int → Option Addr) (m : Nat) : Prop where
  cl : ∀ q i, T q = none → T (q ++ [i]) = none
  inj : ∀ p q a, T p = some a → T q = some a → p = q
  at_ : ∀ p a, T p = some a → ∃ kvs : List (Key × DV), M a = some (.dk kvs) ∧ kvs.length ≤ m ∧ (kvs.map (·.1)).Nodup ∧ (∀ k ∈ kvs, ∃ i, k.1 = .inl i) ∧ ∀ i : Int, valD kvs (.inl i) = (T (p ++ [i])).map DV.r
abbrev fsT (t : Addr) (n d : Int) : List (Str × DV) := [(Str.ofString "top", .r t), (Str.ofString "size", .d (.int n)), (Str.ofString "depth", .d (.int d))]
structure TrO (C : Addr) (M : MHp) (o dx t : Addr) (n d : Int) (T : List Int → Option Addr) (m : Nat) : Prop where
  ins : M o = some (.ins C dx (fsT t n d))
  tri : Tri M T m
  top : T [] = some t
def Pfx (S : List Int → Prop) (T : List Int → Option Addr) : Prop := ∀ p, T p ≠ none ↔ p = [] ∨ ∃ r, S r ∧ p <+: r
def Keeps (M M' : MHp) (o : Addr) (T : List Int → Option Addr) : Prop := ∀ a x, M a = some x → a ≠ o → (∀ p, T p ≠ some a) → M' a = some x
def sp_Trie_put (C : Addr) : DSp := fun xs M P _ => ∃ (o dx t : Addr) (n d : Int) (T : List Int → Option Addr) (m : Nat) (es : List Int), xs = [.r o, .d (.list (es.map .int))] ∧ TrO C M o dx t n d T m ∧ 1 ≤ es.length ∧ es.length ≤ 100 ∧ m ≤ 10000 ∧
  ∀ M' T' n', TrO C M' o dx t n' d T' (m + 1) → (∀ p, T' p ≠ none ↔ T p ≠ none ∨ p <+: es) → n' = n + (if T es = none then 1 else 0) → Keeps M M' o T → (∀ p, T p ≠ none → T' p = T p) → (∀ p a, T' p = some a → T p = none → M a = none) → P (.d .none) M'
def dvO : Option Addr → DV
  | none => .d .none
  | some a => .r a
def sp_Trie_node_at (C : Addr) : DSp := fun xs M P _ => ∃ (o dx t : Addr) (n d : Int) (T : List Int → Option Addr) (m : Nat) (p : List Int), xs = [.r o, .d (tpI p)] ∧ TrO C M o dx t n d T m ∧ p.length ≤ 100 ∧ (∀ q i, T q = none → T (q ++ [i]) = none) ∧ P (dvO (T p)) M
def sp_Trie_children (C : Addr) : DSp := fun xs M P _ => ∃ (o dx t : Addr) (n d : Int) (T : List Int → Option Addr) (m : Nat) (p : List Int), xs = [.r o, .d (tpI p)] ∧ TrO C M o dx t n d T m ∧ m < 64 ∧ p.length ≤ 100 ∧ (∀ q i, T q = none → T (q ++ [i]) = none) ∧
  ∀ ys : List Int, ys.Pairwise (· < ·) → (∀ i, i ∈ ys ↔ T (p ++ [i]) ≠ none) → P (.d (tpI ys)) M
def Fits (R : List (List Int)) (ps : List Int) : Prop := ps ≠ [] ∧ ps.Nodup ∧ ∀ r ∈ R, ∀ k ∈ ps, 0 ≤ k ∧ k < r.length
def pick (ps : List Int) (r : List Int) : List Int := ps.map fun k => r.getD k.toNat 0
def RSz (R : List (List Int)) (ps : List Int) : Prop := R.length ≤ 100 ∧ (∀ r ∈ R, r.length ≤ 100) ∧ ps.length ≤ 100
def sp_Trie___init__ (C CR : Addr) : DSp := fun xs M P PX => ∃ (o dx : Addr) (R : List (List Int)) (ps : List Int), xs = [.r o, .d (rwsD R), .d (tpI ps)] ∧ M o = some (.ins C dx []) ∧ RSz R ps ∧ (¬ Fits R ps → PX { cls := .ref CR } M) ∧
  (Fits R ps → ∀ M' t T (U : List (List Int)), TrO C M' o dx t U.length ps.length T R.length → U.Nodup → (∀ r, r ∈ U ↔ r ∈ R.map (pick ps)) → Pfx (fun r => r ∈ R.map (pick ps)) T → (∀ a x, M a = some x → a ≠ o → M' a = some x) → P (.d .none) M')
/-! ### walkers: the levels from the top, each a row of children and a place in it -/
abbrev Lv := List Int × Nat
abbrev rowL (S : List Lv) : List PyData := S.map fun x => tpI x.1
abbrev plcL (S : List Lv) : List PyData := S.map fun x => .int (x.2 : Nat)
abbrev lstL (S : List Lv) : List PyData := S.map fun x => .list (x.1.map .int)
abbrev fsW (ta : Addr) (pfx : List Int) (ra pa : Addr) (made : Int) : List (Str × DV) := [(Str.ofString "trie", .r ta), (Str.ofString "prefix", .d (tpI pfx)), (Str.ofString "rows", .r ra), (Str.ofString "places", .r pa), (Str.ofString "made", .d (.int made))]
structure WO (C : Addr) (M : MHp) (w dx ta ra pa : Addr) (pfx : List Int) (S : List Lv) (made : Int) : Prop where
  ins : M w = some (.ins C dx (fsW ta pfx ra pa made))
  rws : M ra = some (.ls (rowL S))
  plc : M pa = some (.ls (plcL S))
  ne : ra ≠ pa
def ended (S : List Lv) : Bool := match S.getLast? with
  | none => false
  | some x => decide (x.1.length ≤ x.2)
structure SOk (S : List Lv) (n : Nat) : Prop where
  len : S.length ≤ n
  row : ∀ x ∈ S, Asc x.1 ∧ x.1.length ≤ 63 ∧ x.2 ≤ x.1.length
/-- all else is as it was -/
def Rest (M M' : MHp) (w ra pa : Addr) : Prop := ∀ a, a ≠ w → a ≠ ra → a ≠ pa → M' a = M a
def sp_Walker___init__ (C : Addr) : DSp := fun xs M P _ => ∃ (w dx ta : Addr), xs = [.r w, .r ta] ∧ M w = some (.ins C dx []) ∧ ∀ M' ra pa, WO C M' w dx ta ra pa [] [] 0 → (∀ a x, M a = some x → a ≠ w → M' a = some x) → M ra = none → M pa = none → P (.d .none) M'
def sp_Walker_level (C : Addr) : DSp := fun xs M P _ => ∃ (w dx ta ra pa : Addr) (pfx : List Int) (S : List Lv) (made : Int), xs = [.r w] ∧ WO C M w dx ta ra pa pfx S made ∧ P (.d (.int S.length)) M
def sp_Walker_moves (C : Addr) : DSp := fun xs M P _ => ∃ (w dx ta ra pa : Addr) (pfx : List Int) (S : List Lv) (made : Int), xs = [.r w] ∧ WO C M w dx ta ra pa pfx S made ∧ P (.d (.int made)) M
def sp_Walker_at_end (C : Addr) : DSp := fun xs M P _ => ∃ (w dx ta ra pa : Addr) (pfx : List Int) (S : List Lv) (made : Int), xs = [.r w] ∧ WO C M w dx ta ra pa pfx S made ∧ P (.d (.bool (ended S))) M
def sp_Walker_check_at_key (C CE : Addr) : DSp := fun xs M P PX => ∃ (w dx ta ra pa : Addr) (pfx : List Int) (S : List Lv) (made : Int), xs = [.r w] ∧ WO C M w dx ta ra pa pfx S made ∧ (S = [] ∨ ended S = true → PX { cls := .ref CE } M) ∧ (S ≠ [] → ended S = false → P (.d .none) M)
def sp_Walker_key (C CE : Addr) : DSp := fun xs M P PX => ∃ (w dx ta ra pa : Addr) (pfx : List Int) (S : List Lv) (made : Int), xs = [.r w] ∧ WO C M w dx ta ra pa pfx S made ∧ (S = [] ∨ ended S = true → PX { cls := .ref CE } M) ∧ (∀ S0 r a, S = S0 ++ [(r, a)] → a < r.length → P (.d (.int (r.getD a 0))) M)
def sp_Walker_next (C CE : Addr) : DSp := fun xs M P PX => ∃ (w dx ta ra pa : Addr) (pfx : List Int) (S : List Lv) (made : Int), xs = [.r w] ∧ WO C M w dx ta ra pa pfx S made ∧ (S = [] ∨ ended S = true → PX { cls := .ref CE } M) ∧
  (∀ S0 r a, S = S0 ++ [(r, a)] → a < r.length → ∀ M', WO C M' w dx ta ra pa pfx (S0 ++ [(r, a + 1)]) (made + 1) → Rest M M' w ra pa → P (.d .none) M')
def sp_Walker_seek (C CE : Addr) : DSp := fun xs M P PX => ∃ (w dx ta ra pa : Addr) (pfx : List Int) (S : List Lv) (made n : Int) (k : Nat), xs = [.r w, .d (.int n)] ∧ WO C M w dx ta ra pa pfx S made ∧ SOk S k ∧ (S = [] ∨ ended S = true → PX { cls := .ref CE } M) ∧
  (∀ S0 r a, S = S0 ++ [(r, a)] → a < r.length → ∀ p, Plc r a n p → ∀ M', WO C M' w dx ta ra pa pfx (S0 ++ [(r, p)]) (made + 1) → Rest M M' w ra pa → P (.d .none) M')
def sp_Walker_up (C CE : Addr) : DSp := fun xs M P PX => ∃ (w dx ta ra pa : Addr) (pfx : List Int) (S : List Lv) (made : Int), xs = [.r w] ∧ WO C M w dx ta ra pa pfx S made ∧ (S = [] → PX { cls := .ref CE } M) ∧
  (∀ S0 x, S = S0 ++ [x] → ∀ M', WO C M' w dx ta ra pa pfx.dropLast S0 made → Rest M M' w ra pa → P (.d .none) M')
def innerP (pfx : List Int) (S : List Lv) : List Int := match S.getLast? with
  | none => pfx
  | some x => pfx ++ [x.1.getD x.2 0]
def sp_Walker_down (C CT CE : Addr) : DSp := fun xs M P PX => ∃ (w dx ta ra pa : Addr) (pfx : List Int) (S : List Lv) (made : Int) (dxt t : Addr) (n d : Int) (T : List Int → Option Addr) (m k : Nat), xs = [.r w] ∧ WO C M w dx ta ra pa pfx S made ∧ TrO CT M ta dxt t n d T m ∧ m < 64 ∧ SOk S k ∧ k ≤ 60 ∧ pfx.length ≤ 60 ∧ (ended S = true → PX { cls := .ref CE } M) ∧
  (ended S = false → ∀ ys : List Int, Asc ys → (∀ i, i ∈ ys ↔ T (innerP pfx S ++ [i]) ≠ none) → (ys = [] → PX { cls := .ref CE } M) ∧ (ys ≠ [] → ∀ M', WO C M' w dx ta ra pa (innerP pfx S) (S ++ [(ys, 0)]) (made + 1) → Rest M M' w ra pa → P (.d .none) M'))
def sp_law_told (C CT : Addr) : DSp := fun xs M P _ => ∃ (w dx ta ra pa : Addr) (pfx : List Int) (S : List Lv) (made : Int) (dxt t : Addr) (n d : Int) (T : List Int → Option Addr) (m k : Nat) (word : Str) (nn : Int), xs = [.r w, .d (.str word), .d (.int nn)] ∧ WO C M w dx ta ra pa pfx S made ∧ TrO CT M ta dxt t n d T m ∧ m < 64 ∧ SOk S k ∧ k ≤ 60 ∧ pfx.length ≤ 60 ∧ word ∈ (["down", "up", "next", "seek", "key"] : List Str) ∧
  (word = "down" → (ended S = true → P (.d (.str "walk")) M) ∧ (ended S = false → ∀ ys : List Int, Asc ys → (∀ i, i ∈ ys ↔ T (innerP pfx S ++ [i]) ≠ none) → (ys = [] → P (.d (.str "walk")) M) ∧ (ys ≠ [] → ∀ M', WO C M' w dx ta ra pa (innerP pfx S) (S ++ [(ys, 0)]) (made + 1) → Rest M M' w ra pa → P (.d .none) M'))) ∧
  (word = "up" → (S = [] → P (.d (.str "walk")) M) ∧ (∀ S0 x, S = S0 ++ [x] → ∀ M', WO C M' w dx ta ra pa pfx.dropLast S0 made → Rest M M' w ra pa → P (.d .none) M')) ∧
  (word = "next" → (S = [] ∨ ended S = true → P (.d (.str "walk")) M) ∧ (∀ S0 r a, S = S0 ++ [(r, a)] → a < r.length → ∀ M', WO C M' w dx ta ra pa pfx (S0 ++ [(r, a + 1)]) (made + 1) → Rest M M' w ra pa → P (.d .none) M')) ∧
  (word = "seek" → (S = [] ∨ ended S = true → P (.d (.str "walk")) M) ∧ (∀ S0 r a, S = S0 ++ [(r, a)] → a < r.length → ∀ p, Plc r a nn p → ∀ M', WO C M' w dx ta ra pa pfx (S0 ++ [(r, p)]) (made + 1) → Rest M M' w ra pa → P (.d .none) M')) ∧
  (word = "key" → (S = [] ∨ ended S = true → P (.d (.str "walk")) M) ∧ (∀ S0 r a, S = S0 ++ [(r, a)] → a < r.length → P (.d (.int (r.getD a 0))) M))
/-- below the beginning p in the rows R -/
def Below (R : List (List Int)) (p : List Int) (i : Int) : Prop := ∃ r ∈ R, p ++ [i] <+: r
def sp_law_children : DSp := fun xs M P _ => ∃ (R : List (List Int)) (p : List Int), xs = [.d (rwsD R), .d (tpI p)] ∧ R.length ≤ 100 ∧ (∀ r ∈ R, r.length ≤ 100) ∧ p.length ≤ 100 ∧ ∀ ys : List Int, Asc ys → (∀ i, i ∈ ys ↔ Below R p i) → P (.d (.list (ys.map .int))) M
abbrev plD (pfx : List Int) (S : List Lv) : PyData := .tuple [tpI pfx, .list (lstL S), .list (plcL S)]
def sp_law_move : DSp := fun xs M P _ => ∃ (R : List (List Int)) (pfx : List Int) (S : List Lv) (word : Str) (nn : Int) (k : Nat), xs = [.d (rwsD R), .d (plD pfx S), .d (.str word), .d (.int nn)] ∧ R.length ≤ 100 ∧ (∀ r ∈ R, r.length ≤ 100) ∧ SOk S k ∧ k ≤ 60 ∧ pfx.length ≤ 60 ∧ word ∈ (["down", "up", "next", "seek"] : List Str) ∧
  (word = "up" → (S = [] → P (.d .none) M) ∧ (∀ S0 x, S = S0 ++ [x] → P (.d (plD pfx.dropLast S0)) M)) ∧
  (word = "down" → (ended S = true → P (.d .none) M) ∧ (ended S = false → ∀ ys : List Int, Asc ys → (∀ i, i ∈ ys ↔ Below R (innerP pfx S) i) → (ys = [] → P (.d .none) M) ∧ (ys ≠ [] → P (.d (plD (innerP pfx S) (S ++ [(ys, 0)]))) M))) ∧
  (word = "next" → (S = [] ∨ ended S = true → P (.d .none) M) ∧ (∀ S0 r a, S = S0 ++ [(r, a)] → a < r.length → P (.d (plD pfx (S0 ++ [(r, a + 1)]))) M)) ∧
  (word = "seek" → (S = [] ∨ ended S = true → P (.d .none) M) ∧ (∀ S0 r a, S = S0 ++ [(r, a)] → a < r.length → ∀ p, Plc r a nn p → P (.d (plD pfx (S0 ++ [(r, p)]))) M))
def sp_law : DSp := fun xs M P _ => ∃ ns : List Int, xs = [.d (.list (ns.map .int))] ∧ (∀ a, M a = none) ∧ ∀ M', P (.d (.bool true)) M'
section
variable (C_RowError C_WalkError C_HallError C_Trie C_Walker : Addr)
def t_Trie___init__ : DTS := (sSeq (sSet 3 (eAnd (eOp (gD gtD) (eCB gLen (aCons (eVar 2) aNil)) (eC (.int 0))) (eNotT (tTru (eCB (g1 anyDb) (aCons (eLc finD (iRange1 (aCons (eCB gLen (aCons (eVar 2) aNil)) aNil)) (gN 5) tYes (eOp (inD false) (eOp (gD ixD) (eVar 2) (eVar 5)) (eSl (eVar 2) oNone (oSome (eVar 5)))) [5]) aNil))))))
    (sSeq (sIf (tOr (tNot (tTru (eVar 3))) (tTru (eCB (g1 anyDb) (aCons (eLc2 finD (iSeq (eVar 1)) (gN 4) tYes (iSeq (eVar 2)) (gN 5) tYes (eOr (eOp (gD ltD) (eVar 5) (eC (.int 0))) (eOp (gD geD) (eVar 5) (eCB gLen (aCons (eVar 4) aNil)))) [4, 5] [5]) aNil)))) (sRaise (.ref C_RowError)) sNext)
    (sSeq (sFldD C_Trie "top" (eVar 0) eDkM)
    (sSeq (sFldD C_Trie "size" (eVar 0) (eC (.int 0)))
    (sSeq (sFldD C_Trie "depth" (eVar 0) (eCB gLen (aCons (eVar 2) aNil)))
    (sFor (iSeq (eVar 1)) (gN 4) (sExpr (eMeth C_Trie "put" (sp_Trie_put C_Trie) (eVar 0) (aCons (eLc finD (iSeq (eVar 2)) (gN 5) tYes (eOp (gD ixD) (eVar 4) (eVar 5)) [5]) aNil)))))))))
def t_Trie_put : DTS := (sSeq (sSet 2 (eFld C_Trie "top" (eVar 0)))
    (sFor (iRange1 (aCons (eCB gLen (aCons (eVar 1) aNil)) aNil)) (gN 3) (sSeq (sIf (tB (eOp (inD true) (eOp (gD ixD) (eVar 1) (eVar 3)) (eVar 2))) (sSeq (sPutK (eVar 2) (eOp (gD ixD) (eVar 1) (eVar 3)) eDkM)
    (sIf (tB (eOp (gD eqD) (eOp (gD addD) (eVar 3) (eC (.int 1))) (eCB gLen (aCons (eVar 1) aNil)))) (sFldD C_Trie "size" (eVar 0) (eOp (gD addD) (eFld C_Trie "size" (eVar 0)) (eC (.int 1)))) sNext)) sNext)
    (sSet 2 (eOp gGetK (eVar 2) (eOp (gD ixD) (eVar 1) (eVar 3)))))))
def t_Trie_node_at : DTS := (sSeq (sSet 2 (eFld C_Trie "top" (eVar 0)))
    (sSeq (sFor (iSeq (eVar 1)) (gN 3) (sSeq (sIf (tB (eOp (inD true) (eVar 3) (eVar 2))) (sRet (eC .none)) sNext)
    (sSet 2 (eOp gGetK (eVar 2) (eVar 3)))))
    (sRet (eVar 2))))
def t_Trie_children : DTS := (sSeq (sSet 2 (eMeth C_Trie "node_at" (sp_Trie_node_at C_Trie) (eVar 0) (aCons (eVar 1) aNil)))
    (sSeq (sIf (tB (eOp (isN false) (eVar 2) (eC .none))) (sRet (eTup aNil)) sNext)
    (sRet (eCB (g1 tupleD) (aCons (eCB gSortKI (aCons (eVar 2) aNil)) aNil)))))
def t_place_from : DTS := (sSeq (sSet 3 (eVar 1))
    (sSeq (sSet 4 (eCB gLen (aCons (eVar 0) aNil)))
    (sSeq (sWhile (tB (eOp (gD ltD) (eVar 3) (eVar 4))) (sSeq (sSet 5 (eOp (gD fdivD) (eOp (gD addD) (eVar 3) (eVar 4)) (eC (.int 2))))
    (sIf (tB (eOp (gD ltD) (eOp (gD ixD) (eVar 0) (eVar 5)) (eVar 2))) (sSet 3 (eOp (gD addD) (eVar 5) (eC (.int 1)))) (sSet 4 (eVar 5)))))
    (sRet (eVar 3)))))
def t_Walker___init__ : DTS := (sSeq (sFldD C_Walker "trie" (eVar 0) (eVar 1))
    (sSeq (sFldD C_Walker "prefix" (eVar 0) (eTup aNil))
    (sSeq (sFldD C_Walker "rows" (eVar 0) (eLstM aNil))
    (sSeq (sFldD C_Walker "places" (eVar 0) (eLstM aNil))
    (sFldD C_Walker "made" (eVar 0) (eC (.int 0)))))))
def t_Walker_level : DTS := (sRet (eCB gLen (aCons (eFld C_Walker "rows" (eVar 0)) aNil)))
def t_Walker_moves : DTS := (sRet (eFld C_Walker "made" (eVar 0)))
def t_Walker_at_end : DTS := (sRet (eAnd (eOp (gD gtD) (eCB gLen (aCons (eFld C_Walker "rows" (eVar 0)) aNil)) (eC (.int 0))) (eOp (gD geD) (eOp (gD ixD) (eFld C_Walker "places" (eVar 0)) (eUn negD (eC (.int 1)))) (eCB gLen (aCons (eOp (gD ixD) (eFld C_Walker "rows" (eVar 0)) (eUn negD (eC (.int 1)))) aNil)))))
def t_Walker_check_at_key : DTS := (sIf (tOr (tB (eOp (gD eqD) (eCB gLen (aCons (eFld C_Walker "rows" (eVar 0)) aNil)) (eC (.int 0)))) (tTru (eMeth C_Walker "at_end" (sp_Walker_at_end C_Walker) (eVar 0) aNil))) (sRaise (.ref C_WalkError)) sNext)
def t_Walker_down : DTS := (sSeq (sIf (tTru (eMeth C_Walker "at_end" (sp_Walker_at_end C_Walker) (eVar 0) aNil)) (sRaise (.ref C_WalkError)) sNext)
    (sSeq (sSet 1 (eFld C_Walker "prefix" (eVar 0)))
    (sSeq (sIf (tB (eOp (gD gtD) (eCB gLen (aCons (eFld C_Walker "rows" (eVar 0)) aNil)) (eC (.int 0)))) (sSet 1 (eOp (gD addD) (eVar 1) (eTup (aCons (eMeth C_Walker "key" (sp_Walker_key C_Walker C_WalkError) (eVar 0) aNil) aNil)))) sNext)
    (sSeq (sSet 2 (eMeth C_Trie "children" (sp_Trie_children C_Trie) (eFld C_Walker "trie" (eVar 0)) (aCons (eVar 1) aNil)))
    (sSeq (sIf (tB (eOp (gD eqD) (eCB gLen (aCons (eVar 2) aNil)) (eC (.int 0)))) (sRaise (.ref C_WalkError)) sNext)
    (sSeq (sFldD C_Walker "prefix" (eVar 0) (eVar 1))
    (sSeq (sExpr (eBm isLst gAppend (eFld C_Walker "rows" (eVar 0)) (aCons (eVar 2) aNil)))
    (sSeq (sExpr (eBm isLst gAppend (eFld C_Walker "places" (eVar 0)) (aCons (eC (.int 0)) aNil)))
    (sFldD C_Walker "made" (eVar 0) (eOp (gD addD) (eFld C_Walker "made" (eVar 0)) (eC (.int 1))))))))))))
def t_Walker_up : DTS := (sSeq (sIf (tB (eOp (gD eqD) (eCB gLen (aCons (eFld C_Walker "rows" (eVar 0)) aNil)) (eC (.int 0)))) (sRaise (.ref C_WalkError)) sNext)
    (sSeq (sExpr (eBm isLst gPop (eFld C_Walker "rows" (eVar 0)) aNil))
    (sSeq (sExpr (eBm isLst gPop (eFld C_Walker "places" (eVar 0)) aNil))
    (sFldD C_Walker "prefix" (eVar 0) (eSl (eFld C_Walker "prefix" (eVar 0)) oNone (oSome (eUn negD (eC (.int 1)))))))))
def t_Walker_key : DTS := (sSeq (sExpr (eMeth C_Walker "check_at_key" (sp_Walker_check_at_key C_Walker C_WalkError) (eVar 0) aNil))
    (sRet (eOp (gD ixD) (eOp (gD ixD) (eFld C_Walker "rows" (eVar 0)) (eUn negD (eC (.int 1)))) (eOp (gD ixD) (eFld C_Walker "places" (eVar 0)) (eUn negD (eC (.int 1)))))))
def t_Walker_next : DTS := (sSeq (sExpr (eMeth C_Walker "check_at_key" (sp_Walker_check_at_key C_Walker C_WalkError) (eVar 0) aNil))
    (sSeq (sAsg (eOp (gD addD) (eOp (gD ixD) (eFld C_Walker "places" (eVar 0)) (eUn negD (eC (.int 1)))) (eC (.int 1))) (gSetL (eFld C_Walker "places" (eVar 0)) (eUn negD (eC (.int 1)))))
    (sFldD C_Walker "made" (eVar 0) (eOp (gD addD) (eFld C_Walker "made" (eVar 0)) (eC (.int 1))))))
def t_Walker_seek : DTS := (sSeq (sExpr (eMeth C_Walker "check_at_key" (sp_Walker_check_at_key C_Walker C_WalkError) (eVar 0) aNil))
    (sSeq (sAsg (eCall sp_place_from (aCons (eOp (gD ixD) (eFld C_Walker "rows" (eVar 0)) (eUn negD (eC (.int 1)))) (aCons (eOp (gD ixD) (eFld C_Walker "places" (eVar 0)) (eUn negD (eC (.int 1)))) (aCons (eVar 1) aNil)))) (gSetL (eFld C_Walker "places" (eVar 0)) (eUn negD (eC (.int 1)))))
    (sFldD C_Walker "made" (eVar 0) (eOp (gD addD) (eFld C_Walker "made" (eVar 0)) (eC (.int 1))))))
def t_law_begin : DTS := (sSeq (sSet 1 (eC (.int 1)))
    (sSeq (sFor (iSeq (eVar 0)) (gN 2) (sSet 1 (eOp (gD modD) (eOp (gD addD) (eOp (gD addD) (eOp (gD mulD) (eVar 1) (eC (.int 69621))) (eOp (gD modD) (eCB (g1 intD) (aCons (eVar 2) aNil)) (eC (.int 2147483629)))) (eC (.int 7))) (eC (.int 2147483647)))))
    (sRet (eLstM (aCons (eCB (g1 listD) (aCons (eVar 0) aNil)) (aCons (eC (.int 0)) (aCons (eC (.int 0)) (aCons (eVar 1) aNil))))))))
def t_law_take : DTS := (sSeq (sIf (tAnd (tB (eOp (gD eqD) (eOp (gD ixD) (eVar 0) (eC (.int 2))) (eC (.int 0)))) (tB (eOp (gD ltD) (eOp (gD ixD) (eVar 0) (eC (.int 1))) (eCB gLen (aCons (eOp (gD ixD) (eVar 0) (eC (.int 0))) aNil))))) (sSeq (sAsg (eCB (g1 absD) (aCons (eCB (g1 intD) (aCons (eOp (gD ixD) (eOp (gD ixD) (eVar 0) (eC (.int 0))) (eOp (gD ixD) (eVar 0) (eC (.int 1)))) aNil)) aNil)) (gSetL (eVar 0) (eC (.int 2))))
    (sSeq (sAsg (eOp (gD addD) (eOp (gD ixD) (eVar 0) (eC (.int 1))) (eC (.int 1))) (gSetL (eVar 0) (eC (.int 1))))
    (sIf (tB (eOp (gD ltD) (eOp (gD ixD) (eVar 0) (eC (.int 2))) (eOp (gD powD) (eC (.int 10)) (eC (.int 18))))) (sSeq (sSet 2 (eCB (g1 intD) (aCons (eOp (gD ixD) (eVar 0) (eC (.int 2))) aNil)))
    (sSeq (sAsg (eC (.int 0)) (gSetL (eVar 0) (eC (.int 2))))
    (sRet (eOp (gD modD) (eVar 2) (eVar 1))))) sNext))) sNext)
    (sSeq (sIf (tB (eOp (gD gtD) (eOp (gD ixD) (eVar 0) (eC (.int 2))) (eC (.int 0)))) (sSeq (sSet 3 (eOp (gD modD) (eCB (g1 intD) (aCons (eOp (gD ixD) (eVar 0) (eC (.int 2))) aNil)) (eVar 1)))
    (sSeq (sAsg (eOp (gD fdivD) (eCB (g1 intD) (aCons (eOp (gD ixD) (eVar 0) (eC (.int 2))) aNil)) (eVar 1)) (gSetL (eVar 0) (eC (.int 2))))
    (sRet (eVar 3)))) sNext)
    (sSeq (sAsg (eOp (gD modD) (eCB (g1 intD) (aCons (eOp (gD addD) (eOp (gD mulD) (eOp (gD ixD) (eVar 0) (eC (.int 3))) (eC (.int 48271))) (eC (.int 11))) aNil)) (eC (.int 2147483647))) (gSetL (eVar 0) (eC (.int 3))))
    (sRet (eOp (gD modD) (eCB (g1 intD) (aCons (eOp (gD fdivD) (eOp (gD ixD) (eVar 0) (eC (.int 3))) (eC (.int 3))) aNil)) (eVar 1))))))
def t_law_rows : DTS := (sSeq (sSet 4 (eLstM aNil))
    (sSeq (sFor (iRange1 (aCons (eCall sp_law_take (aCons (eVar 0) (aCons (eOp (gD addD) (eVar 2) (eC (.int 1))) aNil))) aNil)) (gN 5) (sSeq (sSet 6 (eCB (g1 tupleD) (aCons (eLc finD (iRange1 (aCons (eVar 1) aNil)) (gN 7) tYes (eCall sp_law_take (aCons (eVar 0) (aCons (eVar 3) aNil))) [7]) aNil)))
    (sIf (tB (eOp (inD true) (eVar 6) (eVar 4))) (sExpr (eBm isLst gAppend (eVar 4) (aCons (eVar 6) aNil))) sNext)))
    (sRet (eCB (g1 tupleD) (aCons (eCB (g1 sortD) (aCons (eVar 4) aNil)) aNil)))))
def t_law_told : DTS := (sSeq (sTry (ml_WalkError C_RowError C_WalkError C_HallError) (sIf (tB (eOp (gD eqD) (eVar 1) (eC (.str "down")))) (sSet 3 (eMeth C_Walker "down" (sp_Walker_down C_Walker C_Trie C_WalkError) (eVar 0) aNil)) (sIf (tB (eOp (gD eqD) (eVar 1) (eC (.str "up")))) (sSet 3 (eMeth C_Walker "up" (sp_Walker_up C_Walker C_WalkError) (eVar 0) aNil)) (sIf (tB (eOp (gD eqD) (eVar 1) (eC (.str "next")))) (sSet 3 (eMeth C_Walker "next" (sp_Walker_next C_Walker C_WalkError) (eVar 0) aNil)) (sIf (tB (eOp (gD eqD) (eVar 1) (eC (.str "seek")))) (sSet 3 (eMeth C_Walker "seek" (sp_Walker_seek C_Walker C_WalkError) (eVar 0) (aCons (eVar 2) aNil))) (sSet 3 (eMeth C_Walker "key" (sp_Walker_key C_Walker C_WalkError) (eVar 0) aNil)))))) (fun _ _ => (sRet (eC (.str "walk")))))
    (sRet (eVar 3)))
def t_law_children : DTS := (sSeq (sSet 2 (eCB gLen (aCons (eVar 1) aNil)))
    (sRet (eSortedSet (eLc finD (iSeq (eVar 0)) (gN 3) (tAnd (tB (eOp (gD eqD) (eSl (eVar 3) oNone (oSome (eVar 2))) (eVar 1))) (tB (eOp (gD gtD) (eCB gLen (aCons (eVar 3) aNil)) (eVar 2)))) (eOp (gD ixD) (eVar 3) (eVar 2)) [3]))))
def t_law_move : DTS := (sSeq (sAsg (eVar 1) (gTp 3 (gsCons (gN 4) (gsCons (gN 5) (gsCons (gN 6) gsNil)))))
    (sSeq (sSet 7 (eAnd (eOp (gD gtD) (eCB gLen (aCons (eVar 5) aNil)) (eC (.int 0))) (eOp (gD geD) (eOp (gD ixD) (eVar 6) (eUn negD (eC (.int 1)))) (eCB gLen (aCons (eOp (gD ixD) (eVar 5) (eUn negD (eC (.int 1)))) aNil)))))
    (sSeq (sIf (tB (eOp (gD eqD) (eVar 2) (eC (.str "up")))) (sRet (eIf (tB (eOp (gD eqD) (eCB gLen (aCons (eVar 5) aNil)) (eC (.int 0)))) (eC .none) (eTup (aCons (eSl (eVar 4) oNone (oSome (eUn negD (eC (.int 1))))) (aCons (eSl (eVar 5) oNone (oSome (eUn negD (eC (.int 1))))) (aCons (eSl (eVar 6) oNone (oSome (eUn negD (eC (.int 1))))) aNil)))))) sNext)
    (sSeq (sIf (tB (eOp (gD eqD) (eVar 2) (eC (.str "down")))) (sSeq (sSet 8 (eIf (tOr (tB (eOp (gD eqD) (eCB gLen (aCons (eVar 5) aNil)) (eC (.int 0)))) (tTru (eVar 7))) (eVar 4) (eOp (gD addD) (eVar 4) (eTup (aCons (eOp (gD ixD) (eOp (gD ixD) (eVar 5) (eUn negD (eC (.int 1)))) (eOp (gD ixD) (eVar 6) (eUn negD (eC (.int 1))))) aNil)))))
    (sSeq (sSet 9 (eCall sp_law_children (aCons (eVar 0) (aCons (eVar 8) aNil))))
    (sRet (eIf (tOr (tTru (eVar 7)) (tB (eOp (gD eqD) (eCB gLen (aCons (eVar 9) aNil)) (eC (.int 0))))) (eC .none) (eTup (aCons (eVar 8) (aCons (eOp (gD addD) (eVar 5) (eLst (aCons (eVar 9) aNil))) (aCons (eOp (gD addD) (eVar 6) (eLst (aCons (eC (.int 0)) aNil))) aNil)))))))) sNext)
    (sSeq (sIf (tOr (tB (eOp (gD eqD) (eCB gLen (aCons (eVar 5) aNil)) (eC (.int 0)))) (tTru (eVar 7))) (sRet (eC .none)) sNext)
    (sSeq (sIf (tB (eOp (gD eqD) (eVar 2) (eC (.str "next")))) (sRet (eTup (aCons (eVar 4) (aCons (eVar 5) (aCons (eOp (gD addD) (eSl (eVar 6) oNone (oSome (eUn negD (eC (.int 1))))) (eLst (aCons (eOp (gD addD) (eOp (gD ixD) (eVar 6) (eUn negD (eC (.int 1)))) (eC (.int 1))) aNil))) aNil))))) sNext)
    (sSeq (sSet 10 (eOp (gD addD) (eOp (gD ixD) (eVar 6) (eUn negD (eC (.int 1)))) (eCB gLen (aCons (eLc finD (iSeq (eSl (eOp (gD ixD) (eVar 5) (eUn negD (eC (.int 1)))) (oSome (eOp (gD ixD) (eVar 6) (eUn negD (eC (.int 1))))) oNone)) (gN 11) (tB (eOp (gD ltD) (eVar 11) (eVar 3))) (eVar 11) [11]) aNil))))
    (sRet (eTup (aCons (eVar 4) (aCons (eVar 5) (aCons (eOp (gD addD) (eSl (eVar 6) oNone (oSome (eUn negD (eC (.int 1))))) (eLst (aCons (eVar 10) aNil))) aNil))))))))))))
def t_law : DTS := (sSeq (sSet 1 (eCall sp_law_begin (aCons (eVar 0) aNil)))
    (sSeq (sSet 2 (eOp (gD addD) (eC (.int 1)) (eCall sp_law_take (aCons (eVar 1) (aCons (eC (.int 3)) aNil)))))
    (sSeq (sSet 3 (eCall sp_law_rows (aCons (eVar 1) (aCons (eVar 2) (aCons (eOp (gD ixD) (eTup (aCons (eC (.int 9)) (aCons (eC (.int 40)) aNil))) (eCall sp_law_take (aCons (eVar 1) (aCons (eC (.int 2)) aNil)))) (aCons (eOp (gD ixD) (eTup (aCons (eC (.int 4)) (aCons (eC (.int 7)) aNil))) (eCall sp_law_take (aCons (eVar 1) (aCons (eC (.int 2)) aNil)))) aNil))))))
    (sSeq (sSet 4 (eMake C_Walker (sp_Walker___init__ C_Walker) (aCons (eMake C_Trie (sp_Trie___init__ C_Trie C_RowError) (aCons (eVar 3) (aCons (eTupRg (rRg1 (eVar 2))) aNil))) aNil)))
    (sSeq (sSet 5 (eTup (aCons (eTup aNil) (aCons (eLst aNil) (aCons (eLst aNil) aNil)))))
    (sSeq (sSet 6 (eC (.int 0)))
    (sSeq (sFor (iRange1 (aCons (eC (.int 30)) aNil)) (gN 7) (sSeq (sSet 8 (eOp (gD ixD) (eTup (aCons (eC (.str "down")) (aCons (eC (.str "down")) (aCons (eC (.str "up")) (aCons (eC (.str "next")) (aCons (eC (.str "next")) (aCons (eC (.str "seek")) aNil))))))) (eCall sp_law_take (aCons (eVar 1) (aCons (eC (.int 6)) aNil)))))
    (sSeq (sSet 9 (eCall sp_law_take (aCons (eVar 1) (aCons (eC (.int 6)) aNil))))
    (sSeq (sSet 10 (eCall sp_law_move (aCons (eVar 3) (aCons (eVar 5) (aCons (eVar 8) (aCons (eVar 9) aNil))))))
    (sSeq (sSet 11 (eCall (sp_law_told C_Walker C_Trie) (aCons (eVar 4) (aCons (eVar 8) (aCons (eVar 9) aNil)))))
    (sSeq (sIf (tB (eOp (isN false) (eVar 10) (eC .none))) (sIf (tB (eOp (gD neD) (eVar 11) (eC (.str "walk")))) (sRet (eC (.bool false))) sNext) (sSeq (sIf (tB (eOp (isN true) (eVar 11) (eC .none))) (sRet (eC (.bool false))) sNext)
    (sSeq (sSet 5 (eVar 10))
    (sSet 6 (eOp (gD addD) (eVar 6) (eIf (tB (eOp (gD eqD) (eVar 8) (eC (.str "up")))) (eC (.int 0)) (eC (.int 1))))))))
    (sSeq (sAsg (eVar 5) (gTp 3 (gsCons (gN 12) (gsCons (gN 13) (gsCons (gN 14) gsNil)))))
    (sSeq (sSet 15 (eAnd (eOp (gD gtD) (eCB gLen (aCons (eVar 13) aNil)) (eC (.int 0))) (eOp (gD geD) (eOp (gD ixD) (eVar 14) (eUn negD (eC (.int 1)))) (eCB gLen (aCons (eOp (gD ixD) (eVar 13) (eUn negD (eC (.int 1)))) aNil)))))
    (sSeq (sSet 16 (eIf (tOr (tB (eOp (gD eqD) (eCB gLen (aCons (eVar 13) aNil)) (eC (.int 0)))) (tTru (eVar 15))) (eC (.str "walk")) (eOp (gD ixD) (eOp (gD ixD) (eVar 13) (eUn negD (eC (.int 1)))) (eOp (gD ixD) (eVar 14) (eUn negD (eC (.int 1)))))))
    (sIf (tOr (tB (eOp (gD neD) (eMeth C_Walker "level" (sp_Walker_level C_Walker) (eVar 4) aNil) (eCB gLen (aCons (eVar 13) aNil)))) (tOr (tB (eOp (gD neD) (eMeth C_Walker "at_end" (sp_Walker_at_end C_Walker) (eVar 4) aNil) (eVar 15))) (tOr (tB (eOp (gD neD) (eMeth C_Walker "moves" (sp_Walker_moves C_Walker) (eVar 4) aNil) (eVar 6))) (tB (eOp (gD neD) (eCall (sp_law_told C_Walker C_Trie) (aCons (eVar 4) (aCons (eC (.str "key")) (aCons (eC (.int 0)) aNil)))) (eVar 16)))))) (sRet (eC (.bool false))) sNext))))))))))
    (sRet (eC (.bool true))))))))))
end
/-! ### the draws -/
theorem len_law_begin : ∀ xs M P PX, sp_law_begin xs M P PX → xs.length = p_law_begin.length := by rintro _ M P PX ⟨_, rfl, _⟩; rfl
theorem len_law_take : ∀ xs M P PX, sp_law_take xs M P PX → xs.length = p_law_take.length := by rintro _ M P PX ⟨_, _, _, rfl, _⟩; rfl
theorem r_law_begin : ∀ xs M Q PX, sp_law_begin xs M Q PX → t_law_begin (endD Q PX) (startD n_law_begin xs) M := by
  rintro _ M Q PX ⟨ns, rfl, h⟩
  unfold t_law_begin
  walk_at "st"
  refine ⟨fun i ρ M1 => ∃ (v : Int) (w : Option DV), M = M1 ∧ ρ = [some (.d (.list (ns.map .int))), some (.d (.int v)), w] ∧ 0 ≤ v ∧ v < 2147483647, .of ⟨1, none, rfl, rfl, by decide, by decide⟩, fun _ _ _ _ _ => trivial, ?_, ?_⟩
  · rintro i _ _ x hx ⟨v, w, rfl, rfl, h0, h1⟩
    obtain ⟨n, _, rfl⟩ := getI hx
    walk_at "st"
    exact .of ⟨_, _, rfl, rfl, by omega, by omega⟩
  · rintro _ _ ⟨v, w, rfl, rfl, h0, h1⟩
    walk_at "st"
    exact fun p hp => .here (h p _ hp ⟨ns, 0, 0, v, rfl, by decide, by decide, h0, h1⟩)
theorem r_law_take : ∀ xs M Q PX, sp_law_take xs M Q PX → t_law_take (endD Q PX) (startD n_law_take xs) M := by
  rintro _ M Q PX ⟨a, m, st, rfl, hM, ⟨ns, pos, rest, seed, rfl, h1, h2, h3, h4⟩, hm, hQ⟩
  have m0 := hm.1
  unfold t_law_take
  -- the ends of the three ways
  have fin : ∀ (k : DEnv) (pos rest seed : Int) (v : Int) (M' : MHp), 0 ≤ pos → 0 ≤ rest → 0 ≤ seed → seed < 2147483647 → M' = mu M a (.ls [.list (ns.map .int), .int pos, .int rest, .int seed]) → WkV Q (.d (.int (v % m))) M' := by
    rintro k pos rest seed v M' g1 g2 g3 g4 rfl
    exact .here (hQ _ _ ⟨ns, pos, rest, seed, rfl, g1, g2, g3, g4⟩ (Int.emod_nonneg _ (by omega)) (Int.emod_lt_of_pos _ m0))
  walk_at "st"
  refine x_brD (fun e1 => ?_) (fun e1 => ?_)
  · walk_at "st"
    refine x_brD (fun e2 => ?_) (fun e2 => ?_)
    · rw [List.length_map] at e2
      obtain ⟨x, hx⟩ := atI_int h1 (by omega : pos < ns.length)
      walk_at "st"
      refine x_brD (fun e3 => ?_) (fun e3 => ?_)
      · walk_at "st"
        refine fin [] (pos + 1) 0 seed _ _ (by omega) (by omega) h3 h4 ?_
        simp only [mu_mu]
        rfl
      · walk_at "st"
        have g0 : 0 ≤ (if x < 0 then -x else x) / m := Int.ediv_nonneg (by split <;> omega) (by omega)
        have g1 : (if x < 0 then -x else x) > 0 := by
          have : (0 : Int) < 10 ^ Int.toNat 18 := by decide
          omega
        walk_at "st"
        refine fin [] (pos + 1) _ seed _ _ (by omega) g0 h3 h4 ?_
        simp only [mu_mu]
        rfl
    · walk_at "st"
      refine fin [] pos rest ((seed * 48271 + 11) % 2147483647) _ _ h1 h2 (Int.emod_nonneg _ (by decide)) (Int.emod_lt_of_pos _ (by decide)) ?_
      rfl
  · have g0 : 0 ≤ rest / m := Int.ediv_nonneg h2 (by omega)
    walk_at "st"
    refine fin [] pos _ seed _ _ h1 g0 h3 h4 ?_
    rfl

theorem alike_rows (R : List (List Int)) : PySem.W.AllAlike (R.map tpI) := PySem.W.AllAlike.of fun a b => by
  show PySem.W.alike (.tuple (a.map .int)) (.tuple (b.map .int)) = true
  rw [PySem.W.alike]
  exact PySem.W.alike_ints a b
theorem len_law_rows : ∀ xs M P PX, sp_law_rows xs M P PX → xs.length = p_law_rows.length := by rintro _ M P PX ⟨_, _, _, _, _, rfl, _⟩; rfl
theorem ascD_sort {R : List (List Int)} (hn : R.Nodup) : ascD ((sortR R).map tpI) = true := by
  have hp : (sortR R).Perm R := List.mergeSort_perm _ _
  have nd : (sortR R).Nodup := hp.nodup_iff.mpr hn
  have le : (sortR R).Pairwise (fun a b => a ≤ b) := by
    have := List.pairwise_mergeSort (le := fun a b : List Int => decide (a ≤ b)) (fun a b c h1 h2 => by
      have h1 := of_decide_eq_true h1
      have h2 := of_decide_eq_true h2
      exact decide_eq_true (List.le_trans h1 h2)) (fun a b => by
      rcases List.le_total a b with h | h
      · simp [h]
      · simp [h]) R
    exact this.imp fun h => of_decide_eq_true h
  have lt : (sortR R).Pairwise (fun a b => a < b) := by
    refine (List.Pairwise.and le nd).imp fun {a b} h => ?_
    apply Classical.byContradiction
    intro z
    exact h.2 (List.le_antisymm h.1 (List.not_lt.mp z))
  generalize sortR R = S at lt
  unfold ascD
  rw [List.all_eq_true]
  intro k hk
  have hk := List.mem_range.mp hk
  rw [List.length_map] at hk
  have e1 : (S.map tpI).getD k .none = tpI S[k] := by
    rw [List.getD_eq_getElem?_getD, List.getElem?_map, List.getElem?_eq_getElem (by omega)]; rfl
  have e2 : (S.map tpI).getD (k + 1) .none = tpI S[k + 1] := by
    rw [List.getD_eq_getElem?_getD, List.getElem?_map, List.getElem?_eq_getElem (by omega)]; rfl
  rw [e1, e2, dataLt_tpI]
  exact decide_eq_true (List.pairwise_iff_getElem.mp lt k (k + 1) (by omega) (by omega) (by omega))
theorem any_rows (R : List (List Int)) (r : List Int) : ((R.map tpI).any fun z => PyData.eqv z (tpI r)) = decide (r ∈ R) := by
  have key : ∀ a b : List Int, PyData.eqvAll (a.map .int) (b.map .int) = decide (a = b) := by
    intro a
    induction a with
    | nil => intro b; cases b <;> simp [PyData.eqvAll]
    | cons x a ih =>
      intro b
      cases b with
      | nil => simp [PyData.eqvAll]
      | cons y b =>
        rw [List.map_cons, List.map_cons, PySem.W.eqv_all_cons, ih b]
        show ((x == y) && decide (a = b)) = _
        by_cases h : x = y
        · subst h; simp
        · simp [h]
  induction R with
  | nil => rfl
  | cons a R ih =>
    rw [List.map_cons, List.any_cons, ih]
    show (PyData.eqvAll (a.map .int) (r.map .int) || decide (r ∈ R)) = _
    rw [key]
    by_cases h : a = r
    · subst h; simp
    · have h' : ¬ r = a := fun z => h z.symm
      simp [h, h']
theorem shaped_rows (R : List (List Int)) : SeqAt.shaped (.list (R.map tpI)) = true := by
  have h1 : PyData.canLayAll0 (R.map tpI) = true := by
    induction R with
    | nil => rfl
    | cons a R ih =>
      rw [List.map_cons]
      show (PyData.canLayAll0 (a.map .int) && PyData.canLayAll0 (R.map tpI)) = true
      rw [canLay_ints, ih]
      rfl
  have h2 : PyData.depthAll (R.map tpI) ≤ 1 := by
    induction R with
    | nil => simp [PyData.depthAll]
    | cons a R ih =>
      have ih := ih (by
        rw [List.map_cons] at h1
        have h1' : (PyData.canLayAll0 (a.map .int) && PyData.canLayAll0 (R.map tpI)) = true := h1
        exact (Bool.and_eq_true_iff.mp h1').2)
      rw [List.map_cons, PyData.depthAll, PyData.depth, PySem.W.depth_ints]
      omega
  unfold SeqAt.shaped
  rw [PyData.depth]
  show (PyData.canLayAll0 (R.map tpI) && _) = true
  rw [h1]
  exact decide_eq_true (by omega)
theorem x_ninRows {M : MHp} {P : DK} {r : Addr} {R : List (List Int)} {l : List Int} (h : M r = some (.ls (R.map tpI))) (q : P (.d (.bool (!decide (l ∈ R)))) M) : inD true (.d (tpI l)) (.r r) M P := by
  unfold inD
  simp only [h]
  refine ⟨shaped_tupI l, shaped_rows R, ?_⟩
  rw [any_rows]
  exact q
theorem r_law_rows : ∀ xs M Q PX, sp_law_rows xs M Q PX → t_law_rows (endD Q PX) (startD n_law_rows xs) M := by
  rintro _ M Q PX ⟨d, st, n, m, q, rfl, hM, hst, n0, n4, m8, q0, q1, h⟩
  unfold t_law_rows
  walk_at "st"
  intro r hr
  have dr : d ≠ r := ne_of_mn hM hr
  walk_at "st"
  refine ⟨d, (m : Int) + 1, st, rfl, by walk_at "m", hst, divOk_small (by omega) (by omega), fun v st1 hst1 v0 v1 => ?_⟩
  walk_at "st"
  refine ⟨by omega, by omega, ?_⟩
  refine ⟨fun i ρ M1 => ∃ (R : List (List Int)) (st : List PyData) (o5 o6 : Option DV), ρ = [some (.r d), some (.d (.int n)), some (.d (.int m)), some (.d (.int q)), some (.r r), o5, o6, none] ∧ M1 d = some (.ls st) ∧ DSt st ∧ M1 r = some (.ls (R.map tpI)) ∧ (∀ a, a ≠ d → a ≠ r → M1 a = M a) ∧ R.length ≤ i ∧ R.Nodup ∧ ∀ r ∈ R, r.length = n ∧ ∀ x ∈ r, (0 : Int) ≤ x ∧ x < q,
    .of ⟨[], st1, none, none, rfl, by walk_at "m", hst1, by walk_at "m", (fun a h1 h2 => by rw [mu_ne h1, mu_ne h2]), Nat.zero_le _, List.nodup_nil, fun x hx => by cases hx⟩, fun _ _ _ _ _ => trivial, ?_, ?_⟩
  · rintro i _ M1 x hx ⟨R, st, o5, o6, rfl, hd, hst, hr1, hoth, hl, hnd, hR⟩
    obtain ⟨hi, rfl⟩ := getR hx
    walk_at "st"
    refine ⟨by omega, by omega, ?_⟩
    refine ⟨fun j acc M' => ∃ (l : List Int) (st' : List PyData), acc = (l.map PyData.int).map DV.d ∧ l.length = j ∧ M' d = some (.ls st') ∧ DSt st' ∧ M' r = some (.ls (R.map tpI)) ∧ (∀ a, a ≠ d → a ≠ r → M' a = M a) ∧ ∀ x ∈ l, (0 : Int) ≤ x ∧ x < q, ⟨_, .refl, [], st, rfl, rfl, hd, hst, hr1, hoth, fun x hx => by cases hx⟩, fun _ _ _ _ _ => trivial, ?_, ?_⟩
    · rintro j _ M2 x hx ⟨l, st', rfl, hlj, hd2, hst2, hr2, ho2, hlx⟩
      obtain ⟨hj, rfl⟩ := getR hx
      walk_at "st"
      refine ⟨d, (q : Int), st', rfl, hd2, hst2, divOk_small (by omega) (by omega), fun v s5 hs5 w0 w1 => ⟨by simp; rw [sizeLine_eq]; omega, _, .refl, l ++ [v], s5, by simp, by simp [hlj], mu_same, hs5, by walk_at "m", fun a h1 h2 => by rw [mu_ne h1]; exact ho2 a h1 h2, fun x hx => ?_⟩⟩
      rcases List.mem_append.mp hx with hx | hx
      · exact hlx x hx
      · cases List.mem_singleton.mp hx
        exact ⟨w0, w1⟩
    rintro _ M2 ⟨l, st5, rfl, hlj, hd2, hst2, hr2, ho2, hlx⟩
    rw [rangeD_len] at hlj
    refine finD_of ?_
    walk_at "st"
    refine x_ninRows hr2 ?_
    walk_at "st"
    refine x_brD (fun e => ?_) (fun e => ?_)
    · walk_at "st"
      exact .of ⟨R, st5, _, _, rfl, hd2, hst2, hr2, ho2, by omega, hnd, hR⟩
    · walk_at "st"
      · rw [List.length_map, sizeLine_eq]; omega
      walk_at "st"
      refine .of ⟨R ++ [l], st5, _, _, rfl, by walk_at "m", hst2, by rw [mu_same, List.map_append]; rfl, fun a h1 h2 => by rw [mu_ne h2]; exact ho2 a h1 h2, by rw [List.length_append]; exact Nat.succ_le_succ hl, ?_, fun r' hr' => ?_⟩
      · refine List.nodup_append.mpr ⟨hnd, by simp, fun a ha b hb => ?_⟩
        cases List.mem_singleton.mp hb
        exact fun z => e (z ▸ ha)
      · rcases List.mem_append.mp hr' with h | h
        · exact hR r' h
        · cases List.mem_singleton.mp h
          exact ⟨by omega, hlx⟩
  · rintro _ M1 ⟨R, st, o5, o6, rfl, hd, hst, hr1, hoth, hl, hnd, hR⟩
    rw [rangeD_len] at hl
    walk_at "st"
    refine ⟨⟨alike_rows R, .inl fun d hd => ?_, fun d hd => ?_⟩, ?_⟩
    · obtain ⟨r', hr', rfl⟩ := List.mem_map.mp hd
      have := (hR r' hr').1
      cases r' with
      | nil => simp at this; omega
      | cons a b => exact ⟨_, _, rfl⟩
    · obtain ⟨r', hr', rfl⟩ := List.mem_map.mp hd
      rw [PyData.depth, PySem.W.depth_ints]
      decide
    · rw [sortL_rows]
      walk_at "st"
      have hp : (sortR R).Perm R := List.mergeSort_perm _ _
      refine .of (M' := mu M d (.ls st)) (fun a o e => ?_) (h (sortR R) st hst (fun r' hr' => hR r' (hp.mem_iff.mp hr')) (ascD_sort hnd) (by rw [hp.length_eq]; omega))
      by_cases ha : a = d
      · subst ha
        rw [mu_same] at e; cases e; exact hd
      · rw [mu_ne ha] at e
        rw [hoth a ha (fun z => by subst z; rw [hr] at e; cases e)]
        exact e
theorem len_place_from : ∀ xs M P PX, sp_place_from xs M P PX → xs.length = p_place_from.length := by rintro _ M P PX ⟨_, _, _, rfl, _⟩; rfl
theorem asc_lt {r : List Int} (h : Asc r) {i j : Nat} {x y : Int} (hx : r[i]? = some x) (hy : r[j]? = some y) (hij : i < j) : x < y := by
  obtain ⟨h1, rfl⟩ := List.getElem?_eq_some_iff.mp hx
  obtain ⟨h2, rfl⟩ := List.getElem?_eq_some_iff.mp hy
  exact List.pairwise_iff_getElem.mp h i j h1 h2 hij
theorem get_int {r : List Int} {i : Nat} {x : Int} (h : r[i]? = some x) {k : Int} (hk : k = i) : atI (r.map PyData.int) k = some (.int x) := by
  subst hk
  exact atI_nn (by omega) (by rw [Int.toNat_natCast, List.getElem?_map, h]; rfl)
theorem r_place_from : ∀ xs M Q PX, sp_place_from xs M Q PX → t_place_from (endD Q PX) (startD n_place_from xs) M := by
  rintro _ M Q PX ⟨r, low0, n, rfl, hr, hl, hz, h⟩
  unfold t_place_from
  walk_at "st"
  refine ⟨fun k ρ M' => ∃ (lo hi : Nat) (o : Option DV), M = M' ∧ ρ = [some (.d (tpI r)), some (.d (.int low0)), some (.d (.int n)), some (.d (.int lo)), some (.d (.int hi)), o] ∧ low0 ≤ lo ∧ lo ≤ hi ∧ hi ≤ r.length ∧ (∀ i x, low0 ≤ i → i < lo → r[i]? = some x → x < n) ∧ (∀ i x, hi ≤ i → r[i]? = some x → n ≤ x) ∧ k = hi - lo,
    ⟨r.length - low0, .of ⟨low0, r.length, none, rfl, by simp [startD], Nat.le_refl _, hl, Nat.le_refl _, fun i x h1 h2 => by omega, fun i x h1 h2 => ?_, rfl⟩⟩, ?_⟩
  · rw [List.getElem?_eq_none h1] at h2; cases h2
  rintro k _ _ ⟨lo, hi, o, rfl, rfl, h1, h2, h3, h4, h5, rfl⟩
  walk_at "st"
  refine x_brD (fun e => ?_) (fun e => ?_)
  · have hm : (lo + hi) / 2 < r.length := by omega
    have hx : r[(lo + hi) / 2]? = some r[(lo + hi) / 2] := List.getElem?_eq_getElem hm
    have ha := get_int hx (k := ((lo : Int) + hi) / 2) (by omega)
    walk_at "st"
    refine x_brD (fun c => ?_) (fun c => ?_)
    · walk_at "st"
      refine ⟨hi - ((lo + hi) / 2 + 1), by omega, .of ⟨(lo + hi) / 2 + 1, hi, some (.d (.int (((lo : Int) + hi) / 2))), rfl, ?_, by omega, by omega, h3, fun i x g1 g2 g3 => ?_, h5, rfl⟩⟩
      · have : ((lo : Int) + hi) / 2 + 1 = ((lo + hi) / 2 + 1 : Nat) := by omega
        rw [this]
        rfl
      · rcases Nat.lt_or_ge i ((lo + hi) / 2) with g | g
        · exact Int.lt_trans (asc_lt hr g3 hx g) c
        · have : i = (lo + hi) / 2 := by omega
          subst this
          rw [hx] at g3; cases g3; exact c
    · walk_at "st"
      refine ⟨(lo + hi) / 2 - lo, by omega, .of ⟨lo, (lo + hi) / 2, some (.d (.int (((lo : Int) + hi) / 2))), rfl, ?_, h1, by omega, by omega, h4, fun i x g1 g3 => ?_, rfl⟩⟩
      · have : ((lo : Int) + hi) / 2 = ((lo + hi) / 2 : Nat) := by omega
        rw [this]
        rfl
      · rcases Nat.lt_or_ge ((lo + hi) / 2) i with g | g
        · exact Int.le_of_lt (Int.lt_of_le_of_lt (by omega) (asc_lt hr hx g3 g))
        · have : i = (lo + hi) / 2 := by omega
          subst this
          rw [hx] at g3; cases g3; omega
  · have : lo = hi := by omega
    subst this
    walk_at "st"
    exact .here (h lo ⟨h1, h3, h4, fun x hx => h5 lo x (Nat.le_refl _) hx⟩)
theorem asc_le {r : List Int} (h : Asc r) {i j : Nat} {x y : Int} (hx : r[i]? = some x) (hy : r[j]? = some y) (hij : i ≤ j) : x ≤ y := by
  rcases Nat.lt_or_ge i j with g | g
  · exact Int.le_of_lt (asc_lt h hx hy g)
  · have : i = j := by omega
    subst this
    rw [hx] at hy; cases hy; exact Int.le_refl _
theorem plc_ge {r : List Int} {low p : Nat} {n : Int} (hr : Asc r) (h : Plc r low n p) {i : Nat} {y : Int} (hi : p ≤ i) (hy : r[i]? = some y) : n ≤ y := by
  have hl : i < r.length := (List.getElem?_eq_some_iff.mp hy).1
  have hp : r[p]? = some r[p] := List.getElem?_eq_getElem (by omega)
  exact Int.le_trans (h.2.2.2 _ hp) (asc_le hr hp hy hi)
--%%PAR
theorem len_Trie_node_at {C : Addr} : ∀ xs M P PX, sp_Trie_node_at C xs M P PX → xs.length = p_Trie_node_at.length := by rintro _ M P PX ⟨_, _, _, _, _, _, _, _, rfl, _⟩; rfl
theorem take_snoc {p : List Int} {i : Nat} {x : Int} (h : p[i]? = some x) : p.take (i + 1) = p.take i ++ [x] := take_succ_of h
theorem r_Trie_node_at {C : Addr} : ∀ xs M Q PX, sp_Trie_node_at C xs M Q PX → t_Trie_node_at C (endD Q PX) (startD n_Trie_node_at xs) M := by
  rintro _ M Q PX ⟨o, dx, t, n, d, T, m, p, rfl, ⟨hM, tri, top⟩, hp, cl, h⟩
  unfold t_Trie_node_at
  walk_at "st"
  refine ⟨fun i ρ M1 => ∃ (a : Addr) (o3 : Option DV), M = M1 ∧ ρ = [some (.r o), some (.d (tpI p)), some (.r a), o3] ∧ T (p.take i) = some a, .of ⟨t, none, rfl, rfl, top⟩, fun _ _ _ _ _ => trivial, ?_, ?_⟩
  · rintro i _ _ x hx ⟨a, o3, rfl, rfl, ha⟩
    obtain ⟨v, hv, rfl⟩ := getI hx
    obtain ⟨kvs, h1, h2, h3, h4, h5⟩ := tri.at_ _ a ha
    have e := take_snoc hv
    have hval := h5 v
    rw [← e] at hval
    walk_at "st"
    rw [hasK_val]
    cases hT : T (p.take (i + 1)) with
    | none =>
      rw [hT] at hval
      rw [show (valD kvs (.inl v)).isSome = false by rw [hval]; rfl]
      walk_at "st"
      have gone : ∀ j, i + 1 ≤ j → j ≤ p.length → T (p.take j) = none := fun j => by
        induction j with
        | zero => intro z; omega
        | succ j ih =>
          intro z1 z2
          by_cases z : j = i
          · subst z; exact hT
          · obtain ⟨w, hw⟩ : ∃ w, p[j]? = some w := ⟨_, List.getElem?_eq_getElem (by omega)⟩
            rw [take_snoc hw]
            exact cl _ _ (ih (by omega) (by omega))
      have hi : i < p.length := (List.getElem?_eq_some_iff.mp hv).1
      have := gone p.length (by omega) (Nat.le_refl _)
      rw [List.take_length] at this
      rw [this] at h
      exact .here h
    | some b =>
      rw [hT] at hval
      have hval' : valD kvs (.inl v) = some (.r b) := hval
      rw [show (valD kvs (.inl v)).isSome = true by rw [hval]; rfl]
      walk_at "st"
      exact .of ⟨b, _, rfl, rfl, hT⟩
  · rintro _ _ ⟨a, o3, rfl, rfl, ha⟩
    rw [List.length_map, List.length_map, List.take_length] at ha
    rw [ha] at h
    walk_at "st"
    exact .here h
theorem len_Trie_children {C : Addr} : ∀ xs M P PX, sp_Trie_children C xs M P PX → xs.length = p_Trie_children.length := by rintro _ M P PX ⟨_, _, _, _, _, _, _, _, rfl, _⟩; rfl
theorem lt_of_le_nd {l : List Int} (h : l.Pairwise (· ≤ ·)) (n : l.Nodup) : l.Pairwise (· < ·) := (List.Pairwise.and h n).imp fun {a b} z => by
  have := z.1
  have := z.2
  omega
theorem int_keys : ∀ {kvs : List (Key × DV)}, (∀ k ∈ kvs, ∃ i, k.1 = Sum.inl i) → ∃ ks : List Int, kvs.map (·.1) = ks.map Sum.inl
  | [], _ => ⟨[], rfl⟩
  | k :: r, h => by
    obtain ⟨i, e⟩ := h k (by simp)
    obtain ⟨ks, e2⟩ := int_keys fun k hk => h k (List.mem_cons_of_mem _ hk)
    exact ⟨i :: ks, by rw [List.map_cons, List.map_cons, e, e2]⟩
theorem val_mem {kvs : List (Key × DV)} {k : Key} : valD kvs k ≠ none ↔ k ∈ kvs.map (·.1) := by
  have : valD kvs k ≠ none ↔ hasK kvs k = true := by
    rw [hasK_val]
    cases valD kvs k <;> simp
  rw [this]
  unfold hasK
  rw [List.any_eq_true]
  constructor
  · rintro ⟨p, hp, e⟩
    exact List.mem_map.mpr ⟨p, hp, of_decide_eq_true e⟩
  · intro h
    obtain ⟨p, hp, e⟩ := List.mem_map.mp h
    exact ⟨p, hp, decide_eq_true e⟩
theorem r_Trie_children {C : Addr} : ∀ xs M Q PX, sp_Trie_children C xs M Q PX → t_Trie_children C (endD Q PX) (startD n_Trie_children xs) M := by
  rintro _ M Q PX ⟨o, dx, t, n, d, T, m, p, rfl, tr, hm, hp, cl, h⟩
  have hM := tr.ins
  unfold t_Trie_children
  walk_at "st"
  refine ⟨o, dx, t, n, d, T, m, p, rfl, tr, hp, cl, ?_⟩
  cases hT : T p with
  | none =>
    rw [show dvO none = .d .none from rfl]
    walk_at "st"
    exact .here (h [] .nil fun i => ⟨fun z => (by cases z), fun z => absurd (cl p i hT) z⟩)
  | some a =>
    obtain ⟨kvs, h1, h2, h3, h4, h5⟩ := tr.tri.at_ _ a hT
    obtain ⟨ks, hk⟩ := int_keys h4
    have kl : ks.length = kvs.length := by rw [← List.length_map (f := (Sum.inl : Int → Key)), ← hk, List.length_map]
    rw [show dvO (some a) = .r a from rfl]
    walk_at "st"
    refine x_isN (by nofun) ?_
    walk_at "st"
    refine ⟨ks, hk, by omega, fun ys pm pw => ?_⟩
    walk_at "st"
    have nd : ks.Nodup := by
      rw [hk] at h3
      exact (List.pairwise_map.mp h3).imp fun {a b} z y => z (by rw [y])
    refine .here (h ys (lt_of_le_nd pw (pm.nodup_iff.mpr nd)) fun i => ?_)
    rw [pm.mem_iff]
    have v := val_mem (kvs := kvs) (k := .inl i)
    rw [h5 i, hk] at v
    constructor
    · intro hi z
      rw [z] at v
      exact absurd rfl (v.mpr (List.mem_map_of_mem hi))
    · intro hi
      have : (T (p ++ [i])).map DV.r ≠ none := by
        cases hT2 : T (p ++ [i]) with
        | none => exact absurd hT2 hi
        | some b => nofun
      obtain ⟨j, hj, e⟩ := List.mem_map.mp (v.mp this)
      cases e
      exact hj
--%%PAR
theorem len_Trie_put {C : Addr} : ∀ xs M P PX, sp_Trie_put C xs M P PX → xs.length = p_Trie_put.length := by rintro _ M P PX ⟨_, _, _, _, _, _, _, _, rfl, _⟩; rfl
theorem snoc_inj {p q : List Int} {i j : Int} (h : p ++ [i] = q ++ [j]) : p = q ∧ i = j := by
  have := List.append_inj' h rfl
  exact ⟨this.1, by simpa using this.2⟩
theorem val_mem' {kvs : List (Key × DV)} {k : Key} (h : valD kvs k = none) : k ∉ kvs.map (·.1) := by
  intro z
  have : hasK kvs k = true := by
    unfold hasK
    obtain ⟨p, hp, e⟩ := List.mem_map.mp z
    exact List.any_eq_true.mpr ⟨p, hp, decide_eq_true e⟩
  rw [hasK_val, h] at this
  cases this
theorem tri_add {M : MHp} {T : List Int → Option Addr} {m : Nat} {a b : Addr} {p : List Int} {e : Int} {kvs : List (Key × DV)} (h : Tri M T m) (hp : T p = some a) (ha : M a = some (.dk kvs)) (hl : kvs.length + 1 ≤ m) (hn : T (p ++ [e]) = none) (hb : M b = none) :
    Tri (mu (mu M b (.dk [])) a (.dk (putD kvs (.inl e) (.r b)))) (fun q => if q = p ++ [e] then some b else T q) m := by
  have ab : a ≠ b := ne_of_mn ha hb
  have nb : ∀ q, T q ≠ some b := fun q z => by
    obtain ⟨k, h1, _⟩ := h.at_ q b z
    rw [hb] at h1
    cases h1
  refine ⟨fun q i hq => ?_, fun q r c h1 h2 => ?_, fun q c hq => ?_⟩
  · by_cases z : q = p ++ [e]
    · rw [if_pos z] at hq; cases hq
    · rw [if_neg z] at hq
      rw [if_neg, h.cl q i hq]
      intro y
      obtain ⟨rfl, _⟩ := snoc_inj y
      rw [hp] at hq
      cases hq
  · by_cases z : q = p ++ [e]
    · rw [if_pos z] at h1
      cases h1
      by_cases y : r = p ++ [e]
      · rw [z, y]
      · rw [if_neg y] at h2
        exact absurd h2 (nb r)
    · rw [if_neg z] at h1
      by_cases y : r = p ++ [e]
      · rw [if_pos y] at h2
        cases h2
        exact absurd h1 (nb q)
      · rw [if_neg y] at h2
        exact h.inj q r c h1 h2
  · by_cases z : q = p ++ [e]
    · rw [if_pos z] at hq
      cases hq
      subst z
      refine ⟨[], by rw [mu_ne (Ne.symm ab), mu_same], Nat.zero_le _, List.nodup_nil, (fun k hk => by cases hk), fun i => ?_⟩
      rw [if_neg (fun y => by have := congrArg List.length y; simp at this), h.cl _ _ hn]
      rfl
    · rw [if_neg z] at hq
      by_cases y : q = p
      · subst y
        rw [hp] at hq
        cases hq
        obtain ⟨kvs', h1, h2, h3, h4, h5⟩ := h.at_ q a hp
        rw [ha] at h1
        cases h1
        have vn : valD kvs (.inl e) = none := by rw [h5 e, hn]; rfl
        refine ⟨_, mu_same, Nat.le_trans (len_putD _ _ _) hl, ?_, fun k hk => ?_, fun i => ?_⟩
        · rw [putD_new _ vn, List.map_append]
          refine List.nodup_append.mpr ⟨h3, by simp, fun x hx w hw => ?_⟩
          cases List.mem_singleton.mp hw
          exact fun v => val_mem' vn ((show x = Sum.inl e from v) ▸ hx)
        · rw [putD_new _ vn] at hk
          rcases List.mem_append.mp hk with v | v
          · exact h4 k v
          · cases List.mem_singleton.mp v
            exact ⟨e, rfl⟩
        · rw [valD_put]
          by_cases v : i = e
          · subst v
            rw [if_pos rfl, if_pos rfl]
            rfl
          · rw [if_neg (fun w => v (Sum.inl.inj w)), if_neg (fun w => v (snoc_inj w).2), h5 i]
      · have ca : c ≠ a := fun v => by subst v; exact y (h.inj q p c hq hp)
        have cb : c ≠ b := fun v => by subst v; exact nb q hq
        obtain ⟨kvs', h1, h2, h3, h4, h5⟩ := h.at_ q c hq
        refine ⟨kvs', by rw [mu_ne ca, mu_ne cb]; exact h1, h2, h3, h4, fun i => ?_⟩
        rw [if_neg (fun w => y (snoc_inj w).1), h5 i]
theorem tri_keep {M M' : MHp} {T : List Int → Option Addr} {m m' : Nat} (h : Tri M T m) (hm : m ≤ m') (k : ∀ p a, T p = some a → M' a = M a) : Tri M' T m' :=
  ⟨h.cl, h.inj, fun p a hp => by
    obtain ⟨kvs, h1, h2, h3⟩ := h.at_ p a hp
    exact ⟨kvs, by rw [k p a hp]; exact h1, Nat.le_trans h2 hm, h3⟩⟩
theorem pfx_snoc {p q : List Int} {e : Int} : p <+: q ++ [e] ↔ p = q ++ [e] ∨ p <+: q := List.prefix_concat_iff
theorem r_Trie_put {C : Addr} : ∀ xs M Q PX, sp_Trie_put C xs M Q PX → t_Trie_put C (endD Q PX) (startD n_Trie_put xs) M := by
  rintro _ M Q PX ⟨o, dx, t, n, d, T, m, es, rfl, ⟨hM, tri, top⟩, l1, l2, hm, h⟩
  have sz : m + 1 < sizeLine := by rw [sizeLine_eq]; omega
  unfold t_Trie_put
  walk_at "st"
  rw [List.length_map]
  refine ⟨by omega, by omega, ?_⟩
  refine ⟨fun i ρ M1 => ∃ (T1 : List Int → Option Addr) (a : Addr) (kvs : List (Key × DV)) (n1 : Int) (o3 : Option DV), ρ = [some (.r o), some (.d (.list (es.map .int))), some (.r a), o3] ∧
      M1 o = some (.ins C dx (fsT t n1 d)) ∧ Tri M1 T1 (m + 1) ∧ T1 [] = some t ∧ T1 (es.take i) = some a ∧ M1 a = some (.dk kvs) ∧ kvs.length ≤ m ∧ (∀ p, T1 p ≠ none ↔ T p ≠ none ∨ p <+: es.take i) ∧ n1 = n + (if i = es.length ∧ T es = none then 1 else 0) ∧
      Keeps M M1 o T ∧ (∀ p, T p ≠ none → T1 p = T p) ∧ (∀ p a, T1 p = some a → T p = none → M a = none) ∧ ∀ q b, T q = some b → i ≤ q.length → M1 b = M b, ?_, fun _ _ _ _ _ => trivial, ?_, ?_⟩
  · obtain ⟨kvs, h1, h2, _⟩ := tri.at_ _ t top
    refine .of ⟨T, t, kvs, n, none, rfl, hM, tri_keep tri (Nat.le_succ _) (fun _ _ _ => rfl), top, top, h1, h2, fun p => ⟨.inl, fun z => ?_⟩, ?_, fun a x e _ _ => e, fun _ _ => rfl, fun p a (z1 : T p = some a) (z2 : T p = none) => (by rw [z1] at z2; cases z2), fun _ _ _ _ => rfl⟩
    · rcases z with z | z
      · exact z
      · have : p = [] := by simpa using z
        rw [this, top]
        nofun
    · rw [if_neg (fun z => by omega)]
      omega
  · rintro i _ M1 x hx ⟨T1, a, kvs, n1, o3, rfl, ho, tr1, top1, ha, hk, hkl, dom, hn, kp, old, new, deep⟩
    obtain ⟨hi, rfl⟩ := getR hx
    have hi : i < es.length := by omega
    obtain ⟨e, he⟩ : ∃ e, es[i]? = some e := ⟨_, List.getElem?_eq_getElem hi⟩
    have et : es.take (i + 1) = es.take i ++ [e] := take_succ_of he
    have a1 : atI (es.map PyData.int) (0 + (i : Int)) = some (.int e) := atI_nn (by omega) (by rw [show (0 + (i : Int)).toNat = i by omega, List.getElem?_map, he]; rfl)
    obtain ⟨kvs', h1, h2, h3, h4, h5⟩ := tr1.at_ _ a ha
    rw [hk] at h1
    cases h1
    have hval := h5 e
    have oa : o ≠ a := fun z => by subst z; rw [ho] at hk; cases hk
    have noP : ¬ es.take (i + 1) <+: es.take i := fun z => by
      have := z.length_le
      rw [List.length_take, List.length_take] at this
      omega
    have fin : i + 1 = es.length → es.take (i + 1) = es := fun z => by rw [z, List.take_length]
    walk_at "st"
    rw [hasK_val]
    cases hT : T1 (es.take i ++ [e]) with
    | some b =>
      rw [hT] at hval
      have hval' : valD kvs (.inl e) = some (.r b) := hval
      rw [show (valD kvs (.inl e)).isSome = true by rw [hval]; rfl]
      walk_at "st"
      have told : T (es.take (i + 1)) ≠ none := by
        rcases (dom (es.take (i + 1))).mp (by rw [et, hT]; nofun) with z | z
        · exact z
        · exact absurd z noP
      have tb : T (es.take (i + 1)) = some b := by rw [← old _ told, et, hT]
      obtain ⟨kb, hb1, hb2, _⟩ := tri.at_ _ b tb
      have hbM : M1 b = M b := deep _ b tb (by rw [List.length_take]; omega)
      refine .of ⟨T1, b, kb, n1, _, rfl, ho, tr1, top1, by rw [et]; exact hT, hbM.trans hb1, hb2, fun p => ?_, ?_, kp, old, new, fun q c z1 z2 => deep q c z1 (by omega)⟩
      · rw [dom p]
        constructor
        · rintro (z | z)
          · exact .inl z
          · exact .inr (by rw [et, pfx_snoc]; exact .inr z)
        · rintro (z | z)
          · exact .inl z
          · rw [et, pfx_snoc] at z
            rcases z with z | z
            · rw [z, ← et]; exact .inl told
            · exact .inr z
      · rw [hn, if_neg (fun z => by omega), if_neg]
        rintro ⟨z1, z2⟩
        rw [fin z1] at told
        exact told z2
    | none =>
      rw [hT] at hval
      have hval' : valD kvs (.inl e) = none := hval
      rw [show (valD kvs (.inl e)).isSome = false by rw [hval]; rfl]
      walk_at "st"
      intro b hb
      have ab : a ≠ b := ne_of_mn hk hb
      have ob : o ≠ b := ne_of_mn ho hb
      have told : T (es.take (i + 1)) = none := by
        cases z : T (es.take (i + 1)) with
        | none => rfl
        | some c => exact absurd (old (es.take (i + 1)) (by rw [z]; nofun)) (by rw [et, hT, ← et, z]; nofun)
      have nbT : ∀ q, T q ≠ some b := fun q z => by
        have w := old q (by rw [z]; nofun)
        obtain ⟨k, w1, _⟩ := tr1.at_ q b (w.trans z)
        rw [hb] at w1
        cases w1
      have tr2 := tri_add tr1 ha hk (by omega) hT hb
      have val2 : valD (putD kvs (.inl e) (.r b)) (.inl e) = some (.r b) := by rw [valD_put, if_pos rfl]
      have mb : M b = none := by
        cases z : M b with
        | none => rfl
        | some x =>
          by_cases y : ∃ p, T p = some b
          · obtain ⟨p, y⟩ := y
            exact absurd y (nbT p)
          · have := kp b x z (fun w => ob w.symm) fun p w => y ⟨p, w⟩
            rw [hb] at this
            cases this
      have top2 : (if ([] : List Int) = es.take i ++ [e] then some b else T1 []) = some t := by rw [if_neg (by simp)]; exact top1
      -- what is said of the new state, whatever the size
      have goal : ∀ (M3 : MHp) (n3 : Int), M3 o = some (.ins C dx (fsT t n3 d)) → (∀ c, c ≠ o → M3 c = mu (mu M1 b (.dk [])) a (.dk (putD kvs (.inl e) (.r b))) c) → n3 = n + (if i + 1 = es.length ∧ T es = none then 1 else 0) →
          ∃ (T1 : List Int → Option Addr) (a : Addr) (kvs : List (Key × DV)) (n1 : Int) (o3 : Option DV), [some (.r o), some (.d (.list (es.map .int))), some (.r b), some (.d (.int (0 + (i : Int))))] = [some (.r o), some (.d (.list (es.map .int))), some (.r a), o3] ∧
      M3 o = some (.ins C dx (fsT t n1 d)) ∧ Tri M3 T1 (m + 1) ∧ T1 [] = some t ∧ T1 (es.take (i + 1)) = some a ∧ M3 a = some (.dk kvs) ∧ kvs.length ≤ m ∧ (∀ p, T1 p ≠ none ↔ T p ≠ none ∨ p <+: es.take (i + 1)) ∧ n1 = n + (if i + 1 = es.length ∧ T es = none then 1 else 0) ∧
      Keeps M M3 o T ∧ (∀ p, T p ≠ none → T1 p = T p) ∧ (∀ p a, T1 p = some a → T p = none → M a = none) ∧ ∀ q b, T q = some b → i + 1 ≤ q.length → M3 b = M b := by
        intro M3 n3 g1 g2 g3
        refine ⟨fun q => if q = es.take i ++ [e] then some b else T1 q, b, [], n3, _, rfl, g1, tri_keep tr2 (Nat.le_refl _) (fun p c z => g2 c ?_), top2, by rw [et]; exact if_pos rfl, ?_, Nat.zero_le _, fun p => ?_, g3, fun c x z1 z2 z3 => ?_, fun p z => ?_, fun p c z1 z2 => ?_, fun q c z1 z2 => ?_⟩
        · intro w
          subst w
          obtain ⟨k, w1, _⟩ := tr2.at_ p c z
          rw [mu_ne oa, mu_ne ob, ho] at w1
          cases w1
        · rw [g2 b (Ne.symm ob), mu_ne (Ne.symm ab), mu_same]
        · dsimp only
          by_cases z : p = es.take i ++ [e]
          · rw [if_pos z, et, pfx_snoc]
            exact ⟨fun _ => .inr (.inl z), fun _ => nofun⟩
          · rw [if_neg z, dom p, et, pfx_snoc]
            constructor
            · rintro (w | w)
              · exact .inl w
              · exact .inr (.inr w)
            · rintro (w | w | w)
              · exact .inl w
              · exact absurd w z
              · exact .inr w
        · have ca : c ≠ a ∨ c = a := Classical.em _ |>.symm
          have cb : c ≠ b := fun w => by subst w; rw [mb] at z1; cases z1
          rw [g2 c z2]
          rcases ca with ca | ca
          · rw [mu_ne ca, mu_ne cb]
            exact kp c x z1 z2 z3
          · subst ca
            cases w : T (es.take i) with
            | none =>
              have := new (es.take i) c ha w
              rw [this] at z1
              cases z1
            | some c' =>
              have q := old (es.take i) (by rw [w]; nofun)
              rw [ha, w] at q
              cases q
              exact absurd w (z3 _)
        · dsimp only
          by_cases w : p = es.take i ++ [e]
          · rw [w, ← et] at z
            exact absurd told z
          · rw [if_neg w]
            exact old p z
        · dsimp only at z1
          by_cases w : p = es.take i ++ [e]
          · rw [if_pos w] at z1
            cases z1
            exact mb
          · rw [if_neg w] at z1
            exact new p c z1 z2
        · have co : c ≠ o := fun w => by
            subst w
            obtain ⟨k, w1, _⟩ := tri.at_ q c z1
            rw [hM] at w1
            cases w1
          have cb : c ≠ b := fun w => by subst w; exact nbT q z1
          have ca : c ≠ a := fun w => by
            subst w
            have := old q (by rw [z1]; nofun)
            have := tr1.inj q (es.take i) c (this.trans z1) ha
            rw [this, List.length_take] at z2
            omega
          rw [g2 c co, mu_ne ca, mu_ne cb]
          exact deep q c z1 (by omega)
      walk_at "st"
      refine x_brD (fun z => ?_) (fun z => ?_)
      · rw [List.length_map] at z
        walk_at "st"
        exact .of (goal _ (n1 + 1) mu_same (fun c w => mu_ne w) (by rw [hn, if_neg (fun w => by omega), if_pos ⟨by omega, by rw [fin (by omega)] at told; exact told⟩]; omega))
      · rw [List.length_map] at z
        walk_at "st"
        exact .of (goal _ n1 (by rw [mu_ne oa, mu_ne ob]; exact ho) (fun c w => rfl) (by rw [hn, if_neg (fun w => by omega), if_neg (fun w => z (by omega))]))
  · rintro _ M1 ⟨T1, a, kvs, n1, o3, rfl, ho, tr1, top1, ha, hk, hkl, dom, hn, kp, old, new, deep⟩
    rw [rangeD_len, show ((es.length : Nat) : Int).toNat = es.length by omega] at *
    rw [List.take_length] at dom
    refine .here (h M1 T1 n1 ⟨ho, tr1, top1⟩ dom ?_ kp old new)
    rw [hn]
    by_cases z : T es = none
    · rw [if_pos ⟨rfl, z⟩, if_pos z]
    · rw [if_neg (fun w => z w.2), if_neg z]
--%%PAR
theorem len_Trie___init__ {C CR : Addr} : ∀ xs M P PX, sp_Trie___init__ C CR xs M P PX → xs.length = p_Trie___init__.length := by rintro _ M P PX ⟨_, _, _, _, rfl, _⟩; rfl
theorem dup_any (ps : List Int) : ((List.range ps.length).any fun i => decide (ps.getD i 0 ∈ ps.take i)) = decide (¬ ps.Nodup) := by
  rw [Bool.eq_iff_iff, List.any_eq_true, decide_eq_true_iff]
  constructor
  · rintro ⟨i, hi, e⟩ nd
    have hi := List.mem_range.mp hi
    have e := of_decide_eq_true e
    obtain ⟨j, hj, e2⟩ := List.getElem_of_mem e
    rw [List.length_take] at hj
    rw [List.getElem_take, List.getD_eq_getElem?_getD, List.getElem?_eq_getElem hi] at e2
    exact List.pairwise_iff_getElem.mp nd j i (by omega) hi (by omega) e2
  · intro nd
    apply Classical.byContradiction
    intro no
    apply nd
    refine List.pairwise_iff_getElem.mpr fun i j hi hj hij e => no ⟨j, List.mem_range.mpr hj, decide_eq_true ?_⟩
    rw [List.getD_eq_getElem?_getD, List.getElem?_eq_getElem hj]
    show ps[j] ∈ ps.take j
    rw [← e]
    refine List.mem_iff_getElem.mpr ⟨i, by rw [List.length_take]; omega, ?_⟩
    rw [List.getElem_take]
def outB (R : List (List Int)) (ps : List Int) : List Bool := R.flatMap fun r => ps.map fun k => decide (k < 0) || decide ((r.length : Int) ≤ k)
theorem out_any (R : List (List Int)) (ps : List Int) : (outB R ps).any (fun a => a) = decide (¬ ∀ r ∈ R, ∀ k ∈ ps, 0 ≤ k ∧ k < r.length) := by
  rw [Bool.eq_iff_iff, List.any_eq_true, decide_eq_true_iff]
  unfold outB
  constructor
  · rintro ⟨b, hb, e⟩ all
    obtain ⟨r, hr, hb⟩ := List.mem_flatMap.mp hb
    obtain ⟨k, hk, rfl⟩ := List.mem_map.mp hb
    have := all r hr k hk
    rw [decide_eq_false (by omega : ¬ k < 0), decide_eq_false (by omega : ¬ (r.length : Int) ≤ k)] at e
    cases e
  · intro no
    apply Classical.byContradiction
    intro z
    apply no
    intro r hr k hk
    apply Classical.byContradiction
    intro y
    refine z ⟨_, List.mem_flatMap.mpr ⟨r, hr, List.mem_map.mpr ⟨k, hk, rfl⟩⟩, ?_⟩
    show (decide (k < 0) || decide ((r.length : Int) ≤ k)) = true
    by_cases w : k < 0
    · rw [decide_eq_true w]; rfl
    · rw [decide_eq_true (by omega : (r.length : Int) ≤ k), Bool.or_true]
theorem row_at {R : List (List Int)} {i : Nat} {r : List Int} {k : Int} (h : R[i]? = some r) (hk : k = i) : atI (R.map tpI) k = some (tpI r) := by
  subst hk
  exact atI_nn (by omega) (by rw [Int.toNat_natCast, List.getElem?_map, h]; rfl)
theorem int_at {r : List Int} {k : Int} (h0 : 0 ≤ k) (h1 : k < r.length) : atI (r.map PyData.int) k = some (.int (r.getD k.toNat 0)) :=
  atI_nn h0 (by rw [List.getElem?_map, List.getD_eq_getElem?_getD, List.getElem?_eq_getElem (show k.toNat < r.length by omega)]; rfl)
theorem pick_len {ps r : List Int} : (pick ps r).length = ps.length := List.length_map _
theorem r_Trie___init__ {C CR : Addr} : ∀ xs M Q PX, sp_Trie___init__ C CR xs M Q PX → t_Trie___init__ CR C (endD Q PX) (startD n_Trie___init__ xs) M := by
  rintro _ M Q PX ⟨o, dx, R, ps, rfl, hM, ⟨z1, z2, z3⟩, hbad, hgood⟩
  have zz : (outB R ps).length ≤ 10000 := by
    unfold outB
    have : ∀ R : List (List Int), (R.flatMap fun r => ps.map fun k => decide (k < 0) || decide ((r.length : Int) ≤ k)).length = R.length * ps.length := fun R => by
      induction R with
      | nil => simp
      | cons a R ih => rw [List.flatMap_cons, List.length_append, ih, List.length_map, List.length_cons, Nat.succ_mul, Nat.add_comm]
    rw [this]
    exact Nat.mul_le_mul z1 z3
  have eb : (R.flatMap fun r => ps.map fun k => PyData.bool (decide (k < 0) || decide ((r.length : Int) ≤ k))) = (outB R ps).map .bool := by
    unfold outB
    rw [List.map_flatMap]
    refine congrArg (R.flatMap ·) (funext fun r => ?_)
    rw [List.map_map]
    rfl
  unfold t_Trie___init__
  walk_at "st"
  rw [List.length_map]
  refine x_brD (fun e1 => ?_) (fun e1 => ?_)
  · walk_at "st"
    rw [List.length_map]
    refine ⟨by omega, by omega, ?_⟩
    have hr : rangeD 0 ((ps.length : Nat) : Int).toNat = (List.range ps.length).map fun i => DV.d (.int (0 + (i : Nat))) := rfl
    rw [hr]
    refine lc_of (fun i => .bool (decide (ps.getD i 0 ∈ ps.take i))) (by rw [List.length_range, sizeLine_eq]; omega) trivial (fun i hi KT hK => ?_) (finD_of ?_)
    · have hi := List.mem_range.mp hi
      have a1 := int_at (r := ps) (k := 0 + (i : Int)) (by omega) (by omega)
      rw [show (0 + (i : Int)).toNat = i by omega] at a1
      walk_at "st"
      rw [cut_take (by omega), ← List.map_take, show (0 + (i : Int)).toNat = i by omega]
      walk_at "st"
      exact hK
    walk_at "st"
    rw [dup_any]
    refine x_brD (fun e2 => ?_) (fun e2 => ?_)
    · walk_at "st"
      exact hbad fun f => e2 f.2.1
    walk_at "st"
    rw [List.map_map]
    refine lc2_of (e := DV.d ∘ tpI) (fun r => ps.map fun k => .bool (decide (k < 0) || decide ((r.length : Int) ≤ k))) (by rw [eb, List.length_map, sizeLine_eq]; omega) trivial (fun r hr acc K hz hK => ?_) (finD_of ?_)
    · show gN 4 (.d (tpI r)) _ _ _ _
      walk_at "st"
      rw [List.map_map]
      refine lcJ_of (e2 := DV.d ∘ PyData.int) (fun k => .bool (decide (k < 0) || decide ((r.length : Int) ≤ k))) (by rw [List.length_map] at hz; exact hz) trivial (fun k hk KT hKT => ?_) hK
      show gN 5 (.d (.int k)) _ _ _ _
      walk_at "st"
      refine x_brD (fun w => ?_) (fun w => ?_)
      · rw [decide_eq_true w] at hKT
        exact hKT
      · rw [decide_eq_false w] at hKT
        walk_at "st"
        rw [List.length_map]
        exact hKT
    rw [eb]
    walk_at "st"
    rw [out_any]
    refine x_brD (fun e3 => ?_) (fun e3 => ?_)
    · walk_at "st"
      exact hbad fun f => e3 f.2.2
    have e3 := Classical.byContradiction e3
    have fits : Fits R ps := ⟨fun z => by subst z; simp at e1, Classical.byContradiction e2, e3⟩
    walk_at "st"
    intro t ht
    have ot : o ≠ t := ne_of_mn hM ht
    walk_at "st"
    rw [List.length_map]
    walk_at "st"
    refine ⟨fun i ρ M1 => ∃ (T : List Int → Option Addr) (U : List (List Int)) (o3 o4 : Option DV), ρ = [some (.r o), some (.d (rwsD R)), some (.d (tpI ps)), o3, o4, none] ∧ TrO C M1 o dx t U.length ps.length T i ∧ U.Nodup ∧ (∀ r, r ∈ U ↔ r ∈ (R.take i).map (pick ps)) ∧
        Pfx (fun r => r ∈ (R.take i).map (pick ps)) T ∧ (∀ a x, M a = some x → a ≠ o → M1 a = some x) ∧ ∀ q a, T q = some a → M a = none, ?_, fun _ _ _ _ _ => trivial, ?_, ?_⟩
    · refine .of ⟨fun q => if q = [] then some t else none, [], _, none, rfl, ⟨?_, ⟨fun q i hq => if_neg (by simp), fun p q a h1 h2 => ?_, fun p a hp => ?_⟩, if_pos rfl⟩, .nil, fun r => by simp, fun p => ?_, fun a x e ne => ?_, fun q a hq => ?_⟩
      · rw [mu_same]
        rfl
      · have f : ∀ p, (if p = ([] : List Int) then some t else none) = some a → p = [] := fun p h => by
          by_cases z : p = []
          · exact z
          · rw [if_neg z] at h; cases h
        rw [f p h1, f q h2]
      · have z : p = [] := by
          by_cases z : p = []
          · exact z
          · rw [if_neg z] at hp; cases hp
        subst z
        cases (show some t = some a from hp)
        exact ⟨[], by rw [mu_ne (Ne.symm ot), mu_ne (Ne.symm ot), mu_ne (Ne.symm ot), mu_same], Nat.zero_le _, List.nodup_nil, (fun k hk => by cases hk), fun i => by rw [if_neg (by simp)]; rfl⟩
      · dsimp only
        by_cases z : p = []
        · rw [if_pos z]
          exact ⟨fun _ => .inl z, fun _ => nofun⟩
        · rw [if_neg z]
          constructor
          · intro w; exact absurd rfl w
          · rintro (w | ⟨r, hr, _⟩)
            · exact absurd w z
            · simp at hr
      · have at' : a ≠ t := fun w => by subst w; rw [ht] at e; cases e
        rw [mu_ne ne, mu_ne ne, mu_ne ne, mu_ne at']
        exact e
      · dsimp only at hq
        by_cases z : q = []
        · rw [if_pos z] at hq
          cases hq
          exact ht
        · rw [if_neg z] at hq; cases hq
    · rintro i _ M1 x hx ⟨T, U, o3, o4, rfl, tr, nd, hU, pf, kp, new⟩
      rw [List.map_map, List.getElem?_map] at hx
      obtain ⟨r, hr, rfl⟩ := Option.map_eq_some_iff.mp hx
      have hi := (List.getElem?_eq_some_iff.mp hr).1
      have rm := List.mem_of_getElem? hr
      have et : R.take (i + 1) = R.take i ++ [r] := take_succ_of hr
      have hM1 := tr.ins
      show gN 4 (.d (tpI r)) _ _ _ _
      walk_at "st"
      rw [List.map_map]
      refine lc_of (e := DV.d ∘ PyData.int) (fun k => .int (r.getD k.toNat 0)) (by rw [sizeLine_eq]; omega) trivial (fun k hk KT hK => ?_) (finD_of ?_)
      · have b := fits.2.2 r rm k hk
        have a1 := int_at b.1 b.2
        show gN 5 (.d (.int k)) _ _ _ _
        walk_at "st"
        exact hK
      walk_at "st"
      have pl : 1 ≤ ps.length := by
        cases ps with
        | nil => exact absurd rfl fits.1
        | cons a b => simp
      have rows : (∀ r' ∈ (R.take i).map (pick ps), r'.length = ps.length) := fun r' hr' => by
        obtain ⟨q, _, rfl⟩ := List.mem_map.mp hr'
        exact pick_len
      have inU : T (pick ps r) = none ↔ pick ps r ∉ U := by
        have w := pf (pick ps r)
        rw [hU]
        constructor
        · intro z y
          exact w.mpr (.inr ⟨_, y, List.prefix_refl _⟩) z
        · intro z
          apply Classical.byContradiction
          intro y
          rcases w.mp y with v | ⟨r', v1, v2⟩
          · have := congrArg List.length v
            rw [pick_len, List.length_nil] at this
            omega
          · have := v2.eq_of_length (by rw [pick_len, rows r' v1])
            rw [this] at z
            exact z v1
      refine ⟨o, dx, t, _, _, T, i, pick ps r, by rw [pick, List.map_map]; rfl, tr, by rw [pick_len]; exact pl, by rw [pick_len]; exact z3, by omega, fun M' T' n' tr' dom' hn' kp' old' new' => ?_⟩
      walk_at "st"
      refine .of ⟨T', if T (pick ps r) = none then U ++ [pick ps r] else U, _, _, rfl, ⟨?_, tr'.tri, tr'.top⟩, ?_, fun q => ?_, fun q => ?_, fun a x e ne => ?_, fun q a hq => ?_⟩
      · have e : n' = ((if T (pick ps r) = none then U ++ [pick ps r] else U).length : Nat) := by
          rw [hn']
          by_cases w : T (pick ps r) = none
          · rw [if_pos w, if_pos w]; simp
          · rw [if_neg w, if_neg w]; omega
        rw [← e]
        exact tr'.ins
      · by_cases w : T (pick ps r) = none
        · rw [if_pos w]
          refine List.nodup_append.mpr ⟨nd, by simp, fun a ha b hb => ?_⟩
          cases List.mem_singleton.mp hb
          exact fun v => (inU.mp w) (v ▸ ha)
        · rw [if_neg w]; exact nd
      · rw [et, List.map_append, List.mem_append, ← hU]
        by_cases w : T (pick ps r) = none
        · rw [if_pos w, List.mem_append]
          exact Iff.rfl
        · rw [if_neg w]
          constructor
          · exact .inl
          · rintro (v | v)
            · exact v
            · have : q = pick ps r := by simpa using v
              rw [this]
              exact Classical.byContradiction fun y => w (inU.mpr y)
      · rw [dom', pf q, et, List.map_append]
        constructor
        · rintro ((v | ⟨r', v1, v2⟩) | v)
          · exact .inl v
          · exact .inr ⟨r', List.mem_append_left _ v1, v2⟩
          · exact .inr ⟨pick ps r, List.mem_append_right _ (by simp), v⟩
        · rintro (v | ⟨r', v1, v2⟩)
          · exact .inl (.inl v)
          · rcases List.mem_append.mp v1 with v | v
            · exact .inl (.inr ⟨r', v, v2⟩)
            · have : r' = pick ps r := by simpa using v
              rw [this] at v2
              exact .inr v2
      · exact kp' a x (kp a x e ne) ne fun q w => by rw [new q a w] at e; cases e
      · cases w : T q with
        | some b =>
          rw [old' q (by rw [w]; nofun)] at hq
          exact new q a hq
        | none =>
          have v := new' q a hq w
          cases y : M a with
          | none => rfl
          | some x =>
            by_cases ao : a = o
            · subst ao
              rw [hM1] at v; cases v
            · rw [kp a x y ao] at v; cases v
    · rintro _ M1 ⟨T, U, o3, o4, rfl, tr, nd, hU, pf, kp, new⟩
      rw [List.length_map, List.length_map] at tr hU pf
      rw [List.take_length] at hU pf
      exact .here (hgood fits M1 t T U tr nd hU pf kp)
  · walk_at "st"
    refine hbad fun f => f.1 ?_
    cases ps with
    | nil => rfl
    | cons a b => simp at e1
--%%PAR
theorem stk (S : List Lv) : S = [] ∨ ∃ S0 r a, S = S0 ++ [(r, a)] := by
  rcases List.eq_nil_or_concat S with z | ⟨S0, x, z⟩
  · exact .inl z
  · exact .inr ⟨S0, x.1, x.2, by rw [z, List.concat_eq_append]⟩
theorem rowL_snoc {S : List Lv} {r : List Int} {a : Nat} : rowL (S ++ [(r, a)]) = rowL S ++ [tpI r] := by unfold rowL; rw [List.map_append]; rfl
theorem plcL_snoc {S : List Lv} {r : List Int} {a : Nat} : plcL (S ++ [(r, a)]) = plcL S ++ [.int (a : Nat)] := by unfold plcL; rw [List.map_append]; rfl
theorem ended_snoc {S0 : List Lv} {r : List Int} {a : Nat} : ended (S0 ++ [(r, a)]) = decide (r.length ≤ a) := by
  unfold ended
  rw [List.getLast?_concat]
theorem last_row {S0 : List Lv} {r : List Int} {a : Nat} : atI (rowL (S0 ++ [(r, a)])) (-1) = some (tpI r) := by
  unfold rowL
  rw [List.map_append]
  exact at_last
theorem last_plc {S0 : List Lv} {r : List Int} {a : Nat} : atI (plcL (S0 ++ [(r, a)])) (-1) = some (.int (a : Nat)) := by
  unfold plcL
  rw [List.map_append]
  exact at_last
theorem row_key {r : List Int} {a : Nat} (h : a < r.length) : atI (r.map PyData.int) (a : Nat) = some (.int (r.getD a 0)) :=
  atI_nn (by omega) (by rw [Int.toNat_natCast, List.getElem?_map, List.getD_eq_getElem?_getD, List.getElem?_eq_getElem h]; rfl)
theorem ix_last {α : Type} {xs : List α} {x : α} : ixN (xs ++ [x]).length (-1) = some xs.length := by
  unfold ixN
  rw [if_neg (by decide), List.length_append]
  simp
  omega
theorem set_last {α : Type} {xs : List α} {x y : α} : (xs ++ [x]).set xs.length y = xs ++ [y] := by
  rw [List.set_append_right _ _ (Nat.le_refl _), Nat.sub_self]
  rfl
theorem len_Walker___init__ {C : Addr} : ∀ xs M P PX, sp_Walker___init__ C xs M P PX → xs.length = p_Walker___init__.length := by rintro _ M P PX ⟨_, _, _, rfl, _⟩; rfl
theorem r_Walker___init__ {C : Addr} : ∀ xs M Q PX, sp_Walker___init__ C xs M Q PX → t_Walker___init__ C (endD Q PX) (startD n_Walker___init__ xs) M := by
  rintro _ M Q PX ⟨w, dx, ta, rfl, hM, h⟩
  unfold t_Walker___init__
  walk_at "st"
  intro ra hra
  have n1 := mn_of (mn_of hra)
  have wr : w ≠ ra := ne_of_mn hM n1
  walk_at "st"
  intro pa hpa
  have n2 := mn_of (mn_of (mn_of (mn_of hpa)))
  have wp : w ≠ pa := ne_of_mn hM n2
  have rp : ra ≠ pa := by
    refine ne_of_mn (o := .ls []) ?_ hpa
    rw [mu_ne (Ne.symm wr), mu_same]
  walk_at "st"
  refine .here (h _ ra pa ⟨by rw [mu_same]; rfl, by rw [mu_ne (Ne.symm wr), mu_ne (Ne.symm wr), mu_ne rp, mu_ne (Ne.symm wr), mu_same]; rfl, by rw [mu_ne (Ne.symm wp), mu_ne (Ne.symm wp), mu_same]; rfl, rp⟩ (fun a x e ne => ?_) n1 n2)
  have a1 : a ≠ ra := by rintro rfl; rw [n1] at e; cases e
  have a2 : a ≠ pa := by rintro rfl; rw [n2] at e; cases e
  rw [mu_ne ne, mu_ne ne, mu_ne a2, mu_ne ne, mu_ne a1, mu_ne ne, mu_ne ne]
  exact e
theorem len_Walker_level {C : Addr} : ∀ xs M P PX, sp_Walker_level C xs M P PX → xs.length = p_Walker_level.length := by rintro _ M P PX ⟨_, _, _, _, _, _, _, _, rfl, _⟩; rfl
theorem r_Walker_level {C : Addr} : ∀ xs M Q PX, sp_Walker_level C xs M Q PX → t_Walker_level C (endD Q PX) (startD n_Walker_level xs) M := by
  rintro _ M Q PX ⟨w, dx, ta, ra, pa, pfx, S, made, rfl, ⟨h1, h2, h3, h4⟩, h⟩
  unfold t_Walker_level
  walk_at "st"
  rw [List.length_map]
  exact .here h
theorem len_Walker_moves {C : Addr} : ∀ xs M P PX, sp_Walker_moves C xs M P PX → xs.length = p_Walker_moves.length := by rintro _ M P PX ⟨_, _, _, _, _, _, _, _, rfl, _⟩; rfl
theorem r_Walker_moves {C : Addr} : ∀ xs M Q PX, sp_Walker_moves C xs M Q PX → t_Walker_moves C (endD Q PX) (startD n_Walker_moves xs) M := by
  rintro _ M Q PX ⟨w, dx, ta, ra, pa, pfx, S, made, rfl, ⟨h1, h2, h3, h4⟩, h⟩
  unfold t_Walker_moves
  walk_at "st"
  exact .here h
theorem len_Walker_at_end {C : Addr} : ∀ xs M P PX, sp_Walker_at_end C xs M P PX → xs.length = p_Walker_at_end.length := by rintro _ M P PX ⟨_, _, _, _, _, _, _, _, rfl, _⟩; rfl
theorem r_Walker_at_end {C : Addr} : ∀ xs M Q PX, sp_Walker_at_end C xs M Q PX → t_Walker_at_end C (endD Q PX) (startD n_Walker_at_end xs) M := by
  rintro _ M Q PX ⟨w, dx, ta, ra, pa, pfx, S, made, rfl, ⟨h1, h2, h3, h4⟩, h⟩
  unfold t_Walker_at_end
  walk_at "st"
  rw [List.length_map]
  rcases stk S with rfl | ⟨S0, r, a, rfl⟩
  · walk_at "st"
    exact .here h
  · rw [ended_snoc] at h
    have l1 := last_row (S0 := S0) (r := r) (a := a)
    have l2 := last_plc (S0 := S0) (r := r) (a := a)
    rw [List.length_append, List.length_cons, List.length_nil]
    walk_at "st"
    rw [List.length_map]
    have e : decide (((r.length : Nat) : Int) ≤ (a : Nat)) = decide (r.length ≤ a) := decide_eq_decide.mpr (by omega)
    rw [e]
    exact .here h
theorem len_Walker_check_at_key {C CE : Addr} : ∀ xs M P PX, sp_Walker_check_at_key C CE xs M P PX → xs.length = p_Walker_check_at_key.length := by rintro _ M P PX ⟨_, _, _, _, _, _, _, _, rfl, _⟩; rfl
theorem r_Walker_check_at_key {C CE : Addr} : ∀ xs M Q PX, sp_Walker_check_at_key C CE xs M Q PX → t_Walker_check_at_key CE C (endD Q PX) (startD n_Walker_check_at_key xs) M := by
  rintro _ M Q PX ⟨w, dx, ta, ra, pa, pfx, S, made, rfl, wo, hbad, hgood⟩
  obtain ⟨h1, h2, h3, h4⟩ := id wo
  unfold t_Walker_check_at_key
  walk_at "st"
  rw [List.length_map]
  refine x_brD (fun e => ?_) (fun e => ?_)
  · walk_at "st"
    exact hbad (.inl (List.eq_nil_of_length_eq_zero (by omega)))
  · walk_at "st"
    refine ⟨w, dx, ta, ra, pa, pfx, S, made, rfl, wo, ?_⟩
    walk_at "st"
    refine x_br (fun e2 => ?_) (fun e2 => ?_)
    · walk_at "st"
      exact hbad (.inr e2)
    · walk_at "st"
      exact .here (hgood (fun z => e (by rw [z]; rfl)) e2)
theorem len_Walker_key {C CE : Addr} : ∀ xs M P PX, sp_Walker_key C CE xs M P PX → xs.length = p_Walker_key.length := by rintro _ M P PX ⟨_, _, _, _, _, _, _, _, rfl, _⟩; rfl
theorem r_Walker_key {C CE : Addr} : ∀ xs M Q PX, sp_Walker_key C CE xs M Q PX → t_Walker_key CE C (endD Q PX) (startD n_Walker_key xs) M := by
  rintro _ M Q PX ⟨w, dx, ta, ra, pa, pfx, S, made, rfl, wo, hbad, hgood⟩
  obtain ⟨h1, h2, h3, h4⟩ := id wo
  unfold t_Walker_key
  walk_at "st"
  refine ⟨w, dx, ta, ra, pa, pfx, S, made, rfl, wo, hbad, fun z e => ?_⟩
  rcases stk S with rfl | ⟨S0, r, a, rfl⟩
  · exact absurd rfl z
  · rw [ended_snoc] at e
    have e := of_decide_eq_false e
    have l1 := last_row (S0 := S0) (r := r) (a := a)
    have l2 := last_plc (S0 := S0) (r := r) (a := a)
    have l3 := row_key (r := r) (a := a) (by omega)
    walk_at "st"
    exact .here (hgood S0 r a rfl (by omega))
theorem len_Walker_next {C CE : Addr} : ∀ xs M P PX, sp_Walker_next C CE xs M P PX → xs.length = p_Walker_next.length := by rintro _ M P PX ⟨_, _, _, _, _, _, _, _, rfl, _⟩; rfl
theorem r_Walker_next {C CE : Addr} : ∀ xs M Q PX, sp_Walker_next C CE xs M Q PX → t_Walker_next CE C (endD Q PX) (startD n_Walker_next xs) M := by
  rintro _ M Q PX ⟨w, dx, ta, ra, pa, pfx, S, made, rfl, wo, hbad, hgood⟩
  obtain ⟨h1, h2, h3, h4⟩ := id wo
  unfold t_Walker_next
  walk_at "st"
  refine ⟨w, dx, ta, ra, pa, pfx, S, made, rfl, wo, hbad, fun z e => ?_⟩
  rcases stk S with rfl | ⟨S0, r, a, rfl⟩
  · exact absurd rfl z
  · rw [ended_snoc] at e
    have e := of_decide_eq_false e
    have wr : w ≠ ra := by rintro rfl; rw [h1] at h2; cases h2
    have wp : w ≠ pa := by rintro rfl; rw [h1] at h3; cases h3
    have l2 := last_plc (S0 := S0) (r := r) (a := a)
    have pe : plcL (S0 ++ [(r, a)]) = plcL S0 ++ [.int (a : Nat)] := by unfold plcL; rw [List.map_append]; rfl
    walk_at "st"
    refine x_setLK (ys := plcL S0 ++ [.int (a : Nat)]) (by rw [h3, pe]) ix_last ?_
    rw [set_last]
    walk_at "st"
    refine .here (hgood S0 r a rfl (by omega) _ ⟨by rw [mu_same]; rfl, by rw [mu_ne (Ne.symm wr), mu_ne h4, h2]; unfold rowL; rw [List.map_append, List.map_append]; rfl, by rw [mu_ne (Ne.symm wp), mu_same]; unfold plcL; rw [List.map_append]; rfl, h4⟩ fun b b1 b2 b3 => by rw [mu_ne b1, mu_ne b3])
theorem len_Walker_seek {C CE : Addr} : ∀ xs M P PX, sp_Walker_seek C CE xs M P PX → xs.length = p_Walker_seek.length := by rintro _ M P PX ⟨_, _, _, _, _, _, _, _, _, _, rfl, _⟩; rfl
theorem r_Walker_seek {C CE : Addr} : ∀ xs M Q PX, sp_Walker_seek C CE xs M Q PX → t_Walker_seek CE C (endD Q PX) (startD n_Walker_seek xs) M := by
  rintro _ M Q PX ⟨w, dx, ta, ra, pa, pfx, S, made, n, k, rfl, wo, sok, hbad, hgood⟩
  obtain ⟨h1, h2, h3, h4⟩ := id wo
  unfold t_Walker_seek
  walk_at "st"
  refine ⟨w, dx, ta, ra, pa, pfx, S, made, rfl, wo, hbad, fun z e => ?_⟩
  rcases stk S with rfl | ⟨S0, r, a, rfl⟩
  · exact absurd rfl z
  · rw [ended_snoc] at e
    have e := of_decide_eq_false e
    have wr : w ≠ ra := by rintro rfl; rw [h1] at h2; cases h2
    have wp : w ≠ pa := by rintro rfl; rw [h1] at h3; cases h3
    have l1 := last_row (S0 := S0) (r := r) (a := a)
    have l2 := last_plc (S0 := S0) (r := r) (a := a)
    have ro := sok.row (r, a) (by simp)
    have pe : plcL (S0 ++ [(r, a)]) = plcL S0 ++ [.int (a : Nat)] := by unfold plcL; rw [List.map_append]; rfl
    walk_at "st"
    have r63 : r.length ≤ 63 := ro.2.1
    refine ⟨r, a, n, rfl, ro.1, by omega, by omega, fun p hp => ?_⟩
    walk_at "st"
    refine x_setLK (ys := plcL S0 ++ [.int (a : Nat)]) (by rw [h3, pe]) ix_last ?_
    rw [set_last]
    walk_at "st"
    refine .here (hgood S0 r a rfl (by omega) p hp _ ⟨by rw [mu_same]; rfl, by rw [mu_ne (Ne.symm wr), mu_ne h4, h2]; unfold rowL; rw [List.map_append, List.map_append]; rfl, by rw [mu_ne (Ne.symm wp), mu_same]; unfold plcL; rw [List.map_append]; rfl, h4⟩ fun b b1 b2 b3 => by rw [mu_ne b1, mu_ne b3])
theorem last_get {α : Type} {xs : List α} {x : α} : (xs ++ [x])[(xs ++ [x]).length - 1]? = some x := by simp
theorem len_Walker_up {C CE : Addr} : ∀ xs M P PX, sp_Walker_up C CE xs M P PX → xs.length = p_Walker_up.length := by rintro _ M P PX ⟨_, _, _, _, _, _, _, _, rfl, _⟩; rfl
theorem r_Walker_up {C CE : Addr} : ∀ xs M Q PX, sp_Walker_up C CE xs M Q PX → t_Walker_up CE C (endD Q PX) (startD n_Walker_up xs) M := by
  rintro _ M Q PX ⟨w, dx, ta, ra, pa, pfx, S, made, rfl, wo, hbad, hgood⟩
  obtain ⟨h1, h2, h3, h4⟩ := id wo
  have wr : w ≠ ra := by rintro rfl; rw [h1] at h2; cases h2
  have wp : w ≠ pa := by rintro rfl; rw [h1] at h3; cases h3
  unfold t_Walker_up
  walk_at "st"
  rw [List.length_map]
  refine x_brD (fun e => ?_) (fun e => ?_)
  · walk_at "st"
    exact hbad (List.eq_nil_of_length_eq_zero (by omega))
  · rcases stk S with rfl | ⟨S0, r, a, rfl⟩
    · exact absurd rfl e
    · have re : rowL (S0 ++ [(r, a)]) = rowL S0 ++ [tpI r] := by unfold rowL; rw [List.map_append]; rfl
      have pe : plcL (S0 ++ [(r, a)]) = plcL S0 ++ [.int (a : Nat)] := by unfold plcL; rw [List.map_append]; rfl
      rw [re] at h2
      rw [pe] at h3
      walk_at "st"
      refine x_pop h2 last_get ?_
      rw [List.dropLast_concat]
      walk_at "st"
      refine x_pop (ys := plcL S0 ++ [.int (a : Nat)]) (by rw [mu_ne (Ne.symm h4)]; exact h3) last_get ?_
      rw [List.dropLast_concat]
      walk_at "st"
      rw [cut_m1, ← List.map_dropLast]
      exact .here (hgood S0 (r, a) rfl _ ⟨by rw [mu_same]; rfl, by rw [mu_ne (Ne.symm wr), mu_ne h4, mu_same], by rw [mu_ne (Ne.symm wp), mu_same], h4⟩ fun b b1 b2 b3 => by rw [mu_ne b1, mu_ne b3, mu_ne b2])
theorem len_Walker_down {C CT CE : Addr} : ∀ xs M P PX, sp_Walker_down C CT CE xs M P PX → xs.length = p_Walker_down.length := by rintro _ M P PX ⟨_, _, _, _, _, _, _, _, _, _, _, _, _, _, _, rfl, _⟩; rfl
theorem r_Walker_down {C CT CE : Addr} : ∀ xs M Q PX, sp_Walker_down C CT CE xs M Q PX → t_Walker_down CE CT C (endD Q PX) (startD n_Walker_down xs) M := by
  rintro _ M Q PX ⟨w, dx, ta, ra, pa, pfx, S, made, dxt, t, n, d, T, m, k, rfl, wo, tr, hm, sok, hk, hp, hbad, hgood⟩
  obtain ⟨h1, h2, h3, h4⟩ := id wo
  have htr := tr.ins
  have wr : w ≠ ra := by rintro rfl; rw [h1] at h2; cases h2
  have wp : w ≠ pa := by rintro rfl; rw [h1] at h3; cases h3
  have sl := sok.len
  have fin : ∀ ys : List Int, Asc ys → (∀ i, i ∈ ys ↔ T (innerP pfx S ++ [i]) ≠ none) → ended S = false → ∀ ρ1 : List (Option DV), True := fun _ _ _ _ _ => trivial
  unfold t_Walker_down
  walk_at "st"
  refine ⟨w, dx, ta, ra, pa, pfx, S, made, rfl, wo, ?_⟩
  walk_at "st"
  refine x_br (fun e => ?_) (fun e => ?_)
  · walk_at "st"
    exact hbad e
  · have hg := hgood e
    walk_at "st"
    rw [List.length_map]
    rcases stk S with rfl | ⟨S0, r, a, rfl⟩
    · walk_at "st"
      refine ⟨ta, dxt, t, n, d, T, m, pfx, rfl, tr, hm, by omega, tr.tri.cl, fun ys pw hys => ?_⟩
      obtain ⟨g1, g2⟩ := hg ys pw hys
      walk_at "st"
      rw [List.length_map]
      refine x_brD (fun c => ?_) (fun c => ?_)
      · walk_at "st"
        exact g1 (List.eq_nil_of_length_eq_zero (by omega))
      · walk_at "st"
        · rw [List.length_map, sizeLine_eq]; omega
        walk_at "st"
        · rw [List.length_map, sizeLine_eq]; omega
        walk_at "st"
        exact .here (g2 (fun z => by subst z; exact c rfl) _ ⟨by rw [mu_same]; rfl, by rw [mu_ne (Ne.symm wr), mu_ne h4, mu_same]; simp only [rowL_snoc] <;> rfl, by rw [mu_ne (Ne.symm wp), mu_same]; simp only [plcL_snoc] <;> rfl, h4⟩ fun b b1 b2 b3 => by rw [mu_ne b1, mu_ne b3, mu_ne b2, mu_ne b1])
    · rw [ended_snoc] at e
      have e := of_decide_eq_false e
      have ip : innerP pfx (S0 ++ [(r, a)]) = pfx ++ [r.getD a 0] := by unfold innerP; rw [List.getLast?_concat]
      rw [ip] at hg
      rw [List.length_append, List.length_cons, List.length_nil]
      walk_at "st"
      refine ⟨w, dx, ta, ra, pa, pfx, _, made, rfl, wo, fun z => ?_, fun S1 r1 a1 z1 z2 => ?_⟩
      · rcases z with z | z
        · simp at z
        · rw [ended_snoc] at z
          exact absurd (of_decide_eq_true z) e
      obtain ⟨z3, z4⟩ := List.append_inj' z1 rfl
      cases z3
      cases z4
      walk_at "st"
      refine x_addT (by rw [List.length_map, List.length_cons, List.length_nil, sizeLine_eq]; omega) ?_
      have em : pfx.map PyData.int ++ [.int (r.getD a 0)] = (pfx ++ [r.getD a 0]).map .int := by rw [List.map_append]; rfl
      rw [em]
      walk_at "st"
      refine ⟨ta, dxt, t, n, d, T, m, pfx ++ [r.getD a 0], rfl, tr, hm, by simp; omega, tr.tri.cl, fun ys pw hys => ?_⟩
      obtain ⟨g1, g2⟩ := hg ys pw hys
      walk_at "st"
      rw [List.length_map]
      refine x_brD (fun c => ?_) (fun c => ?_)
      · walk_at "st"
        exact g1 (List.eq_nil_of_length_eq_zero (by omega))
      · walk_at "st"
        · rw [List.length_map, sizeLine_eq]; omega
        walk_at "st"
        · rw [List.length_map, sizeLine_eq]; omega
        walk_at "st"
        exact .here (g2 (fun z => by subst z; exact c rfl) _ ⟨by rw [mu_same]; rfl, by rw [mu_ne (Ne.symm wr), mu_ne h4, mu_same]; simp only [rowL_snoc] <;> rfl, by rw [mu_ne (Ne.symm wp), mu_same]; simp only [plcL_snoc] <;> rfl, h4⟩ fun b b1 b2 b3 => by rw [mu_ne b1, mu_ne b3, mu_ne b2, mu_ne b1])
--%%PAR
theorem asc_ext : ∀ {f g : List Int}, f.Pairwise (· < ·) → g.Pairwise (· < ·) → (∀ x, x ∈ f ↔ x ∈ g) → f = g
  | [], [], _, _, _ => rfl
  | [], y :: _, _, _, h => by have := (h y).mpr (by simp); cases this
  | x :: _, [], _, _, h => by have := (h x).mp (by simp); cases this
  | x :: f, y :: g, hf, hg, h => by
    obtain ⟨f1, f2⟩ := List.pairwise_cons.mp hf
    obtain ⟨g1, g2⟩ := List.pairwise_cons.mp hg
    have e : x = y := by
      rcases List.mem_cons.mp ((h x).mp (by simp)) with e | e
      · exact e
      · rcases List.mem_cons.mp ((h y).mpr (by simp)) with e2 | e2
        · exact e2.symm
        · have a1 := g1 x e
          have a2 := f1 y e2
          omega
    subst e
    rw [asc_ext f2 g2 fun z => ⟨fun hz => ?_, fun hz => ?_⟩]
    · rcases List.mem_cons.mp ((h z).mp (List.mem_cons_of_mem _ hz)) with e | e
      · subst e; have := f1 z hz; omega
      · exact e
    · rcases List.mem_cons.mp ((h z).mpr (List.mem_cons_of_mem _ hz)) with e | e
      · subst e; have := g1 z hz; omega
      · exact e
theorem eq_rows {a b : List Int} {k : PyData → Prop} (q : k (.bool (decide (a = b)))) : eqD (tpI a) (tpI b) k := by
  refine x_eq (shaped_tupI a) (shaped_tupI b) ?_
  have := any_rows [a] b
  rw [List.map_cons, List.map_nil, List.any_cons, List.any_nil, Bool.or_false] at this
  rw [this]
  have e : decide (b ∈ [a]) = decide (a = b) := decide_eq_decide.mpr ⟨fun z => (List.mem_singleton.mp z).symm, fun z => by rw [z]; simp⟩
  rw [e]
  exact q
theorem fm_if2 {α β : Type} (c : α → Bool) (f : α → β) : ∀ l : List α, (l.map fun x => if c x = true then some (f x) else none).filterMap id = (l.filter c).map f
  | [] => rfl
  | x :: r => by
    rw [List.map_cons, List.filterMap_cons, List.filter_cons]
    cases h : c x
    · exact fm_if2 c f r
    · exact congrArg (f x :: ·) (fm_if2 c f r)
theorem int_at2 {r : List Int} {k : Int} (h0 : 0 ≤ k) (h1 : k < r.length) : atI (r.map PyData.int) k = some (.int (r.getD k.toNat 0)) :=
  atI_nn h0 (by rw [List.getElem?_map, List.getD_eq_getElem?_getD, List.getElem?_eq_getElem (show k.toNat < r.length by omega)]; rfl)
theorem len_law_children : ∀ xs M P PX, sp_law_children xs M P PX → xs.length = p_law_children.length := by rintro _ M P PX ⟨_, _, rfl, _⟩; rfl
theorem r_law_children : ∀ xs M Q PX, sp_law_children xs M Q PX → t_law_children (endD Q PX) (startD n_law_children xs) M := by
  rintro _ M Q PX ⟨R, p, rfl, hR, hr100, hp, h⟩
  unfold t_law_children
  walk_at "st"
  rw [List.length_map]
  rw [List.map_map]
  refine lc_opt (R.map fun r => if (decide (r.take p.length = p) && decide (p.length < r.length)) = true then some (.int (r.getD p.length 0)) else none) (by simp) (by rw [List.length_map, sizeLine_eq]; omega) trivial (fun j x o hx ho KT KF k1 k2 => ?_) ?_
  · rw [List.getElem?_map] at hx ho
    obtain ⟨r, hr, rfl⟩ := Option.map_eq_some_iff.mp hx
    rw [hr] at ho
    cases ho
    show gN 3 (.d (tpI r)) _ _ _ _
    walk_at "st"
    rw [cut_take (by omega), ← List.map_take, Int.toNat_natCast]
    refine eq_rows ?_
    walk_at "st"
    refine x_brD (fun e => ?_) (fun e => ?_)
    · walk_at "st"
      rw [List.length_map]
      refine x_brD (fun e2 => ?_) (fun e2 => ?_)
      · have a1 := int_at2 (r := r) (k := (p.length : Int)) (by omega) (by omega)
        rw [Int.toNat_natCast] at a1
        walk_at "st"
        exact k1 _ (if_pos (by rw [decide_eq_true e, decide_eq_true (by omega : p.length < r.length)]; rfl))
      · exact k2 (if_neg (by rw [decide_eq_true e, decide_eq_false (by omega : ¬ p.length < r.length)]; nofun))
    · exact k2 (if_neg (by rw [decide_eq_false e]; nofun))
  rw [fm_if2]
  refine finD_of ?_
  generalize hfol : (R.filter fun r => decide (r.take p.length = p) && decide (p.length < r.length)).map (fun r => r.getD p.length 0) = fol
  have folD : (R.filter fun r => decide (r.take p.length = p) && decide (p.length < r.length)).map (fun r => PyData.int (r.getD p.length 0)) = fol.map .int := by rw [← hfol, List.map_map]; rfl
  rw [folD]
  have fol60 : fol.length ≤ 100 := by
    rw [← hfol, List.length_map]
    exact Nat.le_trans (List.length_filter_le _ _) hR
  walk_at "st"
  refine x_setI (by unfold scanBound; omega) fun ms pwm hms => ?_
  refine .here (h ms pwm fun i => ?_)
  rw [hms, ← hfol, List.mem_map]
  unfold Below
  constructor
  · rintro ⟨r, hr, rfl⟩
    obtain ⟨hr, hc⟩ := List.mem_filter.mp hr
    rw [Bool.and_eq_true, decide_eq_true_iff, decide_eq_true_iff] at hc
    obtain ⟨hc1, hc2⟩ := hc
    refine ⟨r, hr, ?_⟩
    rw [List.prefix_iff_eq_take, List.length_append, List.length_cons, List.length_nil, List.take_add_one, List.getElem?_eq_getElem hc2, hc1, List.getD_eq_getElem?_getD, List.getElem?_eq_getElem hc2]
    rfl
  · rintro ⟨r, hr, q, rfl⟩
    refine ⟨_, List.mem_filter.mpr ⟨hr, ?_⟩, ?_⟩
    · rw [Bool.and_eq_true, decide_eq_true_iff, decide_eq_true_iff]
      exact ⟨by simp, by simp⟩
    · rw [List.getD_eq_getElem?_getD]
      simp
--%%SPLIT
theorem len_law_told {C CT : Addr} : ∀ xs M P PX, sp_law_told C CT xs M P PX → xs.length = p_law_told.length := by rintro _ M P PX ⟨_, _, _, _, _, _, _, _, _, _, _, _, _, _, _, _, _, rfl, _⟩; rfl
theorem r_law_told {C1 C2 C3 CT C : Addr} : ∀ xs M Q PX, sp_law_told C CT xs M Q PX → t_law_told C1 C2 C3 CT C (endD Q PX) (startD n_law_told xs) M := by
  rintro _ M Q PX ⟨w, dx, ta, ra, pa, pfx, S, made, dxt, t, n, d, T, m, k, word, nn, rfl, wo, tr, hm, sok, hk, hp, hw, hd, hu, hn, hs, hy⟩
  have h1 := wo.ins
  have so : ∀ x ∈ (["down", "up", "next", "seek", "key"] : List Str), PyData.strOk x = true := by decide +kernel
  have n1 : ("up" : Str) ≠ "down" ∧ ("next" : Str) ≠ "down" ∧ ("next" : Str) ≠ "up" ∧ ("seek" : Str) ≠ "down" ∧ ("seek" : Str) ≠ "up" ∧ ("seek" : Str) ≠ "next" ∧ ("key" : Str) ≠ "down" ∧ ("key" : Str) ≠ "up" ∧ ("key" : Str) ≠ "next" ∧ ("key" : Str) ≠ "seek" := by decide +kernel
  obtain ⟨n1, n2, n3, n4, n5, n6, n7, n8, n9, n10⟩ := n1
  have refuse : ∀ {P : Prop}, P → P := fun h => h
  unfold t_law_told
  walk_at "st"
  refine x_eqStr (so word hw) (by decide +kernel) ?_
  walk_at "st"
  refine x_brD (fun e => ?_) (fun e => ?_)
  · obtain ⟨g1, g2⟩ := hd e
    walk_at "st"
    refine ⟨w, dx, ta, ra, pa, pfx, S, made, dxt, t, n, d, T, m, k, rfl, wo, tr, hm, sok, hk, hp, fun z => ?_, fun z ys pw hys => ⟨fun z2 => ?_, fun z2 M' wo' rest => ?_⟩⟩
    · have g := g1 z
      refine x_ex1 (by simp [ml_WalkError]) fun x hx => ?_
      walk_at "st"
      exact .here g
    · have g := (g2 z ys pw hys).1 z2
      refine x_ex1 (by simp [ml_WalkError]) fun x hx => ?_
      walk_at "st"
      exact .here g
    · have g := (g2 z ys pw hys).2 z2 M' wo' rest
      walk_at "st"
      exact .here g
  walk_at "st"
  refine x_eqStr (so word hw) (by decide +kernel) ?_
  walk_at "st"
  refine x_brD (fun e2 => ?_) (fun e2 => ?_)
  · obtain ⟨g1, g2⟩ := hu e2
    walk_at "st"
    refine ⟨w, dx, ta, ra, pa, pfx, S, made, rfl, wo, fun z => ?_, fun S0 x z M' wo' rest => ?_⟩
    · have g := g1 z
      refine x_ex1 (by simp [ml_WalkError]) fun x hx => ?_
      walk_at "st"
      exact .here g
    · have g := g2 S0 x z M' wo' rest
      walk_at "st"
      exact .here g
  walk_at "st"
  refine x_eqStr (so word hw) (by decide +kernel) ?_
  walk_at "st"
  refine x_brD (fun e3 => ?_) (fun e3 => ?_)
  · obtain ⟨g1, g2⟩ := hn e3
    walk_at "st"
    refine ⟨w, dx, ta, ra, pa, pfx, S, made, rfl, wo, fun z => ?_, fun S0 r a z z2 M' wo' rest => ?_⟩
    · have g := g1 z
      refine x_ex1 (by simp [ml_WalkError]) fun x hx => ?_
      walk_at "st"
      exact .here g
    · have g := g2 S0 r a z z2 M' wo' rest
      walk_at "st"
      exact .here g
  walk_at "st"
  refine x_eqStr (so word hw) (by decide +kernel) ?_
  walk_at "st"
  refine x_brD (fun e4 => ?_) (fun e4 => ?_)
  · obtain ⟨g1, g2⟩ := hs e4
    walk_at "st"
    refine ⟨w, dx, ta, ra, pa, pfx, S, made, nn, k, rfl, wo, sok, fun z => ?_, fun S0 r a z z2 p hp M' wo' rest => ?_⟩
    · have g := g1 z
      refine x_ex1 (by simp [ml_WalkError]) fun x hx => ?_
      walk_at "st"
      exact .here g
    · have g := g2 S0 r a z z2 p hp M' wo' rest
      walk_at "st"
      exact .here g
  · have e5 : word = "key" := by
      simp only [List.mem_cons, List.not_mem_nil, or_false] at hw
      rcases hw with z | z | z | z | z
      · exact absurd z e
      · exact absurd z e2
      · exact absurd z e3
      · exact absurd z e4
      · exact z
    obtain ⟨g1, g2⟩ := hy e5
    walk_at "st"
    refine ⟨w, dx, ta, ra, pa, pfx, S, made, rfl, wo, fun z => ?_, fun S0 r a z z2 => ?_⟩
    · have g := g1 z
      refine x_ex1 (by simp [ml_WalkError]) fun x hx => ?_
      walk_at "st"
      exact .here g
    · have g := g2 S0 r a z z2
      walk_at "st"
      exact .here g
--%%PAR
theorem lst_snoc {S : List Lv} {r : List Int} {a : Nat} : lstL (S ++ [(r, a)]) = lstL S ++ [.list (r.map .int)] := by unfold lstL; rw [List.map_append]; rfl
theorem asc_filter {n : Int} : ∀ {l : List Int}, Asc l → ∀ (i : Nat) (x : Int), l[i]? = some x → (x < n ↔ i < (l.filter fun c => decide (c < n)).length)
  | [], _, _, _, h => by simp at h
  | y :: t, hl, i, x, h => by
    obtain ⟨h1, h2⟩ := List.pairwise_cons.mp hl
    rw [List.filter_cons]
    by_cases c : y < n
    · rw [if_pos (decide_eq_true c), List.length_cons]
      cases i with
      | zero => simp at h; subst h; exact ⟨fun _ => by omega, fun _ => c⟩
      | succ i =>
        rw [asc_filter h2 i x (by simpa using h)]
        omega
    · rw [if_neg (by rw [decide_eq_false c]; nofun)]
      have : t.filter (fun c => decide (c < n)) = [] := by
        rw [List.filter_eq_nil_iff]
        intro z hz
        have := h1 z hz
        rw [decide_eq_true_iff]
        omega
      rw [this]
      have : n ≤ x := by
        cases i with
        | zero => simp at h; subst h; omega
        | succ i =>
          have := h1 x (List.mem_of_getElem? (by simpa using h))
          omega
      constructor
      · intro z; omega
      · intro z; simp at z
theorem seek_plc {r : List Int} {a : Nat} (hr : Asc r) (ha : a ≤ r.length) (n : Int) : Plc r a n (a + ((r.drop a).filter fun c => decide (c < n)).length) := by
  have hd : Asc (r.drop a) := hr.sublist (List.drop_sublist _ _)
  have key := fun i x h => asc_filter (n := n) hd i x h
  have le : ((r.drop a).filter fun c => decide (c < n)).length ≤ r.length - a := by
    have := List.length_filter_le (fun c => decide (c < n)) (r.drop a)
    rw [List.length_drop] at this
    exact this
  refine ⟨by omega, by omega, fun i x h1 h2 hx => ?_, fun x hx => ?_⟩
  · refine (key (i - a) x ?_).mpr (by omega)
    rw [List.getElem?_drop, show a + (i - a) = i by omega]
    exact hx
  · have := (key (((r.drop a).filter fun c => decide (c < n)).length) x (by rw [List.getElem?_drop]; exact hx))
    apply Classical.byContradiction
    intro z
    exact absurd (this.mp (by omega)) (Nat.lt_irrefl _)
theorem len_law_move : ∀ xs M P PX, sp_law_move xs M P PX → xs.length = p_law_move.length := by rintro _ M P PX ⟨_, _, _, _, _, _, rfl, _⟩; rfl
theorem r_law_move : ∀ xs M Q PX, sp_law_move xs M Q PX → t_law_move (endD Q PX) (startD n_law_move xs) M := by
  rintro _ M Q PX ⟨R, pfx, S, word, nn, k, rfl, hR, hr, sok, hk, hp, hw, hu, hd, hn, hs⟩
  have so : ∀ x ∈ (["down", "up", "next", "seek"] : List Str), PyData.strOk x = true := by decide +kernel
  have sl := sok.len
  rcases stk S with rfl | ⟨S0, r, a, rfl⟩
  · unfold t_law_move
    walk_at "st"
    rw [List.length_map]
    walk_at "st"
    refine x_eqStr (so word hw) (by decide +kernel) ?_
    walk_at "st"
    refine x_brD (fun e => ?_) (fun e => ?_)
    · walk_at "st"
      exact .here ((hu e).1 rfl)
    walk_at "st"
    refine x_eqStr (so word hw) (by decide +kernel) ?_
    walk_at "st"
    refine x_brD (fun e2 => ?_) (fun e2 => ?_)
    · walk_at "st"
      refine ⟨R, pfx, rfl, hR, hr, by omega, fun ys pw hys => ?_⟩
      obtain ⟨g1, g2⟩ := (hd e2).2 rfl ys pw hys
      walk_at "st"
      rw [List.length_map]
      refine x_brD (fun c => ?_) (fun c => ?_)
      · walk_at "st"
        exact .here (g1 (List.eq_nil_of_length_eq_zero (by omega)))
      · walk_at "st"
        refine x_addL (by rw [List.length_map, List.length_nil, List.length_cons, List.length_nil, sizeLine_eq]; omega) ?_
        walk_at "st"
        refine x_addL (by rw [List.length_map, List.length_nil, List.length_cons, List.length_nil, sizeLine_eq]; omega) ?_
        walk_at "st"
        exact .here (g2 fun z => by subst z; exact c rfl)
    · have e3 : word = "next" ∨ word = "seek" := by
        simp only [List.mem_cons, List.not_mem_nil, or_false] at hw
        rcases hw with z | z | z | z
        · exact absurd z e2
        · exact absurd z e
        · exact .inl z
        · exact .inr z
      walk_at "st"
      rcases e3 with z | z
      · exact .here ((hn z).1 (.inl rfl))
      · exact .here ((hs z).1 (.inl rfl))
  · have l1 : atI (lstL (S0 ++ [(r, a)])) (-1) = some (.list (r.map .int)) := by rw [lst_snoc]; exact at_last
    have l2 := last_plc (S0 := S0) (r := r) (a := a)
    have ro := sok.row (r, a) (by simp)
    have r63 : r.length ≤ 63 := ro.2.1
    have ra : a ≤ r.length := ro.2.2
    have s0 : S0.length + 1 ≤ k := by rw [List.length_append] at sl; exact sl
    have q1 : ∀ x : PyData, (cutG (plcL (S0 ++ [(r, a)])) none (some (-1))).length + ([x] : List PyData).length ≤ sizeLine := fun x => by
      have := cut_len (xs := plcL (S0 ++ [(r, a)])) (lo := none) (hi := some (-1))
      rw [List.length_map, List.length_append, List.length_cons, List.length_nil] at this
      rw [sizeLine_eq, List.length_cons, List.length_nil]
      omega
    unfold t_law_move
    walk_at "st"
    rw [List.length_map, List.length_append, List.length_cons, List.length_nil]
    walk_at "st"
    rw [List.length_map]
    refine x_eqStr (so word hw) (by decide +kernel) ?_
    walk_at "st"
    refine x_brD (fun e => ?_) (fun e => ?_)
    · walk_at "st"
      rw [List.length_map, List.length_append, List.length_cons, List.length_nil]
      walk_at "st"
      have g := (hu e).2 S0 (r, a) rfl
      rw [cut_m1, cut_m1, cut_m1, lst_snoc, plcL_snoc, List.dropLast_concat, List.dropLast_concat, ← List.map_dropLast]
      exact .here g
    walk_at "st"
    refine x_eqStr (so word hw) (by decide +kernel) ?_
    walk_at "st"
    refine x_brD (fun e2 => ?_) (fun e2 => ?_)
    · walk_at "st"
      rw [List.length_map, List.length_append, List.length_cons, List.length_nil]
      walk_at "st"
      refine x_brD (fun c => ?_) (fun c => ?_)
      · have en : ended (S0 ++ [(r, a)]) = true := by rw [ended_snoc]; exact decide_eq_true (by omega)
        walk_at "st"
        refine ⟨R, pfx, rfl, hR, hr, by omega, fun ys pw hys => ?_⟩
        walk_at "st"
        exact .here ((hd e2).1 en)
      · have en : ended (S0 ++ [(r, a)]) = false := by rw [ended_snoc]; exact decide_eq_false (by omega)
        have l3 := row_key (r := r) (a := a) (by omega)
        walk_at "st"
        refine x_addT (by rw [List.length_map, List.length_cons, List.length_nil, sizeLine_eq]; omega) ?_
        have em : pfx.map PyData.int ++ [.int (r.getD a 0)] = (pfx ++ [r.getD a 0]).map .int := by rw [List.map_append]; rfl
        rw [em]
        walk_at "st"
        have ip : innerP pfx (S0 ++ [(r, a)]) = pfx ++ [r.getD a 0] := by unfold innerP; rw [List.getLast?_concat]
        refine ⟨R, pfx ++ [r.getD a 0], rfl, hR, hr, by simp; omega, fun ys pw hys => ?_⟩
        obtain ⟨g1, g2⟩ := (hd e2).2 en ys pw (by rw [ip]; exact hys)
        rw [ip] at g2
        walk_at "st"
        rw [List.length_map]
        refine x_brD (fun c2 => ?_) (fun c2 => ?_)
        · walk_at "st"
          exact .here (g1 (List.eq_nil_of_length_eq_zero (by omega)))
        · walk_at "st"
          refine x_addL (by rw [List.length_map, List.length_append, List.length_cons, List.length_nil, List.length_cons, List.length_nil, sizeLine_eq]; omega) ?_
          walk_at "st"
          refine x_addL (by rw [List.length_map, List.length_append, List.length_cons, List.length_nil, List.length_cons, List.length_nil, sizeLine_eq]; omega) ?_
          walk_at "st"
          have g := g2 fun z => by subst z; exact c2 rfl
          unfold plD at g
          rw [lst_snoc (S := S0 ++ [(r, a)]), plcL_snoc (S := S0 ++ [(r, a)])] at g
          exact .here g
    · have e3 : word = "next" ∨ word = "seek" := by
        simp only [List.mem_cons, List.not_mem_nil, or_false] at hw
        rcases hw with z | z | z | z
        · exact absurd z e2
        · exact absurd z e
        · exact .inl z
        · exact .inr z
      have n2 : ("seek" : Str) ≠ "next" := by decide +kernel
      walk_at "st"
      rw [List.length_map, List.length_append, List.length_cons, List.length_nil]
      walk_at "st"
      refine x_brD (fun c => ?_) (fun c => ?_)
      · have en : ended (S0 ++ [(r, a)]) = true := by rw [ended_snoc]; exact decide_eq_true (by omega)
        walk_at "st"
        rcases e3 with z | z
        · exact .here ((hn z).1 (.inr en))
        · exact .here ((hs z).1 (.inr en))
      · walk_at "st"
        refine x_eqStr (so word hw) (by decide +kernel) ?_
        walk_at "st"
        refine x_brD (fun e4 => ?_) (fun e4 => ?_)
        · walk_at "st"
          refine x_addL (q1 _) ?_
          walk_at "st"
          have g := (hn e4).2 S0 r a rfl (by omega)
          unfold plD at g
          rw [lst_snoc, plcL_snoc] at g
          rw [cut_m1, plcL_snoc, List.dropLast_concat, lst_snoc]
          exact .here g
        · have e5 : word = "seek" := e3.resolve_left e4
          walk_at "st"
          rw [cut_drop (by omega), Int.toNat_natCast, ← List.map_drop, List.map_map]
          refine lc_opt ((r.drop a).map fun c => if decide (c < nn) = true then some (.int c) else none) (by simp) (by rw [List.length_map, List.length_drop, sizeLine_eq]; omega) trivial (fun j x o hx ho KT KF k1 k2 => ?_) ?_
          · rw [List.getElem?_map] at hx ho
            obtain ⟨v, hv, rfl⟩ := Option.map_eq_some_iff.mp hx
            rw [hv] at ho
            cases ho
            show gN 11 (.d (.int v)) _ _ _ _
            walk_at "st"
            refine x_brD (fun c => ?_) (fun c => ?_)
            · walk_at "st"
              exact k1 _ (if_pos (decide_eq_true c))
            · exact k2 (if_neg (by rw [decide_eq_false c]; nofun))
          rw [fm_if2 (fun c => decide (c < nn)) PyData.int]
          refine finD_of ?_
          walk_at "st"
          rw [List.length_map]
          refine x_addL (q1 _) ?_
          walk_at "st"
          have g := (hs e5).2 S0 r a rfl (by omega) _ (seek_plc ro.1 ra nn)
          unfold plD at g
          rw [lst_snoc, plcL_snoc] at g
          rw [cut_m1, plcL_snoc, List.dropLast_concat, lst_snoc]
          exact .here g
--%%SPLIT
theorem len_law : ∀ xs M P PX, sp_law xs M P PX → xs.length = p_law.length := by rintro _ M P PX ⟨_, rfl, _⟩; rfl
theorem pick2 {a b : Int} {n : Int} (h0 : 0 ≤ n) (h1 : n < 2) : ∃ w : Int, atI [PyData.int a, .int b] n = some (.int w) ∧ (w = a ∨ w = b) := by
  have : n = 0 ∨ n = 1 := by omega
  rcases this with rfl | rfl
  · exact ⟨a, rfl, .inl rfl⟩
  · exact ⟨b, rfl, .inr rfl⟩
theorem pickW {n : Int} (h0 : 0 ≤ n) (h1 : n < 6) : ∃ w : Str, atI [PyData.str "down", .str "down", .str "up", .str "next", .str "next", .str "seek"] n = some (.str w) ∧ w ∈ (["down", "up", "next", "seek"] : List Str) := by
  have : n = 0 ∨ n = 1 ∨ n = 2 ∨ n = 3 ∨ n = 4 ∨ n = 5 := by omega
  rcases this with rfl | rfl | rfl | rfl | rfl | rfl
  · exact ⟨"down", rfl, by simp⟩
  · exact ⟨"down", rfl, by simp⟩
  · exact ⟨"up", rfl, by simp⟩
  · exact ⟨"next", rfl, by simp⟩
  · exact ⟨"next", rfl, by simp⟩
  · exact ⟨"seek", rfl, by simp⟩
theorem sok_snoc {S0 : List Lv} {x : Lv} {k : Nat} (h : SOk S0 k) (q : Asc x.1 ∧ x.1.length ≤ 63 ∧ x.2 ≤ x.1.length) : SOk (S0 ++ [x]) (k + 1) := ⟨by rw [List.length_append]; have := h.len; simp; omega, fun y hy => by
  rcases List.mem_append.mp hy with z | z
  · exact h.row y z
  · cases List.mem_singleton.mp z
    exact q⟩
theorem sok_front {S0 : List Lv} {x : Lv} {k : Nat} (h : SOk (S0 ++ [x]) k) : SOk S0 k := ⟨by have := h.len; rw [List.length_append] at this; omega, fun y hy => h.row y (List.mem_append_left _ hy)⟩
theorem sok_le {S : List Lv} {k l : Nat} (h : SOk S k) (q : k ≤ l) : SOk S l := ⟨by have := h.len; omega, h.row⟩
theorem ended_or (S : List Lv) : (S = [] ∨ ended S = true) ∨ ∃ S0 r a, S = S0 ++ [(r, a)] ∧ a < r.length := by
  rcases stk S with z | ⟨S0, r, a, rfl⟩
  · exact .inl (.inl z)
  · by_cases c : r.length ≤ a
    · exact .inl (.inr (by rw [ended_snoc]; exact decide_eq_true c))
    · exact .inr ⟨S0, r, a, rfl, by omega⟩
theorem plc_uniq {r : List Int} {a p q : Nat} {n : Int} (hr : Asc r) (h1 : Plc r a n p) (h2 : Plc r a n q) : p = q := by
  obtain ⟨a1, a2, a3, a4⟩ := h1
  obtain ⟨b1, b2, b3, b4⟩ := h2
  rcases Nat.lt_trichotomy p q with g | g | g
  · have e : r[p]? = some r[p] := List.getElem?_eq_getElem (by omega)
    have := b3 p _ a1 g e
    have := a4 _ e
    omega
  · exact g
  · have e : r[q]? = some r[q] := List.getElem?_eq_getElem (by omega)
    have := a3 q _ b1 g e
    have := b4 _ e
    omega
theorem pick_self {n : Nat} {r : List Int} (h : r.length = n) : pick (rI 0 (n : Int)) r = r := by
  refine List.ext_getElem? fun i => ?_
  unfold pick rI
  rw [List.map_map, List.getElem?_map]
  by_cases c : i < n
  · rw [List.getElem?_range (by omega)]
    show some (r.getD (0 + (i : Int)).toNat 0) = _
    rw [show (0 + (i : Int)).toNat = i by omega, List.getD_eq_getElem?_getD, List.getElem?_eq_getElem (by omega)]
    rfl
  · rw [List.getElem?_eq_none (by simp; omega), List.getElem?_eq_none (by omega)]
    rfl
theorem tr_rest {CT : Addr} {M M' : MHp} {ta dxt t : Addr} {n d : Int} {T : List Int → Option Addr} {m : Nat} (h : TrO CT M ta dxt t n d T m) (k : ∀ a, (a = ta ∨ ∃ p, T p = some a) → M' a = M a) : TrO CT M' ta dxt t n d T m :=
  ⟨(k ta (.inl rfl)).trans h.ins, tri_keep h.tri (Nat.le_refl _) fun p a hp => k a (.inr ⟨p, hp⟩), h.top⟩
/-- a turn's comparing -/
@[irreducible] def restR (C CT : Addr) : DTS := (sSeq (sAsg (eVar 5) (gTp 3 (gsCons (gN 12) (gsCons (gN 13) (gsCons (gN 14) gsNil)))))
    (sSeq (sSet 15 (eAnd (eOp (gD gtD) (eCB gLen (aCons (eVar 13) aNil)) (eC (.int 0))) (eOp (gD geD) (eOp (gD ixD) (eVar 14) (eUn negD (eC (.int 1)))) (eCB gLen (aCons (eOp (gD ixD) (eVar 13) (eUn negD (eC (.int 1)))) aNil)))))
    (sSeq (sSet 16 (eIf (tOr (tB (eOp (gD eqD) (eCB gLen (aCons (eVar 13) aNil)) (eC (.int 0)))) (tTru (eVar 15))) (eC (.str "walk")) (eOp (gD ixD) (eOp (gD ixD) (eVar 13) (eUn negD (eC (.int 1)))) (eOp (gD ixD) (eVar 14) (eUn negD (eC (.int 1)))))))
    (sIf (tOr (tB (eOp (gD neD) (eMeth C "level" (sp_Walker_level C) (eVar 4) aNil) (eCB gLen (aCons (eVar 13) aNil)))) (tOr (tB (eOp (gD neD) (eMeth C "at_end" (sp_Walker_at_end C) (eVar 4) aNil) (eVar 15))) (tOr (tB (eOp (gD neD) (eMeth C "moves" (sp_Walker_moves C) (eVar 4) aNil) (eVar 6))) (tB (eOp (gD neD) (eCall (sp_law_told C CT) (aCons (eVar 4) (aCons (eC (.str "key")) (aCons (eC (.int 0)) aNil)))) (eVar 16)))))) (sRet (eC (.bool false))) sNext))))
theorem x_neInt {n m : Int} {k : PyData → Prop} (h : n = m) (q : k (.bool false)) : neD (.int n) (.int m) k := by
  subst h
  exact x_neSelf rfl q
theorem rest_ok {C CT : Addr} {E : DEnds} {M : MHp} {w dx ta ra pa dxt t : Addr} {pfx : List Int} {S : List Lv} {made n d : Int} {T : List Int → Option Addr} {m k : Nat} {s0 s1 s2 s3 o7 o8 o9 o10 o11 o12 o13 o14 o15 o16 : Option DV}
    (wo : WO C M w dx ta ra pa pfx S made) (tr : TrO CT M ta dxt t n d T m) (hm : m < 64) (sok : SOk S k) (hk : k ≤ 60) (hp : pfx.length ≤ 60)
    (h : ∀ o12 o13 o14 o15 o16, E.nx [s0, s1, s2, s3, some (.r w), some (.d (plD pfx S)), some (.d (.int made)), o7, o8, o9, o10, o11, o12, o13, o14, o15, o16] M) :
    restR C CT E [s0, s1, s2, s3, some (.r w), some (.d (plD pfx S)), some (.d (.int made)), o7, o8, o9, o10, o11, o12, o13, o14, o15, o16] M := by
  have h1 := wo.ins
  unfold restR
  have d1 : ("key" : Str) ≠ "down" := by decide +kernel
  have d2 : ("key" : Str) ≠ "up" := by decide +kernel
  have d3 : ("key" : Str) ≠ "next" := by decide +kernel
  have d4 : ("key" : Str) ≠ "seek" := by decide +kernel
  rcases stk S with rfl | ⟨S0, r, a, rfl⟩
  · walk_at "st"
    refine x_brD (fun e => absurd e (by decide)) (fun _ => ?_)
    walk_at "st"
    refine ⟨w, dx, ta, ra, pa, pfx, [], made, rfl, wo, ?_⟩
    walk_at "st"
    refine ⟨w, dx, ta, ra, pa, pfx, [], made, rfl, wo, ?_⟩
    walk_at "st"
    refine x_neSelf rfl ?_
    walk_at "st"
    refine ⟨w, dx, ta, ra, pa, pfx, [], made, rfl, wo, ?_⟩
    walk_at "st"
    refine ⟨w, dx, ta, ra, pa, pfx, [], made, dxt, t, n, d, T, m, k, "key", 0, rfl, wo, tr, hm, sok, hk, hp, by simp, fun z => absurd z d1, fun z => absurd z d2, fun z => absurd z d3, fun z => absurd z d4, fun _ => ⟨fun _ => ?_, fun S1 r a z => absurd z (by simp)⟩⟩
    walk_at "st"
    refine x_neSelf (shaped_str (by decide +kernel)) ?_
    walk_at "st"
    exact h _ _ _ _ _
  · have l1 : atI (lstL (S0 ++ [(r, a)])) (-1) = some (.list (r.map .int)) := by
      unfold lstL
      rw [List.map_append]
      exact at_last
    have l2 := last_plc (S0 := S0) (r := r) (a := a)
    walk_at "st"
    refine x_brD (fun e => ?_) (fun e => absurd e (by simp))
    walk_at "st"
    rw [List.length_map]
    walk_at "st"
    have en : ended (S0 ++ [(r, a)]) = decide (((r.length : Nat) : Int) ≤ (a : Nat)) := by rw [ended_snoc]; exact decide_eq_decide.mpr (by omega)
    refine x_brD (fun c => ?_) (fun c => ?_)
    · walk_at "st"
      refine ⟨w, dx, ta, ra, pa, pfx, S0 ++ [(r, a)], made, rfl, wo, ?_⟩
      walk_at "st"
      refine x_brZ (fun e => e (by unfold lstL; rw [List.length_map])) ?_
      walk_at "st"
      refine ⟨w, dx, ta, ra, pa, pfx, S0 ++ [(r, a)], made, rfl, wo, ?_⟩
      walk_at "st"
      rw [en]
      refine x_neSelf rfl ?_
      walk_at "st"
      refine ⟨w, dx, ta, ra, pa, pfx, S0 ++ [(r, a)], made, rfl, wo, ?_⟩
      walk_at "st"
      refine ⟨w, dx, ta, ra, pa, pfx, S0 ++ [(r, a)], made, dxt, t, n, d, T, m, k, "key", 0, rfl, wo, tr, hm, sok, hk, hp, by simp, fun z => absurd z d1, fun z => absurd z d2, fun z => absurd z d3, fun z => absurd z d4, fun _ => ⟨fun _ => ?_, fun S1 r1 a1 z lt => ?_⟩⟩
      · walk_at "st"
        refine x_neSelf (shaped_str (by decide +kernel)) ?_
        walk_at "st"
        exact h _ _ _ _ _
      · obtain ⟨_, y⟩ := List.append_inj' z rfl
        cases y
        omega
    · have l3 := row_key (r := r) (a := a) (by omega)
      walk_at "st"
      refine ⟨w, dx, ta, ra, pa, pfx, S0 ++ [(r, a)], made, rfl, wo, ?_⟩
      walk_at "st"
      refine x_brZ (fun e => e (by unfold lstL; rw [List.length_map])) ?_
      walk_at "st"
      refine ⟨w, dx, ta, ra, pa, pfx, S0 ++ [(r, a)], made, rfl, wo, ?_⟩
      walk_at "st"
      rw [en]
      refine x_neSelf rfl ?_
      walk_at "st"
      refine ⟨w, dx, ta, ra, pa, pfx, S0 ++ [(r, a)], made, rfl, wo, ?_⟩
      walk_at "st"
      refine ⟨w, dx, ta, ra, pa, pfx, S0 ++ [(r, a)], made, dxt, t, n, d, T, m, k, "key", 0, rfl, wo, tr, hm, sok, hk, hp, by simp, fun z => absurd z d1, fun z => absurd z d2, fun z => absurd z d3, fun z => absurd z d4, fun _ => ⟨fun z => ?_, fun S1 r1 a1 z lt => ?_⟩⟩
      · rw [en] at z
        rcases z with z | z
        · simp at z
        · exact absurd (of_decide_eq_true z) c
      · obtain ⟨_, y⟩ := List.append_inj' z rfl
        cases y
        walk_at "st"
        exact h _ _ _ _ _
theorem restR_eq {C CT : Addr} : (sSeq (sAsg (eVar 5) (gTp 3 (gsCons (gN 12) (gsCons (gN 13) (gsCons (gN 14) gsNil)))))
    (sSeq (sSet 15 (eAnd (eOp (gD gtD) (eCB gLen (aCons (eVar 13) aNil)) (eC (.int 0))) (eOp (gD geD) (eOp (gD ixD) (eVar 14) (eUn negD (eC (.int 1)))) (eCB gLen (aCons (eOp (gD ixD) (eVar 13) (eUn negD (eC (.int 1)))) aNil)))))
    (sSeq (sSet 16 (eIf (tOr (tB (eOp (gD eqD) (eCB gLen (aCons (eVar 13) aNil)) (eC (.int 0)))) (tTru (eVar 15))) (eC (.str "walk")) (eOp (gD ixD) (eOp (gD ixD) (eVar 13) (eUn negD (eC (.int 1)))) (eOp (gD ixD) (eVar 14) (eUn negD (eC (.int 1)))))))
    (sIf (tOr (tB (eOp (gD neD) (eMeth C "level" (sp_Walker_level C) (eVar 4) aNil) (eCB gLen (aCons (eVar 13) aNil)))) (tOr (tB (eOp (gD neD) (eMeth C "at_end" (sp_Walker_at_end C) (eVar 4) aNil) (eVar 15))) (tOr (tB (eOp (gD neD) (eMeth C "moves" (sp_Walker_moves C) (eVar 4) aNil) (eVar 6))) (tB (eOp (gD neD) (eCall (sp_law_told C CT) (aCons (eVar 4) (aCons (eC (.str "key")) (aCons (eC (.int 0)) aNil)))) (eVar 16)))))) (sRet (eC (.bool false))) sNext)))) = restR C CT := by unfold restR; rfl
theorem below_len {R : List (List Int)} {p ys : List Int} (h : Asc ys) (q : ∀ i ∈ ys, Below R p i) : ys.length ≤ R.length := by
  have : ys.length ≤ (R.filterMap fun r => r[p.length]?).length := by
    refine List.Nodup.length_le_of_subset (h.imp fun {a b} z => by omega) fun i hi => ?_
    obtain ⟨r, hr, s, e⟩ := q i hi
    refine List.mem_filterMap.mpr ⟨r, hr, ?_⟩
    rw [← e, List.append_assoc, List.getElem?_append_right (Nat.le_refl _), Nat.sub_self]
    rfl
  exact Nat.le_trans this (List.length_filterMap_le _ _)
abbrev Pl := List Int × List Lv
/-- the law's own turn -/
structure Turn (R : List (List Int)) (word : Str) (nn : Int) (pfx : List Int) (S : List Lv) (o : Option Pl) : Prop where
  up : word = "up" → (S = [] → o = none) ∧ ∀ S0 x, S = S0 ++ [x] → o = some (pfx.dropLast, S0)
  down : word = "down" → (ended S = true → o = none) ∧ (ended S = false → ∃ ys : List Int, Asc ys ∧ (∀ i, i ∈ ys ↔ Below R (innerP pfx S) i) ∧ (ys = [] → o = none) ∧ (ys ≠ [] → o = some (innerP pfx S, S ++ [(ys, 0)])))
  next : word = "next" → (S = [] ∨ ended S = true → o = none) ∧ ∀ S0 r a, S = S0 ++ [(r, a)] → a < r.length → o = some (pfx, S0 ++ [(r, a + 1)])
  seek : word = "seek" → (S = [] ∨ ended S = true → o = none) ∧ ∀ S0 r a, S = S0 ++ [(r, a)] → a < r.length → ∃ p, Plc r a nn p ∧ o = some (pfx, S0 ++ [(r, p)])
theorem w_ne : ("up" : Str) ≠ "down" ∧ ("up" : Str) ≠ "next" ∧ ("up" : Str) ≠ "seek" ∧ ("down" : Str) ≠ "next" ∧ ("down" : Str) ≠ "seek" ∧ ("next" : Str) ≠ "seek" ∧ ("key" : Str) ≠ "up" ∧ ("key" : Str) ≠ "down" ∧ ("key" : Str) ≠ "next" ∧ ("key" : Str) ≠ "seek" := by decide +kernel
theorem w_ok : ∀ w ∈ (["down", "up", "next", "seek"] : List Str), PyData.strOk w = true := by decide +kernel
theorem snoc_ne {S0 : List Lv} {x : Lv} (z : S0 ++ [x] = []) {P : Prop} : P := by simp at z
theorem turn_up_bad {R : List (List Int)} {nn : Int} {pfx : List Int} : Turn R "up" nn pfx [] none := ⟨fun _ => ⟨fun _ => rfl, fun S0 x z => snoc_ne z.symm⟩, fun z => absurd z w_ne.1, fun z => absurd z w_ne.2.1, fun z => absurd z w_ne.2.2.1⟩
theorem turn_up {R : List (List Int)} {nn : Int} {pfx : List Int} {S0 : List Lv} {x : Lv} : Turn R "up" nn pfx (S0 ++ [x]) (some (pfx.dropLast, S0)) := ⟨fun _ => ⟨fun z => snoc_ne z, fun S1 y z => by obtain ⟨y1, y2⟩ := List.append_inj' z rfl; rw [y1]⟩, fun z => absurd z w_ne.1, fun z => absurd z w_ne.2.1, fun z => absurd z w_ne.2.2.1⟩
theorem turn_down_bad {R : List (List Int)} {nn : Int} {pfx : List Int} {S : List Lv} (h : ended S = true) : Turn R "down" nn pfx S none := ⟨fun z => absurd z.symm w_ne.1, fun _ => ⟨fun _ => rfl, fun z => by rw [h] at z; cases z⟩, fun z => absurd z w_ne.2.2.2.1, fun z => absurd z w_ne.2.2.2.2.1⟩
theorem turn_down {R : List (List Int)} {nn : Int} {pfx : List Int} {S : List Lv} {ys : List Int} {o : Option Pl} (h : ended S = false) (h1 : Asc ys) (h2 : ∀ i, i ∈ ys ↔ Below R (innerP pfx S) i) (h3 : ys = [] → o = none) (h4 : ys ≠ [] → o = some (innerP pfx S, S ++ [(ys, 0)])) : Turn R "down" nn pfx S o := ⟨fun z => absurd z.symm w_ne.1, fun _ => ⟨fun z => (by rw [h] at z; cases z), fun _ => ⟨ys, h1, h2, h3, h4⟩⟩, fun z => absurd z w_ne.2.2.2.1, fun z => absurd z w_ne.2.2.2.2.1⟩
theorem turn_next_bad {R : List (List Int)} {nn : Int} {pfx : List Int} {S : List Lv} (h : S = [] ∨ ended S = true) : Turn R "next" nn pfx S none := ⟨fun z => absurd z.symm w_ne.2.1, fun z => absurd z.symm w_ne.2.2.2.1, fun _ => ⟨fun _ => rfl, fun S0 r a z lt => by
  rcases h with y | y
  · rw [z] at y; exact snoc_ne y
  · rw [z, ended_snoc] at y; have := of_decide_eq_true y; omega⟩, fun z => absurd z w_ne.2.2.2.2.2.1⟩
theorem turn_next {R : List (List Int)} {nn : Int} {pfx : List Int} {S0 : List Lv} {r : List Int} {a : Nat} (h : a < r.length) : Turn R "next" nn pfx (S0 ++ [(r, a)]) (some (pfx, S0 ++ [(r, a + 1)])) := ⟨fun z => absurd z.symm w_ne.2.1, fun z => absurd z.symm w_ne.2.2.2.1, fun _ => ⟨fun y => by
  rcases y with y | y
  · exact snoc_ne y
  · rw [ended_snoc] at y; have := of_decide_eq_true y; omega, fun S1 r1 a1 z lt => by obtain ⟨y1, y2⟩ := List.append_inj' z rfl; cases y2; rw [y1]⟩, fun z => absurd z w_ne.2.2.2.2.2.1⟩
theorem turn_seek_bad {R : List (List Int)} {nn : Int} {pfx : List Int} {S : List Lv} (h : S = [] ∨ ended S = true) : Turn R "seek" nn pfx S none := ⟨fun z => absurd z.symm w_ne.2.2.1, fun z => absurd z.symm w_ne.2.2.2.2.1, fun z => absurd z.symm w_ne.2.2.2.2.2.1, fun _ => ⟨fun _ => rfl, fun S0 r a z lt => by
  rcases h with y | y
  · rw [z] at y; exact snoc_ne y
  · rw [z, ended_snoc] at y; have := of_decide_eq_true y; omega⟩⟩
theorem turn_seek {R : List (List Int)} {nn : Int} {pfx : List Int} {S0 : List Lv} {r : List Int} {a p : Nat} (h : a < r.length) (hp : Plc r a nn p) : Turn R "seek" nn pfx (S0 ++ [(r, a)]) (some (pfx, S0 ++ [(r, p)])) := ⟨fun z => absurd z.symm w_ne.2.2.1, fun z => absurd z.symm w_ne.2.2.2.2.1, fun z => absurd z.symm w_ne.2.2.2.2.2.1, fun _ => ⟨fun y => by
  rcases y with y | y
  · exact snoc_ne y
  · rw [ended_snoc] at y; have := of_decide_eq_true y; omega, fun S1 r1 a1 z lt => by obtain ⟨y1, y2⟩ := List.append_inj' z rfl; cases y2; rw [← y1]; exact ⟨p, hp, rfl⟩⟩⟩
/-- what the law's move gives -/
theorem move_of {R : List (List Int)} {pfx : List Int} {S : List Lv} {word : Str} {nn : Int} {k : Nat} {M : MHp} {P : DK} {PX : DX} (h1 : R.length ≤ 100) (h2 : ∀ r ∈ R, r.length ≤ 100) (h3 : SOk S k) (h4 : k ≤ 60) (h5 : pfx.length ≤ 60) (h6 : word ∈ (["down", "up", "next", "seek"] : List Str))
    (h : ∀ o, Turn R word nn pfx S o → P (.d (match o with | none => .none | some q => plD q.1 q.2)) M) : sp_law_move [.d (rwsD R), .d (plD pfx S), .d (.str word), .d (.int nn)] M P PX := by
  refine ⟨R, pfx, S, word, nn, k, rfl, h1, h2, h3, h4, h5, h6, fun e => ?_, fun e => ?_, fun e => ?_, fun e => ?_⟩
  · subst e
    exact ⟨fun e => by subst e; exact h none turn_up_bad, fun S0 x e => by subst e; exact h (some _) turn_up⟩
  · subst e
    exact ⟨fun e => h none (turn_down_bad e), fun e ys a b => ⟨fun c => h none (turn_down e a b (fun _ => rfl) fun z => absurd c z), fun c => h (some _) (turn_down e a b (fun z => absurd z c) fun _ => rfl)⟩⟩
  · subst e
    exact ⟨fun e => h none (turn_next_bad e), fun S0 r a e lt => by subst e; exact h (some _) (turn_next lt)⟩
  · subst e
    exact ⟨fun e => h none (turn_seek_bad e), fun S0 r a e lt p hp => by subst e; exact h (some _) (turn_seek lt hp)⟩
/-- what the walker tells, by the law's own turn -/
theorem told_of {C CT : Addr} {M : MHp} {w dx ta ra pa dxt t : Addr} {R : List (List Int)} {pfx : List Int} {S : List Lv} {made n d : Int} {T : List Int → Option Addr} {m k : Nat} {word : Str} {nn : Int} {o : Option Pl} {P : DK} {PX : DX}
    (wo : WO C M w dx ta ra pa pfx S made) (tr : TrO CT M ta dxt t n d T m) (hm : m < 64) (sok : SOk S k) (hk : k ≤ 60) (hp : pfx.length ≤ 60) (hw : word ∈ (["down", "up", "next", "seek"] : List Str))
    (below : ∀ (p : List Int) (i : Int), T (p ++ [i]) ≠ none ↔ Below R p i) (ht : Turn R word nn pfx S o)
    (h0 : o = none → P (.d (.str "walk")) M) (h1 : ∀ q, o = some q → ∀ M', WO C M' w dx ta ra pa q.1 q.2 (made + if word = "up" then 0 else 1) → Rest M M' w ra pa → P (.d .none) M') :
    sp_law_told C CT [.r w, .d (.str word), .d (.int nn)] M P PX := by
  refine ⟨w, dx, ta, ra, pa, pfx, S, made, dxt, t, n, d, T, m, k, word, nn, rfl, wo, tr, hm, sok, hk, hp, ?_, fun e => ?_, fun e => ?_, fun e => ?_, fun e => ?_, fun e => ?_⟩
  · simp only [List.mem_cons, List.not_mem_nil, or_false] at hw ⊢
    rcases hw with z | z | z | z
    · exact .inl z
    · exact .inr (.inl z)
    · exact .inr (.inr (.inl z))
    · exact .inr (.inr (.inr (.inl z)))
  · have g := ht.down e
    rw [if_neg (by rw [e]; exact Ne.symm w_ne.1)] at h1
    refine ⟨fun c => h0 (g.1 c), fun c ys a b => ?_⟩
    obtain ⟨zs, z1, z2, z3, z4⟩ := g.2 c
    have : ys = zs := asc_ext a z1 fun i => by rw [b, z2, below]
    subst this
    exact ⟨fun c => h0 (z3 c), fun c M' wo' r' => h1 _ (z4 c) M' wo' r'⟩
  · have g := ht.up e
    rw [if_pos e] at h1
    exact ⟨fun c => h0 (g.1 c), fun S0 x c M' wo' r' => h1 _ (g.2 S0 x c) M' (by rw [Int.add_zero]; exact wo') r'⟩
  · have g := ht.next e
    rw [if_neg (by rw [e]; exact Ne.symm w_ne.2.1)] at h1
    exact ⟨fun c => h0 (g.1 c), fun S0 r a c lt M' wo' r' => h1 _ (g.2 S0 r a c lt) M' wo' r'⟩
  · have g := ht.seek e
    rw [if_neg (by rw [e]; exact Ne.symm w_ne.2.2.1)] at h1
    refine ⟨fun c => h0 (g.1 c), fun S0 r a c lt p hp M' wo' r' => ?_⟩
    obtain ⟨p', hp', e'⟩ := g.2 S0 r a c lt
    have : p = p' := plc_uniq (sok.row (r, a) (by rw [c]; exact List.mem_append_right _ (List.mem_singleton_self _))).1 hp hp'
    subst this
    exact h1 _ e' M' wo' r'
  · simp only [List.mem_cons, List.not_mem_nil, or_false] at hw
    rcases hw with z | z | z | z
    · exact absurd (e.symm.trans z) w_ne.2.2.2.2.2.2.2.1
    · exact absurd (e.symm.trans z) w_ne.2.2.2.2.2.2.1
    · exact absurd (e.symm.trans z) w_ne.2.2.2.2.2.2.2.2.1
    · exact absurd (e.symm.trans z) w_ne.2.2.2.2.2.2.2.2.2
/-- the new place is as small -/
theorem turn_ok {R : List (List Int)} {word : Str} {nn : Int} {pfx : List Int} {S : List Lv} {q : Pl} {k : Nat} (ht : Turn R word nn pfx S (some q)) (hw : word ∈ (["down", "up", "next", "seek"] : List Str)) (sok : SOk S k) (hp : pfx.length ≤ k) (hR : R.length ≤ 63) : SOk q.2 (k + 1) ∧ q.1.length ≤ k + 1 := by
  simp only [List.mem_cons, List.not_mem_nil, or_false] at hw
  rcases hw with z | z | z | z
  · have g := ht.down z
    cases c : ended S
    · obtain ⟨ys, z1, z2, z3, z4⟩ := g.2 c
      by_cases e : ys = []
      · cases z3 e
      · cases z4 e
        refine ⟨sok_snoc sok ⟨z1, Nat.le_trans (below_len z1 fun i hi => (z2 i).mp hi) hR, Nat.zero_le _⟩, ?_⟩
        show (innerP pfx S).length ≤ k + 1
        unfold innerP
        cases S.getLast? with
        | none => exact Nat.le_succ_of_le hp
        | some x => rw [List.length_append]; exact Nat.succ_le_succ hp
    · cases g.1 c
  · have g := ht.up z
    rcases List.eq_nil_or_concat S with e | ⟨S0, x, e⟩
    · cases g.1 e
    · rw [List.concat_eq_append] at e
      cases g.2 S0 x e
      subst e
      exact ⟨sok_le (sok_front sok) (Nat.le_succ _), by rw [List.length_dropLast]; omega⟩
  · have g := ht.next z
    rcases ended_or S with e | ⟨S0, r, a, e, lt⟩
    · cases g.1 e
    · cases g.2 S0 r a e lt
      subst e
      have ro := sok.row (r, a) (List.mem_append_right _ (List.mem_singleton_self _))
      refine ⟨sok_snoc (sok_front sok) ⟨ro.1, ro.2.1, lt⟩, by show pfx.length ≤ _; omega⟩
  · have g := ht.seek z
    rcases ended_or S with e | ⟨S0, r, a, e, lt⟩
    · cases g.1 e
    · obtain ⟨p, hp', e'⟩ := g.2 S0 r a e lt
      cases e'
      subst e
      have ro := sok.row (r, a) (List.mem_append_right _ (List.mem_singleton_self _))
      refine ⟨sok_snoc (sok_front sok) ⟨ro.1, ro.2.1, hp'.2.1⟩, by show pfx.length ≤ _; omega⟩
theorem r_law {CR CT C : Addr} : ∀ xs M Q PX, sp_law xs M Q PX → t_law CR CT C (endD Q PX) (startD n_law xs) M := by
  rintro _ M Q PX ⟨ns, rfl, hM, h⟩
  unfold t_law
  rw [restR_eq]
  walk_at "st"
  refine ⟨ns, rfl, fun d st hd hst => ?_⟩
  walk_at "st"
  refine ⟨d, 3, st, rfl, by walk_at "m", hst, divOk_small (by decide) (by decide), fun v1 st1 hst1 a0 a1 => ?_⟩
  rw [mu_mu]
  walk_at "st"
  refine ⟨d, 2, st1, rfl, by walk_at "m", hst1, divOk_small (by decide) (by decide), fun v2 st2 hst2 b0 b1 => ?_⟩
  rw [mu_mu]
  obtain ⟨most, hmost, hmost'⟩ := pick2 (a := 9) (b := 40) b0 b1
  walk_at "st"
  refine ⟨d, 2, st2, rfl, by walk_at "m", hst2, divOk_small (by decide) (by decide), fun v3 st3 hst3 c0 c1 => ?_⟩
  rw [mu_mu]
  obtain ⟨reach, hreach, hreach'⟩ := pick2 (a := 4) (b := 7) c0 c1
  walk_at "st"
  have m60 : 0 ≤ most ∧ most ≤ 40 := by omega
  have q9 : 0 < reach ∧ reach ≤ 7 := by omega
  refine ⟨d, st3, (1 + v1).toNat, most.toNat, reach.toNat, by rw [Int.toNat_of_nonneg (by omega), Int.toNat_of_nonneg (by omega), Int.toNat_of_nonneg (by omega)], by walk_at "m", hst3, by omega, by omega, by omega, by omega, by omega, fun R st4 hst4 hR hasc hlen => ?_⟩
  rw [mu_mu]
  have lR : R.length ≤ 40 := by omega
  generalize hcols : (1 + v1).toNat = cols at hR
  have hc : 1 + v1 = (cols : Int) := by omega
  have c4 : 1 ≤ cols ∧ cols ≤ 3 := by omega
  have r3 : ∀ r ∈ R, r.length ≤ 100 := fun r hr => by have := (hR r hr).1; omega
  have Rpick : R.map (pick (rI 0 (cols : Int))) = R := by
    have : ∀ r ∈ R, pick (rI 0 (cols : Int)) r = r := fun r hr => pick_self (hR r hr).1
    rw [List.map_congr_left this]
    exact List.map_id _
  have lI : (rI 0 (cols : Int)).length = cols := by unfold rI; simp
  have fits : Fits R (rI 0 (cols : Int)) := by
    refine ⟨fun z => by have := congrArg List.length z; rw [lI, List.length_nil] at this; omega, ?_, fun r hr k hk => ?_⟩
    · unfold rI
      refine List.pairwise_map.mpr ((List.nodup_range).imp fun {a b} z y => z (by omega))
    · unfold rI at hk
      obtain ⟨q, hq, rfl⟩ := List.mem_map.mp hk
      have := List.mem_range.mp hq
      have := (hR r hr).1
      omega
  rw [hc]
  walk_at "st"
  refine ⟨by unfold RgOk; omega, ?_⟩
  rw [rgD_eq]
  walk_at "st"
  intro ta dxt nta nd1 ne1
  have dta : d ≠ ta := by rintro rfl; rw [mu_same] at nta; cases nta
  refine ⟨ta, dxt, R, rI 0 (cols : Int), rfl, mu_same, ⟨by omega, r3, by rw [lI]; omega⟩, fun bad => absurd fits bad, fun _ M1 t T U tr nd hU pf kp => ⟨rfl, ?_⟩⟩
  rw [Rpick] at hU pf
  have hd1 : M1 d = some (.ls st4) := kp d _ (by rw [mu_ne dta, mu_same]) dta
  walk_at "st"
  intro w dxw nw nd2 ne2
  have hw1 : M1 w = none := nw
  refine ⟨w, dxw, ta, rfl, mu_same, fun M2 ra pa wo kp2 nra npa => ⟨rfl, ?_⟩⟩
  have nra : M1 ra = none := mn_of nra
  have npa : M1 pa = none := mn_of npa
  have dw : d ≠ w := by rintro rfl; rw [hd1] at hw1; cases hw1
  have same2 : ∀ a x, M1 a = some x → M2 a = some x := fun a x e => by
    have aw : a ≠ w := by rintro rfl; rw [hw1] at e; cases e
    exact kp2 a x (by rw [mu_ne aw]; exact e) aw
  have tr2 : TrO CT M2 ta dxt t U.length (rI 0 (cols : Int)).length T R.length := tr_rest tr fun a ha => by
    rcases ha with rfl | ⟨p, hp⟩
    · rw [tr.ins, same2 _ _ tr.ins]
    · obtain ⟨kv, e, _⟩ := tr.tri.at_ p a hp
      rw [e, same2 _ _ e]
  have hd2 := same2 d _ hd1
  have tr1 := tr
  -- d and the trie stand apart from the walker
  have apart : ∀ a, (∃ x, M1 a = some x) → a ≠ w ∧ a ≠ ra ∧ a ≠ pa := fun a ⟨x, e⟩ => ⟨(by rintro rfl; rw [hw1] at e; cases e), (by rintro rfl; rw [nra] at e; cases e), (by rintro rfl; rw [npa] at e; cases e)⟩
  have below : ∀ (p : List Int) (i : Int), T (p ++ [i]) ≠ none ↔ Below R p i := fun p i => by
    rw [pf]
    constructor
    · rintro (z | ⟨r, z1, z2⟩)
      · simp at z
      · exact ⟨r, (hU r).mp ((hU r).mpr z1), z2⟩
    · rintro ⟨r, z1, z2⟩
      exact .inr ⟨r, z1, z2⟩
  walk_at "st"
  refine ⟨by decide, by decide, ?_⟩
  refine ⟨fun i ρ M3 => ∃ (pfx : List Int) (S : List Lv) (made : Int) (st : List PyData) (o7 o8 o9 o10 o11 o12 o13 o14 o15 o16 : Option DV), ρ = [some (.d (.list (ns.map .int))), some (.r d), some (.d (.int cols)), some (.d (rwsD R)), some (.r w), some (.d (plD pfx S)), some (.d (.int made)), o7, o8, o9, o10, o11, o12, o13, o14, o15, o16] ∧
      M3 d = some (.ls st) ∧ DSt st ∧ WO C M3 w dxw ta ra pa pfx S made ∧ TrO CT M3 ta dxt t U.length (rI 0 (cols : Int)).length T R.length ∧ SOk S i ∧ pfx.length ≤ i,
    .of ⟨[], [], 0, st4, none, none, none, none, none, none, none, none, none, none, rfl, hd2, hst4, wo, tr2, ⟨Nat.le_refl _, fun x hx => by cases hx⟩, Nat.le_refl _⟩, fun _ _ _ _ _ => trivial, ?_, ?_⟩
  · rintro i _ M3 x hx ⟨pfx, S, made, st, o7, o8, o9, o10, o11, o12, o13, o14, o15, o16, rfl, hd3, hst, wo, tr, sok, hp⟩
    obtain ⟨hi, rfl⟩ := getR hx
    have hi : i < 30 := hi
    walk_at "st"
    refine ⟨d, 6, st, rfl, hd3, hst, divOk_small (by decide) (by decide), fun v4 st5 hst5 e0 e1 => ?_⟩
    obtain ⟨word, hword, hw⟩ := pickW e0 e1
    walk_at "st"
    refine ⟨d, 6, st5, rfl, by walk_at "m", hst5, divOk_small (by decide) (by decide), fun nn st6 hst6 f0 f1 => ?_⟩
    rw [mu_mu]
    have dap := apart d ⟨_, hd1⟩
    have wo4 : WO C (mu M3 d (.ls st6)) w dxw ta ra pa pfx S made := ⟨by rw [mu_ne (Ne.symm dap.1)]; exact wo.ins, by rw [mu_ne (Ne.symm dap.2.1)]; exact wo.rws, by rw [mu_ne (Ne.symm dap.2.2)]; exact wo.plc, wo.ne⟩
    have tr4 : TrO CT (mu M3 d (.ls st6)) ta dxt t U.length (rI 0 (cols : Int)).length T R.length := tr_rest tr fun a ha => by
      refine mu_ne ?_
      rintro rfl
      rcases ha with z | ⟨p, z⟩
      · exact dta z
      · obtain ⟨kv, e, _⟩ := tr.tri.at_ p _ z
        rw [hd3] at e
        cases e
    have hd4 : mu M3 d (.ls st6) d = some (.ls st6) := mu_same
    generalize mu M3 d (.ls st6) = M4 at wo4 tr4 hd4
    have hp60 : pfx.length ≤ 60 := by omega
    walk_at "st"
    refine move_of (by omega) r3 sok (by omega) hp60 hw fun o ht => ?_
    walk_at "st"
    refine told_of wo4 tr4 (by omega) sok (by omega) hp60 hw below ht (fun e => ?_) fun q e M5 wo5 rest => ?_
    · subst e
      walk_at "st"
      refine x_neSelf (shaped_str (by decide +kernel)) ?_
      walk_at "st"
      refine rest_ok wo4 tr4 (by omega) sok (by omega) hp60 fun o12 o13 o14 o15 o16 => ?_
      exact .of ⟨_, _, _, _, _, _, _, _, _, _, _, _, _, _, rfl, hd4, hst6, wo4, tr4, sok_le sok (Nat.le_succ _), by omega⟩
    · subst e
      obtain ⟨p5, S5⟩ := q
      obtain ⟨sok5, hp5⟩ := turn_ok ht hw sok hp (by omega)
      have hd5 : M5 d = some (.ls st6) := by rw [rest d dap.1 dap.2.1 dap.2.2]; exact hd4
      have tr5 : TrO CT M5 ta dxt t U.length (rI 0 (cols : Int)).length T R.length := tr_rest tr4 fun a ha => by
        have : ∃ x, M1 a = some x := by
          rcases ha with rfl | ⟨p, hp⟩
          · exact ⟨_, tr1.ins⟩
          · obtain ⟨kv, e, _⟩ := tr1.tri.at_ p a hp
            exact ⟨_, e⟩
        obtain ⟨a1, a2, a3⟩ := apart a this
        exact rest a a1 a2 a3
      walk_at "st"
      show isN false (.d (plD p5 S5)) _ _ _
      refine x_isN (fun z => by cases z) ?_
      walk_at "st"
      refine x_eqStr (w_ok word hw) (by decide +kernel) ?_
      walk_at "st"
      refine x_brD (fun c => ?_) (fun c => ?_)
      · rw [if_pos c] at wo5
        walk_at "st"
        refine rest_ok wo5 tr5 (by omega) sok5 (by omega) (by omega) fun o12 o13 o14 o15 o16 => ?_
        exact .of ⟨_, _, _, _, _, _, _, _, _, _, _, _, _, _, rfl, hd5, hst6, wo5, tr5, sok5, hp5⟩
      · rw [if_neg c] at wo5
        walk_at "st"
        refine rest_ok wo5 tr5 (by omega) sok5 (by omega) (by omega) fun o12 o13 o14 o15 o16 => ?_
        exact .of ⟨_, _, _, _, _, _, _, _, _, _, _, _, _, _, rfl, hd5, hst6, wo5, tr5, sok5, hp5⟩
  rintro _ M3 ⟨pfx, S, made, st, o7, o8, o9, o10, o11, o12, o13, o14, o15, o16, rfl, hd3, hst, wo, tr, sok, hp⟩
  walk_at "st"
  exact .here (h _)
theorem law_in (ns : List Int) (hl : ns.length ≤ 63) {P : DK} {PX : DX} (h : ∀ M, P (.d (.bool true)) M) : sp_law [.d (.list (ns.map .int))] (fun _ => none) P PX := ⟨ns, rfl, fun _ => rfl, h⟩
--CUTD
structure Blt (mg : Str → Option Value) : Prop where
  abs_ : mg "abs" = none
  any_ : mg "any" = none
  int_ : mg "int" = none
  len_ : mg "len" = none
  list_ : mg "list" = none
  range_ : mg "range" = none
  set_ : mg "set" = none
  sorted_ : mg "sorted" = none
  tuple_ : mg "tuple" = none
structure Tops (K : PySem.W.Frag) (mg : Str → Option Value) : Prop where
  triv : True
/-- the error classes -/
structure Errs (K : PySem.W.Frag) (mg : Str → Option Value) (C_RowError C_WalkError C_HallError : Addr) : Prop where
  e_RowError : ErrC K mg "RowError" C_RowError
  e_WalkError : ErrC K mg "WalkError" C_WalkError
  e_HallError : ErrC K mg "HallError" C_HallError
  ml_WalkError : ∀ p ∈ ml_WalkError C_RowError C_WalkError C_HallError, PySem.W.exmOne K p.1 (.ref C_WalkError) = some p.2
/-- the own classes -/
structure Ocl (K : PySem.W.Frag) (C_Trie C_Walker : Addr) : Prop where
  cl_Trie : Cls K C_Trie
  cl_Walker : Cls K C_Walker
  na_Trie_depth : NoAttr K C_Trie "depth"
  na_Trie_size : NoAttr K C_Trie "size"
  na_Trie_top : NoAttr K C_Trie "top"
  na_Walker_made : NoAttr K C_Walker "made"
  na_Walker_places : NoAttr K C_Walker "places"
  na_Walker_prefix : NoAttr K C_Walker "prefix"
  na_Walker_rows : NoAttr K C_Walker "rows"
  na_Walker_trie : NoAttr K C_Walker "trie"
section
variable {P : Program} {w : World} {K : PySem.W.Frag} {mg : Str → Option Value} {base : Heap} {C_RowError C_WalkError C_HallError : Addr} {C_Trie C_Walker : Addr}
theorem sc_Trie_put : FnScope n_Trie_put p_Trie_put (defScope s_Trie_put) := ⟨rfl, rfl, rfl, by decide +kernel, rfl, by decide +kernel, by decide +kernel⟩
theorem fn_Trie_put {f : Addr} {fd : FuncData} (F : Fun K "put" "Trie.put" s_Trie_put f fd) (b : Binds K fd p_Trie_put []) (g : Meth K C_Trie "put" f) (B : Blt mg) (T : Tops K mg) (Z : Errs K mg C_RowError C_WalkError C_HallError) (O : Ocl K C_Trie C_Walker) : DFn P w K mg base 1 f fd p_Trie_put (sp_Trie_put C_Trie) := by
  refine okD (N := n_Trie_put) (t := t_Trie_put C_Trie) F sc_Trie_put len_Trie_put (fun cdv A outer s H E hr tk hp => ?_) r_Trie_put
  have nd := sc_Trie_put.nd
  have hu := hr.units
  have hu5 := room5 hr
  have hu1 := L2.hu_of hr
  exact (dss_cons (ds_set (i := 2) nd (de_fld O.cl_Trie O.na_Trie_top (de_var 0)))
    (dss_one (ds_for hp rfl (di_range1 B.range_ (da_cons (de_callB dc_len (by rfl) B.len_ (by decide +kernel) (da_cons (de_var 1) da_nil)) da_nil)) (dg_name (i := 3) nd) (dss_cons (ds_if (dt_cmp (dop_notin hu5) (de_ix (de_var 1) (de_var 3) (fun _ _ => rfl)) (de_var 2) (by with_unfolding_all rfl)) (dss_cons (ds_putK hu1 (de_var 2) (de_ix (de_var 1) (de_var 3) (fun _ _ => rfl)) de_dkM)
    (dss_one (ds_if (dt_cmp (dop_eq hu) (de_op dop_add (de_var 3) de_int) (de_callB dc_len (by rfl) B.len_ (by decide +kernel) (da_cons (de_var 1) da_nil)) (nomark _)) (dss_one (ds_fld O.cl_Trie O.na_Trie_size (de_var 0) (de_op dop_add (de_fld O.cl_Trie O.na_Trie_size (de_var 0)) de_int))) dss_nil))) dss_nil)
    (dss_one (ds_set (i := 2) nd (de_getK hu1 (de_var 2) (de_ix (de_var 1) (de_var 3) (fun _ _ => rfl)) (fun _ _ => rfl))))))))
theorem ok_Trie_put {f : Addr} {fd : FuncData} (F : Fun K "put" "Trie.put" s_Trie_put f fd) (b : Binds K fd p_Trie_put []) (g : Meth K C_Trie "put" f) (B : Blt mg) (T : Tops K mg) (Z : Errs K mg C_RowError C_WalkError C_HallError) (O : Ocl K C_Trie C_Walker) : MetC P w K mg base 1 C_Trie "put" p_Trie_put (sp_Trie_put C_Trie) :=
  ⟨f, fd, fn_Trie_put F b g B T Z O, g, b⟩
theorem sc_Trie_node_at : FnScope n_Trie_node_at p_Trie_node_at (defScope s_Trie_node_at) := ⟨rfl, rfl, rfl, by decide +kernel, rfl, by decide +kernel, by decide +kernel⟩
theorem fn_Trie_node_at {f : Addr} {fd : FuncData} (F : Fun K "node_at" "Trie.node_at" s_Trie_node_at f fd) (b : Binds K fd p_Trie_node_at []) (g : Meth K C_Trie "node_at" f) (B : Blt mg) (T : Tops K mg) (Z : Errs K mg C_RowError C_WalkError C_HallError) (O : Ocl K C_Trie C_Walker) : DFn P w K mg base 1 f fd p_Trie_node_at (sp_Trie_node_at C_Trie) := by
  refine okD (N := n_Trie_node_at) (t := t_Trie_node_at C_Trie) F sc_Trie_node_at len_Trie_node_at (fun cdv A outer s H E hr tk hp => ?_) r_Trie_node_at
  have nd := sc_Trie_node_at.nd
  have hu := hr.units
  have hu5 := room5 hr
  have hu1 := L2.hu_of hr
  exact (dss_cons (ds_set (i := 2) nd (de_fld O.cl_Trie O.na_Trie_top (de_var 0)))
    (dss_cons (ds_for hp rfl (di_seq (de_var 1)) (dg_name (i := 3) nd) (dss_cons (ds_if (dt_cmp (dop_notin hu5) (de_var 3) (de_var 2) (by with_unfolding_all rfl)) (dss_one (ds_ret de_non)) dss_nil)
    (dss_one (ds_set (i := 2) nd (de_getK hu1 (de_var 2) (de_var 3) (fun _ _ => rfl))))))
    (dss_one (ds_ret (de_var 2)))))
theorem ok_Trie_node_at {f : Addr} {fd : FuncData} (F : Fun K "node_at" "Trie.node_at" s_Trie_node_at f fd) (b : Binds K fd p_Trie_node_at []) (g : Meth K C_Trie "node_at" f) (B : Blt mg) (T : Tops K mg) (Z : Errs K mg C_RowError C_WalkError C_HallError) (O : Ocl K C_Trie C_Walker) : MetC P w K mg base 1 C_Trie "node_at" p_Trie_node_at (sp_Trie_node_at C_Trie) :=
  ⟨f, fd, fn_Trie_node_at F b g B T Z O, g, b⟩
theorem sc_place_from : FnScope n_place_from p_place_from (defScope s_place_from) := ⟨rfl, rfl, rfl, by decide +kernel, rfl, by decide +kernel, by decide +kernel⟩
theorem fn_place_from {f : Addr} {fd : FuncData} (F : Fun K "place_from" "place_from" s_place_from f fd) (b : Binds K fd p_place_from []) (g : mg "place_from" = some (.ref f)) (B : Blt mg) (T : Tops K mg) (Z : Errs K mg C_RowError C_WalkError C_HallError) (O : Ocl K C_Trie C_Walker) : DFn P w K mg base 1 f fd p_place_from sp_place_from := by
  refine okD (N := n_place_from) (t := t_place_from) F sc_place_from len_place_from (fun cdv A outer s H E hr tk hp => ?_) r_place_from
  have nd := sc_place_from.nd
  have hu := hr.units
  have hu5 := room5 hr
  have hu1 := L2.hu_of hr
  exact (dss_cons (ds_set (i := 3) nd (de_var 1))
    (dss_cons (ds_set (i := 4) nd (de_callB dc_len (by rfl) B.len_ (by decide +kernel) (da_cons (de_var 0) da_nil)))
    (dss_cons (ds_while hp (dt_cmp (dop_lt hu) (de_var 3) (de_var 4) (nomark _)) (dss_cons (ds_set (i := 5) nd (de_op dop_fdiv (de_op dop_add (de_var 3) (de_var 4)) de_int))
    (dss_one (ds_if (dt_cmp (dop_lt hu) (de_ix (de_var 0) (de_var 5) (fun _ _ => rfl)) (de_var 2) (nomark _)) (dss_one (ds_set (i := 3) nd (de_op dop_add (de_var 5) de_int))) (dss_one (ds_set (i := 4) nd (de_var 5)))))))
    (dss_one (ds_ret (de_var 3))))))
theorem ok_place_from {f : Addr} {fd : FuncData} (F : Fun K "place_from" "place_from" s_place_from f fd) (b : Binds K fd p_place_from []) (g : mg "place_from" = some (.ref f)) (B : Blt mg) (T : Tops K mg) (Z : Errs K mg C_RowError C_WalkError C_HallError) (O : Ocl K C_Trie C_Walker) : Cal P w K mg base 1 "place_from" p_place_from sp_place_from :=
  ⟨f, fd, fn_place_from F b g B T Z O, F.kp, b, g⟩
theorem sc_Walker___init__ : FnScope n_Walker___init__ p_Walker___init__ (defScope s_Walker___init__) := ⟨rfl, rfl, rfl, by decide +kernel, rfl, by decide +kernel, by decide +kernel⟩
theorem fn_Walker___init__ {f : Addr} {fd : FuncData} (F : Fun K "__init__" "Walker.__init__" s_Walker___init__ f fd) (b : Binds K fd p_Walker___init__ []) (g : Mk K C_Walker f) (gm : mg "Walker" = some (.ref C_Walker)) (B : Blt mg) (T : Tops K mg) (Z : Errs K mg C_RowError C_WalkError C_HallError) (O : Ocl K C_Trie C_Walker) : DFn P w K mg base 1 f fd p_Walker___init__ (sp_Walker___init__ C_Walker) := by
  refine okD (N := n_Walker___init__) (t := t_Walker___init__ C_Walker) F sc_Walker___init__ len_Walker___init__ (fun cdv A outer s H E hr tk hp => ?_) r_Walker___init__
  have nd := sc_Walker___init__.nd
  have hu := hr.units
  have hu5 := room5 hr
  have hu1 := L2.hu_of hr
  exact (dss_cons (ds_fld O.cl_Walker O.na_Walker_trie (de_var 0) (de_var 1))
    (dss_cons (ds_fld O.cl_Walker O.na_Walker_prefix (de_var 0) (de_tup da_nil))
    (dss_cons (ds_fld O.cl_Walker O.na_Walker_rows (de_var 0) (de_lstM da_nil))
    (dss_cons (ds_fld O.cl_Walker O.na_Walker_places (de_var 0) (de_lstM da_nil))
    (dss_one (ds_fld O.cl_Walker O.na_Walker_made (de_var 0) de_int))))))
theorem ok_Walker___init__ {f : Addr} {fd : FuncData} (F : Fun K "__init__" "Walker.__init__" s_Walker___init__ f fd) (b : Binds K fd p_Walker___init__ []) (g : Mk K C_Walker f) (gm : mg "Walker" = some (.ref C_Walker)) (B : Blt mg) (T : Tops K mg) (Z : Errs K mg C_RowError C_WalkError C_HallError) (O : Ocl K C_Trie C_Walker) : MakC P w K mg base 1 C_Walker "Walker" p_Walker___init__ (sp_Walker___init__ C_Walker) :=
  ⟨f, fd, fn_Walker___init__ F b g gm B T Z O, g, b, gm⟩
theorem sc_Walker_level : FnScope n_Walker_level p_Walker_level (defScope s_Walker_level) := ⟨rfl, rfl, rfl, by decide +kernel, rfl, by decide +kernel, by decide +kernel⟩
theorem fn_Walker_level {f : Addr} {fd : FuncData} (F : Fun K "level" "Walker.level" s_Walker_level f fd) (b : Binds K fd p_Walker_level []) (g : Meth K C_Walker "level" f) (B : Blt mg) (T : Tops K mg) (Z : Errs K mg C_RowError C_WalkError C_HallError) (O : Ocl K C_Trie C_Walker) : DFn P w K mg base 1 f fd p_Walker_level (sp_Walker_level C_Walker) := by
  refine okD (N := n_Walker_level) (t := t_Walker_level C_Walker) F sc_Walker_level len_Walker_level (fun cdv A outer s H E hr tk hp => ?_) r_Walker_level
  have nd := sc_Walker_level.nd
  have hu := hr.units
  have hu5 := room5 hr
  have hu1 := L2.hu_of hr
  exact (dss_one (ds_ret (de_callB dc_len (by rfl) B.len_ (by decide +kernel) (da_cons (de_fld O.cl_Walker O.na_Walker_rows (de_var 0)) da_nil))))
theorem ok_Walker_level {f : Addr} {fd : FuncData} (F : Fun K "level" "Walker.level" s_Walker_level f fd) (b : Binds K fd p_Walker_level []) (g : Meth K C_Walker "level" f) (B : Blt mg) (T : Tops K mg) (Z : Errs K mg C_RowError C_WalkError C_HallError) (O : Ocl K C_Trie C_Walker) : MetC P w K mg base 1 C_Walker "level" p_Walker_level (sp_Walker_level C_Walker) :=
  ⟨f, fd, fn_Walker_level F b g B T Z O, g, b⟩
theorem sc_Walker_moves : FnScope n_Walker_moves p_Walker_moves (defScope s_Walker_moves) := ⟨rfl, rfl, rfl, by decide +kernel, rfl, by decide +kernel, by decide +kernel⟩
theorem fn_Walker_moves {f : Addr} {fd : FuncData} (F : Fun K "moves" "Walker.moves" s_Walker_moves f fd) (b : Binds K fd p_Walker_moves []) (g : Meth K C_Walker "moves" f) (B : Blt mg) (T : Tops K mg) (Z : Errs K mg C_RowError C_WalkError C_HallError) (O : Ocl K C_Trie C_Walker) : DFn P w K mg base 1 f fd p_Walker_moves (sp_Walker_moves C_Walker) := by
  refine okD (N := n_Walker_moves) (t := t_Walker_moves C_Walker) F sc_Walker_moves len_Walker_moves (fun cdv A outer s H E hr tk hp => ?_) r_Walker_moves
  have nd := sc_Walker_moves.nd
  have hu := hr.units
  have hu5 := room5 hr
  have hu1 := L2.hu_of hr
  exact (dss_one (ds_ret (de_fld O.cl_Walker O.na_Walker_made (de_var 0))))
theorem ok_Walker_moves {f : Addr} {fd : FuncData} (F : Fun K "moves" "Walker.moves" s_Walker_moves f fd) (b : Binds K fd p_Walker_moves []) (g : Meth K C_Walker "moves" f) (B : Blt mg) (T : Tops K mg) (Z : Errs K mg C_RowError C_WalkError C_HallError) (O : Ocl K C_Trie C_Walker) : MetC P w K mg base 1 C_Walker "moves" p_Walker_moves (sp_Walker_moves C_Walker) :=
  ⟨f, fd, fn_Walker_moves F b g B T Z O, g, b⟩
theorem sc_Walker_at_end : FnScope n_Walker_at_end p_Walker_at_end (defScope s_Walker_at_end) := ⟨rfl, rfl, rfl, by decide +kernel, rfl, by decide +kernel, by decide +kernel⟩
theorem fn_Walker_at_end {f : Addr} {fd : FuncData} (F : Fun K "at_end" "Walker.at_end" s_Walker_at_end f fd) (b : Binds K fd p_Walker_at_end []) (g : Meth K C_Walker "at_end" f) (B : Blt mg) (T : Tops K mg) (Z : Errs K mg C_RowError C_WalkError C_HallError) (O : Ocl K C_Trie C_Walker) : DFn P w K mg base 1 f fd p_Walker_at_end (sp_Walker_at_end C_Walker) := by
  refine okD (N := n_Walker_at_end) (t := t_Walker_at_end C_Walker) F sc_Walker_at_end len_Walker_at_end (fun cdv A outer s H E hr tk hp => ?_) r_Walker_at_end
  have nd := sc_Walker_at_end.nd
  have hu := hr.units
  have hu5 := room5 hr
  have hu1 := L2.hu_of hr
  exact (dss_one (ds_ret (de_and (de_cmp (dop_gt hu) (de_callB dc_len (by rfl) B.len_ (by decide +kernel) (da_cons (de_fld O.cl_Walker O.na_Walker_rows (de_var 0)) da_nil)) de_int (nomark _)) (de_one (de_cmp (dop_ge hu) (de_ix (de_fld O.cl_Walker O.na_Walker_places (de_var 0)) (de_un dun_neg de_int) (fun _ _ => rfl)) (de_callB dc_len (by rfl) B.len_ (by decide +kernel) (da_cons (de_ix (de_fld O.cl_Walker O.na_Walker_rows (de_var 0)) (de_un dun_neg de_int) (fun _ _ => rfl)) da_nil)) (nomark _))))))
theorem ok_Walker_at_end {f : Addr} {fd : FuncData} (F : Fun K "at_end" "Walker.at_end" s_Walker_at_end f fd) (b : Binds K fd p_Walker_at_end []) (g : Meth K C_Walker "at_end" f) (B : Blt mg) (T : Tops K mg) (Z : Errs K mg C_RowError C_WalkError C_HallError) (O : Ocl K C_Trie C_Walker) : MetC P w K mg base 1 C_Walker "at_end" p_Walker_at_end (sp_Walker_at_end C_Walker) :=
  ⟨f, fd, fn_Walker_at_end F b g B T Z O, g, b⟩
theorem sc_Walker_up : FnScope n_Walker_up p_Walker_up (defScope s_Walker_up) := ⟨rfl, rfl, rfl, by decide +kernel, rfl, by decide +kernel, by decide +kernel⟩
theorem fn_Walker_up {f : Addr} {fd : FuncData} (F : Fun K "up" "Walker.up" s_Walker_up f fd) (b : Binds K fd p_Walker_up []) (g : Meth K C_Walker "up" f) (B : Blt mg) (T : Tops K mg) (Z : Errs K mg C_RowError C_WalkError C_HallError) (O : Ocl K C_Trie C_Walker) : DFn P w K mg base 1 f fd p_Walker_up (sp_Walker_up C_Walker C_WalkError) := by
  refine okD (N := n_Walker_up) (t := t_Walker_up C_WalkError C_Walker) F sc_Walker_up len_Walker_up (fun cdv A outer s H E hr tk hp => ?_) r_Walker_up
  have nd := sc_Walker_up.nd
  have hu := hr.units
  have hu5 := room5 hr
  have hu1 := L2.hu_of hr
  exact (dss_cons (ds_if (dt_cmp (dop_eq hu) (de_callB dc_len (by rfl) B.len_ (by decide +kernel) (da_cons (de_fld O.cl_Walker O.na_Walker_rows (de_var 0)) da_nil)) de_int (nomark _)) (dss_one (ds_raise Z.e_WalkError rfl tk)) dss_nil)
    (dss_cons (ds_expr (de_bm0 ty_lst PySem.F.plainAttrs_list PySem.F.slot_list_pop PySem.F.type_list_pop dm_pop (de_fld O.cl_Walker O.na_Walker_rows (de_var 0))))
    (dss_cons (ds_expr (de_bm0 ty_lst PySem.F.plainAttrs_list PySem.F.slot_list_pop PySem.F.type_list_pop dm_pop (de_fld O.cl_Walker O.na_Walker_places (de_var 0))))
    (dss_one (ds_fld O.cl_Walker O.na_Walker_prefix (de_var 0) (de_slice (de_fld O.cl_Walker O.na_Walker_prefix (de_var 0)) do_none (do_some (de_un dun_neg de_int))))))))
theorem ok_Walker_up {f : Addr} {fd : FuncData} (F : Fun K "up" "Walker.up" s_Walker_up f fd) (b : Binds K fd p_Walker_up []) (g : Meth K C_Walker "up" f) (B : Blt mg) (T : Tops K mg) (Z : Errs K mg C_RowError C_WalkError C_HallError) (O : Ocl K C_Trie C_Walker) : MetC P w K mg base 1 C_Walker "up" p_Walker_up (sp_Walker_up C_Walker C_WalkError) :=
  ⟨f, fd, fn_Walker_up F b g B T Z O, g, b⟩
theorem sc_law_begin : FnScope n_law_begin p_law_begin (defScope s_law_begin) := ⟨rfl, rfl, rfl, by decide +kernel, rfl, by decide +kernel, by decide +kernel⟩
theorem fn_law_begin {f : Addr} {fd : FuncData} (F : Fun K "_law_begin" "_law_begin" s_law_begin f fd) (b : Binds K fd p_law_begin []) (g : mg "_law_begin" = some (.ref f)) (B : Blt mg) (T : Tops K mg) (Z : Errs K mg C_RowError C_WalkError C_HallError) (O : Ocl K C_Trie C_Walker) : DFn P w K mg base 1 f fd p_law_begin sp_law_begin := by
  refine okD (N := n_law_begin) (t := t_law_begin) F sc_law_begin len_law_begin (fun cdv A outer s H E hr tk hp => ?_) r_law_begin
  have nd := sc_law_begin.nd
  have hu := hr.units
  have hu5 := room5 hr
  have hu1 := L2.hu_of hr
  exact (dss_cons (ds_set (i := 1) nd de_int)
    (dss_cons (ds_for hp rfl (di_seq (de_var 0)) (dg_name (i := 2) nd) (dss_one (ds_set (i := 1) nd (de_op dop_mod (de_op dop_add (de_op dop_add (de_op dop_mul (de_var 1) de_int) (de_op dop_mod (de_callTy dc_int (by rfl) B.int_ (by decide +kernel) (da_cons (de_var 2) da_nil)) de_int)) de_int) de_int))))
    (dss_one (ds_ret (de_lstM (da_cons (de_callTy dc_list (by rfl) B.list_ (by decide +kernel) (da_cons (de_var 0) da_nil)) (da_cons de_int (da_cons de_int (da_cons (de_var 1) da_nil)))))))))
theorem ok_law_begin {f : Addr} {fd : FuncData} (F : Fun K "_law_begin" "_law_begin" s_law_begin f fd) (b : Binds K fd p_law_begin []) (g : mg "_law_begin" = some (.ref f)) (B : Blt mg) (T : Tops K mg) (Z : Errs K mg C_RowError C_WalkError C_HallError) (O : Ocl K C_Trie C_Walker) : Cal P w K mg base 1 "_law_begin" p_law_begin sp_law_begin :=
  ⟨f, fd, fn_law_begin F b g B T Z O, F.kp, b, g⟩
theorem sc_law_take : FnScope n_law_take p_law_take (defScope s_law_take) := ⟨rfl, rfl, rfl, by decide +kernel, rfl, by decide +kernel, by decide +kernel⟩
theorem fn_law_take {f : Addr} {fd : FuncData} (F : Fun K "_law_take" "_law_take" s_law_take f fd) (b : Binds K fd p_law_take []) (g : mg "_law_take" = some (.ref f)) (B : Blt mg) (T : Tops K mg) (Z : Errs K mg C_RowError C_WalkError C_HallError) (O : Ocl K C_Trie C_Walker) : DFn P w K mg base 1 f fd p_law_take sp_law_take := by
  refine okD (N := n_law_take) (t := t_law_take) F sc_law_take len_law_take (fun cdv A outer s H E hr tk hp => ?_) r_law_take
  have nd := sc_law_take.nd
  have hu := hr.units
  have hu5 := room5 hr
  have hu1 := L2.hu_of hr
  exact (dss_cons (ds_if (DW.dt (dw_and (dt_cmp (dop_eq hu) (de_ix (de_var 0) de_int (fun _ _ => rfl)) de_int (nomark _)) (dw_and1 (dt_cmp (dop_lt hu) (de_ix (de_var 0) de_int (fun _ _ => rfl)) (de_callB dc_len (by rfl) B.len_ (by decide +kernel) (da_cons (de_ix (de_var 0) de_int (fun _ _ => rfl)) da_nil)) (nomark _))))) (dss_cons (ds_asg (de_callB dc_abs (by rfl) B.abs_ (by decide +kernel) (da_cons (de_callTy dc_int (by rfl) B.int_ (by decide +kernel) (da_cons (de_ix (de_ix (de_var 0) de_int (fun _ _ => rfl)) (de_ix (de_var 0) de_int (fun _ _ => rfl)) (fun _ _ => rfl)) da_nil)) da_nil)) (dg_setL (de_var 0) de_int))
    (dss_cons (ds_asg (de_op dop_add (de_ix (de_var 0) de_int (fun _ _ => rfl)) de_int) (dg_setL (de_var 0) de_int))
    (dss_one (ds_if (dt_cmp (dop_lt hu) (de_ix (de_var 0) de_int (fun _ _ => rfl)) (de_op dop_pow de_int de_int) (nomark _)) (dss_cons (ds_set (i := 2) nd (de_callTy dc_int (by rfl) B.int_ (by decide +kernel) (da_cons (de_ix (de_var 0) de_int (fun _ _ => rfl)) da_nil)))
    (dss_cons (ds_asg de_int (dg_setL (de_var 0) de_int))
    (dss_one (ds_ret (de_op dop_mod (de_var 2) (de_var 1)))))) dss_nil)))) dss_nil)
    (dss_cons (ds_if (dt_cmp (dop_gt hu) (de_ix (de_var 0) de_int (fun _ _ => rfl)) de_int (nomark _)) (dss_cons (ds_set (i := 3) nd (de_op dop_mod (de_callTy dc_int (by rfl) B.int_ (by decide +kernel) (da_cons (de_ix (de_var 0) de_int (fun _ _ => rfl)) da_nil)) (de_var 1)))
    (dss_cons (ds_asg (de_op dop_fdiv (de_callTy dc_int (by rfl) B.int_ (by decide +kernel) (da_cons (de_ix (de_var 0) de_int (fun _ _ => rfl)) da_nil)) (de_var 1)) (dg_setL (de_var 0) de_int))
    (dss_one (ds_ret (de_var 3))))) dss_nil)
    (dss_cons (ds_asg (de_op dop_mod (de_callTy dc_int (by rfl) B.int_ (by decide +kernel) (da_cons (de_op dop_add (de_op dop_mul (de_ix (de_var 0) de_int (fun _ _ => rfl)) de_int) de_int) da_nil)) de_int) (dg_setL (de_var 0) de_int))
    (dss_one (ds_ret (de_op dop_mod (de_callTy dc_int (by rfl) B.int_ (by decide +kernel) (da_cons (de_op dop_fdiv (de_ix (de_var 0) de_int (fun _ _ => rfl)) de_int) da_nil)) (de_var 1)))))))
theorem ok_law_take {f : Addr} {fd : FuncData} (F : Fun K "_law_take" "_law_take" s_law_take f fd) (b : Binds K fd p_law_take []) (g : mg "_law_take" = some (.ref f)) (B : Blt mg) (T : Tops K mg) (Z : Errs K mg C_RowError C_WalkError C_HallError) (O : Ocl K C_Trie C_Walker) : Cal P w K mg base 1 "_law_take" p_law_take sp_law_take :=
  ⟨f, fd, fn_law_take F b g B T Z O, F.kp, b, g⟩
theorem sc_law_children : FnScope n_law_children p_law_children (defScope s_law_children) := ⟨rfl, rfl, rfl, by decide +kernel, rfl, by decide +kernel, by decide +kernel⟩
theorem fn_law_children {f : Addr} {fd : FuncData} (F : Fun K "_law_children" "_law_children" s_law_children f fd) (b : Binds K fd p_law_children []) (g : mg "_law_children" = some (.ref f)) (B : Blt mg) (T : Tops K mg) (Z : Errs K mg C_RowError C_WalkError C_HallError) (O : Ocl K C_Trie C_Walker) : DFn P w K mg base 1 f fd p_law_children sp_law_children := by
  refine okD (N := n_law_children) (t := t_law_children) F sc_law_children len_law_children (fun cdv A outer s H E hr tk hp => ?_) r_law_children
  have nd := sc_law_children.nd
  have hu := hr.units
  have hu5 := room5 hr
  have hu1 := L2.hu_of hr
  exact (dss_cons (ds_set (i := 2) nd (de_callB dc_len (by rfl) B.len_ (by decide +kernel) (da_cons (de_var 1) da_nil)))
    (dss_one (ds_ret (de_sortedSet rfl hu (de_lc finD_at rfl nd (vs := [3]) (di_seq (de_var 0)) (blkOk_by (own := [("row", 3)]) (N := n_law_children) (sc := defScope s_law_children) (by decide +kernel)) (fun _ _ _ _ _ => (dg_name (i := 3) nd)) (by decide) (fun _ _ _ _ _ => (dts_one (DW.dt (dw_and (dt_cmp (dop_eq hu) (de_slice (de_var 3) do_none (do_some (de_var 2))) (de_var 1) (nomark _)) (dw_and1 (dt_cmp (dop_gt hu) (de_callB dc_len (by rfl) B.len_ (by decide +kernel) (da_cons (de_var 3) da_nil)) (de_var 2) (nomark _))))))) (fun _ _ _ _ _ => (de_ix (de_var 3) (de_var 2) (fun _ _ => rfl)))) B.sorted_ B.set_))))
theorem ok_law_children {f : Addr} {fd : FuncData} (F : Fun K "_law_children" "_law_children" s_law_children f fd) (b : Binds K fd p_law_children []) (g : mg "_law_children" = some (.ref f)) (B : Blt mg) (T : Tops K mg) (Z : Errs K mg C_RowError C_WalkError C_HallError) (O : Ocl K C_Trie C_Walker) : Cal P w K mg base 1 "_law_children" p_law_children sp_law_children :=
  ⟨f, fd, fn_law_children F b g B T Z O, F.kp, b, g⟩
theorem sc_Trie___init__ : FnScope n_Trie___init__ p_Trie___init__ (defScope s_Trie___init__) := ⟨rfl, rfl, rfl, by decide +kernel, rfl, by decide +kernel, by decide +kernel⟩
theorem fn_Trie___init__ {f : Addr} {fd : FuncData} (F : Fun K "__init__" "Trie.__init__" s_Trie___init__ f fd) (b : Binds K fd p_Trie___init__ []) (g : Mk K C_Trie f) (gm : mg "Trie" = some (.ref C_Trie)) (B : Blt mg) (T : Tops K mg) (Z : Errs K mg C_RowError C_WalkError C_HallError) (O : Ocl K C_Trie C_Walker) (c_Trie_put : MetC P w K mg base 1 C_Trie "put" p_Trie_put (sp_Trie_put C_Trie)) : DFn P w K mg base 2 f fd p_Trie___init__ (sp_Trie___init__ C_Trie C_RowError) := by
  refine okD (N := n_Trie___init__) (t := t_Trie___init__ C_RowError C_Trie) F sc_Trie___init__ len_Trie___init__ (fun cdv A outer s H E hr tk hp => ?_) r_Trie___init__
  have nd := sc_Trie___init__.nd
  have hu := hr.units
  have hu5 := room5 hr
  have hu1 := L2.hu_of hr
  exact (dss_cons (ds_set (i := 3) nd (de_and (de_cmp (dop_gt hu) (de_callB dc_len (by rfl) B.len_ (by decide +kernel) (da_cons (de_var 2) da_nil)) de_int (nomark _)) (de_one (de_notT (de_callB (dc_any rfl) (by rfl) B.any_ (by decide +kernel) (da_cons (de_lc finD_at rfl nd (vs := [5]) (di_range1 B.range_ (da_cons (de_callB dc_len (by rfl) B.len_ (by decide +kernel) (da_cons (de_var 2) da_nil)) da_nil)) (blkOk_by (own := [("k", 5)]) (N := n_Trie___init__) (sc := defScope s_Trie___init__) (by decide +kernel)) (fun _ _ _ _ _ => (dg_name (i := 5) nd)) (by decide) (fun _ _ _ _ _ => dts_nil) (fun _ _ _ _ _ => (de_cmp (dop_in hu5) (de_ix (de_var 2) (de_var 5) (fun _ _ => rfl)) (de_slice (de_var 2) do_none (do_some (de_var 5))) (by with_unfolding_all rfl)))) da_nil))))))
    (dss_cons (ds_if (DW.dt (dw_or (dt_not (dt_tru (de_var 3) (fun _ => rfl))) (dw_or1 (dt_tru (de_callB (dc_any rfl) (by rfl) B.any_ (by decide +kernel) (da_cons (de_lc2 finD_at rfl nd (vs := [4, 5]) (vs1 := [5]) (di_seq (de_var 1)) (blkOk_by (own := [("row", 4), ("k", 5)]) (N := n_Trie___init__) (sc := defScope s_Trie___init__) (by decide +kernel)) (by decide) (fun _ _ _ _ _ => (dg_name (i := 4) nd)) (by decide) (fun _ _ _ _ _ => dts_nil) (fun _ _ _ _ _ => (di_seq (de_var 2))) (fun _ _ _ _ _ => (dg_name (i := 5) nd)) (by decide) (fun _ _ _ _ _ => dts_nil) (fun _ _ _ _ _ => (de_or (de_cmp (dop_lt hu) (de_var 5) de_int (nomark _)) (de_one (de_cmp (dop_ge hu) (de_var 5) (de_callB dc_len (by rfl) B.len_ (by decide +kernel) (da_cons (de_var 4) da_nil)) (nomark _)))))) da_nil)) (fun _ => rfl))))) (dss_one (ds_raise Z.e_RowError rfl tk)) dss_nil)
    (dss_cons (ds_fld O.cl_Trie O.na_Trie_top (de_var 0) de_dkM)
    (dss_cons (ds_fld O.cl_Trie O.na_Trie_size (de_var 0) de_int)
    (dss_cons (ds_fld O.cl_Trie O.na_Trie_depth (de_var 0) (de_callB dc_len (by rfl) B.len_ (by decide +kernel) (da_cons (de_var 2) da_nil)))
    (dss_one (ds_for hp rfl (di_seq (de_var 1)) (dg_name (i := 4) nd) (dss_one (ds_expr (de_meth O.cl_Trie c_Trie_put (hr.mono (by decide)) tk (de_var 0) (da_cons (de_lc finD_at rfl nd (vs := [5]) (di_seq (de_var 2)) (blkOk_by (own := [("k", 5)]) (N := n_Trie___init__) (sc := defScope s_Trie___init__) (by decide +kernel)) (fun _ _ _ _ _ => (dg_name (i := 5) nd)) (by decide) (fun _ _ _ _ _ => dts_nil) (fun _ _ _ _ _ => (de_ix (de_var 4) (de_var 5) (fun _ _ => rfl)))) da_nil)))))))))))
theorem ok_Trie___init__ {f : Addr} {fd : FuncData} (F : Fun K "__init__" "Trie.__init__" s_Trie___init__ f fd) (b : Binds K fd p_Trie___init__ []) (g : Mk K C_Trie f) (gm : mg "Trie" = some (.ref C_Trie)) (B : Blt mg) (T : Tops K mg) (Z : Errs K mg C_RowError C_WalkError C_HallError) (O : Ocl K C_Trie C_Walker) (c_Trie_put : MetC P w K mg base 1 C_Trie "put" p_Trie_put (sp_Trie_put C_Trie)) : MakC P w K mg base 2 C_Trie "Trie" p_Trie___init__ (sp_Trie___init__ C_Trie C_RowError) :=
  ⟨f, fd, fn_Trie___init__ F b g gm B T Z O c_Trie_put, g, b, gm⟩
theorem sc_Trie_children : FnScope n_Trie_children p_Trie_children (defScope s_Trie_children) := ⟨rfl, rfl, rfl, by decide +kernel, rfl, by decide +kernel, by decide +kernel⟩
theorem fn_Trie_children {f : Addr} {fd : FuncData} (F : Fun K "children" "Trie.children" s_Trie_children f fd) (b : Binds K fd p_Trie_children []) (g : Meth K C_Trie "children" f) (B : Blt mg) (T : Tops K mg) (Z : Errs K mg C_RowError C_WalkError C_HallError) (O : Ocl K C_Trie C_Walker) (c_Trie_node_at : MetC P w K mg base 1 C_Trie "node_at" p_Trie_node_at (sp_Trie_node_at C_Trie)) : DFn P w K mg base 2 f fd p_Trie_children (sp_Trie_children C_Trie) := by
  refine okD (N := n_Trie_children) (t := t_Trie_children C_Trie) F sc_Trie_children len_Trie_children (fun cdv A outer s H E hr tk hp => ?_) r_Trie_children
  have nd := sc_Trie_children.nd
  have hu := hr.units
  have hu5 := room5 hr
  have hu1 := L2.hu_of hr
  exact (dss_cons (ds_set (i := 2) nd (de_meth O.cl_Trie c_Trie_node_at (hr.mono (by decide)) tk (de_var 0) (da_cons (de_var 1) da_nil)))
    (dss_cons (ds_if (dt_cmp dop_is (de_var 2) de_non (nomark _)) (dss_one (ds_ret (de_tup da_nil))) dss_nil)
    (dss_one (ds_ret (de_callTy dc_tuple (by rfl) B.tuple_ (by decide +kernel) (da_cons (de_callB (dc_sortKI rfl) (by rfl) B.sorted_ (by decide +kernel) (da_cons (de_var 2) da_nil)) da_nil))))))
theorem ok_Trie_children {f : Addr} {fd : FuncData} (F : Fun K "children" "Trie.children" s_Trie_children f fd) (b : Binds K fd p_Trie_children []) (g : Meth K C_Trie "children" f) (B : Blt mg) (T : Tops K mg) (Z : Errs K mg C_RowError C_WalkError C_HallError) (O : Ocl K C_Trie C_Walker) (c_Trie_node_at : MetC P w K mg base 1 C_Trie "node_at" p_Trie_node_at (sp_Trie_node_at C_Trie)) : MetC P w K mg base 2 C_Trie "children" p_Trie_children (sp_Trie_children C_Trie) :=
  ⟨f, fd, fn_Trie_children F b g B T Z O c_Trie_node_at, g, b⟩
theorem sc_Walker_check_at_key : FnScope n_Walker_check_at_key p_Walker_check_at_key (defScope s_Walker_check_at_key) := ⟨rfl, rfl, rfl, by decide +kernel, rfl, by decide +kernel, by decide +kernel⟩
theorem fn_Walker_check_at_key {f : Addr} {fd : FuncData} (F : Fun K "check_at_key" "Walker.check_at_key" s_Walker_check_at_key f fd) (b : Binds K fd p_Walker_check_at_key []) (g : Meth K C_Walker "check_at_key" f) (B : Blt mg) (T : Tops K mg) (Z : Errs K mg C_RowError C_WalkError C_HallError) (O : Ocl K C_Trie C_Walker) (c_Walker_at_end : MetC P w K mg base 1 C_Walker "at_end" p_Walker_at_end (sp_Walker_at_end C_Walker)) : DFn P w K mg base 2 f fd p_Walker_check_at_key (sp_Walker_check_at_key C_Walker C_WalkError) := by
  refine okD (N := n_Walker_check_at_key) (t := t_Walker_check_at_key C_WalkError C_Walker) F sc_Walker_check_at_key len_Walker_check_at_key (fun cdv A outer s H E hr tk hp => ?_) r_Walker_check_at_key
  have nd := sc_Walker_check_at_key.nd
  have hu := hr.units
  have hu5 := room5 hr
  have hu1 := L2.hu_of hr
  exact (dss_one (ds_if (DW.dt (dw_or (dt_cmp (dop_eq hu) (de_callB dc_len (by rfl) B.len_ (by decide +kernel) (da_cons (de_fld O.cl_Walker O.na_Walker_rows (de_var 0)) da_nil)) de_int (nomark _)) (dw_or1 (dt_tru (de_meth0 O.cl_Walker c_Walker_at_end (hr.mono (by decide)) tk (de_var 0)) (fun _ => rfl))))) (dss_one (ds_raise Z.e_WalkError rfl tk)) dss_nil))
theorem ok_Walker_check_at_key {f : Addr} {fd : FuncData} (F : Fun K "check_at_key" "Walker.check_at_key" s_Walker_check_at_key f fd) (b : Binds K fd p_Walker_check_at_key []) (g : Meth K C_Walker "check_at_key" f) (B : Blt mg) (T : Tops K mg) (Z : Errs K mg C_RowError C_WalkError C_HallError) (O : Ocl K C_Trie C_Walker) (c_Walker_at_end : MetC P w K mg base 1 C_Walker "at_end" p_Walker_at_end (sp_Walker_at_end C_Walker)) : MetC P w K mg base 2 C_Walker "check_at_key" p_Walker_check_at_key (sp_Walker_check_at_key C_Walker C_WalkError) :=
  ⟨f, fd, fn_Walker_check_at_key F b g B T Z O c_Walker_at_end, g, b⟩
theorem sc_law_rows : FnScope n_law_rows p_law_rows (defScope s_law_rows) := ⟨rfl, rfl, rfl, by decide +kernel, rfl, by decide +kernel, by decide +kernel⟩
theorem fn_law_rows {f : Addr} {fd : FuncData} (F : Fun K "_law_rows" "_law_rows" s_law_rows f fd) (b : Binds K fd p_law_rows []) (g : mg "_law_rows" = some (.ref f)) (B : Blt mg) (T : Tops K mg) (Z : Errs K mg C_RowError C_WalkError C_HallError) (O : Ocl K C_Trie C_Walker) (c__law_take : Cal P w K mg base 1 "_law_take" p_law_take sp_law_take) : DFn P w K mg base 2 f fd p_law_rows sp_law_rows := by
  refine okD (N := n_law_rows) (t := t_law_rows) F sc_law_rows len_law_rows (fun cdv A outer s H E hr tk hp => ?_) r_law_rows
  have nd := sc_law_rows.nd
  have hu := hr.units
  have hu5 := room5 hr
  have hu1 := L2.hu_of hr
  exact (dss_cons (ds_set (i := 4) nd (de_lstM da_nil))
    (dss_cons (ds_for hp rfl (di_range1 B.range_ (da_cons (de_calC c__law_take (hr.mono (by decide)) tk (da_cons (de_var 0) (da_cons (de_op dop_add (de_var 2) de_int) da_nil))) da_nil)) (dg_name (i := 5) nd) (dss_cons (ds_set (i := 6) nd (de_callTy dc_tuple (by rfl) B.tuple_ (by decide +kernel) (da_cons (de_lc finD_at rfl nd (vs := [7]) (di_range1 B.range_ (da_cons (de_var 1) da_nil)) (blkOk_by (own := [("j", 7)]) (N := n_law_rows) (sc := defScope s_law_rows) (by decide +kernel)) (fun _ _ _ _ _ => (dg_name (i := 7) nd)) (by decide) (fun _ _ _ _ _ => dts_nil) (fun _ _ _ _ _ => (de_calC c__law_take (hr.mono (by decide)) takes0' (da_cons (de_var 0) (da_cons (de_var 3) da_nil))))) da_nil)))
    (dss_one (ds_if (dt_cmp (dop_notin hu5) (de_var 6) (de_var 4) (by with_unfolding_all rfl)) (dss_one (ds_expr (de_bm ty_lst PySem.F.plainAttrs_list PySem.F.slot_list_append PySem.F.type_list_append dm_append (de_var 4) (da_cons (de_var 6) da_nil)))) dss_nil))))
    (dss_one (ds_ret (de_callTy dc_tuple (by rfl) B.tuple_ (by decide +kernel) (da_cons (de_callB (dc_sorted hu) (by rfl) B.sorted_ (by decide +kernel) (da_cons (de_var 4) da_nil)) da_nil))))))
theorem ok_law_rows {f : Addr} {fd : FuncData} (F : Fun K "_law_rows" "_law_rows" s_law_rows f fd) (b : Binds K fd p_law_rows []) (g : mg "_law_rows" = some (.ref f)) (B : Blt mg) (T : Tops K mg) (Z : Errs K mg C_RowError C_WalkError C_HallError) (O : Ocl K C_Trie C_Walker) (c__law_take : Cal P w K mg base 1 "_law_take" p_law_take sp_law_take) : Cal P w K mg base 2 "_law_rows" p_law_rows sp_law_rows :=
  ⟨f, fd, fn_law_rows F b g B T Z O c__law_take, F.kp, b, g⟩
theorem sc_law_move : FnScope n_law_move p_law_move (defScope s_law_move) := ⟨rfl, rfl, rfl, by decide +kernel, rfl, by decide +kernel, by decide +kernel⟩
theorem fn_law_move {f : Addr} {fd : FuncData} (F : Fun K "_law_move" "_law_move" s_law_move f fd) (b : Binds K fd p_law_move []) (g : mg "_law_move" = some (.ref f)) (B : Blt mg) (T : Tops K mg) (Z : Errs K mg C_RowError C_WalkError C_HallError) (O : Ocl K C_Trie C_Walker) (c__law_children : Cal P w K mg base 1 "_law_children" p_law_children sp_law_children) : DFn P w K mg base 2 f fd p_law_move sp_law_move := by
  refine okD (N := n_law_move) (t := t_law_move) F sc_law_move len_law_move (fun cdv A outer s H E hr tk hp => ?_) r_law_move
  have nd := sc_law_move.nd
  have hu := hr.units
  have hu5 := room5 hr
  have hu1 := L2.hu_of hr
  exact (dss_cons (ds_asg (de_var 1) (dg_tup rfl (dgs_cons (dg_name (i := 4) nd) gm_name (dgs_cons (dg_name (i := 5) nd) gm_name (dgs_cons (dg_name (i := 6) nd) gm_name dgs_nil gm_nil) (gm_cons gm_name gm_nil)) (gm_cons gm_name (gm_cons gm_name gm_nil)))))
    (dss_cons (ds_set (i := 7) nd (de_and (de_cmp (dop_gt hu) (de_callB dc_len (by rfl) B.len_ (by decide +kernel) (da_cons (de_var 5) da_nil)) de_int (nomark _)) (de_one (de_cmp (dop_ge hu) (de_ix (de_var 6) (de_un dun_neg de_int) (fun _ _ => rfl)) (de_callB dc_len (by rfl) B.len_ (by decide +kernel) (da_cons (de_ix (de_var 5) (de_un dun_neg de_int) (fun _ _ => rfl)) da_nil)) (nomark _)))))
    (dss_cons (ds_if (dt_cmp (dop_eq hu) (de_var 2) de_str (nomark _)) (dss_one (ds_ret (de_if (dt_cmp (dop_eq hu) (de_callB dc_len (by rfl) B.len_ (by decide +kernel) (da_cons (de_var 5) da_nil)) de_int (nomark _)) de_non (de_tup (da_cons (de_slice (de_var 4) do_none (do_some (de_un dun_neg de_int))) (da_cons (de_slice (de_var 5) do_none (do_some (de_un dun_neg de_int))) (da_cons (de_slice (de_var 6) do_none (do_some (de_un dun_neg de_int))) da_nil))))))) dss_nil)
    (dss_cons (ds_if (dt_cmp (dop_eq hu) (de_var 2) de_str (nomark _)) (dss_cons (ds_set (i := 8) nd (de_if (DW.dt (dw_or (dt_cmp (dop_eq hu) (de_callB dc_len (by rfl) B.len_ (by decide +kernel) (da_cons (de_var 5) da_nil)) de_int (nomark _)) (dw_or1 (dt_tru (de_var 7) (fun _ => rfl))))) (de_var 4) (de_op dop_add (de_var 4) (de_tup (da_cons (de_ix (de_ix (de_var 5) (de_un dun_neg de_int) (fun _ _ => rfl)) (de_ix (de_var 6) (de_un dun_neg de_int) (fun _ _ => rfl)) (fun _ _ => rfl)) da_nil)))))
    (dss_cons (ds_set (i := 9) nd (de_calC c__law_children (hr.mono (by decide)) tk (da_cons (de_var 0) (da_cons (de_var 8) da_nil))))
    (dss_one (ds_ret (de_if (DW.dt (dw_or (dt_tru (de_var 7) (fun _ => rfl)) (dw_or1 (dt_cmp (dop_eq hu) (de_callB dc_len (by rfl) B.len_ (by decide +kernel) (da_cons (de_var 9) da_nil)) de_int (nomark _))))) de_non (de_tup (da_cons (de_var 8) (da_cons (de_op dop_add (de_var 5) (de_lst (da_cons (de_var 9) da_nil))) (da_cons (de_op dop_add (de_var 6) (de_lst (da_cons de_int da_nil))) da_nil))))))))) dss_nil)
    (dss_cons (ds_if (DW.dt (dw_or (dt_cmp (dop_eq hu) (de_callB dc_len (by rfl) B.len_ (by decide +kernel) (da_cons (de_var 5) da_nil)) de_int (nomark _)) (dw_or1 (dt_tru (de_var 7) (fun _ => rfl))))) (dss_one (ds_ret de_non)) dss_nil)
    (dss_cons (ds_if (dt_cmp (dop_eq hu) (de_var 2) de_str (nomark _)) (dss_one (ds_ret (de_tup (da_cons (de_var 4) (da_cons (de_var 5) (da_cons (de_op dop_add (de_slice (de_var 6) do_none (do_some (de_un dun_neg de_int))) (de_lst (da_cons (de_op dop_add (de_ix (de_var 6) (de_un dun_neg de_int) (fun _ _ => rfl)) de_int) da_nil))) da_nil)))))) dss_nil)
    (dss_cons (ds_set (i := 10) nd (de_op dop_add (de_ix (de_var 6) (de_un dun_neg de_int) (fun _ _ => rfl)) (de_callB dc_len (by rfl) B.len_ (by decide +kernel) (da_cons (de_lc finD_at rfl nd (vs := [11]) (di_seq (de_slice (de_ix (de_var 5) (de_un dun_neg de_int) (fun _ _ => rfl)) (do_some (de_ix (de_var 6) (de_un dun_neg de_int) (fun _ _ => rfl))) do_none)) (blkOk_by (own := [("c", 11)]) (N := n_law_move) (sc := defScope s_law_move) (by decide +kernel)) (fun _ _ _ _ _ => (dg_name (i := 11) nd)) (by decide) (fun _ _ _ _ _ => (dts_one (dt_cmp (dop_lt hu) (de_var 11) (de_var 3) (nomark _)))) (fun _ _ _ _ _ => (de_var 11))) da_nil))))
    (dss_one (ds_ret (de_tup (da_cons (de_var 4) (da_cons (de_var 5) (da_cons (de_op dop_add (de_slice (de_var 6) do_none (do_some (de_un dun_neg de_int))) (de_lst (da_cons (de_var 10) da_nil))) da_nil)))))))))))))
theorem ok_law_move {f : Addr} {fd : FuncData} (F : Fun K "_law_move" "_law_move" s_law_move f fd) (b : Binds K fd p_law_move []) (g : mg "_law_move" = some (.ref f)) (B : Blt mg) (T : Tops K mg) (Z : Errs K mg C_RowError C_WalkError C_HallError) (O : Ocl K C_Trie C_Walker) (c__law_children : Cal P w K mg base 1 "_law_children" p_law_children sp_law_children) : Cal P w K mg base 2 "_law_move" p_law_move sp_law_move :=
  ⟨f, fd, fn_law_move F b g B T Z O c__law_children, F.kp, b, g⟩
theorem sc_Walker_key : FnScope n_Walker_key p_Walker_key (defScope s_Walker_key) := ⟨rfl, rfl, rfl, by decide +kernel, rfl, by decide +kernel, by decide +kernel⟩
theorem fn_Walker_key {f : Addr} {fd : FuncData} (F : Fun K "key" "Walker.key" s_Walker_key f fd) (b : Binds K fd p_Walker_key []) (g : Meth K C_Walker "key" f) (B : Blt mg) (T : Tops K mg) (Z : Errs K mg C_RowError C_WalkError C_HallError) (O : Ocl K C_Trie C_Walker) (c_Walker_check_at_key : MetC P w K mg base 2 C_Walker "check_at_key" p_Walker_check_at_key (sp_Walker_check_at_key C_Walker C_WalkError)) : DFn P w K mg base 3 f fd p_Walker_key (sp_Walker_key C_Walker C_WalkError) := by
  refine okD (N := n_Walker_key) (t := t_Walker_key C_WalkError C_Walker) F sc_Walker_key len_Walker_key (fun cdv A outer s H E hr tk hp => ?_) r_Walker_key
  have nd := sc_Walker_key.nd
  have hu := hr.units
  have hu5 := room5 hr
  have hu1 := L2.hu_of hr
  exact (dss_cons (ds_expr (de_meth0 O.cl_Walker c_Walker_check_at_key (hr.mono (by decide)) tk (de_var 0)))
    (dss_one (ds_ret (de_ix (de_ix (de_fld O.cl_Walker O.na_Walker_rows (de_var 0)) (de_un dun_neg de_int) (fun _ _ => rfl)) (de_ix (de_fld O.cl_Walker O.na_Walker_places (de_var 0)) (de_un dun_neg de_int) (fun _ _ => rfl)) (fun _ _ => rfl)))))
theorem ok_Walker_key {f : Addr} {fd : FuncData} (F : Fun K "key" "Walker.key" s_Walker_key f fd) (b : Binds K fd p_Walker_key []) (g : Meth K C_Walker "key" f) (B : Blt mg) (T : Tops K mg) (Z : Errs K mg C_RowError C_WalkError C_HallError) (O : Ocl K C_Trie C_Walker) (c_Walker_check_at_key : MetC P w K mg base 2 C_Walker "check_at_key" p_Walker_check_at_key (sp_Walker_check_at_key C_Walker C_WalkError)) : MetC P w K mg base 3 C_Walker "key" p_Walker_key (sp_Walker_key C_Walker C_WalkError) :=
  ⟨f, fd, fn_Walker_key F b g B T Z O c_Walker_check_at_key, g, b⟩
theorem sc_Walker_next : FnScope n_Walker_next p_Walker_next (defScope s_Walker_next) := ⟨rfl, rfl, rfl, by decide +kernel, rfl, by decide +kernel, by decide +kernel⟩
theorem fn_Walker_next {f : Addr} {fd : FuncData} (F : Fun K "next" "Walker.next" s_Walker_next f fd) (b : Binds K fd p_Walker_next []) (g : Meth K C_Walker "next" f) (B : Blt mg) (T : Tops K mg) (Z : Errs K mg C_RowError C_WalkError C_HallError) (O : Ocl K C_Trie C_Walker) (c_Walker_check_at_key : MetC P w K mg base 2 C_Walker "check_at_key" p_Walker_check_at_key (sp_Walker_check_at_key C_Walker C_WalkError)) : DFn P w K mg base 3 f fd p_Walker_next (sp_Walker_next C_Walker C_WalkError) := by
  refine okD (N := n_Walker_next) (t := t_Walker_next C_WalkError C_Walker) F sc_Walker_next len_Walker_next (fun cdv A outer s H E hr tk hp => ?_) r_Walker_next
  have nd := sc_Walker_next.nd
  have hu := hr.units
  have hu5 := room5 hr
  have hu1 := L2.hu_of hr
  exact (dss_cons (ds_expr (de_meth0 O.cl_Walker c_Walker_check_at_key (hr.mono (by decide)) tk (de_var 0)))
    (dss_cons (ds_asg (de_op dop_add (de_ix (de_fld O.cl_Walker O.na_Walker_places (de_var 0)) (de_un dun_neg de_int) (fun _ _ => rfl)) de_int) (dg_setL (de_fld O.cl_Walker O.na_Walker_places (de_var 0)) (de_un dun_neg de_int)))
    (dss_one (ds_fld O.cl_Walker O.na_Walker_made (de_var 0) (de_op dop_add (de_fld O.cl_Walker O.na_Walker_made (de_var 0)) de_int)))))
theorem ok_Walker_next {f : Addr} {fd : FuncData} (F : Fun K "next" "Walker.next" s_Walker_next f fd) (b : Binds K fd p_Walker_next []) (g : Meth K C_Walker "next" f) (B : Blt mg) (T : Tops K mg) (Z : Errs K mg C_RowError C_WalkError C_HallError) (O : Ocl K C_Trie C_Walker) (c_Walker_check_at_key : MetC P w K mg base 2 C_Walker "check_at_key" p_Walker_check_at_key (sp_Walker_check_at_key C_Walker C_WalkError)) : MetC P w K mg base 3 C_Walker "next" p_Walker_next (sp_Walker_next C_Walker C_WalkError) :=
  ⟨f, fd, fn_Walker_next F b g B T Z O c_Walker_check_at_key, g, b⟩
theorem sc_Walker_seek : FnScope n_Walker_seek p_Walker_seek (defScope s_Walker_seek) := ⟨rfl, rfl, rfl, by decide +kernel, rfl, by decide +kernel, by decide +kernel⟩
theorem fn_Walker_seek {f : Addr} {fd : FuncData} (F : Fun K "seek" "Walker.seek" s_Walker_seek f fd) (b : Binds K fd p_Walker_seek []) (g : Meth K C_Walker "seek" f) (B : Blt mg) (T : Tops K mg) (Z : Errs K mg C_RowError C_WalkError C_HallError) (O : Ocl K C_Trie C_Walker) (c_Walker_check_at_key : MetC P w K mg base 2 C_Walker "check_at_key" p_Walker_check_at_key (sp_Walker_check_at_key C_Walker C_WalkError)) (c_place_from : Cal P w K mg base 1 "place_from" p_place_from sp_place_from) : DFn P w K mg base 3 f fd p_Walker_seek (sp_Walker_seek C_Walker C_WalkError) := by
  refine okD (N := n_Walker_seek) (t := t_Walker_seek C_WalkError C_Walker) F sc_Walker_seek len_Walker_seek (fun cdv A outer s H E hr tk hp => ?_) r_Walker_seek
  have nd := sc_Walker_seek.nd
  have hu := hr.units
  have hu5 := room5 hr
  have hu1 := L2.hu_of hr
  exact (dss_cons (ds_expr (de_meth0 O.cl_Walker c_Walker_check_at_key (hr.mono (by decide)) tk (de_var 0)))
    (dss_cons (ds_asg (de_calC c_place_from (hr.mono (by decide)) tk (da_cons (de_ix (de_fld O.cl_Walker O.na_Walker_rows (de_var 0)) (de_un dun_neg de_int) (fun _ _ => rfl)) (da_cons (de_ix (de_fld O.cl_Walker O.na_Walker_places (de_var 0)) (de_un dun_neg de_int) (fun _ _ => rfl)) (da_cons (de_var 1) da_nil)))) (dg_setL (de_fld O.cl_Walker O.na_Walker_places (de_var 0)) (de_un dun_neg de_int)))
    (dss_one (ds_fld O.cl_Walker O.na_Walker_made (de_var 0) (de_op dop_add (de_fld O.cl_Walker O.na_Walker_made (de_var 0)) de_int)))))
theorem ok_Walker_seek {f : Addr} {fd : FuncData} (F : Fun K "seek" "Walker.seek" s_Walker_seek f fd) (b : Binds K fd p_Walker_seek []) (g : Meth K C_Walker "seek" f) (B : Blt mg) (T : Tops K mg) (Z : Errs K mg C_RowError C_WalkError C_HallError) (O : Ocl K C_Trie C_Walker) (c_Walker_check_at_key : MetC P w K mg base 2 C_Walker "check_at_key" p_Walker_check_at_key (sp_Walker_check_at_key C_Walker C_WalkError)) (c_place_from : Cal P w K mg base 1 "place_from" p_place_from sp_place_from) : MetC P w K mg base 3 C_Walker "seek" p_Walker_seek (sp_Walker_seek C_Walker C_WalkError) :=
  ⟨f, fd, fn_Walker_seek F b g B T Z O c_Walker_check_at_key c_place_from, g, b⟩
theorem sc_Walker_down : FnScope n_Walker_down p_Walker_down (defScope s_Walker_down) := ⟨rfl, rfl, rfl, by decide +kernel, rfl, by decide +kernel, by decide +kernel⟩
theorem fn_Walker_down {f : Addr} {fd : FuncData} (F : Fun K "down" "Walker.down" s_Walker_down f fd) (b : Binds K fd p_Walker_down []) (g : Meth K C_Walker "down" f) (B : Blt mg) (T : Tops K mg) (Z : Errs K mg C_RowError C_WalkError C_HallError) (O : Ocl K C_Trie C_Walker) (c_Walker_at_end : MetC P w K mg base 1 C_Walker "at_end" p_Walker_at_end (sp_Walker_at_end C_Walker)) (c_Walker_key : MetC P w K mg base 3 C_Walker "key" p_Walker_key (sp_Walker_key C_Walker C_WalkError)) (c_Trie_children : MetC P w K mg base 2 C_Trie "children" p_Trie_children (sp_Trie_children C_Trie)) : DFn P w K mg base 4 f fd p_Walker_down (sp_Walker_down C_Walker C_Trie C_WalkError) := by
  refine okD (N := n_Walker_down) (t := t_Walker_down C_WalkError C_Trie C_Walker) F sc_Walker_down len_Walker_down (fun cdv A outer s H E hr tk hp => ?_) r_Walker_down
  have nd := sc_Walker_down.nd
  have hu := hr.units
  have hu5 := room5 hr
  have hu1 := L2.hu_of hr
  exact (dss_cons (ds_if (dt_tru (de_meth0 O.cl_Walker c_Walker_at_end (hr.mono (by decide)) tk (de_var 0)) (fun _ => rfl)) (dss_one (ds_raise Z.e_WalkError rfl tk)) dss_nil)
    (dss_cons (ds_set (i := 1) nd (de_fld O.cl_Walker O.na_Walker_prefix (de_var 0)))
    (dss_cons (ds_if (dt_cmp (dop_gt hu) (de_callB dc_len (by rfl) B.len_ (by decide +kernel) (da_cons (de_fld O.cl_Walker O.na_Walker_rows (de_var 0)) da_nil)) de_int (nomark _)) (dss_one (ds_set (i := 1) nd (de_op dop_add (de_var 1) (de_tup (da_cons (de_meth0 O.cl_Walker c_Walker_key (hr.mono (by decide)) tk (de_var 0)) da_nil))))) dss_nil)
    (dss_cons (ds_set (i := 2) nd (de_meth O.cl_Trie c_Trie_children (hr.mono (by decide)) tk (de_fld O.cl_Walker O.na_Walker_trie (de_var 0)) (da_cons (de_var 1) da_nil)))
    (dss_cons (ds_if (dt_cmp (dop_eq hu) (de_callB dc_len (by rfl) B.len_ (by decide +kernel) (da_cons (de_var 2) da_nil)) de_int (nomark _)) (dss_one (ds_raise Z.e_WalkError rfl tk)) dss_nil)
    (dss_cons (ds_fld O.cl_Walker O.na_Walker_prefix (de_var 0) (de_var 1))
    (dss_cons (ds_expr (de_bm ty_lst PySem.F.plainAttrs_list PySem.F.slot_list_append PySem.F.type_list_append dm_append (de_fld O.cl_Walker O.na_Walker_rows (de_var 0)) (da_cons (de_var 2) da_nil)))
    (dss_cons (ds_expr (de_bm ty_lst PySem.F.plainAttrs_list PySem.F.slot_list_append PySem.F.type_list_append dm_append (de_fld O.cl_Walker O.na_Walker_places (de_var 0)) (da_cons de_int da_nil)))
    (dss_one (ds_fld O.cl_Walker O.na_Walker_made (de_var 0) (de_op dop_add (de_fld O.cl_Walker O.na_Walker_made (de_var 0)) de_int)))))))))))
theorem ok_Walker_down {f : Addr} {fd : FuncData} (F : Fun K "down" "Walker.down" s_Walker_down f fd) (b : Binds K fd p_Walker_down []) (g : Meth K C_Walker "down" f) (B : Blt mg) (T : Tops K mg) (Z : Errs K mg C_RowError C_WalkError C_HallError) (O : Ocl K C_Trie C_Walker) (c_Walker_at_end : MetC P w K mg base 1 C_Walker "at_end" p_Walker_at_end (sp_Walker_at_end C_Walker)) (c_Walker_key : MetC P w K mg base 3 C_Walker "key" p_Walker_key (sp_Walker_key C_Walker C_WalkError)) (c_Trie_children : MetC P w K mg base 2 C_Trie "children" p_Trie_children (sp_Trie_children C_Trie)) : MetC P w K mg base 4 C_Walker "down" p_Walker_down (sp_Walker_down C_Walker C_Trie C_WalkError) :=
  ⟨f, fd, fn_Walker_down F b g B T Z O c_Walker_at_end c_Walker_key c_Trie_children, g, b⟩
theorem sc_law_told : FnScope n_law_told p_law_told (defScope s_law_told) := ⟨rfl, rfl, rfl, by decide +kernel, rfl, by decide +kernel, by decide +kernel⟩
theorem fn_law_told {f : Addr} {fd : FuncData} (F : Fun K "_law_told" "_law_told" s_law_told f fd) (b : Binds K fd p_law_told []) (g : mg "_law_told" = some (.ref f)) (B : Blt mg) (T : Tops K mg) (Z : Errs K mg C_RowError C_WalkError C_HallError) (O : Ocl K C_Trie C_Walker) (c_Walker_down : MetC P w K mg base 4 C_Walker "down" p_Walker_down (sp_Walker_down C_Walker C_Trie C_WalkError)) (c_Walker_up : MetC P w K mg base 1 C_Walker "up" p_Walker_up (sp_Walker_up C_Walker C_WalkError)) (c_Walker_next : MetC P w K mg base 3 C_Walker "next" p_Walker_next (sp_Walker_next C_Walker C_WalkError)) (c_Walker_seek : MetC P w K mg base 3 C_Walker "seek" p_Walker_seek (sp_Walker_seek C_Walker C_WalkError)) (c_Walker_key : MetC P w K mg base 3 C_Walker "key" p_Walker_key (sp_Walker_key C_Walker C_WalkError)) : DFn P w K mg base 5 f fd p_law_told (sp_law_told C_Walker C_Trie) := by
  refine okD (N := n_law_told) (t := t_law_told C_RowError C_WalkError C_HallError C_Trie C_Walker) F sc_law_told len_law_told (fun cdv A outer s H E hr tk hp => ?_) r_law_told
  have nd := sc_law_told.nd
  have hu := hr.units
  have hu5 := room5 hr
  have hu1 := L2.hu_of hr
  exact (dss_cons (ds_try (ml := (ml_WalkError C_RowError C_WalkError C_HallError)) ⟨rfl, by decide, .inl Z.e_WalkError.mg⟩ tk Z.ml_WalkError (fun _ _ _ tk hp => (dss_one (ds_if (dt_cmp (dop_eq hu) (de_var 1) de_str (nomark _)) (dss_one (ds_set (i := 3) nd (de_meth0 O.cl_Walker c_Walker_down (hr.mono (by decide)) tk (de_var 0)))) (dss_one (ds_if (dt_cmp (dop_eq hu) (de_var 1) de_str (nomark _)) (dss_one (ds_set (i := 3) nd (de_meth0 O.cl_Walker c_Walker_up (hr.mono (by decide)) tk (de_var 0)))) (dss_one (ds_if (dt_cmp (dop_eq hu) (de_var 1) de_str (nomark _)) (dss_one (ds_set (i := 3) nd (de_meth0 O.cl_Walker c_Walker_next (hr.mono (by decide)) tk (de_var 0)))) (dss_one (ds_if (dt_cmp (dop_eq hu) (de_var 1) de_str (nomark _)) (dss_one (ds_set (i := 3) nd (de_meth O.cl_Walker c_Walker_seek (hr.mono (by decide)) tk (de_var 0) (da_cons (de_var 2) da_nil)))) (dss_one (ds_set (i := 3) nd (de_meth0 O.cl_Walker c_Walker_key (hr.mono (by decide)) tk (de_var 0))))))))))))) (dsu_plain fun _ _ _ => (dss_one (ds_ret de_str))))
    (dss_one (ds_ret (de_var 3))))
theorem ok_law_told {f : Addr} {fd : FuncData} (F : Fun K "_law_told" "_law_told" s_law_told f fd) (b : Binds K fd p_law_told []) (g : mg "_law_told" = some (.ref f)) (B : Blt mg) (T : Tops K mg) (Z : Errs K mg C_RowError C_WalkError C_HallError) (O : Ocl K C_Trie C_Walker) (c_Walker_down : MetC P w K mg base 4 C_Walker "down" p_Walker_down (sp_Walker_down C_Walker C_Trie C_WalkError)) (c_Walker_up : MetC P w K mg base 1 C_Walker "up" p_Walker_up (sp_Walker_up C_Walker C_WalkError)) (c_Walker_next : MetC P w K mg base 3 C_Walker "next" p_Walker_next (sp_Walker_next C_Walker C_WalkError)) (c_Walker_seek : MetC P w K mg base 3 C_Walker "seek" p_Walker_seek (sp_Walker_seek C_Walker C_WalkError)) (c_Walker_key : MetC P w K mg base 3 C_Walker "key" p_Walker_key (sp_Walker_key C_Walker C_WalkError)) : Cal P w K mg base 5 "_law_told" p_law_told (sp_law_told C_Walker C_Trie) :=
  ⟨f, fd, fn_law_told F b g B T Z O c_Walker_down c_Walker_up c_Walker_next c_Walker_seek c_Walker_key, F.kp, b, g⟩
theorem sc_law : FnScope n_law p_law (defScope s_law) := ⟨rfl, rfl, rfl, by decide +kernel, rfl, by decide +kernel, by decide +kernel⟩
theorem fn_law {f : Addr} {fd : FuncData} (F : Fun K "law" "law" s_law f fd) (b : Binds K fd p_law []) (g : mg "law" = some (.ref f)) (B : Blt mg) (T : Tops K mg) (Z : Errs K mg C_RowError C_WalkError C_HallError) (O : Ocl K C_Trie C_Walker) (c__law_begin : Cal P w K mg base 1 "_law_begin" p_law_begin sp_law_begin) (c__law_take : Cal P w K mg base 1 "_law_take" p_law_take sp_law_take) (c__law_rows : Cal P w K mg base 2 "_law_rows" p_law_rows sp_law_rows) (c_Walker___init__ : MakC P w K mg base 1 C_Walker "Walker" p_Walker___init__ (sp_Walker___init__ C_Walker)) (c_Trie___init__ : MakC P w K mg base 2 C_Trie "Trie" p_Trie___init__ (sp_Trie___init__ C_Trie C_RowError)) (c__law_move : Cal P w K mg base 2 "_law_move" p_law_move sp_law_move) (c__law_told : Cal P w K mg base 5 "_law_told" p_law_told (sp_law_told C_Walker C_Trie)) (c_Walker_level : MetC P w K mg base 1 C_Walker "level" p_Walker_level (sp_Walker_level C_Walker)) (c_Walker_at_end : MetC P w K mg base 1 C_Walker "at_end" p_Walker_at_end (sp_Walker_at_end C_Walker)) (c_Walker_moves : MetC P w K mg base 1 C_Walker "moves" p_Walker_moves (sp_Walker_moves C_Walker)) : DFn P w K mg base 6 f fd p_law sp_law := by
  refine okD (N := n_law) (t := t_law C_RowError C_Trie C_Walker) F sc_law len_law (fun cdv A outer s H E hr tk hp => ?_) r_law
  have nd := sc_law.nd
  have hu := hr.units
  have hu5 := room5 hr
  have hu1 := L2.hu_of hr
  exact (dss_cons (ds_set (i := 1) nd (de_calC c__law_begin (hr.mono (by decide)) tk (da_cons (de_var 0) da_nil)))
    (dss_cons (ds_set (i := 2) nd (de_op dop_add de_int (de_calC c__law_take (hr.mono (by decide)) tk (da_cons (de_var 1) (da_cons de_int da_nil)))))
    (dss_cons (ds_set (i := 3) nd (de_calC c__law_rows (hr.mono (by decide)) tk (da_cons (de_var 1) (da_cons (de_var 2) (da_cons (de_ix (de_tup (da_cons de_int (da_cons de_int da_nil))) (de_calC c__law_take (hr.mono (by decide)) tk (da_cons (de_var 1) (da_cons de_int da_nil))) (fun _ _ => rfl)) (da_cons (de_ix (de_tup (da_cons de_int (da_cons de_int da_nil))) (de_calC c__law_take (hr.mono (by decide)) tk (da_cons (de_var 1) (da_cons de_int da_nil))) (fun _ _ => rfl)) da_nil))))))
    (dss_cons (ds_set (i := 4) nd (de_make c_Walker___init__ (hr.mono (by decide)) tk (da_cons (de_make c_Trie___init__ (hr.mono (by decide)) tk (da_cons (de_var 3) (da_cons (de_tupRg rfl B.tuple_ (dr_1 B.range_ (de_var 2))) da_nil))) da_nil)))
    (dss_cons (ds_set (i := 5) nd (de_tup (da_cons (de_tup da_nil) (da_cons (de_lst da_nil) (da_cons (de_lst da_nil) da_nil)))))
    (dss_cons (ds_set (i := 6) nd de_int)
    (dss_cons (ds_for hp rfl (di_range1 B.range_ (da_cons de_int da_nil)) (dg_name (i := 7) nd) (dss_cons (ds_set (i := 8) nd (de_ix (de_tup (da_cons de_str (da_cons de_str (da_cons de_str (da_cons de_str (da_cons de_str (da_cons de_str da_nil))))))) (de_calC c__law_take (hr.mono (by decide)) tk (da_cons (de_var 1) (da_cons de_int da_nil))) (fun _ _ => rfl)))
    (dss_cons (ds_set (i := 9) nd (de_calC c__law_take (hr.mono (by decide)) tk (da_cons (de_var 1) (da_cons de_int da_nil))))
    (dss_cons (ds_set (i := 10) nd (de_calC c__law_move (hr.mono (by decide)) tk (da_cons (de_var 3) (da_cons (de_var 5) (da_cons (de_var 8) (da_cons (de_var 9) da_nil))))))
    (dss_cons (ds_set (i := 11) nd (de_calC c__law_told (hr.mono (by decide)) tk (da_cons (de_var 4) (da_cons (de_var 8) (da_cons (de_var 9) da_nil)))))
    (dss_cons (ds_if (dt_cmp dop_is (de_var 10) de_non (nomark _)) (dss_one (ds_if (dt_cmp (dop_ne hu) (de_var 11) de_str (nomark _)) (dss_one (ds_ret de_bl)) dss_nil)) (dss_cons (ds_if (dt_cmp dop_isnot (de_var 11) de_non (nomark _)) (dss_one (ds_ret de_bl)) dss_nil)
    (dss_cons (ds_set (i := 5) nd (de_var 10))
    (dss_one (ds_set (i := 6) nd (de_op dop_add (de_var 6) (de_if (dt_cmp (dop_eq hu) (de_var 8) de_str (nomark _)) de_int de_int)))))))
    (dss_cons (ds_asg (de_var 5) (dg_tup rfl (dgs_cons (dg_name (i := 12) nd) gm_name (dgs_cons (dg_name (i := 13) nd) gm_name (dgs_cons (dg_name (i := 14) nd) gm_name dgs_nil gm_nil) (gm_cons gm_name gm_nil)) (gm_cons gm_name (gm_cons gm_name gm_nil)))))
    (dss_cons (ds_set (i := 15) nd (de_and (de_cmp (dop_gt hu) (de_callB dc_len (by rfl) B.len_ (by decide +kernel) (da_cons (de_var 13) da_nil)) de_int (nomark _)) (de_one (de_cmp (dop_ge hu) (de_ix (de_var 14) (de_un dun_neg de_int) (fun _ _ => rfl)) (de_callB dc_len (by rfl) B.len_ (by decide +kernel) (da_cons (de_ix (de_var 13) (de_un dun_neg de_int) (fun _ _ => rfl)) da_nil)) (nomark _)))))
    (dss_cons (ds_set (i := 16) nd (de_if (DW.dt (dw_or (dt_cmp (dop_eq hu) (de_callB dc_len (by rfl) B.len_ (by decide +kernel) (da_cons (de_var 13) da_nil)) de_int (nomark _)) (dw_or1 (dt_tru (de_var 15) (fun _ => rfl))))) de_str (de_ix (de_ix (de_var 13) (de_un dun_neg de_int) (fun _ _ => rfl)) (de_ix (de_var 14) (de_un dun_neg de_int) (fun _ _ => rfl)) (fun _ _ => rfl))))
    (dss_one (ds_if (DW.dt (dw_or (dt_cmp (dop_ne hu) (de_meth0 O.cl_Walker c_Walker_level (hr.mono (by decide)) tk (de_var 4)) (de_callB dc_len (by rfl) B.len_ (by decide +kernel) (da_cons (de_var 13) da_nil)) (nomark _)) (dw_or (dt_cmp (dop_ne hu) (de_meth0 O.cl_Walker c_Walker_at_end (hr.mono (by decide)) tk (de_var 4)) (de_var 15) (nomark _)) (dw_or (dt_cmp (dop_ne hu) (de_meth0 O.cl_Walker c_Walker_moves (hr.mono (by decide)) tk (de_var 4)) (de_var 6) (nomark _)) (dw_or1 (dt_cmp (dop_ne hu) (de_calC c__law_told (hr.mono (by decide)) tk (da_cons (de_var 4) (da_cons de_str (da_cons de_int da_nil)))) (de_var 16) (nomark _))))))) (dss_one (ds_ret de_bl)) dss_nil)))))))))))
    (dss_one (ds_ret de_bl)))))))))
theorem ok_law {f : Addr} {fd : FuncData} (F : Fun K "law" "law" s_law f fd) (b : Binds K fd p_law []) (g : mg "law" = some (.ref f)) (B : Blt mg) (T : Tops K mg) (Z : Errs K mg C_RowError C_WalkError C_HallError) (O : Ocl K C_Trie C_Walker) (c__law_begin : Cal P w K mg base 1 "_law_begin" p_law_begin sp_law_begin) (c__law_take : Cal P w K mg base 1 "_law_take" p_law_take sp_law_take) (c__law_rows : Cal P w K mg base 2 "_law_rows" p_law_rows sp_law_rows) (c_Walker___init__ : MakC P w K mg base 1 C_Walker "Walker" p_Walker___init__ (sp_Walker___init__ C_Walker)) (c_Trie___init__ : MakC P w K mg base 2 C_Trie "Trie" p_Trie___init__ (sp_Trie___init__ C_Trie C_RowError)) (c__law_move : Cal P w K mg base 2 "_law_move" p_law_move sp_law_move) (c__law_told : Cal P w K mg base 5 "_law_told" p_law_told (sp_law_told C_Walker C_Trie)) (c_Walker_level : MetC P w K mg base 1 C_Walker "level" p_Walker_level (sp_Walker_level C_Walker)) (c_Walker_at_end : MetC P w K mg base 1 C_Walker "at_end" p_Walker_at_end (sp_Walker_at_end C_Walker)) (c_Walker_moves : MetC P w K mg base 1 C_Walker "moves" p_Walker_moves (sp_Walker_moves C_Walker)) : Cal P w K mg base 6 "law" p_law sp_law :=
  ⟨f, fd, fn_law F b g B T Z O c__law_begin c__law_take c__law_rows c_Walker___init__ c_Trie___init__ c__law_move c__law_told c_Walker_level c_Walker_at_end c_Walker_moves, F.kp, b, g⟩
end
theorem all_mk {l : PySem.W.OpenLaw} {w : World} {K : PySem.W.Frag} {h : Heap} {mg : Str → Option Value} {fa f_Trie_put f_Trie_node_at f_place_from f_Walker___init__ f_Walker_level f_Walker_moves f_Walker_at_end f_Walker_up f_law_begin f_law_take f_law_children f_Trie___init__ f_Trie_children f_Walker_check_at_key f_law_rows f_law_move f_Walker_key f_Walker_next f_Walker_seek f_Walker_down f_law_told f_law : Addr} (X : K.In h) (G : h.Ns mainGlobals mg) (hfa : mg "law" = some (.ref fa))
    {od_Trie_put an_Trie_put : Option Addr} {sl_Trie_put : Array (Option Value)} {oc_Trie_put kV_Trie_put dc_Trie_put pm_Trie_put cd_Trie_put ct_Trie_put : Value} {od_Trie_node_at an_Trie_node_at : Option Addr} {sl_Trie_node_at : Array (Option Value)} {oc_Trie_node_at kV_Trie_node_at dc_Trie_node_at pm_Trie_node_at cd_Trie_node_at ct_Trie_node_at : Value} {od_place_from an_place_from : Option Addr} {sl_place_from : Array (Option Value)} {oc_place_from kV_place_from dc_place_from pm_place_from cd_place_from ct_place_from : Value} {od_Walker___init__ an_Walker___init__ : Option Addr} {sl_Walker___init__ : Array (Option Value)} {oc_Walker___init__ kV_Walker___init__ dc_Walker___init__ pm_Walker___init__ cd_Walker___init__ ct_Walker___init__ : Value} {od_Walker_level an_Walker_level : Option Addr} {sl_Walker_level : Array (Option Value)} {oc_Walker_level kV_Walker_level dc_Walker_level pm_Walker_level cd_Walker_level ct_Walker_level : Value} {od_Walker_moves an_Walker_moves : Option Addr} {sl_Walker_moves : Array (Option Value)} {oc_Walker_moves kV_Walker_moves dc_Walker_moves pm_Walker_moves cd_Walker_moves ct_Walker_moves : Value} {od_Walker_at_end an_Walker_at_end : Option Addr} {sl_Walker_at_end : Array (Option Value)} {oc_Walker_at_end kV_Walker_at_end dc_Walker_at_end pm_Walker_at_end cd_Walker_at_end ct_Walker_at_end : Value} {od_Walker_up an_Walker_up : Option Addr} {sl_Walker_up : Array (Option Value)} {oc_Walker_up kV_Walker_up dc_Walker_up pm_Walker_up cd_Walker_up ct_Walker_up : Value} {od_law_begin an_law_begin : Option Addr} {sl_law_begin : Array (Option Value)} {oc_law_begin kV_law_begin dc_law_begin pm_law_begin cd_law_begin ct_law_begin : Value} {od_law_take an_law_take : Option Addr} {sl_law_take : Array (Option Value)} {oc_law_take kV_law_take dc_law_take pm_law_take cd_law_take ct_law_take : Value} {od_law_children an_law_children : Option Addr} {sl_law_children : Array (Option Value)} {oc_law_children kV_law_children dc_law_children pm_law_children cd_law_children ct_law_children : Value} {od_Trie___init__ an_Trie___init__ : Option Addr} {sl_Trie___init__ : Array (Option Value)} {oc_Trie___init__ kV_Trie___init__ dc_Trie___init__ pm_Trie___init__ cd_Trie___init__ ct_Trie___init__ : Value} {od_Trie_children an_Trie_children : Option Addr} {sl_Trie_children : Array (Option Value)} {oc_Trie_children kV_Trie_children dc_Trie_children pm_Trie_children cd_Trie_children ct_Trie_children : Value} {od_Walker_check_at_key an_Walker_check_at_key : Option Addr} {sl_Walker_check_at_key : Array (Option Value)} {oc_Walker_check_at_key kV_Walker_check_at_key dc_Walker_check_at_key pm_Walker_check_at_key cd_Walker_check_at_key ct_Walker_check_at_key : Value} {od_law_rows an_law_rows : Option Addr} {sl_law_rows : Array (Option Value)} {oc_law_rows kV_law_rows dc_law_rows pm_law_rows cd_law_rows ct_law_rows : Value} {od_law_move an_law_move : Option Addr} {sl_law_move : Array (Option Value)} {oc_law_move kV_law_move dc_law_move pm_law_move cd_law_move ct_law_move : Value} {od_Walker_key an_Walker_key : Option Addr} {sl_Walker_key : Array (Option Value)} {oc_Walker_key kV_Walker_key dc_Walker_key pm_Walker_key cd_Walker_key ct_Walker_key : Value} {od_Walker_next an_Walker_next : Option Addr} {sl_Walker_next : Array (Option Value)} {oc_Walker_next kV_Walker_next dc_Walker_next pm_Walker_next cd_Walker_next ct_Walker_next : Value} {od_Walker_seek an_Walker_seek : Option Addr} {sl_Walker_seek : Array (Option Value)} {oc_Walker_seek kV_Walker_seek dc_Walker_seek pm_Walker_seek cd_Walker_seek ct_Walker_seek : Value} {od_Walker_down an_Walker_down : Option Addr} {sl_Walker_down : Array (Option Value)} {oc_Walker_down kV_Walker_down dc_Walker_down pm_Walker_down cd_Walker_down ct_Walker_down : Value} {od_law_told an_law_told : Option Addr} {sl_law_told : Array (Option Value)} {oc_law_told kV_law_told dc_law_told pm_law_told cd_law_told ct_law_told : Value} {od_law an_law : Option Addr} {sl_law : Array (Option Value)} {oc_law kV_law dc_law pm_law cd_law ct_law : Value} {C_RowError : Addr} {C_WalkError : Addr} {C_HallError : Addr} {C_Trie : Addr} {C_Walker : Addr}
    (a_Trie_put : PySem.W.findIn K (.ref C_Trie) "put" = some (some (.ref f_Trie_put))) (i_Trie_put : PySem.W.isFn K (.ref f_Trie_put) = true) (l_Trie_put : K.lookup f_Trie_put = some ⟨oc_Trie_put, od_Trie_put, .func (PySem.W.fnOf "put" "Trie.put" (defArgs s_Trie_put) (defBody s_Trie_put) (defScope s_Trie_put) .none kV_Trie_put dc_Trie_put pm_Trie_put an_Trie_put cd_Trie_put ct_Trie_put), sl_Trie_put⟩) (q_Trie_put : PySem.W.codeIn K cd_Trie_put "Trie.put" = true) (k_Trie_put : PySem.W.keepIn K (.ref f_Trie_put) = true)
    (a_Trie_node_at : PySem.W.findIn K (.ref C_Trie) "node_at" = some (some (.ref f_Trie_node_at))) (i_Trie_node_at : PySem.W.isFn K (.ref f_Trie_node_at) = true) (l_Trie_node_at : K.lookup f_Trie_node_at = some ⟨oc_Trie_node_at, od_Trie_node_at, .func (PySem.W.fnOf "node_at" "Trie.node_at" (defArgs s_Trie_node_at) (defBody s_Trie_node_at) (defScope s_Trie_node_at) .none kV_Trie_node_at dc_Trie_node_at pm_Trie_node_at an_Trie_node_at cd_Trie_node_at ct_Trie_node_at), sl_Trie_node_at⟩) (q_Trie_node_at : PySem.W.codeIn K cd_Trie_node_at "Trie.node_at" = true) (k_Trie_node_at : PySem.W.keepIn K (.ref f_Trie_node_at) = true)
    (a_place_from : PySem.W.nsIn K mainGlobals "place_from" = some (some (.ref f_place_from))) (l_place_from : K.lookup f_place_from = some ⟨oc_place_from, od_place_from, .func (PySem.W.fnOf "place_from" "place_from" (defArgs s_place_from) (defBody s_place_from) (defScope s_place_from) .none kV_place_from dc_place_from pm_place_from an_place_from cd_place_from ct_place_from), sl_place_from⟩) (q_place_from : PySem.W.codeIn K cd_place_from "place_from" = true) (k_place_from : PySem.W.keepIn K (.ref f_place_from) = true)
    (a_Walker___init__ : PySem.W.findIn K (.ref C_Walker) "__init__" = some (some (.ref f_Walker___init__))) (i_Walker___init__ : PySem.W.isFn K (.ref f_Walker___init__) = true) (l_Walker___init__ : K.lookup f_Walker___init__ = some ⟨oc_Walker___init__, od_Walker___init__, .func (PySem.W.fnOf "__init__" "Walker.__init__" (defArgs s_Walker___init__) (defBody s_Walker___init__) (defScope s_Walker___init__) .none kV_Walker___init__ dc_Walker___init__ pm_Walker___init__ an_Walker___init__ cd_Walker___init__ ct_Walker___init__), sl_Walker___init__⟩) (q_Walker___init__ : PySem.W.codeIn K cd_Walker___init__ "Walker.__init__" = true) (k_Walker___init__ : PySem.W.keepIn K (.ref f_Walker___init__) = true)
    (a_Walker_level : PySem.W.findIn K (.ref C_Walker) "level" = some (some (.ref f_Walker_level))) (i_Walker_level : PySem.W.isFn K (.ref f_Walker_level) = true) (l_Walker_level : K.lookup f_Walker_level = some ⟨oc_Walker_level, od_Walker_level, .func (PySem.W.fnOf "level" "Walker.level" (defArgs s_Walker_level) (defBody s_Walker_level) (defScope s_Walker_level) .none kV_Walker_level dc_Walker_level pm_Walker_level an_Walker_level cd_Walker_level ct_Walker_level), sl_Walker_level⟩) (q_Walker_level : PySem.W.codeIn K cd_Walker_level "Walker.level" = true) (k_Walker_level : PySem.W.keepIn K (.ref f_Walker_level) = true)
    (a_Walker_moves : PySem.W.findIn K (.ref C_Walker) "moves" = some (some (.ref f_Walker_moves))) (i_Walker_moves : PySem.W.isFn K (.ref f_Walker_moves) = true) (l_Walker_moves : K.lookup f_Walker_moves = some ⟨oc_Walker_moves, od_Walker_moves, .func (PySem.W.fnOf "moves" "Walker.moves" (defArgs s_Walker_moves) (defBody s_Walker_moves) (defScope s_Walker_moves) .none kV_Walker_moves dc_Walker_moves pm_Walker_moves an_Walker_moves cd_Walker_moves ct_Walker_moves), sl_Walker_moves⟩) (q_Walker_moves : PySem.W.codeIn K cd_Walker_moves "Walker.moves" = true) (k_Walker_moves : PySem.W.keepIn K (.ref f_Walker_moves) = true)
    (a_Walker_at_end : PySem.W.findIn K (.ref C_Walker) "at_end" = some (some (.ref f_Walker_at_end))) (i_Walker_at_end : PySem.W.isFn K (.ref f_Walker_at_end) = true) (l_Walker_at_end : K.lookup f_Walker_at_end = some ⟨oc_Walker_at_end, od_Walker_at_end, .func (PySem.W.fnOf "at_end" "Walker.at_end" (defArgs s_Walker_at_end) (defBody s_Walker_at_end) (defScope s_Walker_at_end) .none kV_Walker_at_end dc_Walker_at_end pm_Walker_at_end an_Walker_at_end cd_Walker_at_end ct_Walker_at_end), sl_Walker_at_end⟩) (q_Walker_at_end : PySem.W.codeIn K cd_Walker_at_end "Walker.at_end" = true) (k_Walker_at_end : PySem.W.keepIn K (.ref f_Walker_at_end) = true)
    (a_Walker_up : PySem.W.findIn K (.ref C_Walker) "up" = some (some (.ref f_Walker_up))) (i_Walker_up : PySem.W.isFn K (.ref f_Walker_up) = true) (l_Walker_up : K.lookup f_Walker_up = some ⟨oc_Walker_up, od_Walker_up, .func (PySem.W.fnOf "up" "Walker.up" (defArgs s_Walker_up) (defBody s_Walker_up) (defScope s_Walker_up) .none kV_Walker_up dc_Walker_up pm_Walker_up an_Walker_up cd_Walker_up ct_Walker_up), sl_Walker_up⟩) (q_Walker_up : PySem.W.codeIn K cd_Walker_up "Walker.up" = true) (k_Walker_up : PySem.W.keepIn K (.ref f_Walker_up) = true)
    (a_law_begin : PySem.W.nsIn K mainGlobals "_law_begin" = some (some (.ref f_law_begin))) (l_law_begin : K.lookup f_law_begin = some ⟨oc_law_begin, od_law_begin, .func (PySem.W.fnOf "_law_begin" "_law_begin" (defArgs s_law_begin) (defBody s_law_begin) (defScope s_law_begin) .none kV_law_begin dc_law_begin pm_law_begin an_law_begin cd_law_begin ct_law_begin), sl_law_begin⟩) (q_law_begin : PySem.W.codeIn K cd_law_begin "_law_begin" = true) (k_law_begin : PySem.W.keepIn K (.ref f_law_begin) = true)
    (a_law_take : PySem.W.nsIn K mainGlobals "_law_take" = some (some (.ref f_law_take))) (l_law_take : K.lookup f_law_take = some ⟨oc_law_take, od_law_take, .func (PySem.W.fnOf "_law_take" "_law_take" (defArgs s_law_take) (defBody s_law_take) (defScope s_law_take) .none kV_law_take dc_law_take pm_law_take an_law_take cd_law_take ct_law_take), sl_law_take⟩) (q_law_take : PySem.W.codeIn K cd_law_take "_law_take" = true) (k_law_take : PySem.W.keepIn K (.ref f_law_take) = true)
    (a_law_children : PySem.W.nsIn K mainGlobals "_law_children" = some (some (.ref f_law_children))) (l_law_children : K.lookup f_law_children = some ⟨oc_law_children, od_law_children, .func (PySem.W.fnOf "_law_children" "_law_children" (defArgs s_law_children) (defBody s_law_children) (defScope s_law_children) .none kV_law_children dc_law_children pm_law_children an_law_children cd_law_children ct_law_children), sl_law_children⟩) (q_law_children : PySem.W.codeIn K cd_law_children "_law_children" = true) (k_law_children : PySem.W.keepIn K (.ref f_law_children) = true)
    (a_Trie___init__ : PySem.W.findIn K (.ref C_Trie) "__init__" = some (some (.ref f_Trie___init__))) (i_Trie___init__ : PySem.W.isFn K (.ref f_Trie___init__) = true) (l_Trie___init__ : K.lookup f_Trie___init__ = some ⟨oc_Trie___init__, od_Trie___init__, .func (PySem.W.fnOf "__init__" "Trie.__init__" (defArgs s_Trie___init__) (defBody s_Trie___init__) (defScope s_Trie___init__) .none kV_Trie___init__ dc_Trie___init__ pm_Trie___init__ an_Trie___init__ cd_Trie___init__ ct_Trie___init__), sl_Trie___init__⟩) (q_Trie___init__ : PySem.W.codeIn K cd_Trie___init__ "Trie.__init__" = true) (k_Trie___init__ : PySem.W.keepIn K (.ref f_Trie___init__) = true)
    (a_Trie_children : PySem.W.findIn K (.ref C_Trie) "children" = some (some (.ref f_Trie_children))) (i_Trie_children : PySem.W.isFn K (.ref f_Trie_children) = true) (l_Trie_children : K.lookup f_Trie_children = some ⟨oc_Trie_children, od_Trie_children, .func (PySem.W.fnOf "children" "Trie.children" (defArgs s_Trie_children) (defBody s_Trie_children) (defScope s_Trie_children) .none kV_Trie_children dc_Trie_children pm_Trie_children an_Trie_children cd_Trie_children ct_Trie_children), sl_Trie_children⟩) (q_Trie_children : PySem.W.codeIn K cd_Trie_children "Trie.children" = true) (k_Trie_children : PySem.W.keepIn K (.ref f_Trie_children) = true)
    (a_Walker_check_at_key : PySem.W.findIn K (.ref C_Walker) "check_at_key" = some (some (.ref f_Walker_check_at_key))) (i_Walker_check_at_key : PySem.W.isFn K (.ref f_Walker_check_at_key) = true) (l_Walker_check_at_key : K.lookup f_Walker_check_at_key = some ⟨oc_Walker_check_at_key, od_Walker_check_at_key, .func (PySem.W.fnOf "check_at_key" "Walker.check_at_key" (defArgs s_Walker_check_at_key) (defBody s_Walker_check_at_key) (defScope s_Walker_check_at_key) .none kV_Walker_check_at_key dc_Walker_check_at_key pm_Walker_check_at_key an_Walker_check_at_key cd_Walker_check_at_key ct_Walker_check_at_key), sl_Walker_check_at_key⟩) (q_Walker_check_at_key : PySem.W.codeIn K cd_Walker_check_at_key "Walker.check_at_key" = true) (k_Walker_check_at_key : PySem.W.keepIn K (.ref f_Walker_check_at_key) = true)
    (a_law_rows : PySem.W.nsIn K mainGlobals "_law_rows" = some (some (.ref f_law_rows))) (l_law_rows : K.lookup f_law_rows = some ⟨oc_law_rows, od_law_rows, .func (PySem.W.fnOf "_law_rows" "_law_rows" (defArgs s_law_rows) (defBody s_law_rows) (defScope s_law_rows) .none kV_law_rows dc_law_rows pm_law_rows an_law_rows cd_law_rows ct_law_rows), sl_law_rows⟩) (q_law_rows : PySem.W.codeIn K cd_law_rows "_law_rows" = true) (k_law_rows : PySem.W.keepIn K (.ref f_law_rows) = true)
    (a_law_move : PySem.W.nsIn K mainGlobals "_law_move" = some (some (.ref f_law_move))) (l_law_move : K.lookup f_law_move = some ⟨oc_law_move, od_law_move, .func (PySem.W.fnOf "_law_move" "_law_move" (defArgs s_law_move) (defBody s_law_move) (defScope s_law_move) .none kV_law_move dc_law_move pm_law_move an_law_move cd_law_move ct_law_move), sl_law_move⟩) (q_law_move : PySem.W.codeIn K cd_law_move "_law_move" = true) (k_law_move : PySem.W.keepIn K (.ref f_law_move) = true)
    (a_Walker_key : PySem.W.findIn K (.ref C_Walker) "key" = some (some (.ref f_Walker_key))) (i_Walker_key : PySem.W.isFn K (.ref f_Walker_key) = true) (l_Walker_key : K.lookup f_Walker_key = some ⟨oc_Walker_key, od_Walker_key, .func (PySem.W.fnOf "key" "Walker.key" (defArgs s_Walker_key) (defBody s_Walker_key) (defScope s_Walker_key) .none kV_Walker_key dc_Walker_key pm_Walker_key an_Walker_key cd_Walker_key ct_Walker_key), sl_Walker_key⟩) (q_Walker_key : PySem.W.codeIn K cd_Walker_key "Walker.key" = true) (k_Walker_key : PySem.W.keepIn K (.ref f_Walker_key) = true)
    (a_Walker_next : PySem.W.findIn K (.ref C_Walker) "next" = some (some (.ref f_Walker_next))) (i_Walker_next : PySem.W.isFn K (.ref f_Walker_next) = true) (l_Walker_next : K.lookup f_Walker_next = some ⟨oc_Walker_next, od_Walker_next, .func (PySem.W.fnOf "next" "Walker.next" (defArgs s_Walker_next) (defBody s_Walker_next) (defScope s_Walker_next) .none kV_Walker_next dc_Walker_next pm_Walker_next an_Walker_next cd_Walker_next ct_Walker_next), sl_Walker_next⟩) (q_Walker_next : PySem.W.codeIn K cd_Walker_next "Walker.next" = true) (k_Walker_next : PySem.W.keepIn K (.ref f_Walker_next) = true)
    (a_Walker_seek : PySem.W.findIn K (.ref C_Walker) "seek" = some (some (.ref f_Walker_seek))) (i_Walker_seek : PySem.W.isFn K (.ref f_Walker_seek) = true) (l_Walker_seek : K.lookup f_Walker_seek = some ⟨oc_Walker_seek, od_Walker_seek, .func (PySem.W.fnOf "seek" "Walker.seek" (defArgs s_Walker_seek) (defBody s_Walker_seek) (defScope s_Walker_seek) .none kV_Walker_seek dc_Walker_seek pm_Walker_seek an_Walker_seek cd_Walker_seek ct_Walker_seek), sl_Walker_seek⟩) (q_Walker_seek : PySem.W.codeIn K cd_Walker_seek "Walker.seek" = true) (k_Walker_seek : PySem.W.keepIn K (.ref f_Walker_seek) = true)
    (a_Walker_down : PySem.W.findIn K (.ref C_Walker) "down" = some (some (.ref f_Walker_down))) (i_Walker_down : PySem.W.isFn K (.ref f_Walker_down) = true) (l_Walker_down : K.lookup f_Walker_down = some ⟨oc_Walker_down, od_Walker_down, .func (PySem.W.fnOf "down" "Walker.down" (defArgs s_Walker_down) (defBody s_Walker_down) (defScope s_Walker_down) .none kV_Walker_down dc_Walker_down pm_Walker_down an_Walker_down cd_Walker_down ct_Walker_down), sl_Walker_down⟩) (q_Walker_down : PySem.W.codeIn K cd_Walker_down "Walker.down" = true) (k_Walker_down : PySem.W.keepIn K (.ref f_Walker_down) = true)
    (a_law_told : PySem.W.nsIn K mainGlobals "_law_told" = some (some (.ref f_law_told))) (l_law_told : K.lookup f_law_told = some ⟨oc_law_told, od_law_told, .func (PySem.W.fnOf "_law_told" "_law_told" (defArgs s_law_told) (defBody s_law_told) (defScope s_law_told) .none kV_law_told dc_law_told pm_law_told an_law_told cd_law_told ct_law_told), sl_law_told⟩) (q_law_told : PySem.W.codeIn K cd_law_told "_law_told" = true) (k_law_told : PySem.W.keepIn K (.ref f_law_told) = true)
    (a_law : PySem.W.nsIn K mainGlobals "law" = some (some (.ref f_law))) (l_law : K.lookup f_law = some ⟨oc_law, od_law, .func (PySem.W.fnOf "law" "law" (defArgs s_law) (defBody s_law) (defScope s_law) .none kV_law dc_law pm_law an_law cd_law ct_law), sl_law⟩) (q_law : PySem.W.codeIn K cd_law "law" = true) (k_law : PySem.W.keepIn K (.ref f_law) = true)
    (z_abs : PySem.W.nsIn K mainGlobals "abs" = some none)
    (z_any : PySem.W.nsIn K mainGlobals "any" = some none)
    (z_int : PySem.W.nsIn K mainGlobals "int" = some none)
    (z_len : PySem.W.nsIn K mainGlobals "len" = some none)
    (z_list : PySem.W.nsIn K mainGlobals "list" = some none)
    (z_range : PySem.W.nsIn K mainGlobals "range" = some none)
    (z_set : PySem.W.nsIn K mainGlobals "set" = some none)
    (z_sorted : PySem.W.nsIn K mainGlobals "sorted" = some none)
    (z_tuple : PySem.W.nsIn K mainGlobals "tuple" = some none)
    (o1_Trie : PySem.W.nsIn K mainGlobals "Trie" = some (some (.ref C_Trie))) (o2_Trie : PySem.W.plainGet K C_Trie Str.empty = true) (o3_Trie : PySem.W.hasDictIn K C_Trie = true) (o4_Trie : PySem.W.plainOver K C_Trie = true) (o5_Trie : PySem.W.findIn K (.ref C_Trie) "__setattr__" = some (some (.builtin "object.__setattr__"))) (o6_Trie : PySem.W.makesIn K C_Trie = true) (o7_Trie : PySem.W.keepIn K (.ref C_Trie) = true)
    (o1_Walker : PySem.W.nsIn K mainGlobals "Walker" = some (some (.ref C_Walker))) (o2_Walker : PySem.W.plainGet K C_Walker Str.empty = true) (o3_Walker : PySem.W.hasDictIn K C_Walker = true) (o4_Walker : PySem.W.plainOver K C_Walker = true) (o5_Walker : PySem.W.findIn K (.ref C_Walker) "__setattr__" = some (some (.builtin "object.__setattr__"))) (o6_Walker : PySem.W.makesIn K C_Walker = true) (o7_Walker : PySem.W.keepIn K (.ref C_Walker) = true)
    (na_Trie_depth : PySem.W.findIn K (.ref C_Trie) "depth" = some none)
    (na_Trie_size : PySem.W.findIn K (.ref C_Trie) "size" = some none)
    (na_Trie_top : PySem.W.findIn K (.ref C_Trie) "top" = some none)
    (na_Walker_made : PySem.W.findIn K (.ref C_Walker) "made" = some none)
    (na_Walker_places : PySem.W.findIn K (.ref C_Walker) "places" = some none)
    (na_Walker_prefix : PySem.W.findIn K (.ref C_Walker) "prefix" = some none)
    (na_Walker_rows : PySem.W.findIn K (.ref C_Walker) "rows" = some none)
    (na_Walker_trie : PySem.W.findIn K (.ref C_Walker) "trie" = some none)
    (e2_RowError : PySem.W.nsIn K mainGlobals "RowError" = some (some (.ref C_RowError))) (e1_RowError : PySem.W.excIn K C_RowError [.type "ValueError", .type "Exception", .type "BaseException", .type "object"] "ValueError.__new__" = true) (e3_RowError : PySem.W.keepIn K (.ref C_RowError) = true) (e4_RowError : PySem.W.subIn K (.ref C_RowError) (.type "BaseException") = some true) (e5_RowError : PySem.W.typeIn K (.ref C_RowError) = some (.type "type")) (e6_RowError : PySem.W.hasDictIn K C_RowError = true)
    (e2_WalkError : PySem.W.nsIn K mainGlobals "WalkError" = some (some (.ref C_WalkError))) (e1_WalkError : PySem.W.excIn K C_WalkError [.type "ValueError", .type "Exception", .type "BaseException", .type "object"] "ValueError.__new__" = true) (e3_WalkError : PySem.W.keepIn K (.ref C_WalkError) = true) (e4_WalkError : PySem.W.subIn K (.ref C_WalkError) (.type "BaseException") = some true) (e5_WalkError : PySem.W.typeIn K (.ref C_WalkError) = some (.type "type")) (e6_WalkError : PySem.W.hasDictIn K C_WalkError = true)
    (e2_HallError : PySem.W.nsIn K mainGlobals "HallError" = some (some (.ref C_HallError))) (e1_HallError : PySem.W.excIn K C_HallError [.type "ValueError", .type "Exception", .type "BaseException", .type "object"] "ValueError.__new__" = true) (e3_HallError : PySem.W.keepIn K (.ref C_HallError) = true) (e4_HallError : PySem.W.subIn K (.ref C_HallError) (.type "BaseException") = some true) (e5_HallError : PySem.W.typeIn K (.ref C_HallError) = some (.type "type")) (e6_HallError : PySem.W.hasDictIn K C_HallError = true)
    (m_WalkError_RowError : PySem.W.subIn K (.ref C_RowError) (.ref C_WalkError) = some false)
    (m_WalkError_WalkError : PySem.W.subIn K (.ref C_WalkError) (.ref C_WalkError) = some true)
    (m_WalkError_HallError : PySem.W.subIn K (.ref C_HallError) (.ref C_WalkError) = some false) :
    ∃ fd : FuncData, (∀ (s : Shared) (v : Value), BindsTo s fd ⟨[v], []⟩ [("script", v)]) ∧ ∀ base : Heap, K.In base → base.Ns mainGlobals mg → FnOk l.prog w K mg base (L2.CX l.prog w) 6 fa fd ["script"] (liftSp K sp_law) := by
  have e := hfa.symm.trans (PySem.W.mg_of X G a_law)
  cases e
  have F_Trie_put := fun_mk (st := s_Trie_put) l_Trie_put q_Trie_put k_Trie_put
  have b_Trie_put := F_Trie_put.binds (ps := p_Trie_put) fun _ _ _ _ _ _ us hl => match us, hl with | [_, _], _ => rfl
  have F_Trie_node_at := fun_mk (st := s_Trie_node_at) l_Trie_node_at q_Trie_node_at k_Trie_node_at
  have b_Trie_node_at := F_Trie_node_at.binds (ps := p_Trie_node_at) fun _ _ _ _ _ _ us hl => match us, hl with | [_, _], _ => rfl
  have F_place_from := fun_mk (st := s_place_from) l_place_from q_place_from k_place_from
  have b_place_from := F_place_from.binds (ps := p_place_from) fun _ _ _ _ _ _ us hl => match us, hl with | [_, _, _], _ => rfl
  have F_Walker___init__ := fun_mk (st := s_Walker___init__) l_Walker___init__ q_Walker___init__ k_Walker___init__
  have b_Walker___init__ := F_Walker___init__.binds (ps := p_Walker___init__) fun _ _ _ _ _ _ us hl => match us, hl with | [_, _], _ => rfl
  have F_Walker_level := fun_mk (st := s_Walker_level) l_Walker_level q_Walker_level k_Walker_level
  have b_Walker_level := F_Walker_level.binds (ps := p_Walker_level) fun _ _ _ _ _ _ us hl => match us, hl with | [_], _ => rfl
  have F_Walker_moves := fun_mk (st := s_Walker_moves) l_Walker_moves q_Walker_moves k_Walker_moves
  have b_Walker_moves := F_Walker_moves.binds (ps := p_Walker_moves) fun _ _ _ _ _ _ us hl => match us, hl with | [_], _ => rfl
  have F_Walker_at_end := fun_mk (st := s_Walker_at_end) l_Walker_at_end q_Walker_at_end k_Walker_at_end
  have b_Walker_at_end := F_Walker_at_end.binds (ps := p_Walker_at_end) fun _ _ _ _ _ _ us hl => match us, hl with | [_], _ => rfl
  have F_Walker_up := fun_mk (st := s_Walker_up) l_Walker_up q_Walker_up k_Walker_up
  have b_Walker_up := F_Walker_up.binds (ps := p_Walker_up) fun _ _ _ _ _ _ us hl => match us, hl with | [_], _ => rfl
  have F_law_begin := fun_mk (st := s_law_begin) l_law_begin q_law_begin k_law_begin
  have b_law_begin := F_law_begin.binds (ps := p_law_begin) fun _ _ _ _ _ _ us hl => match us, hl with | [_], _ => rfl
  have F_law_take := fun_mk (st := s_law_take) l_law_take q_law_take k_law_take
  have b_law_take := F_law_take.binds (ps := p_law_take) fun _ _ _ _ _ _ us hl => match us, hl with | [_, _], _ => rfl
  have F_law_children := fun_mk (st := s_law_children) l_law_children q_law_children k_law_children
  have b_law_children := F_law_children.binds (ps := p_law_children) fun _ _ _ _ _ _ us hl => match us, hl with | [_, _], _ => rfl
  have F_Trie___init__ := fun_mk (st := s_Trie___init__) l_Trie___init__ q_Trie___init__ k_Trie___init__
  have b_Trie___init__ := F_Trie___init__.binds (ps := p_Trie___init__) fun _ _ _ _ _ _ us hl => match us, hl with | [_, _, _], _ => rfl
  have F_Trie_children := fun_mk (st := s_Trie_children) l_Trie_children q_Trie_children k_Trie_children
  have b_Trie_children := F_Trie_children.binds (ps := p_Trie_children) fun _ _ _ _ _ _ us hl => match us, hl with | [_, _], _ => rfl
  have F_Walker_check_at_key := fun_mk (st := s_Walker_check_at_key) l_Walker_check_at_key q_Walker_check_at_key k_Walker_check_at_key
  have b_Walker_check_at_key := F_Walker_check_at_key.binds (ps := p_Walker_check_at_key) fun _ _ _ _ _ _ us hl => match us, hl with | [_], _ => rfl
  have F_law_rows := fun_mk (st := s_law_rows) l_law_rows q_law_rows k_law_rows
  have b_law_rows := F_law_rows.binds (ps := p_law_rows) fun _ _ _ _ _ _ us hl => match us, hl with | [_, _, _, _], _ => rfl
  have F_law_move := fun_mk (st := s_law_move) l_law_move q_law_move k_law_move
  have b_law_move := F_law_move.binds (ps := p_law_move) fun _ _ _ _ _ _ us hl => match us, hl with | [_, _, _, _], _ => rfl
  have F_Walker_key := fun_mk (st := s_Walker_key) l_Walker_key q_Walker_key k_Walker_key
  have b_Walker_key := F_Walker_key.binds (ps := p_Walker_key) fun _ _ _ _ _ _ us hl => match us, hl with | [_], _ => rfl
  have F_Walker_next := fun_mk (st := s_Walker_next) l_Walker_next q_Walker_next k_Walker_next
  have b_Walker_next := F_Walker_next.binds (ps := p_Walker_next) fun _ _ _ _ _ _ us hl => match us, hl with | [_], _ => rfl
  have F_Walker_seek := fun_mk (st := s_Walker_seek) l_Walker_seek q_Walker_seek k_Walker_seek
  have b_Walker_seek := F_Walker_seek.binds (ps := p_Walker_seek) fun _ _ _ _ _ _ us hl => match us, hl with | [_, _], _ => rfl
  have F_Walker_down := fun_mk (st := s_Walker_down) l_Walker_down q_Walker_down k_Walker_down
  have b_Walker_down := F_Walker_down.binds (ps := p_Walker_down) fun _ _ _ _ _ _ us hl => match us, hl with | [_], _ => rfl
  have F_law_told := fun_mk (st := s_law_told) l_law_told q_law_told k_law_told
  have b_law_told := F_law_told.binds (ps := p_law_told) fun _ _ _ _ _ _ us hl => match us, hl with | [_, _, _], _ => rfl
  have F_law := fun_mk (st := s_law) l_law q_law k_law
  have b_law := F_law.binds (ps := p_law) fun _ _ _ _ _ _ us hl => match us, hl with | [_], _ => rfl
  have B : Blt mg := ⟨PySem.W.mg_none_of X G z_abs, PySem.W.mg_none_of X G z_any, PySem.W.mg_none_of X G z_int, PySem.W.mg_none_of X G z_len, PySem.W.mg_none_of X G z_list, PySem.W.mg_none_of X G z_range, PySem.W.mg_none_of X G z_set, PySem.W.mg_none_of X G z_sorted, PySem.W.mg_none_of X G z_tuple⟩
  have T : Tops K mg := ⟨trivial⟩
  have Z : Errs K mg C_RowError C_WalkError C_HallError := ⟨⟨e1_RowError, PySem.W.mg_of X G e2_RowError, e3_RowError, e4_RowError, e5_RowError⟩, ⟨e1_WalkError, PySem.W.mg_of X G e2_WalkError, e3_WalkError, e4_WalkError, e5_WalkError⟩, ⟨e1_HallError, PySem.W.mg_of X G e2_HallError, e3_HallError, e4_HallError, e5_HallError⟩, (allM_of ⟨PySem.W.exm_ref e4_WalkError e6_WalkError e5_WalkError m_WalkError_RowError, PySem.W.exm_ref e4_WalkError e6_WalkError e5_WalkError m_WalkError_WalkError, PySem.W.exm_ref e4_WalkError e6_WalkError e5_WalkError m_WalkError_HallError, trivial⟩)⟩
  have O : Ocl K C_Trie C_Walker := ⟨⟨o2_Trie, o3_Trie, o4_Trie, o5_Trie⟩, ⟨o2_Walker, o3_Walker, o4_Walker, o5_Walker⟩, na_Trie_depth, na_Trie_size, na_Trie_top, na_Walker_made, na_Walker_places, na_Walker_prefix, na_Walker_rows, na_Walker_trie⟩
  refine ⟨PySem.W.fnOf "law" "law" (defArgs s_law) (defBody s_law) (defScope s_law) .none kV_law dc_law pm_law an_law cd_law ct_law, fun s v => .of_eq rfl, fun base _ _ => ?_⟩
  have c_Trie_put := ok_Trie_put (P := l.prog) (w := w) (base := base) F_Trie_put b_Trie_put ⟨a_Trie_put, i_Trie_put, k_Trie_put⟩ B T Z O 
  have c_Trie_node_at := ok_Trie_node_at (P := l.prog) (w := w) (base := base) F_Trie_node_at b_Trie_node_at ⟨a_Trie_node_at, i_Trie_node_at, k_Trie_node_at⟩ B T Z O 
  have c_place_from := ok_place_from (P := l.prog) (w := w) (base := base) F_place_from b_place_from (PySem.W.mg_of X G a_place_from) B T Z O 
  have c_Walker___init__ := ok_Walker___init__ (P := l.prog) (w := w) (base := base) F_Walker___init__ b_Walker___init__ ⟨o6_Walker, a_Walker___init__, i_Walker___init__, o7_Walker⟩ (PySem.W.mg_of X G o1_Walker) B T Z O 
  have c_Walker_level := ok_Walker_level (P := l.prog) (w := w) (base := base) F_Walker_level b_Walker_level ⟨a_Walker_level, i_Walker_level, k_Walker_level⟩ B T Z O 
  have c_Walker_moves := ok_Walker_moves (P := l.prog) (w := w) (base := base) F_Walker_moves b_Walker_moves ⟨a_Walker_moves, i_Walker_moves, k_Walker_moves⟩ B T Z O 
  have c_Walker_at_end := ok_Walker_at_end (P := l.prog) (w := w) (base := base) F_Walker_at_end b_Walker_at_end ⟨a_Walker_at_end, i_Walker_at_end, k_Walker_at_end⟩ B T Z O 
  have c_Walker_up := ok_Walker_up (P := l.prog) (w := w) (base := base) F_Walker_up b_Walker_up ⟨a_Walker_up, i_Walker_up, k_Walker_up⟩ B T Z O 
  have c__law_begin := ok_law_begin (P := l.prog) (w := w) (base := base) F_law_begin b_law_begin (PySem.W.mg_of X G a_law_begin) B T Z O 
  have c__law_take := ok_law_take (P := l.prog) (w := w) (base := base) F_law_take b_law_take (PySem.W.mg_of X G a_law_take) B T Z O 
  have c__law_children := ok_law_children (P := l.prog) (w := w) (base := base) F_law_children b_law_children (PySem.W.mg_of X G a_law_children) B T Z O 
  have c_Trie___init__ := ok_Trie___init__ (P := l.prog) (w := w) (base := base) F_Trie___init__ b_Trie___init__ ⟨o6_Trie, a_Trie___init__, i_Trie___init__, o7_Trie⟩ (PySem.W.mg_of X G o1_Trie) B T Z O c_Trie_put
  have c_Trie_children := ok_Trie_children (P := l.prog) (w := w) (base := base) F_Trie_children b_Trie_children ⟨a_Trie_children, i_Trie_children, k_Trie_children⟩ B T Z O c_Trie_node_at
  have c_Walker_check_at_key := ok_Walker_check_at_key (P := l.prog) (w := w) (base := base) F_Walker_check_at_key b_Walker_check_at_key ⟨a_Walker_check_at_key, i_Walker_check_at_key, k_Walker_check_at_key⟩ B T Z O c_Walker_at_end
  have c__law_rows := ok_law_rows (P := l.prog) (w := w) (base := base) F_law_rows b_law_rows (PySem.W.mg_of X G a_law_rows) B T Z O c__law_take
  have c__law_move := ok_law_move (P := l.prog) (w := w) (base := base) F_law_move b_law_move (PySem.W.mg_of X G a_law_move) B T Z O c__law_children
  have c_Walker_key := ok_Walker_key (P := l.prog) (w := w) (base := base) F_Walker_key b_Walker_key ⟨a_Walker_key, i_Walker_key, k_Walker_key⟩ B T Z O c_Walker_check_at_key
  have c_Walker_next := ok_Walker_next (P := l.prog) (w := w) (base := base) F_Walker_next b_Walker_next ⟨a_Walker_next, i_Walker_next, k_Walker_next⟩ B T Z O c_Walker_check_at_key
  have c_Walker_seek := ok_Walker_seek (P := l.prog) (w := w) (base := base) F_Walker_seek b_Walker_seek ⟨a_Walker_seek, i_Walker_seek, k_Walker_seek⟩ B T Z O c_Walker_check_at_key c_place_from
  have c_Walker_down := ok_Walker_down (P := l.prog) (w := w) (base := base) F_Walker_down b_Walker_down ⟨a_Walker_down, i_Walker_down, k_Walker_down⟩ B T Z O c_Walker_at_end c_Walker_key c_Trie_children
  have c__law_told := ok_law_told (P := l.prog) (w := w) (base := base) F_law_told b_law_told (PySem.W.mg_of X G a_law_told) B T Z O c_Walker_down c_Walker_up c_Walker_next c_Walker_seek c_Walker_key
  exact fn_law (P := l.prog) (w := w) (base := base) F_law b_law (PySem.W.mg_of X G a_law) B T Z O c__law_begin c__law_take c__law_rows c_Walker___init__ c_Trie___init__ c__law_move c__law_told c_Walker_level c_Walker_at_end c_Walker_moves
end DL.K09
open PySem PySem.W PyProof.Rows
set_option maxHeartbeats 0 in
theorem PySem.Challenge.cw_tableguild_k09_walkers_holds : PySem.Challenge.rw_tableguild_k09_walkers.Holds := by
  w_on; o_law; k_head; (case hw => w_witness2)
  k_fill
  refine L2.walk_of (l := PySem.Challenge.rw_tableguild_k09_walkers) (n := 63) (k := 6) (x := "script") (CX := fun w => L2.CX PySem.Challenge.pw_tableguild_k09_walkers w) (sp := fun w => DL.liftSp _ DL.K09.sp_law) rfl (by decide) rfl ⟨rfl, by decide, by decide⟩ (fun w h Y => PySem.W.kIn_of Y) ?F (fun w H a ns hl ho hS => DL.law_start hS fun P PX h => DL.K09.law_in ns hl h) (fun w H s e s' h => DL.cx_false h)
  case F =>
    intro w mg fa h KX G hmg
    refine' DL.K09.all_mk KX G hmg ?a_Trie_put ?i_Trie_put ?l_Trie_put ?q_Trie_put ?k_Trie_put ?a_Trie_node_at ?i_Trie_node_at ?l_Trie_node_at ?q_Trie_node_at ?k_Trie_node_at ?a_place_from ?l_place_from ?q_place_from ?k_place_from ?a_Walker___init__ ?i_Walker___init__ ?l_Walker___init__ ?q_Walker___init__ ?k_Walker___init__ ?a_Walker_level ?i_Walker_level ?l_Walker_level ?q_Walker_level ?k_Walker_level ?a_Walker_moves ?i_Walker_moves ?l_Walker_moves ?q_Walker_moves ?k_Walker_moves ?a_Walker_at_end ?i_Walker_at_end ?l_Walker_at_end ?q_Walker_at_end ?k_Walker_at_end ?a_Walker_up ?i_Walker_up ?l_Walker_up ?q_Walker_up ?k_Walker_up ?a_law_begin ?l_law_begin ?q_law_begin ?k_law_begin ?a_law_take ?l_law_take ?q_law_take ?k_law_take ?a_law_children ?l_law_children ?q_law_children ?k_law_children ?a_Trie___init__ ?i_Trie___init__ ?l_Trie___init__ ?q_Trie___init__ ?k_Trie___init__ ?a_Trie_children ?i_Trie_children ?l_Trie_children ?q_Trie_children ?k_Trie_children ?a_Walker_check_at_key ?i_Walker_check_at_key ?l_Walker_check_at_key ?q_Walker_check_at_key ?k_Walker_check_at_key ?a_law_rows ?l_law_rows ?q_law_rows ?k_law_rows ?a_law_move ?l_law_move ?q_law_move ?k_law_move ?a_Walker_key ?i_Walker_key ?l_Walker_key ?q_Walker_key ?k_Walker_key ?a_Walker_next ?i_Walker_next ?l_Walker_next ?q_Walker_next ?k_Walker_next ?a_Walker_seek ?i_Walker_seek ?l_Walker_seek ?q_Walker_seek ?k_Walker_seek ?a_Walker_down ?i_Walker_down ?l_Walker_down ?q_Walker_down ?k_Walker_down ?a_law_told ?l_law_told ?q_law_told ?k_law_told ?a_law ?l_law ?q_law ?k_law ?z_abs ?z_any ?z_int ?z_len ?z_list ?z_range ?z_set ?z_sorted ?z_tuple ?o1_Trie ?o2_Trie ?o3_Trie ?o4_Trie ?o5_Trie ?o6_Trie ?o7_Trie ?o1_Walker ?o2_Walker ?o3_Walker ?o4_Walker ?o5_Walker ?o6_Walker ?o7_Walker ?na_Trie_depth ?na_Trie_size ?na_Trie_top ?na_Walker_made ?na_Walker_places ?na_Walker_prefix ?na_Walker_rows ?na_Walker_trie ?e2_RowError ?e1_RowError ?e3_RowError ?e4_RowError ?e5_RowError ?e6_RowError ?e2_WalkError ?e1_WalkError ?e3_WalkError ?e4_WalkError ?e5_WalkError ?e6_WalkError ?e2_HallError ?e1_HallError ?e3_HallError ?e4_HallError ?e5_HallError ?e6_HallError ?m_WalkError_RowError ?m_WalkError_WalkError ?m_WalkError_HallError
    (case o1_Trie => k_is); (case o1_Walker => k_is); (case a_Trie_put => k_is); (case i_Trie_put => k_is); (case l_Trie_put => k_is); (case q_Trie_put => k_is); (case k_Trie_put => k_is); (case a_Trie_node_at => k_is); (case i_Trie_node_at => k_is); (case l_Trie_node_at => k_is); (case q_Trie_node_at => k_is); (case k_Trie_node_at => k_is); (case a_place_from => k_is); (case l_place_from => k_is); (case q_place_from => k_is); (case k_place_from => k_is); (case a_Walker___init__ => k_is); (case i_Walker___init__ => k_is); (case l_Walker___init__ => k_is); (case q_Walker___init__ => k_is); (case k_Walker___init__ => k_is); (case a_Walker_level => k_is); (case i_Walker_level => k_is); (case l_Walker_level => k_is); (case q_Walker_level => k_is); (case k_Walker_level => k_is); (case a_Walker_moves => k_is); (case i_Walker_moves => k_is); (case l_Walker_moves => k_is); (case q_Walker_moves => k_is); (case k_Walker_moves => k_is); (case a_Walker_at_end => k_is); (case i_Walker_at_end => k_is); (case l_Walker_at_end => k_is); (case q_Walker_at_end => k_is); (case k_Walker_at_end => k_is); (case a_Walker_up => k_is); (case i_Walker_up => k_is); (case l_Walker_up => k_is); (case q_Walker_up => k_is); (case k_Walker_up => k_is); (case a_law_begin => k_is); (case l_law_begin => k_is); (case q_law_begin => k_is); (case k_law_begin => k_is); (case a_law_take => k_is); (case l_law_take => k_is); (case q_law_take => k_is); (case k_law_take => k_is); (case a_law_children => k_is); (case l_law_children => k_is); (case q_law_children => k_is); (case k_law_children => k_is); (case a_Trie___init__ => k_is); (case i_Trie___init__ => k_is); (case l_Trie___init__ => k_is); (case q_Trie___init__ => k_is); (case k_Trie___init__ => k_is); (case a_Trie_children => k_is); (case i_Trie_children => k_is); (case l_Trie_children => k_is); (case q_Trie_children => k_is); (case k_Trie_children => k_is); (case a_Walker_check_at_key => k_is); (case i_Walker_check_at_key => k_is); (case l_Walker_check_at_key => k_is); (case q_Walker_check_at_key => k_is); (case k_Walker_check_at_key => k_is); (case a_law_rows => k_is); (case l_law_rows => k_is); (case q_law_rows => k_is); (case k_law_rows => k_is); (case a_law_move => k_is); (case l_law_move => k_is); (case q_law_move => k_is); (case k_law_move => k_is); (case a_Walker_key => k_is); (case i_Walker_key => k_is); (case l_Walker_key => k_is); (case q_Walker_key => k_is); (case k_Walker_key => k_is); (case a_Walker_next => k_is); (case i_Walker_next => k_is); (case l_Walker_next => k_is); (case q_Walker_next => k_is); (case k_Walker_next => k_is); (case a_Walker_seek => k_is); (case i_Walker_seek => k_is); (case l_Walker_seek => k_is); (case q_Walker_seek => k_is); (case k_Walker_seek => k_is); (case a_Walker_down => k_is); (case i_Walker_down => k_is); (case l_Walker_down => k_is); (case q_Walker_down => k_is); (case k_Walker_down => k_is); (case a_law_told => k_is); (case l_law_told => k_is); (case q_law_told => k_is); (case k_law_told => k_is); (case a_law => k_is); (case l_law => k_is); (case q_law => k_is); (case k_law => k_is); (case z_abs => k_is); (case z_any => k_is); (case z_int => k_is); (case z_len => k_is); (case z_list => k_is); (case z_range => k_is); (case z_set => k_is); (case z_sorted => k_is); (case z_tuple => k_is); (case o2_Trie => k_is); (case o3_Trie => k_is); (case o4_Trie => k_is); (case o5_Trie => k_is); (case o6_Trie => k_is); (case o7_Trie => k_is); (case o2_Walker => k_is); (case o3_Walker => k_is); (case o4_Walker => k_is); (case o5_Walker => k_is); (case o6_Walker => k_is); (case o7_Walker => k_is); (case na_Trie_depth => k_is); (case na_Trie_size => k_is); (case na_Trie_top => k_is); (case na_Walker_made => k_is); (case na_Walker_places => k_is); (case na_Walker_prefix => k_is); (case na_Walker_rows => k_is); (case na_Walker_trie => k_is); (case e2_RowError => k_is); (case e1_RowError => k_exc); (case e3_RowError => k_is); (case e4_RowError => k_is); (case e5_RowError => k_is); (case e6_RowError => k_is); (case e2_WalkError => k_is); (case e1_WalkError => k_exc); (case e3_WalkError => k_is); (case e4_WalkError => k_is); (case e5_WalkError => k_is); (case e6_WalkError => k_is); (case e2_HallError => k_is); (case e1_HallError => k_exc); (case e3_HallError => k_is); (case e4_HallError => k_is); (case e5_HallError => k_is); (case e6_HallError => k_is); (case m_WalkError_RowError => k_is); (case m_WalkError_WalkError => k_is); (case m_WalkError_HallError => k_is)
