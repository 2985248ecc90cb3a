import PyProof.Rows.All
import Wide.All
import OpenK.AllK
import Wide.FinOn
import PyProof.ReprRoads
import HandS.ForMost
import HandS.ForExc
import HandS.Conv
import HandS.Evl
import HandS.Flow
import HandS.Style
import HandS.TupAny
import HandS.SortInts
import HandS.Strs
import HandS.IsInst
import HandS.ExcField
import HandS.ExcIs
import HandS.ExcInit
import HandS.Wide
import HandS.SetFor
import HandS.Star
import HandS.Lambda
import HandS.EndTab
import PyProof.NeKinds
import HandS.RaiseMore
import PyProof.ReprLen
import PyProof.Lay0
import HandS.EndBits
import HandS.TryMany
import HandS.TupLe
import KE.KExcIs
import Open.SpecLaws
import KE.OsGo
import HandS.ForSpec
import HandS.Zip
import HandS.SortRule
import HandS.DictComp
import HandS.Iter
import HandS.ListItems
import HandS.SortKw
import HandS.DictTup
import HandS.Defaults
import KE.KNestM
import KE.KDictSum
import HandS.ExcValue
import HandS.HotCalls
import HandS.Text
import KE.KRevSl
import KE.KTupSum
import KE.GoesMore
import KE.GoesZip
import KE.GoesEnum
import PySem.Challenge.RW_widestgap_k01_limits_and_errors
set_option Elab.async false
set_option linter.all false
set_option maxRecDepth 100000
set_option maxHeartbeats 4000000
namespace DL
open PySem PySem.Spec PyProof.Rows L2
abbrev Ex := @Evl.Ex

inductive D where
  | non | bl (b : Bool) | int (i : Int) | str (x : Str) | ty (n : String)
  | tup (xs : List D) | lst (xs : List D) | dic (ks : List (Key × D))
  | ins (C : Addr) (fs : List (Str × D))
  | obj (a : Addr)
  | scr (K : PySem.W.Frag) (ns : List Int)
  | xcp (a : Addr) (C : Addr) (d : Option Addr) (fs : List (Str × D))
  deriving Inhabited

mutual
def Fz (F : Hp) : D → V → Prop
  | .non, v => v = .non
  | .bl b, v => v = .bl b
  | .int i, v => v = .int i
  | .str x, v => v = .str x
  | .ty n, v => v = .ty n
  | .tup ds, v => ∃ a vs, v = .ref a ∧ F a = some (.tup vs) ∧ FzL F ds vs
  | .lst ds, v => ∃ a vs, v = .ref a ∧ F a = some (.lst vs) ∧ FzL F ds vs
  | .dic ks, v => ∃ a od kws, v = .ref a ∧ F a = some (.frz od (.dK kws)) ∧ FzK F ks kws
  | .ins C fs, v => ∃ a dx vs, v = .ref a ∧ F a = some (.ins C dx vs) ∧ FzS F fs vs
  | .obj a, v => v = .ref a
  | .scr K ns, v => ∃ a, v = .ref a ∧ ∀ H', Ex F H' → SqL K H' a (ns.map V.int)
  | .xcp a _ d fs, v => v = .ref a ∧ ((d = none ∧ fs = []) ∨ ∃ dd vs, d = some dd ∧ F dd = some (.xd vs) ∧ FzS F fs vs)
def FzL (F : Hp) : List D → List V → Prop
  | [], vs => vs = []
  | d :: ds, vs => ∃ v r, vs = v :: r ∧ Fz F d v ∧ FzL F ds r
def FzK (F : Hp) : List (Key × D) → List (Key × V) → Prop
  | [], vs => vs = []
  | (k, d) :: ds, vs => ∃ v r, vs = (k, v) :: r ∧ Fz F d v ∧ FzK F ds r
def FzS (F : Hp) : List (Str × D) → List (Str × V) → Prop
  | [], vs => vs = []
  | (k, d) :: ds, vs => ∃ v r, vs = (k, v) :: r ∧ Fz F d v ∧ FzS F ds r
end

mutual
theorem Fz.mono {F F' : Hp} (e : Ex F F') : ∀ {d : D} {v : V}, Fz F d v → Fz F' d v
  | .non, _, h => h
  | .bl _, _, h => h
  | .int _, _, h => h
  | .str _, _, h => h
  | .ty _, _, h => h
  | .obj _, _, h => h
  | .scr K ns, _, h => by
    unfold Fz at h ⊢
    obtain ⟨a, h1, h2⟩ := h
    exact ⟨a, h1, fun H' e' => h2 H' (e.trans e')⟩
  | .xcp a C d fs, _, h => by
    unfold Fz at h ⊢
    obtain ⟨h0, h⟩ := h
    rcases h with h | ⟨dd, vs, h1, h2, h3⟩
    · exact ⟨h0, .inl h⟩
    · exact ⟨h0, .inr ⟨dd, vs, h1, e _ _ h2, FzS.mono e h3⟩⟩
  | .tup ds, _, h => by
    unfold Fz at h ⊢
    obtain ⟨a, vs, h1, h2, h3⟩ := h
    exact ⟨a, vs, h1, e _ _ h2, FzL.mono e h3⟩
  | .lst ds, _, h => by
    unfold Fz at h ⊢
    obtain ⟨a, vs, h1, h2, h3⟩ := h
    exact ⟨a, vs, h1, e _ _ h2, FzL.mono e h3⟩
  | .dic ds, _, h => by
    unfold Fz at h ⊢
    obtain ⟨a, od, vs, h1, h2, h3⟩ := h
    exact ⟨a, od, vs, h1, e _ _ h2, FzK.mono e h3⟩
  | .ins C ds, _, h => by
    unfold Fz at h ⊢
    obtain ⟨a, dx, vs, h1, h2, h3⟩ := h
    exact ⟨a, dx, vs, h1, e _ _ h2, FzS.mono e h3⟩
theorem FzL.mono {F F' : Hp} (e : Ex F F') : ∀ {ds : List D} {vs : List V}, FzL F ds vs → FzL F' ds vs
  | [], _, h => by
    unfold FzL at h ⊢
    exact h
  | d :: ds, _, h => by
    unfold FzL at h ⊢
    obtain ⟨v, r, h1, h2, h3⟩ := h
    exact ⟨v, r, h1, Fz.mono e h2, FzL.mono e h3⟩
theorem FzK.mono {F F' : Hp} (e : Ex F F') : ∀ {ds : List (Key × D)} {vs : List (Key × V)}, FzK F ds vs → FzK F' ds vs
  | [], _, h => by
    unfold FzK at h ⊢
    exact h
  | (k, d) :: ds, _, h => by
    unfold FzK at h ⊢
    obtain ⟨v, r, h1, h2, h3⟩ := h
    exact ⟨v, r, h1, Fz.mono e h2, FzK.mono e h3⟩
theorem FzS.mono {F F' : Hp} (e : Ex F F') : ∀ {ds : List (Str × D)} {vs : List (Str × V)}, FzS F ds vs → FzS F' ds vs
  | [], _, h => by
    unfold FzS at h ⊢
    exact h
  | (k, d) :: ds, _, h => by
    unfold FzS at h ⊢
    obtain ⟨v, r, h1, h2, h3⟩ := h
    exact ⟨v, r, h1, Fz.mono e h2, FzS.mono e h3⟩
end

theorem fzl_nil {F : Hp} : FzL F [] [] := by unfold FzL; rfl
theorem fzl_cons {F : Hp} {d : D} {ds : List D} {v : V} {vs : List V} (h : Fz F d v) (hs : FzL F ds vs) : FzL F (d :: ds) (v :: vs) := by
  unfold FzL
  exact ⟨v, vs, rfl, h, hs⟩
theorem fzl_inv {F : Hp} {d : D} {ds : List D} {vs : List V} (h : FzL F (d :: ds) vs) : ∃ v r, vs = v :: r ∧ Fz F d v ∧ FzL F ds r := by
  unfold FzL at h
  exact h
theorem fzl_inv0 {F : Hp} {vs : List V} (h : FzL F [] vs) : vs = [] := by
  unfold FzL at h
  exact h
theorem FzL.length {F : Hp} : ∀ {ds : List D} {vs : List V}, FzL F ds vs → vs.length = ds.length
  | [], _, h => by
    rw [fzl_inv0 h]
    rfl
  | d :: ds, _, h => by
    obtain ⟨v, r, rfl, _, h3⟩ := fzl_inv h
    simp [FzL.length h3]
theorem FzL.append {F : Hp} {es : List D} {ws : List V} (h2 : FzL F es ws) : ∀ {ds : List D} {vs : List V}, FzL F ds vs → FzL F (ds ++ es) (vs ++ ws)
  | [], _, h => by
    rw [fzl_inv0 h]
    exact h2
  | d :: ds, _, h => by
    obtain ⟨v, r, rfl, h1, h3⟩ := fzl_inv h
    exact fzl_cons h1 (FzL.append h2 h3)
theorem FzL.get {F : Hp} : ∀ {ds : List D} {vs : List V} {i : Nat} {d : D}, FzL F ds vs → ds[i]? = some d → ∃ v, vs[i]? = some v ∧ Fz F d v
  | [], _, i, d, h, e => by simp at e
  | d :: ds, _, 0, d', h, e => by
    obtain ⟨v, r, rfl, h1, h3⟩ := fzl_inv h
    simp at e
    subst e
    exact ⟨v, by simp, h1⟩
  | d :: ds, _, i + 1, d', h, e => by
    obtain ⟨v, r, rfl, h1, h3⟩ := fzl_inv h
    obtain ⟨w, hw1, hw2⟩ := FzL.get (i := i) h3 (by simpa using e)
    exact ⟨w, by simpa using hw1, hw2⟩
theorem FzL.take {F : Hp} : ∀ (n : Nat) {ds : List D} {vs : List V}, FzL F ds vs → FzL F (ds.take n) (vs.take n)
  | 0, _, _, _ => by simpa using fzl_nil
  | n + 1, [], _, h => by
    rw [fzl_inv0 h]
    simpa using fzl_nil
  | n + 1, d :: ds, _, h => by
    obtain ⟨v, r, rfl, h1, h3⟩ := fzl_inv h
    exact fzl_cons h1 (FzL.take n h3)
theorem FzL.drop {F : Hp} : ∀ (n : Nat) {ds : List D} {vs : List V}, FzL F ds vs → FzL F (ds.drop n) (vs.drop n)
  | 0, _, _, h => by simpa using h
  | n + 1, [], _, h => by
    rw [fzl_inv0 h]
    simpa using fzl_nil
  | n + 1, d :: ds, _, h => by
    obtain ⟨v, r, rfl, h1, h3⟩ := fzl_inv h
    simpa using FzL.drop n h3
theorem fzl_ints {F : Hp} : ∀ ns : List Int, FzL F (ns.map D.int) (ns.map V.int)
  | [] => fzl_nil
  | n :: ns => fzl_cons (by unfold Fz; rfl) (fzl_ints ns)

def FzT (F : Hp) : List (List Key × D) → List (List Key × V) → Prop
  | [], vs => vs = []
  | (k, d) :: ds, vs => ∃ v r, vs = (k, v) :: r ∧ Fz F d v ∧ FzT F ds r
theorem FzT.mono {F F' : Hp} (e : Ex F F') : ∀ {ds : List (List Key × D)} {vs : List (List Key × V)}, FzT F ds vs → FzT F' ds vs
  | [], _, h => by
    unfold FzT at h ⊢
    exact h
  | (k, d) :: ds, _, h => by
    unfold FzT at h ⊢
    obtain ⟨v, r, h1, h2, h3⟩ := h
    exact ⟨v, r, h1, Fz.mono e h2, FzT.mono e h3⟩

inductive MO where
  | lst (ds : List D) | dK (ks : List (Key × D)) | ins (C : Addr) (fs : List (Str × D)) | tab (q : Str) | dT (ks : List (List Key × D)) | ex (φ : Heap → Prop) (cs : List (Addr × HO))
abbrev Mu := Addr → Option MO
def MOk (F H : Hp) (a : Addr) : MO → Prop
  | .lst ds => ∃ vs, H a = some (.lst vs) ∧ FzL F ds vs
  | .dK ks => ∃ kws, H a = some (.dK kws) ∧ FzK F ks kws
  | .ins C fs => ∃ dx vs, H a = some (.ins C dx vs) ∧ FzS F fs vs
  | .tab q => ∃ ps, H a = some (.tbl ps) ∧ TriplesOk ps.toList ∧ ∀ (pos : Pos) (cv : Value), codeAmong pos ps.toList = some cv → ∃ c, cv = .ref c ∧ F c = some (LamX.CodeO c q)
  | .dT ks => ∃ kws, H a = some (.dT kws) ∧ FzT F ks kws
  | .ex φ cs => H a = some (.ext φ) ∧ ∀ p ∈ cs, F p.1 = some p.2
theorem MOk.there {F H : Hp} {a : Addr} {o : MO} (h : MOk F H a o) : ∃ u, H a = some u := by
  cases o with
  | lst ds => obtain ⟨vs, h, _⟩ := h; exact ⟨_, h⟩
  | dK ds => obtain ⟨vs, h, _⟩ := h; exact ⟨_, h⟩
  | ins C ds => obtain ⟨dx, vs, h, _⟩ := h; exact ⟨_, h⟩
  | tab q => obtain ⟨ps, h, _⟩ := h; exact ⟨_, h⟩
  | dT ks => obtain ⟨vs, h, _⟩ := h; exact ⟨_, h⟩
  | ex φ cs => exact ⟨_, h.1⟩
theorem MOk.mono {F F' H H' : Hp} {a : Addr} {o : MO} (h : MOk F H a o) (e : Ex F F') (he : ∀ u, H a = some u → H' a = some u) : MOk F' H' a o := by
  cases o with
  | lst ds => obtain ⟨vs, h, q⟩ := h; exact ⟨_, he _ h, q.mono e⟩
  | dK ds => obtain ⟨vs, h, q⟩ := h; exact ⟨_, he _ h, q.mono e⟩
  | dT ds => obtain ⟨vs, h, q⟩ := h; exact ⟨_, he _ h, q.mono e⟩
  | ex φ cs => exact ⟨he _ h.1, fun p hp => e _ _ (h.2 p hp)⟩
  | ins C ds => obtain ⟨dx, vs, h, q⟩ := h; exact ⟨_, _, he _ h, q.mono e⟩
  | tab q =>
    obtain ⟨ps, h, t, k⟩ := h
    exact ⟨ps, he _ h, t, fun pos cv hc => by
      obtain ⟨c, e1, e2⟩ := k pos cv hc
      exact ⟨c, e1, e _ _ e2⟩⟩

theorem MOk.notup {F H : Hp} {a : Addr} {o : MO} (h : MOk F H a o) {vs : List V} (e : H a = some (.tup vs)) : False := by
  cases o with
  | lst ds => obtain ⟨us, h, _⟩ := h; rw [e] at h; cases h
  | dK ds => obtain ⟨us, h, _⟩ := h; rw [e] at h; cases h
  | ins C ds => obtain ⟨dx, us, h, _⟩ := h; rw [e] at h; cases h
  | tab q => obtain ⟨ps, h, _⟩ := h; rw [e] at h; cases h
  | dT ds => obtain ⟨us, h, _⟩ := h; rw [e] at h; cases h
  | ex φ cs => have h1 := h.1; rw [e] at h1; cases h1
structure Wd (F : Hp) (μ : Mu) (H : Hp) : Prop where
  ext : Ex F H
  mu : ∀ a o, μ a = some o → MOk F H a o ∧ F a = none
  tup : ∀ a vs, H a = some (.tup vs) → F a = some (.tup vs)
structure Grow (F : Hp) (μ : Mu) (H : Hp) (F' : Hp) (μ' : Mu) (H' : Hp) : Prop where
  fz : Ex F F'
  keep : ∀ b o, H b = some o → μ b = none → H' b = some o ∧ μ' b = none ∧ (F b = none → F' b = none)
theorem Grow.refl {F : Hp} {μ : Mu} {H : Hp} : Grow F μ H F μ H := ⟨Evl.Ex.refl _, fun b o h1 h2 => ⟨h1, h2, fun h => h⟩⟩
theorem Grow.trans {F F1 F2 : Hp} {μ μ1 μ2 : Mu} {H H1 H2 : Hp} (a : Grow F μ H F1 μ1 H1) (b : Grow F1 μ1 H1 F2 μ2 H2) : Grow F μ H F2 μ2 H2 :=
  ⟨a.fz.trans b.fz, fun x o h1 h2 => by
    obtain ⟨k1, k2, k3⟩ := a.keep x o h1 h2
    obtain ⟨j1, j2, j3⟩ := b.keep x o k1 k2
    exact ⟨j1, j2, fun h => j3 (k3 h)⟩⟩
theorem Wd.free {F : Hp} {μ : Mu} {H : Hp} (W : Wd F μ H) {p : Addr} (h : H p = none) : F p = none ∧ μ p = none := by
  refine ⟨Evl.fresh_back W.ext h, ?_⟩
  cases q : μ p with
  | none => rfl
  | some o =>
    obtain ⟨u, hu⟩ := (W.mu p o q).1.there
    rw [hu] at h
    cases h
theorem Wd.new {F : Hp} {μ : Mu} {H : Hp} (W : Wd F μ H) {p : Addr} {o : HO} (h : H p = none) : Wd (upd F p o) μ (upd H p o) ∧ Grow F μ H (upd F p o) μ (upd H p o) := by
  obtain ⟨hF, hm⟩ := W.free h
  have e1 : Ex F (upd F p o) := Evl.Ex.new hF
  refine ⟨⟨fun a u e => ?_, fun a u e => ?_, fun a vs e => ?_⟩, e1, fun b u e1 e2 => ⟨?_, e2, fun e3 => ?_⟩⟩
  · by_cases hb : a = p
    · subst hb
      rw [upd_same] at e ⊢
      exact e
    · rw [upd_ne hb] at e ⊢
      exact W.ext a u e
  · obtain ⟨q1, q2⟩ := W.mu a u e
    have hb : a ≠ p := by
      rintro rfl
      rw [hm] at e
      cases e
    exact ⟨q1.mono e1 fun v hv => by rw [upd_ne hb]; exact hv, by rw [upd_ne hb]; exact q2⟩
  · by_cases hb : a = p
    · subst hb
      rw [upd_same] at e ⊢
      exact e
    · rw [upd_ne hb] at e ⊢
      exact W.tup a vs e
  · rw [upd_ne (ne_of_none e1 h)]
    exact e1
  · rw [upd_ne (ne_of_none e1 h)]
    exact e3

structure Anchor where
  F : Hp
  μ : Mu
  H : Hp
inductive Slot where
  | no | dat (d : D) | ml (ds : List D) | md (ks : List (Key × D)) | fn (f c : Addr) (q : Str) (B : Anchor)
  deriving Inhabited
def Own (B : Anchor) (F : Hp) (μ : Mu) (a : Addr) : Prop := F a = none ∧ μ a = none ∧ ∀ o, B.H a = some o → B.μ a = none → False
def Slot.own : Slot → Bool
  | .ml _ => true
  | .md _ => true
  | _ => false
def SlotOk (B : Anchor) (F : Hp) (H : Hp) (μ : Mu) (v : Option V) : Slot → Prop
  | .no => True
  | .dat d => ∃ x, v = some x ∧ Fz F d x
  | .ml ds => ∃ a vs, v = some (.ref a) ∧ H a = some (.lst vs) ∧ FzL F ds vs ∧ Own B F μ a
  | .md ks => ∃ a kws, v = some (.ref a) ∧ H a = some (.dK kws) ∧ FzK F ks kws ∧ Own B F μ a
  | .fn f c q B0 => v = some (.ref f) ∧ B = B0 ∧ F c = some (LamX.CodeO c q)
structure Sti (B : Anchor) (F : Hp) (σ : L2.St) (H : Hp) (ρ : List Slot) (μ : Mu) : Prop where
  wd : Wd F μ H
  grow : Grow B.F B.μ B.H F μ H
  len : ρ.length = σ.length
  slot : ∀ (i : Nat) (s : Slot) (v : Option V), ρ[i]? = some s → σ[i]? = some v → SlotOk B F H μ v s
  dist : ∀ (i j : Nat) (s t : Slot) (a : Addr), i ≠ j → ρ[i]? = some s → ρ[j]? = some t → s.own = true → t.own = true → σ[i]? = some (some (.ref a)) → σ[j]? = some (some (.ref a)) → False

theorem Sti.get {B : Anchor} {F : Hp} {σ : L2.St} {H : Hp} {ρ : List Slot} {μ : Mu} (S : Sti B F σ H ρ μ) {i : Nat} {s : Slot} (h : ρ[i]? = some s) : ∃ v, σ[i]? = some v ∧ SlotOk B F H μ v s := by
  have hi : i < σ.length := by
    have := (List.getElem?_eq_some_iff.mp h).1
    have := S.len
    omega
  exact ⟨σ[i], List.getElem?_eq_getElem hi, S.slot i s _ h (List.getElem?_eq_getElem hi)⟩
theorem Sti.go {B : Anchor} {F F' : Hp} {σ : L2.St} {H H' : Hp} {ρ : List Slot} {μ μ' : Mu} (S : Sti B F σ H ρ μ) (g : Grow F μ H F' μ' H') (W : Wd F' μ' H') : Sti B F' σ H' ρ μ' := by
  refine ⟨W, S.grow.trans g, S.len, fun i s v h1 h2 => ?_, S.dist⟩
  have q := S.slot i s v h1 h2
  cases s with
  | no => exact True.intro
  | fn _ _ _ _ => exact ⟨q.1, q.2.1, g.fz _ _ q.2.2⟩
  | dat d =>
    obtain ⟨x, hx, q⟩ := q
    exact ⟨x, hx, q.mono g.fz⟩
  | ml ds =>
    obtain ⟨a, vs, hv, ha, q, o1, o2, o3⟩ := q
    obtain ⟨k1, k2, k3⟩ := g.keep a _ ha o2
    exact ⟨a, vs, hv, k1, q.mono g.fz, k3 o1, k2, o3⟩
  | md ks =>
    obtain ⟨a, vs, hv, ha, q, o1, o2, o3⟩ := q
    obtain ⟨k1, k2, k3⟩ := g.keep a _ ha o2
    exact ⟨a, vs, hv, k1, q.mono g.fz, k3 o1, k2, o3⟩
theorem Sti.set {B : Anchor} {F : Hp} {σ : L2.St} {H : Hp} {ρ : List Slot} {μ : Mu} (S : Sti B F σ H ρ μ) {i : Nat} {d : D} {v : V} (h : Fz F d v) : Sti B F (σ.set i (some v)) H (ρ.set i (.dat d)) μ := by
  refine ⟨S.wd, S.grow, by rw [List.length_set, List.length_set]; exact S.len, fun j s w h1 h2 => ?_, fun j k s t a hjk h1 h2 o1 o2 e1 e2 => ?_⟩
  · by_cases hj : i = j
    · subst hj
      rw [List.getElem?_set] at h1 h2
      simp only [if_true] at h1 h2
      split at h1
      · cases h1
        split at h2
        · cases h2
          exact ⟨v, rfl, h⟩
        · cases h2
      · cases h1
    · rw [List.getElem?_set_ne hj] at h1 h2
      exact S.slot j s w h1 h2
  · have nj : ∀ (j : Nat) (s : Slot), (ρ.set i (.dat d))[j]? = some s → s.own = true → i ≠ j ∧ ρ[j]? = some s := fun j s h o => by
      by_cases hj : i = j
      · subst hj
        rw [List.getElem?_set] at h
        simp only [if_true] at h
        split at h
        · cases h
          cases o
        · cases h
      · rw [List.getElem?_set_ne hj] at h
        exact ⟨hj, h⟩
    obtain ⟨n1, h1⟩ := nj j s h1 o1
    obtain ⟨n2, h2⟩ := nj k t h2 o2
    rw [List.getElem?_set_ne n1] at e1
    rw [List.getElem?_set_ne n2] at e2
    exact S.dist j k s t a hjk h1 h2 o1 o2 e1 e2

def Bz (F : Hp) (μ : Mu) (H : Hp) : D → V → Prop
  | .lst ds, v => ∃ a vs, v = .ref a ∧ H a = some (.lst vs) ∧ μ a = none ∧ FzL F ds vs
  | .dic ks, v => ∃ a kws, v = .ref a ∧ Rd H a (.dK kws) ∧ μ a = none ∧ FzK F ks kws
  | d, v => Fz F d v
theorem Wd.no_mu {F : Hp} {μ : Mu} {H : Hp} (W : Wd F μ H) {a : Addr} {o : HO} (h : F a = some o) : μ a = none := by
  cases q : μ a with
  | none => rfl
  | some u =>
    rw [(W.mu a u q).2] at h
    cases h
theorem Fz.bz {F : Hp} {μ : Mu} {H : Hp} (W : Wd F μ H) {d : D} {v : V} (h : Fz F d v) : Bz F μ H d v := by
  cases d with
  | lst ds =>
    unfold Fz at h
    obtain ⟨a, vs, h1, h2, h3⟩ := h
    exact ⟨a, vs, h1, W.ext _ _ h2, W.no_mu h2, h3⟩
  | dic ds =>
    unfold Fz at h
    obtain ⟨a, od, vs, h1, h2, h3⟩ := h
    exact ⟨a, vs, h1, .inr ⟨od, W.ext _ _ h2⟩, W.no_mu h2, h3⟩
  | non => exact h
  | bl _ => exact h
  | int _ => exact h
  | str _ => exact h
  | ty _ => exact h
  | tup _ => exact h
  | ins _ _ => exact h
  | obj _ => exact h
  | scr _ _ => exact h
  | xcp _ _ _ _ => exact h
theorem Bz.go {F F' : Hp} {μ μ' : Mu} {H H' : Hp} (g : Grow F μ H F' μ' H') {d : D} {v : V} (h : Bz F μ H d v) : Bz F' μ' H' d v := by
  cases d with
  | lst ds =>
    obtain ⟨a, vs, h1, h2, h3, h4⟩ := h
    obtain ⟨k1, k2, _⟩ := g.keep a _ h2 h3
    exact ⟨a, vs, h1, k1, k2, h4.mono g.fz⟩
  | dic ds =>
    obtain ⟨a, vs, h1, h2, h3, h4⟩ := h
    rcases h2 with h2 | ⟨od, h2⟩
    · obtain ⟨k1, k2, _⟩ := g.keep a _ h2 h3
      exact ⟨a, vs, h1, .inl k1, k2, h4.mono g.fz⟩
    · obtain ⟨k1, k2, _⟩ := g.keep a _ h2 h3
      exact ⟨a, vs, h1, .inr ⟨od, k1⟩, k2, h4.mono g.fz⟩
  | non => exact Fz.mono g.fz h
  | bl _ => exact Fz.mono g.fz h
  | int _ => exact Fz.mono g.fz h
  | str _ => exact Fz.mono g.fz h
  | ty _ => exact Fz.mono g.fz h
  | tup _ => exact Fz.mono g.fz h
  | ins _ _ => exact Fz.mono g.fz h
  | obj _ => exact Fz.mono g.fz h
  | scr _ _ => exact Fz.mono g.fz h
  | xcp _ _ _ _ => exact Fz.mono g.fz h

structure DX where
  cls : Addr
  fs : List (Str × D)
def XIs (F : Hp) (μ : Mu) (H : Hp) (cls : Value) (dd : Option Addr) (x : DX) : Prop :=
  cls = .ref x.cls ∧ ((dd = none ∧ x.fs = []) ∨ ∃ d vs, dd = some d ∧ F d = some (.xd vs) ∧ FzS F x.fs vs)

abbrev DQ := D → Mu → Prop
abbrev DXQ := DX → Mu → Prop
abbrev DE := List Slot → Mu → DQ → DXQ → Prop
abbrev DT := List Slot → Mu → (Bool → Mu → Prop) → DXQ → Prop
abbrev DA := List Slot → Mu → (List D → Mu → Prop) → DXQ → Prop
def GoX (W : WX) (B : Anchor) (F : Hp) (σ : L2.St) (H : Hp) (ρ : List Slot) (μ : Mu) (Xd : DXQ) : Prop :=
  ∀ cls dd F' H' x μ', Grow F μ H F' μ' H' → Sti B F' σ H' ρ μ' → XIs F' μ' H' cls dd x → Xd x μ' → W cls dd σ H'
theorem GoX.go {W : WX} {B : Anchor} {F F' : Hp} {σ : L2.St} {H H' : Hp} {ρ : List Slot} {μ μ' : Mu} {Xd : DXQ} (h : GoX W B F σ H ρ μ Xd) (g : Grow F μ H F' μ' H') : GoX W B F' σ H' ρ μ' Xd :=
  fun cls dd F2 H2 x μ2 g2 => h cls dd F2 H2 x μ2 (g.trans g2)
def Sim (W : WX) (te : TE) (t : DE) : Prop := ∀ {B : Anchor} {F : Hp} {σ : L2.St} {H : Hp} {ρ : List Slot} {μ : Mu} {Qd : DQ} {Xd : DXQ} {Q : VK}, Sti B F σ H ρ μ → t ρ μ Qd Xd → GoX W B F σ H ρ μ Xd →
  (∀ v F' H' d μ', Grow F μ H F' μ' H' → Sti B F' σ H' ρ μ' → Fz F' d v → Qd d μ' → Q v H') → te σ H Q
def SimB (W : WX) (te : TE) (t : DE) : Prop := ∀ {B : Anchor} {F : Hp} {σ : L2.St} {H : Hp} {ρ : List Slot} {μ : Mu} {Qd : DQ} {Xd : DXQ} {Q : VK}, Sti B F σ H ρ μ → t ρ μ Qd Xd → GoX W B F σ H ρ μ Xd →
  (∀ v F' H' d μ', Grow F μ H F' μ' H' → Sti B F' σ H' ρ μ' → Bz F' μ' H' d v → Qd d μ' → Q v H') → te σ H Q
def SimT (W : WX) (tt : TT) (t : DT) : Prop := ∀ {B : Anchor} {F : Hp} {σ : L2.St} {H : Hp} {ρ : List Slot} {μ : Mu} {Qd : Bool → Mu → Prop} {Xd : DXQ} {Q : Bool → Hp → Prop}, Sti B F σ H ρ μ → t ρ μ Qd Xd → GoX W B F σ H ρ μ Xd →
  (∀ b F' H' μ', Grow F μ H F' μ' H' → Sti B F' σ H' ρ μ' → Qd b μ' → Q b H') → tt σ H Q
def SimA (W : WX) (ta : TA) (t : DA) : Prop := ∀ {B : Anchor} {F : Hp} {σ : L2.St} {H : Hp} {ρ : List Slot} {μ : Mu} {Qd : List D → Mu → Prop} {Xd : DXQ} {Q : List V → Hp → Prop}, Sti B F σ H ρ μ → t ρ μ Qd Xd → GoX W B F σ H ρ μ Xd →
  (∀ vs F' H' ds μ', Grow F μ H F' μ' H' → Sti B F' σ H' ρ μ' → FzL F' ds vs → Qd ds μ' → Q vs H') → ta σ H Q
structure PD (X : Cx) (W : WX) (e : Expr) (t : DE) : Prop where
  ex : ∃ te, PE X e te ∧ Sim W te t
structure PB (X : Cx) (W : WX) (e : Expr) (t : DE) : Prop where
  ex : ∃ te, PE X e te ∧ SimB W te t
structure PTD (X : Cx) (W : WX) (e : Expr) (t : DT) : Prop where
  ex : ∃ tt, PT X e tt ∧ SimT W tt t
structure PWD (X : Cx) (W : WX) (e : Expr) (t : DT) : Prop where
  ex : ∃ tt, PW X e tt ∧ SimT W tt t
structure PAD (X : Cx) (W : WX) (es : List Expr) (t : DA) : Prop where
  ex : ∃ ta, PA X es ta ∧ SimA W ta t
theorem PD.b {X : Cx} {W : WX} {e : Expr} {t : DE} (h : PD X W e t) : PB X W e t := by
  obtain ⟨te, h1, h2⟩ := h.ex
  exact ⟨te, h1, fun S q gx k => h2 S q gx fun v F' H' d μ' g S' z => k v F' H' d μ' g S' (z.bz S'.wd)⟩

section
variable {X : Cx} {W : WX} {pos : Pos}
def dVar (i : Nat) : DE := fun ρ μ Q _ => match ρ[i]? with
  | some (.dat d) => Q d μ
  | _ => False
def dBor (i : Nat) : DE := fun ρ μ Q _ => match ρ[i]? with
  | some (.dat d) => Q d μ
  | some (.ml ds) => Q (.lst ds) μ
  | some (.md ks) => Q (.dic ks) μ
  | _ => False
def dC (d : D) : DE := fun _ μ Q _ => Q d μ
theorem sim_var {i : Nat} : Sim W (tVar i) (dVar i) := fun {B F σ H ρ μ Qd Xd Q} S q gx k => by
  unfold dVar at q
  split at q
  · rename_i d h
    obtain ⟨v, hv, x, hx, z⟩ := S.get h
    subst hx
    exact ⟨x, hv, k x F H d μ .refl S z q⟩
  · exact q.elim
theorem sim_bor {i : Nat} : SimB W (tVar i) (dBor i) := fun {B F σ H ρ μ Qd Xd Q} S q gx k => by
  unfold dBor at q
  split at q
  · rename_i d h
    obtain ⟨v, hv, x, hx, z⟩ := S.get h
    subst hx
    exact ⟨x, hv, k x F H d μ .refl S (z.bz S.wd) q⟩
  · rename_i ds h
    obtain ⟨v, hv, a, vs, hx, ha, z, o1, o2, o3⟩ := S.get h
    subst hx
    exact ⟨_, hv, k _ F H (.lst ds) μ .refl S ⟨a, vs, rfl, ha, o2, z⟩ q⟩
  · rename_i ds h
    obtain ⟨v, hv, a, vs, hx, ha, z, o1, o2, o3⟩ := S.get h
    subst hx
    exact ⟨_, hv, k _ F H (.dic ds) μ .refl S ⟨a, vs, rfl, .inl ha, o2, z⟩ q⟩
  · exact q.elim
theorem d_var (i : Nat) {x : Str} (hN : X.N[i]? = some x := by rfl) (hv : Vis X.env.scope x := by first | exact Or.inl rfl | exact Or.inr (Or.inl rfl) | exact Or.inr (Or.inr rfl)) (hd : (x == ("__debug__" : Str)) = false := by decide)
    (hcd : (x == ("__classdict__" : Str)) = false := by decide) : PD X W (.Name x pos) (dVar i) := ⟨_, pe_var hN hv hd hcd, sim_var⟩
theorem d_bor (i : Nat) {x : Str} (hN : X.N[i]? = some x := by rfl) (hv : Vis X.env.scope x := by first | exact Or.inl rfl | exact Or.inr (Or.inl rfl) | exact Or.inr (Or.inr rfl)) (hd : (x == ("__debug__" : Str)) = false := by decide)
    (hcd : (x == ("__classdict__" : Str)) = false := by decide) : PB X W (.Name x pos) (dBor i) := ⟨_, pe_var hN hv hd hcd, sim_bor⟩
theorem sim_c {v : V} {d : D} (h : ∀ F, Fz F d v) : Sim W (tC v) (dC d) := fun {B F σ H ρ μ Qd Xd Q} S q gx k => k v F H d μ .refl S (h F) q
theorem d_int {i j} : PD X W (.Constant (.int i) j pos) (dC (.int i)) := ⟨_, pe_int, sim_c fun _ => by unfold Fz; rfl⟩
theorem d_bl {i j} : PD X W (.Constant (.bool i) j pos) (dC (.bl i)) := ⟨_, pe_bl, sim_c fun _ => by unfold Fz; rfl⟩
theorem d_non {j} : PD X W (.Constant .none j pos) (dC .non) := ⟨_, pe_non, sim_c fun _ => by unfold Fz; rfl⟩
theorem d_str {x j} : PD X W (.Constant (.str x) j pos) (dC (.str x)) := ⟨_, pe_str, sim_c fun _ => by unfold Fz; rfl⟩
theorem d_gint {x : Str} {i : Int} {t : Tok} (hm : X.mg x = some (.int i t)) (hg : Gl X x := by rfl) (hd : (x == ("__debug__" : Str)) = false := by decide) : PD X W (.Name x pos) (dC (.int i)) :=
  ⟨_, pe_glob (v := .int i) hg hm ⟨t, rfl⟩ hd, sim_c fun _ => by unfold Fz; rfl⟩
end
end DL

namespace DL
open PySem PySem.Spec PyProof.Rows L2

abbrev DR2 := D → D → (D → Prop) → Prop
def SimR (r : R2) (dr : DR2) : Prop := ∀ {F : Hp} {μ : Mu} {H : Hp} {x y : V} {dx dy : D} {Qd : D → Prop} {Q : VK}, Wd F μ H → Bz F μ H dx x → Bz F μ H dy y → dr dx dy Qd →
  (∀ v F' H' d, Grow F μ H F' μ H' → Wd F' μ H' → Fz F' d v → Qd d → Q v H') → r x y H Q
def rdD (μ : Mu) : D → D
  | .obj a => match μ a with
    | some (.lst ds) => .lst ds
    | some (.dK ks) => .dic ks
    | _ => .obj a
  | d => d
def mu0 : Mu := fun _ => none
theorem Wd.mu0 {F : Hp} {μ : Mu} {H : Hp} (W : Wd F μ H) : Wd F DL.mu0 H := ⟨W.ext, (fun a o e => by cases e), W.tup⟩
theorem Bz.rd {F : Hp} {μ : Mu} {H : Hp} (W : Wd F μ H) {d : D} {v : V} (h : Bz F μ H d v) : Bz F DL.mu0 H (rdD μ d) v := by
  cases d with
  | lst ds =>
    obtain ⟨a, vs, h1, h2, h3, h4⟩ := h
    exact ⟨a, vs, h1, h2, rfl, h4⟩
  | dic ds =>
    obtain ⟨a, vs, h1, h2, h3, h4⟩ := h
    exact ⟨a, vs, h1, h2, rfl, h4⟩
  | non => exact h
  | bl _ => exact h
  | int _ => exact h
  | str _ => exact h
  | ty _ => exact h
  | tup _ => exact h
  | ins _ _ => exact h
  | scr _ _ => exact h
  | xcp _ _ _ _ => exact h
  | obj a =>
    have h : Fz F (.obj a) v := h
    have h' := h
    unfold Fz at h
    subst h
    show Bz F DL.mu0 H (match μ a with | some (.lst ds) => .lst ds | some (.dK ks) => .dic ks | _ => .obj a) (.ref a)
    split
    · rename_i ds e
      obtain ⟨⟨vs, q1, q2⟩, q3⟩ := W.mu _ _ e
      exact ⟨a, vs, rfl, q1, rfl, q2⟩
    · rename_i ds e
      obtain ⟨⟨vs, q1, q2⟩, q3⟩ := W.mu _ _ e
      exact ⟨a, vs, rfl, .inl q1, rfl, q2⟩
    · exact h'
theorem Grow.of0 {F F' : Hp} {μ : Mu} {H H' : Hp} (W : Wd F μ H) (g : Grow F mu0 H F' mu0 H') (W' : Wd F' mu0 H') : Grow F μ H F' μ H' ∧ Wd F' μ H' := by
  refine ⟨⟨g.fz, fun b o e m => ?_⟩, W'.ext, fun a o e => ?_, W'.tup⟩
  · obtain ⟨k1, _, k3⟩ := g.keep b o e rfl
    exact ⟨k1, m, k3⟩
  · obtain ⟨q1, q2⟩ := W.mu a o e
    obtain ⟨u, hu⟩ := q1.there
    obtain ⟨_, _, k3⟩ := g.keep a u hu rfl
    exact ⟨q1.mono g.fz fun v hv => (g.keep a v hv rfl).1, k3 q2⟩
def dOp (dr : DR2) (a b : DE) : DE := fun ρ μ Q X => a ρ μ (fun dx μ1 => b ρ μ1 (fun dy μ2 => dr (rdD μ2 dx) (rdD μ2 dy) fun d => Q d μ2) X) X
theorem sim_op {W : WX} {r : R2} {dr : DR2} {ta tb : TE} {a b : DE} (hr : SimR r dr) (ha : SimB W ta a) (hb : SimB W tb b) : Sim W (tOp r ta tb) (dOp dr a b) := fun {B F σ H ρ μ Qd Xd Q} S q gx k =>
  ha S q gx fun x F1 H1 dx μ1 g1 S1 z1 q1 => hb S1 q1 (gx.go g1) fun y F2 H2 dy μ2 g2 S2 z2 q2 =>
    hr S2.wd.mu0 ((z1.go g2).rd S2.wd) (z2.rd S2.wd) q2 fun v F3 H3 d g3 W3 z3 q3 => by
      obtain ⟨g3, W3⟩ := Grow.of0 S2.wd g3 W3
      exact k v F3 H3 d μ2 ((g1.trans g2).trans g3) (S2.go g3 W3) z3 q3
theorem SimR.or {r r' : R2} {dr : DR2} {dr' : DR2} (h : SimR r dr) (h' : SimR r' dr') : SimR (fun x y H Q => r x y H Q ∨ r' x y H Q) (fun x y Q => dr x y Q ∨ dr' x y Q) := fun W zx zy q k => by
  rcases q with q | q
  · exact .inl (h W zx zy q k)
  · exact .inr (h' W zx zy q k)

section
variable {F : Hp} {μ : Mu} {H : Hp} {v : V}
theorem bz_int {i : Int} (h : Bz F μ H (.int i) v) : v = .int i := by
  have h : Fz F (.int i) v := h
  unfold Fz at h
  exact h
theorem bz_bl {i : Bool} (h : Bz F μ H (.bl i) v) : v = .bl i := by
  have h : Fz F (.bl i) v := h
  unfold Fz at h
  exact h
theorem bz_str {i : Str} (h : Bz F μ H (.str i) v) : v = .str i := by
  have h : Fz F (.str i) v := h
  unfold Fz at h
  exact h
theorem bz_non (h : Bz F μ H .non v) : v = .non := by
  have h : Fz F .non v := h
  unfold Fz at h
  exact h
theorem bz_lst {ds : List D} (h : Bz F μ H (.lst ds) v) : ∃ a vs, v = .ref a ∧ H a = some (.lst vs) ∧ μ a = none ∧ FzL F ds vs := h
theorem bz_tup (W : Wd F μ H) {ds : List D} (h : Bz F μ H (.tup ds) v) : ∃ a vs, v = .ref a ∧ H a = some (.tup vs) ∧ F a = some (.tup vs) ∧ FzL F ds vs := by
  have h : Fz F (.tup ds) v := h
  unfold Fz at h
  obtain ⟨a, vs, h1, h2, h3⟩ := h
  exact ⟨a, vs, h1, W.ext _ _ h2, h2, h3⟩
theorem fz_int {i : Int} : Fz F (.int i) (.int i) := by unfold Fz; rfl
theorem fz_bl {i : Bool} : Fz F (.bl i) (.bl i) := by unfold Fz; rfl
theorem fz_str {i : Str} : Fz F (.str i) (.str i) := by unfold Fz; rfl
theorem fz_non : Fz F .non .non := by unfold Fz; rfl
theorem fz_lst {p : Addr} {ds : List D} {vs : List V} (h : FzL F ds vs) (hp : F p = some (.lst vs)) : Fz F (.lst ds) (.ref p) := by
  unfold Fz
  exact ⟨p, vs, rfl, hp, h⟩
theorem fz_tup {p : Addr} {ds : List D} {vs : List V} (h : FzL F ds vs) (hp : F p = some (.tup vs)) : Fz F (.tup ds) (.ref p) := by
  unfold Fz
  exact ⟨p, vs, rfl, hp, h⟩
theorem new_lst (W : Wd F μ H) {p : Addr} {ds : List D} {vs : List V} (h : FzL F ds vs) (hp : H p = none) : Grow F μ H (upd F p (.lst vs)) μ (upd H p (.lst vs)) ∧ Wd (upd F p (.lst vs)) μ (upd H p (.lst vs)) ∧ Fz (upd F p (.lst vs)) (.lst ds) (.ref p) := by
  obtain ⟨W', g⟩ := W.new (o := .lst vs) hp
  exact ⟨g, W', fz_lst (h.mono g.fz) upd_same⟩
theorem new_tup (W : Wd F μ H) {p : Addr} {ds : List D} {vs : List V} (h : FzL F ds vs) (hp : H p = none) : Grow F μ H (upd F p (.tup vs)) μ (upd H p (.tup vs)) ∧ Wd (upd F p (.tup vs)) μ (upd H p (.tup vs)) ∧ Fz (upd F p (.tup vs)) (.tup ds) (.ref p) := by
  obtain ⟨W', g⟩ := W.new (o := .tup vs) hp
  exact ⟨g, W', fz_tup (h.mono g.fz) upd_same⟩
end

def rAddU (K : PySem.W.Frag) : R2 := fun x y H Q => (∃ i j, x = .int i ∧ y = .int j ∧ Q (.int (i + j)) H) ∨ ((∃ i j, x = .str i ∧ y = .str j ∧ i.length + j.length ≤ sizeLine ∧ Q (.str (i ++ j)) H) ∨ (rCat x y H Q ∨ rCatA K x y H Q))
theorem op_addU {X : Cx} : OpR X (binaryOp .Add) (rAddU X.K) := op_add.or (op_add_str.or (op_cat.or op_catA))
def dAdd : DR2 := fun x y Q => match x, y with
  | .int i, .int j => Q (.int (i + j))
  | .str i, .str j => i.length + j.length ≤ sizeLine ∧ Q (.str (i ++ j))
  | .lst a, .lst b => a.length + b.length ≤ sizeLine ∧ Q (.lst (a ++ b))
  | .tup a, .tup b => a.length + b.length ≤ sizeLine ∧ Q (.tup (a ++ b))
  | _, _ => False
theorem sim_addU {K : PySem.W.Frag} : SimR (rAddU K) dAdd := fun {F μ H x y dx dy Qd Q} W zx zy q k => by
  unfold dAdd at q
  split at q
  · rename_i i j
    exact .inl ⟨i, j, bz_int zx, bz_int zy, k _ F H _ .refl W fz_int q⟩
  · rename_i i j
    exact .inr (.inl ⟨i, j, bz_str zx, bz_str zy, q.1, k _ F H _ .refl W fz_str q.2⟩)
  · rename_i a b
    obtain ⟨p, vs, rfl, h1, m1, z1⟩ := bz_lst zx
    obtain ⟨p2, ws, rfl, h2, m2, z2⟩ := bz_lst zy
    refine .inr (.inr (.inl ⟨p, p2, vs, ws, rfl, rfl, h1, h2, by rw [z1.length, z2.length]; exact q.1, fun r hr => ?_⟩))
    obtain ⟨g, W', z⟩ := new_lst W (z2.append z1) hr
    exact k _ _ _ _ g W' z q.2
  · rename_i a b
    obtain ⟨p, vs, rfl, h1, f1, z1⟩ := bz_tup W zx
    obtain ⟨p2, ws, rfl, h2, f2, z2⟩ := bz_tup W zy
    refine .inr (.inr (.inr ⟨p, p2, vs, ws, rfl, rfl, .of h1, .of h2, by rw [z1.length, z2.length]; exact q.1, fun e => ?_, fun _ e => ?_, fun _ _ r hr => ?_⟩))
    · subst e
      cases a with
      | nil => exact k _ F H _ .refl W (fz_tup z2 f2) q.2
      | cons d r => simp [FzL] at z1
    · subst e
      cases b with
      | nil => exact k _ F H _ .refl W (fz_tup z1 f1) (by simpa using q.2)
      | cons d r => simp [FzL] at z2
    · obtain ⟨g, W', z⟩ := new_tup W (z2.append z1) hr
      exact k _ _ _ _ g W' z q.2
  · exact q.elim

def dI (C : Int → Int → Prop) (g : Int → Int → D) : DR2 := fun x y Q => match x, y with
  | .int i, .int j => C i j ∧ Q (g i j)
  | _, _ => False
def dI0 (g : Int → Int → D) : DR2 := fun x y Q => match x, y with
  | .int i, .int j => Q (g i j)
  | _, _ => False
theorem sim_I {C : Int → Int → Prop} {g : Int → Int → V} {g' : Int → Int → D} (h : ∀ F i j, Fz F (g' i j) (g i j)) : SimR (rI C g) (dI C g') := fun {F μ H x y dx dy Qd Q} W zx zy q k => by
  unfold dI at q
  split at q
  · rename_i i j
    exact ⟨i, j, bz_int zx, bz_int zy, q.1, k _ F H _ .refl W (h F i j) q.2⟩
  · exact q.elim
theorem sim_I0 {g : Int → Int → V} {g' : Int → Int → D} (h : ∀ F i j, Fz F (g' i j) (g i j)) : SimR (rI0 g) (dI0 g') := fun {F μ H x y dx dy Qd Q} W zx zy q k => by
  unfold dI0 at q
  split at q
  · rename_i i j
    exact ⟨i, j, bz_int zx, bz_int zy, k _ F H _ .refl W (h F i j) q⟩
  · exact q.elim
def dSub : DR2 := dI0 fun i j => .int (i - j)
def dMod : DR2 := dI (fun _ j => 0 < j) fun i j => .int (i % j)
def dDiv : DR2 := dI CDivW fun i j => .int (i / j)
def dPow : DR2 := dI CPow fun i j => .int (i ^ j.toNat)
def dLt : DR2 := dI0 fun i j => .bl (decide (i < j))
def dLe : DR2 := dI0 fun i j => .bl (decide (i ≤ j))
def dGt : DR2 := dI0 fun i j => .bl (decide (j < i))
def dGe : DR2 := dI0 fun i j => .bl (decide (j ≤ i))
def CMulD (i j : Int) : Prop := i.natAbs.log2 + j.natAbs.log2 < 134000000 ∨ CMul i j
theorem CMulD.ok {i j : Int} (h : CMulD i j) : IntMulOk i j := by
  rcases h with h3 | h
  · have b : ∀ x : Int, Builtin.Int.intBits x ≤ x.natAbs.log2 + 1 := fun x => by
      unfold Builtin.Int.intBits
      split <;> omega
    have h1 := b i
    have h2 := b j
    have e : bitsLine = 134217728 := by decide
    unfold IntMulOk
    intro z
    rw [Bool.and_eq_true] at z
    have z2 := z.2
    unfold Builtin.Int.intTooBig at z2
    have z3 := of_decide_eq_true z2
    rw [e] at z3
    omega
  · exact h.ok
theorem cmul_l {i j : Int} (h : -(2 ^ 64) < i ∧ i < 2 ^ 64) : CMulD i j := .inr (.inl h)
theorem op_mulD {X : Cx} : OpR X (binaryOp .Mult) (rI CMulD fun i j => .int (i * j)) := opI fun _ _ _ _ _ _ _ hc q => mul_int q hc.ok
def rMulU : R2 := fun x y H Q => rI CMulD (fun i j => .int (i * j)) x y H Q ∨ rRep x y H Q
theorem op_mulU {X : Cx} : OpR X (binaryOp .Mult) rMulU := op_mulD.or op_rep
def dMul : DR2 := fun x y Q => match x, y with
  | .int i, .int j => CMulD i j ∧ Q (.int (i * j))
  | .lst a, .int j => -(2 ^ 63) ≤ j ∧ j < 2 ^ 63 ∧ a.length * j.toNat ≤ sizeLine ∧ Q (.lst (List.replicate j.toNat a).flatten)
  | _, _ => False
theorem FzL.rep {F : Hp} {ds : List D} {vs : List V} (h : FzL F ds vs) : ∀ k : Nat, FzL F (List.replicate k ds).flatten (List.replicate k vs).flatten
  | 0 => by simpa using fzl_nil
  | k + 1 => by
    simp only [List.replicate_succ, List.flatten_cons]
    exact (FzL.rep h k).append h
theorem sim_mulU : SimR rMulU dMul := fun {F μ H x y dx dy Qd Q} W zx zy q k => by
  unfold dMul at q
  split at q
  · rename_i i j
    exact .inl ⟨i, j, bz_int zx, bz_int zy, q.1, k _ F H _ .refl W fz_int q.2⟩
  · rename_i a j
    obtain ⟨p, vs, rfl, h1, m1, z1⟩ := bz_lst zx
    refine .inr ⟨p, j, vs, rfl, bz_int zy, h1, q.1, q.2.1, by rw [z1.length]; exact q.2.2.1, fun r hr => ?_⟩
    obtain ⟨g, W', z⟩ := new_lst W (z1.rep j.toNat) hr
    exact k _ _ _ _ g W' z q.2.2.2
  · exact q.elim

mutual
def toPy : D → PyData
  | .non => .none
  | .bl b => .bool b
  | .int i => .int i
  | .str x => .str x
  | .ty _ => .none
  | .tup xs => .tuple (toPyL xs)
  | .lst xs => .list (toPyL xs)
  | .dic ks => .dict (toPyK ks)
  | .ins _ _ => .none
  | .obj _ => .none
  | .scr _ _ => .none
  | .xcp _ _ _ _ => .none
def toPyL : List D → List PyData
  | [] => []
  | x :: xs => toPy x :: toPyL xs
def toPyK : List (Key × D) → List (PyData × PyData)
  | [] => []
  | (.inl i, d) :: r => (.int i, toPy d) :: toPyK r
  | (.inr x, d) :: r => (.str x, toPy d) :: toPyK r
end
mutual
def pure0 : D → Bool
  | .non | .bl _ | .int _ | .str _ => true
  | .tup xs | .lst xs => pure0L xs
  | _ => false
def pure0L : List D → Bool
  | [] => true
  | x :: xs => pure0 x && pure0L xs
end
mutual
theorem Fz.dp {K : PySem.W.Frag} {F H : Hp} (e : Ex F H) : ∀ {d : D} {v : V}, Fz F d v → pure0 d = true → Dp K H v (toPy d)
  | .non, v, h, _ => by
    unfold Fz at h
    subst h
    exact .non
  | .bl b, v, h, _ => by
    unfold Fz at h
    subst h
    exact .bl b
  | .int b, v, h, _ => by
    unfold Fz at h
    subst h
    exact .int b
  | .str b, v, h, _ => by
    unfold Fz at h
    subst h
    exact .str b
  | .ty _, v, h, p => by simp [pure0] at p
  | .obj _, v, h, p => by simp [pure0] at p
  | .scr _ _, v, h, p => by simp [pure0] at p
  | .xcp _ _ _ _, v, h, p => by simp [pure0] at p
  | .ins _ _, v, h, p => by simp [pure0] at p
  | .dic _, v, h, p => by simp [pure0] at p
  | .tup ds, v, h, p => by
    unfold Fz at h
    obtain ⟨a, vs, rfl, h2, h3⟩ := h
    unfold toPy
    exact .tup (.of (e _ _ h2)) (FzL.dp e h3 (by simpa [pure0] using p))
  | .lst ds, v, h, p => by
    unfold Fz at h
    obtain ⟨a, vs, rfl, h2, h3⟩ := h
    unfold toPy
    exact .lst (.of (e _ _ h2)) (FzL.dp e h3 (by simpa [pure0] using p))
theorem FzL.dp {K : PySem.W.Frag} {F H : Hp} (e : Ex F H) : ∀ {ds : List D} {vs : List V}, FzL F ds vs → pure0L ds = true → DpAll K H vs (toPyL ds)
  | [], _, h, _ => by
    rw [fzl_inv0 h]
    unfold toPyL
    exact .nil
  | d :: ds, _, h, p => by
    obtain ⟨v, r, rfl, h1, h2⟩ := fzl_inv h
    have p' : pure0 d = true ∧ pure0L ds = true := by simpa [pure0L] using p
    unfold toPyL
    exact .cons (Fz.dp e h1 p'.1) (FzL.dp e h2 p'.2)
end
theorem Bz.dp {K : PySem.W.Frag} {F H : Hp} {μ : Mu} (W : Wd F μ H) {d : D} {v : V} (h : Bz F μ H d v) (p : pure0 d = true) : Dp K H v (toPy d) := by
  cases d with
  | lst ds =>
    obtain ⟨a, vs, rfl, h2, h3, h4⟩ := h
    unfold toPy
    exact .lst (.of h2) (FzL.dp W.ext h4 (by simpa [pure0] using p))
  | dic ds => simp [pure0] at p
  | non => exact Fz.dp W.ext h p
  | bl _ => exact Fz.dp W.ext h p
  | int _ => exact Fz.dp W.ext h p
  | str _ => exact Fz.dp W.ext h p
  | ty _ => exact Fz.dp W.ext h p
  | tup _ => exact Fz.dp W.ext h p
  | ins _ _ => exact Fz.dp W.ext h p
  | obj _ => exact Fz.dp W.ext h p
  | scr _ _ => exact Fz.dp W.ext h p
  | xcp _ _ _ _ => exact Fz.dp W.ext h p
def okD (d : D) : Prop := pure0 d = true ∧ SeqAt.shaped (toPy d) = true
def eqvD (a b : D) : Bool := PyData.eqv (toPy a) (toPy b)
def diffLen (x y : D) : Prop := ∃ a b : List D, x = .lst a ∧ y = .lst b ∧ a.length ≠ b.length
def eqOk (x y : D) : Prop := (okD x ∧ okD y) ∨ (∃ a b, x = .str a ∧ y = .str b) ∨ diffLen x y
def dEq : DR2 := fun x y Q => eqOk x y ∧ Q (.bl (eqvD x y))
def dNe : DR2 := fun x y Q => eqOk x y ∧ Q (.bl (!eqvD x y))
theorem dec_strs {a b : Str} : decide (V.str a = V.str b) = eqvD (.str a) (.str b) := by
  rw [dec_str]
  simp [eqvD, toPy, PyData.eqv]
theorem eqvAll_len : ∀ {a b : List D}, a.length ≠ b.length → PyData.eqvAll (toPyL a) (toPyL b) = false
  | [], [], h => absurd rfl h
  | [], y :: b, _ => by simp [toPyL, PyData.eqvAll]
  | x :: a, [], _ => by simp [toPyL, PyData.eqvAll]
  | x :: a, y :: b, h => by
    have ih := eqvAll_len (a := a) (b := b) (by simpa using h)
    simp [toPyL, PyData.eqvAll, ih]
theorem eqv_len {a b : List D} (h : a.length ≠ b.length) : eqvD (.lst a) (.lst b) = false := by
  unfold eqvD
  simp only [toPy, PyData.eqv]
  exact eqvAll_len h
def rLen (neg : Bool) : R2 := fun x y H Q => ∃ p q vs ws, x = .ref p ∧ y = .ref q ∧ H p = some (.lst vs) ∧ H q = some (.lst ws) ∧ vs.length ≠ ws.length ∧ Q (.bl neg) H
section
variable {X : Cx}
theorem len_at {pins : List (Addr × Obj)} {σ : L2.St} {H : Hp} {s : Shared} {p : Addr} {vs : List V} (I : Inv X pins σ H s) (h : H p = some (.lst vs)) : ∃ its : List Value, s.heap.IsList p its.toArray ∧ its.length = vs.length := by
  obtain ⟨its, rv, ⟨o, n, ho, hc, _, hd⟩, _⟩ := I.list (.of h)
  exact ⟨its, ⟨o, ho, hc, n, hd⟩, rv.length.symm⟩
theorem op_eqLen (hu : X.A.units + 64 < cLine) : OpR X (compareOp .Eq) (rLen false) := by
  intro pins s σ H x y v u Q I rx ry h
  obtain ⟨p, q, vs, ws, rfl, rfl, hp, hq, hn, k⟩ := h
  cases rx
  cases ry
  obtain ⟨i1, l1, e1⟩ := len_at I hp
  obtain ⟨i2, l2, e2⟩ := len_at I hq
  exact SeqAt.eq_list_lengthsAt l1 l2 (by simp; omega) (by omega) ⟨.bl false, H, I, rfl, k⟩
theorem op_neLen (hu : X.A.units + 64 < cLine) : OpR X (compareOp .NotEq) (rLen true) := by
  intro pins s σ H x y v u Q I rx ry h
  obtain ⟨p, q, vs, ws, rfl, rfl, hp, hq, hn, k⟩ := h
  cases rx
  cases ry
  obtain ⟨i1, l1, e1⟩ := len_at I hp
  obtain ⟨i2, l2, e2⟩ := len_at I hq
  exact SeqAt.RcNeAt.lists_lengths l1 l2 (by simp; omega) (by omega) _ _ _ _ ⟨.bl true, H, I, rfl, k⟩
theorem op_eqA (hu : X.A.units + 64 < cLine) : OpR X (compareOp .Eq) (fun x y H Q => rEqD X.K x y H Q ∨ (rEq x y H Q ∨ rLen false x y H Q)) := (op_eqD hu).or (op_eq.or (op_eqLen hu))
theorem op_neA (hu : X.A.units + 64 < cLine) : OpR X (compareOp .NotEq) (fun x y H Q => rNeD X.K x y H Q ∨ (rNe x y H Q ∨ rLen true x y H Q)) := (op_neD hu).or (op_ne.or (op_neLen hu))
end
theorem len_sim {F : Hp} {μ : Mu} {H : Hp} {x y : V} {a b : List D} (zx : Bz F μ H (.lst a) x) (zy : Bz F μ H (.lst b) y) (h : a.length ≠ b.length) {neg : Bool} {Q : VK} (q : Q (.bl neg) H) : rLen neg x y H Q := by
  obtain ⟨p, vs, rfl, h1, _, z1⟩ := bz_lst zx
  obtain ⟨p2, ws, rfl, h2, _, z2⟩ := bz_lst zy
  exact ⟨p, p2, vs, ws, rfl, rfl, h1, h2, by rw [z1.length, z2.length]; exact h, q⟩
theorem sim_eq {K : PySem.W.Frag} : SimR (fun x y H Q => rEqD K x y H Q ∨ (rEq x y H Q ∨ rLen false x y H Q)) dEq := fun {F μ H x y dx dy Qd Q} W zx zy q k => by
  obtain ⟨⟨h1, h2⟩ | ⟨a, b, rfl, rfl⟩ | ⟨a, b, rfl, rfl, hn⟩, q⟩ := q
  · exact .inl ⟨_, _, zx.dp W h1.1, zy.dp W h2.1, h1.2, h2.2, k _ F H _ .refl W fz_bl q⟩
  · rw [bz_str zx, bz_str zy]
    exact .inr (.inl ⟨rfl, by rw [dec_strs]; exact k _ F H _ .refl W fz_bl q⟩)
  · rw [eqv_len hn] at q
    exact .inr (.inr (len_sim zx zy hn (k _ F H _ .refl W fz_bl q)))
theorem sim_ne {K : PySem.W.Frag} : SimR (fun x y H Q => rNeD K x y H Q ∨ (rNe x y H Q ∨ rLen true x y H Q)) dNe := fun {F μ H x y dx dy Qd Q} W zx zy q k => by
  obtain ⟨⟨h1, h2⟩ | ⟨a, b, rfl, rfl⟩ | ⟨a, b, rfl, rfl, hn⟩, q⟩ := q
  · exact .inl ⟨_, _, zx.dp W h1.1, zy.dp W h2.1, h1.2, h2.2, k _ F H _ .refl W fz_bl q⟩
  · rw [bz_str zx, bz_str zy]
    exact .inr (.inl ⟨rfl, by rw [dec_strs]; exact k _ F H _ .refl W fz_bl q⟩)
  · rw [eqv_len hn] at q
    exact .inr (.inr (len_sim zx zy hn (k _ F H _ .refl W fz_bl q)))

def flatD : D → Bool
  | .non | .bl _ | .int _ | .str _ => true
  | _ => false
def eq0 : D → D → Bool
  | .non, .non => true
  | .bl a, .bl b => a == b
  | .bl a, .int b => (if a then 1 else 0) == b
  | .int a, .bl b => a == (if b then 1 else 0)
  | .int a, .int b => a == b
  | .str a, .str b => a == b
  | _, _ => false
def inD (x : D) (ds : List D) : Bool := ds.any fun y => eq0 y x
def dIn (neg : Bool) : DR2 := fun x y Q => match y with
  | .lst ds | .tup ds => flatD x = true ∧ ds.all flatD = true ∧ Q (.bl (if neg then !inD x ds else inD x ds))
  | _ => False
def isNon : D → Bool
  | .non => true
  | _ => false
def dIsN : DR2 := fun x y Q => match y with
  | .non => Q (.bl (isNon x))
  | _ => False
def dNotN : DR2 := fun x y Q => match y with
  | .non => Q (.bl (!isNon x))
  | _ => False
def dIx : DR2 := fun x y Q => match x, y with
  | .lst ds, .int i => ∃ d, atI ds i = some d ∧ Q d
  | .tup ds, .int i => ∃ d, atI ds i = some d ∧ Q d
  | .str z, .int i => z.length ≤ sizeLine ∧ ∃ c, atI z.cps.toList i = some c ∧ Q (.str ⟨#[c]⟩)
  | _, _ => False
theorem atI_fz {F : Hp} {ds : List D} {vs : List V} (z : FzL F ds vs) {i : Int} {d : D} (h : atI ds i = some d) : ∃ v, atI vs i = some v ∧ Fz F d v := by
  unfold atI at h ⊢
  rw [z.length]
  cases e : ixN ds.length i with
  | none => rw [e] at h; cases h
  | some j =>
    rw [e] at h
    exact z.get h
theorem sim_ix {K : PySem.W.Frag} : SimR (rIx K) dIx := fun {F μ H x y dx dy Qd Q} W zx zy q k => by
  unfold dIx at q
  split at q
  · rename_i ds i
    obtain ⟨d, hd, q⟩ := q
    obtain ⟨p, vs, rfl, h1, m1, z1⟩ := bz_lst zx
    obtain ⟨v, hv, zv⟩ := atI_fz z1 hd
    exact .inl ⟨p, vs, i, v, rfl, bz_int zy, .of h1, hv, k _ F H _ .refl W zv q⟩
  · rename_i ds i
    obtain ⟨d, hd, q⟩ := q
    obtain ⟨p, vs, rfl, h1, f1, z1⟩ := bz_tup W zx
    obtain ⟨v, hv, zv⟩ := atI_fz z1 hd
    exact .inr (.inl ⟨p, vs, i, v, rfl, bz_int zy, .of h1, hv, k _ F H _ .refl W zv q⟩)
  · rename_i z i
    obtain ⟨hz, c, hc, q⟩ := q
    exact .inr (.inr ⟨z, i, c, bz_str zx, bz_int zy, hz, hc, k _ F H _ .refl W fz_str q⟩)
  · exact q.elim

section
variable {X : Cx} {W : WX} {a b : Expr} {da db : DE} {pos : Pos}
theorem d_bin {op : Operator} {r : R2} {dr : DR2} (ho : OpR X (binaryOp op) r) (hr : SimR r dr) (ha : PB X W a da) (hb : PB X W b db) : PD X W (.BinOp a op b pos) (dOp dr da db) := by
  obtain ⟨ta, a1, a2⟩ := ha.ex
  obtain ⟨tb, b1, b2⟩ := hb.ex
  exact ⟨_, pe_op ho a1 b1, sim_op hr a2 b2⟩
theorem d_add (ha : PB X W a da) (hb : PB X W b db) : PD X W (.BinOp a .Add b pos) (dOp dAdd da db) := d_bin op_addU sim_addU ha hb
theorem d_mul (ha : PB X W a da) (hb : PB X W b db) : PD X W (.BinOp a .Mult b pos) (dOp dMul da db) := d_bin op_mulU sim_mulU ha hb
theorem d_mod (ha : PB X W a da) (hb : PB X W b db) : PD X W (.BinOp a .Mod b pos) (dOp dMod da db) := d_bin op_mod (sim_I fun _ _ _ => fz_int) ha hb
theorem d_div (ha : PB X W a da) (hb : PB X W b db) : PD X W (.BinOp a .FloorDiv b pos) (dOp dDiv da db) := d_bin op_fdivW (sim_I fun _ _ _ => fz_int) ha hb
theorem d_pow (ha : PB X W a da) (hb : PB X W b db) : PD X W (.BinOp a .Pow b pos) (dOp dPow da db) := d_bin op_pow (sim_I fun _ _ _ => fz_int) ha hb
theorem d_cmp {op : CmpOp} {r : R2} {dr : DR2} (ho : OpR X (compareOp op) r) (hr : SimR r dr) (ha : PB X W a da) (hb : PB X W b db) (hm : behindInMarks op b = false) : PD X W (.Compare a [op] [b] pos) (dOp dr da db) := by
  obtain ⟨ta, a1, a2⟩ := ha.ex
  obtain ⟨tb, b1, b2⟩ := hb.ex
  exact ⟨_, pe_cmpR ho a1 b1 hm, sim_op hr a2 b2⟩
theorem d_eq (hu : X.A.units + 64 < cLine) (ha : PB X W a da) (hb : PB X W b db) : PD X W (.Compare a [.Eq] [b] pos) (dOp dEq da db) := d_cmp (op_eqA hu) sim_eq ha hb (nomark _)
theorem d_ix (ha : PB X W a da) (hb : PB X W b db) (hs : PlainIx b := by exact fun _ _ => rfl) : PD X W (.Subscript a b pos) (dOp dIx da db) := by
  obtain ⟨ta, a1, a2⟩ := ha.ex
  obtain ⟨tb, b1, b2⟩ := hb.ex
  exact ⟨_, pe_ix ix_seq a1 b1 hs, sim_op sim_ix a2 b2⟩

def dTest (t : DE) : DT := fun ρ μ Q X => t ρ μ (fun d μ1 => match d with
  | .bl c => Q c μ1
  | _ => False) X
theorem simt_test {te : TE} {t : DE} (h : Sim W te t) : SimT W (tB te) (dTest t) := fun {B F σ H ρ μ Qd Xd Q} S q gx k => h S q gx fun v F' H' d μ' g S' z q' => by
  cases d with
  | bl c =>
    unfold Fz at z
    exact ⟨c, z, k c F' H' μ' g S' q'⟩
  | non => exact q'.elim
  | int _ => exact q'.elim
  | str _ => exact q'.elim
  | ty _ => exact q'.elim
  | tup _ => exact q'.elim
  | lst _ => exact q'.elim
  | dic _ => exact q'.elim
  | ins _ _ => exact q'.elim
  | obj _ => exact q'.elim
  | scr _ _ => exact q'.elim
  | xcp _ _ _ _ => exact q'.elim
theorem t_val {e : Expr} {t : DE} (h : PD X W e t) (he : ∀ whole, isTrue e X.env whole = (do let v ← whole; standAt e.pos; holding [v] (truthy v)) := by intro _; rfl) : PTD X W e (dTest t) := by
  obtain ⟨te, h1, h2⟩ := h.ex
  exact ⟨_, pt_val h1 he, simt_test h2⟩
theorem simt_cmp {te : TE} {t : DE} (h : Sim W te t) : SimT W (tTest te) (dTest t) := simt_test h
theorem t_cmp {op : CmpOp} {r : R2} {dr : DR2} (ho : OpR X (compareOp op) r) (hr : SimR r dr) (ha : PB X W a da) (hb : PB X W b db) (hm : behindInMarks op b = false) : PTD X W (.Compare a [op] [b] pos) (dTest (dOp dr da db)) := by
  obtain ⟨ta, a1, a2⟩ := ha.ex
  obtain ⟨tb, b1, b2⟩ := hb.ex
  exact ⟨_, pt_cmpR ho a1 b1 hm, simt_cmp (sim_op hr a2 b2)⟩
theorem t_lt (ha : PB X W a da) (hb : PB X W b db) : PTD X W (.Compare a [.Lt] [b] pos) (dTest (dOp dLt da db)) := t_cmp op_lt (sim_I0 fun _ _ _ => fz_bl) ha hb (nomark _)
theorem t_gt (ha : PB X W a da) (hb : PB X W b db) : PTD X W (.Compare a [.Gt] [b] pos) (dTest (dOp dGt da db)) := t_cmp op_gt (sim_I0 fun _ _ _ => fz_bl) ha hb (nomark _)
theorem t_ge (ha : PB X W a da) (hb : PB X W b db) : PTD X W (.Compare a [.GtE] [b] pos) (dTest (dOp dGe da db)) := t_cmp op_ge (sim_I0 fun _ _ _ => fz_bl) ha hb (nomark _)
theorem t_ne (hu : X.A.units + 64 < cLine) (ha : PB X W a da) (hb : PB X W b db) : PTD X W (.Compare a [.NotEq] [b] pos) (dTest (dOp dNe da db)) := t_cmp (op_neA hu) sim_ne ha hb (nomark _)
variable {tA tB' : DT} {rest : List Expr}
def dAndT (t u : DT) : DT := fun ρ μ Q X => t ρ μ (fun c μ1 => if c = true then u ρ μ1 Q X else Q false μ1) X
def dOrT (t u : DT) : DT := fun ρ μ Q X => t ρ μ (fun c μ1 => if c = true then Q true μ1 else u ρ μ1 Q X) X
def dNotT (t : DT) : DT := fun ρ μ Q X => t ρ μ (fun c μ1 => Q (!c) μ1) X
theorem w_or1 (ha : PTD X W a tA) : PWD X W (.BoolOp .Or [a] pos) tA := by
  obtain ⟨t, h1, h2⟩ := ha.ex
  exact ⟨t, pw_or1 h1, h2⟩
theorem w_or (ha : PTD X W a tA) (hb : PWD X W (.BoolOp .Or (b :: rest) pos) tB') : PWD X W (.BoolOp .Or (a :: b :: rest) pos) (dOrT tA tB') := by
  obtain ⟨t, h1, h2⟩ := ha.ex
  obtain ⟨u, g1, g2⟩ := hb.ex
  refine ⟨_, pw_or h1 g1, fun {B F σ H ρ μ Qd Xd Q} S q gx k => h2 S q gx fun c F' H' μ' g S' q' => ?_⟩
  cases c with
  | false =>
    rw [if_neg (by decide)] at q' ⊢
    exact g2 S' q' (gx.go g) fun c F2 H2 μ2 gg => k c F2 H2 μ2 (g.trans gg)
  | true =>
    rw [if_pos rfl] at q' ⊢
    exact k true F' H' μ' g S' q'
theorem PWD.t {e : Expr} {t : DT} (h : PWD X W e t) : PTD X W e t := by
  obtain ⟨u, h1, h2⟩ := h.ex
  exact ⟨u, h1.pt, h2⟩
theorem t_not (ha : PTD X W a tA) : PTD X W (.UnaryOp .Not a pos) (dNotT tA) := by
  obtain ⟨t, h1, h2⟩ := ha.ex
  exact ⟨_, pt_not h1, fun {B F σ H ρ μ Qd Xd Q} S q gx k => h2 S q gx fun c F' H' μ' g S' q' => k (!c) F' H' μ' g S' q'⟩
def dIf (t : DT) (a b : DE) : DE := fun ρ μ Q X => t ρ μ (fun c μ1 => if c = true then a ρ μ1 Q X else b ρ μ1 Q X) X
end

section
variable {X : Cx} {W : WX} {e : Expr} {es : List Expr} {de : DE} {ds : DA} {pos : Pos}
def dNil : DA := fun _ μ Q _ => Q [] μ
def dCons (a : DE) (r : DA) : DA := fun ρ μ Q X => a ρ μ (fun d μ1 => r ρ μ1 (fun ds μ2 => Q (d :: ds) μ2) X) X
theorem a_nil : PAD X W [] dNil := ⟨_, pa_nil, fun {B F σ H ρ μ Qd Xd Q} S q gx k => k [] F H [] μ .refl S fzl_nil q⟩
theorem a_cons (ha : PD X W e de) (hr : PAD X W es ds) (hs : starEach (e :: es) X.env = (false, eval e X.env) :: starEach es X.env := by rfl) : PAD X W (e :: es) (dCons de ds) := by
  obtain ⟨ta, a1, a2⟩ := ha.ex
  obtain ⟨tr, r1, r2⟩ := hr.ex
  refine ⟨_, pa_cons a1 r1 hs, fun {B F σ H ρ μ Qd Xd Q} S q gx k => a2 S q gx fun v F1 H1 d μ1 g1 S1 z1 q1 => r2 S1 q1 (gx.go g1) fun vs F2 H2 ds μ2 g2 S2 z2 q2 => ?_⟩
  exact k _ F2 H2 _ μ2 (g1.trans g2) S2 (fzl_cons (z1.mono g2.fz) z2) q2
def dTup (a : DA) : DE := fun ρ μ Q X => a ρ μ (fun ds μ1 => ds.length ≤ sizeLine ∧ Q (.tup ds) μ1) X
def dLst (a : DA) : DE := fun ρ μ Q X => a ρ μ (fun ds μ1 => ds.length ≤ sizeLine ∧ Q (.lst ds) μ1) X
theorem d_tup {x1} (h : PAD X W es ds) : PD X W (.Tuple es x1 pos) (dTup ds) := by
  obtain ⟨ta, a1, a2⟩ := h.ex
  refine ⟨_, pe_tup a1, fun {B F σ H ρ μ Qd Xd Q} S q gx k => a2 S q gx fun vs F1 H1 ds μ1 g1 S1 z1 q1 => ⟨by rw [z1.length]; exact q1.1, fun p hp => ?_⟩⟩
  obtain ⟨g, W', z⟩ := new_tup S1.wd z1 hp
  exact k _ _ _ _ μ1 (g1.trans g) (S1.go g W') z q1.2
theorem d_lst (h : PAD X W es ds) : PD X W (.List es pos) (dLst ds) := by
  obtain ⟨ta, a1, a2⟩ := h.ex
  refine ⟨_, pe_lst a1, fun {B F σ H ρ μ Qd Xd Q} S q gx k => a2 S q gx fun vs F1 H1 ds μ1 g1 S1 z1 q1 => ⟨by rw [z1.length]; exact q1.1, fun p hp => ?_⟩⟩
  obtain ⟨g, W', z⟩ := new_lst S1.wd z1 hp
  exact k _ _ _ _ μ1 (g1.trans g) (S1.go g W') z q1.2
end
end DL

namespace DL
open PySem PySem.Spec PyProof.Rows L2

theorem Sti.fresh {B : Anchor} {F : Hp} {σ : L2.St} {H : Hp} {ρ : List Slot} {μ : Mu} (S : Sti B F σ H ρ μ) {p : Addr} (h : H p = none) : ∀ o, B.H p = some o → B.μ p = none → False := fun o e m => by
  have := (S.grow.keep p o e m).1
  rw [h] at this
  cases this

structure DEnds where
  nx : List Slot → Mu → Prop
  rt : D → Mu → Prop
  xc : List Slot → DX → Mu → Prop
  bk : List Slot → Mu → Prop := fun _ _ => False
  ct : List Slot → Mu → Prop := fun _ _ => False
abbrev DS := DEnds → List Slot → Mu → Prop
structure Rel (W : WX) (B : Anchor) (F : Hp) (Dd : DEnds) (D : Ends) : Prop where
  nx : ∀ F' σ' H' ρ' μ', Ex F F' → Sti B F' σ' H' ρ' μ' → Dd.nx ρ' μ' → D.nx σ' H'
  bk : ∀ F' σ' H' ρ' μ', Ex F F' → Sti B F' σ' H' ρ' μ' → Dd.bk ρ' μ' → D.bk σ' H'
  ct : ∀ F' σ' H' ρ' μ', Ex F F' → Sti B F' σ' H' ρ' μ' → Dd.ct ρ' μ' → D.ct σ' H'
  rt : ∀ v d F' σ' H' ρ' μ', Ex F F' → Sti B F' σ' H' ρ' μ' → Fz F' d v → Dd.rt d μ' → D.rt v H'
  xc : ∀ cls dd x F' σ' H' ρ' μ', Ex F F' → Sti B F' σ' H' ρ' μ' → XIs F' μ' H' cls dd x → Dd.xc ρ' x μ' → W cls dd σ' H'
theorem Rel.go {W : WX} {B : Anchor} {F F' : Hp} {Dd : DEnds} {D : Ends} (r : Rel W B F Dd D) (e : Ex F F') : Rel W B F' Dd D :=
  ⟨fun F2 σ2 H2 ρ2 μ2 e2 => r.nx F2 σ2 H2 ρ2 μ2 (e.trans e2), fun F2 σ2 H2 ρ2 μ2 e2 => r.bk F2 σ2 H2 ρ2 μ2 (e.trans e2), fun F2 σ2 H2 ρ2 μ2 e2 => r.ct F2 σ2 H2 ρ2 μ2 (e.trans e2),
    fun v d F2 σ2 H2 ρ2 μ2 e2 => r.rt v d F2 σ2 H2 ρ2 μ2 (e.trans e2), fun c dd x F2 σ2 H2 ρ2 μ2 e2 => r.xc c dd x F2 σ2 H2 ρ2 μ2 (e.trans e2)⟩
theorem Rel.gox {W : WX} {B : Anchor} {F H : Hp} {σ : L2.St} {ρ : List Slot} {μ : Mu} {Dd : DEnds} {D : Ends} (r : Rel W B F Dd D) : GoX W B F σ H ρ μ (Dd.xc ρ) :=
  fun cls dd F' H' x μ' g S z q => r.xc cls dd x F' σ H' ρ μ' g.fz S z q
def SimS (W : WX) (ts : TS) (t : DS) : Prop := ∀ {B : Anchor} {F : Hp} {σ : L2.St} {H : Hp} {ρ : List Slot} {μ : Mu} {Dd : DEnds} {D : Ends}, Sti B F σ H ρ μ → t Dd ρ μ → Rel W B F Dd D → ts D σ H
structure PSD (X : Cx) (W : WX) (st : Stmt) (t : DS) : Prop where
  ex : ∃ ts, PS X st ts ∧ SimS W ts t
structure PSsD (X : Cx) (W : WX) (st : List Stmt) (t : DS) : Prop where
  ex : ∃ ts, PSs X st ts ∧ SimS W ts t
def dNext : DS := fun D ρ μ => D.nx ρ μ
def dSeq (t u : DS) : DS := fun D ρ μ => t { D with nx := u D } ρ μ
theorem sims_seq {W : WX} {ts us : TS} {t u : DS} (h1 : SimS W ts t) (h2 : SimS W us u) : SimS W (tSeq ts us) (dSeq t u) := fun {B F σ H ρ μ Dd D} S q r =>
  h1 (D := { D with nx := us D }) S q ⟨fun F2 σ2 H2 ρ2 μ2 e2 S2 q2 => h2 S2 q2 (r.go e2), r.bk, r.ct, r.rt, r.xc⟩
section
variable {X : Cx} {W : WX} {st : Stmt} {rest : List Stmt} {t u : DS} {pos : Pos} {e : Expr} {de : DE}
theorem ss_nil : PSsD X W [] dNext := ⟨_, pss_nil, fun {B F σ H ρ μ Dd D} S q r => r.nx F σ H ρ μ (Evl.Ex.refl _) S q⟩
theorem ss_cons (h1 : PSD X W st t) (h2 : PSsD X W rest u) : PSsD X W (st :: rest) (dSeq t u) := by
  obtain ⟨ts, a1, a2⟩ := h1.ex
  obtain ⟨us, b1, b2⟩ := h2.ex
  exact ⟨_, pss_cons a1 b1, sims_seq a2 b2⟩
theorem ss_one (h1 : PSD X W st t) : PSsD X W [st] t := by
  obtain ⟨ts, a1, a2⟩ := h1.ex
  exact ⟨_, pss_one a1, a2⟩
def dBrk : DS := fun D ρ μ => D.bk ρ μ
def dCnt : DS := fun D ρ μ => D.ct ρ μ
def dDrop (a : DE) : DS := fun D ρ μ => a ρ μ (fun _ μ1 => D.nx ρ μ1) (D.xc ρ)
def dRet (a : DE) : DS := fun D ρ μ => a ρ μ D.rt (D.xc ρ)
theorem s_ret (h : PD X W e de) : PSD X W (.Return (some e) pos) (dRet de) := by
  obtain ⟨te, a1, a2⟩ := h.ex
  exact ⟨_, ps_ret a1, fun {B F σ H ρ μ Dd D} S q r => a2 S q r.gox fun v F' H' d μ' g S' z q' => r.rt v d F' σ H' ρ μ' g.fz S' z q'⟩
def dRetN : DS := fun D _ μ => D.rt .non μ
def dIfS (c : DT) (t u : DS) : DS := fun D ρ μ => c ρ μ (fun b μ1 => if b = true then t D ρ μ1 else u D ρ μ1) (D.xc ρ)
theorem s_if {c : Expr} {a b : List Stmt} {tc : DT} (hc : PTD X W c tc) (ha : PSsD X W a t) (hb : PSsD X W b u) : PSD X W (.If c a b pos) (dIfS tc t u) := by
  obtain ⟨tt, c1, c2⟩ := hc.ex
  obtain ⟨ta, a1, a2⟩ := ha.ex
  obtain ⟨tb, b1, b2⟩ := hb.ex
  refine ⟨_, ps_if c1 a1 b1, fun {B F σ H ρ μ Dd D} S q r => c2 S q r.gox fun b F' H' μ' g S' q' => ?_⟩
  cases b with
  | true =>
    rw [if_pos rfl] at q' ⊢
    exact a2 S' q' (r.go g.fz)
  | false =>
    rw [if_neg (by decide)] at q' ⊢
    exact b2 S' q' (r.go g.fz)
end

abbrev DG := D → List Slot → Mu → (List Slot → Mu → Prop) → Prop
abbrev DGs := List D → List Slot → Mu → (List Slot → Mu → Prop) → Prop
def SimG (g : TG) (dg : DG) : Prop := ∀ {B : Anchor} {F : Hp} {σ : L2.St} {H : Hp} {ρ : List Slot} {μ : Mu} {x : V} {d : D} {Qd : List Slot → Mu → Prop} {Q : L2.St → Hp → Prop}, Sti B F σ H ρ μ → Fz F d x → dg d ρ μ Qd →
  (∀ F' σ' H' ρ' μ', Grow F μ H F' μ' H' → Sti B F' σ' H' ρ' μ' → Qd ρ' μ' → Q σ' H') → g x σ H Q
def SimGs (g : TGs) (dg : DGs) : Prop := ∀ {B : Anchor} {F : Hp} {σ : L2.St} {H : Hp} {ρ : List Slot} {μ : Mu} {xs : List V} {ds : List D} {Qd : List Slot → Mu → Prop} {Q : L2.St → Hp → Prop}, Sti B F σ H ρ μ → FzL F ds xs → dg ds ρ μ Qd →
  (∀ F' σ' H' ρ' μ', Grow F μ H F' μ' H' → Sti B F' σ' H' ρ' μ' → Qd ρ' μ' → Q σ' H') → g xs σ H Q
structure PGD (X : Cx) (tg : Expr) (t : DG) : Prop where
  ex : ∃ g, PG X tg g ∧ SimG g t
structure PGsD (X : Cx) (tg : List Expr) (t : DGs) : Prop where
  ex : ∃ g, PGs X tg g ∧ SimGs g t
def dgName (i : Nat) : DG := fun d ρ μ Q => Q (ρ.set i (.dat d)) μ
def dgNil : DGs := fun ds ρ μ Q => ds = [] ∧ Q ρ μ
def dgCons (g : DG) (r : DGs) : DGs := fun ds ρ μ Q => match ds with
  | [] => False
  | d :: ds => g d ρ μ fun ρ1 μ1 => r ds ρ1 μ1 Q
def dgTup (n : Nat) (r : DGs) : DG := fun d ρ μ Q => match d with
  | .tup ds | .lst ds => ds.length = n ∧ r ds ρ μ Q
  | _ => False
def gSeq (K : PySem.W.Frag) (n : Nat) (t : TGs) : TG := fun v σ H Q => gTup K n t v σ H Q ∨ gLst K n t v σ H Q
theorem pg_seq {X : Cx} {pos : Pos} {es : List Expr} {k : Nat} {t : TGs} {n : Nat} (hc : X.calm = true) (h : PGs X es t)
    (hn : (assignEach es X.env).length = n := by rfl) (hst : (assignEach es X.env).findIdx? (·.1) = none := by rfl) : PG X (.Tuple es k pos) (gSeq X.K n t) :=
  ⟨fun pins s σ H v u Q I r hw => hw.elim (fun q => (pg_tup hc h hn hst).run pins s σ H v u Q I r q) fun q => (pg_lst hc h hn hst).run pins s σ H v u Q I r q⟩
theorem simg_name {i : Nat} : SimG (gName i) (dgName i) := fun {B F σ H ρ μ x d Qd Q} S z q k => k F _ H _ μ .refl (S.set z) q
theorem simg_tup {K : PySem.W.Frag} {n : Nat} {r : TGs} {dr : DGs} (h : SimGs r dr) : SimG (gSeq K n r) (dgTup n dr) := fun {B F σ H ρ μ x d Qd Q} S z q k => by
  unfold dgTup at q
  split at q
  · rename_i ds
    obtain ⟨a, vs, e, h1, f1, z1⟩ := bz_tup S.wd (z.bz S.wd)
    exact .inl ⟨a, vs, e, .of h1, by rw [z1.length]; exact q.1, h S z1 q.2 k⟩
  · rename_i ds
    unfold Fz at z
    obtain ⟨a, vs, e, h1, z1⟩ := z
    exact .inr ⟨a, vs, e, .of (S.wd.ext _ _ h1), by rw [z1.length]; exact q.1, h S z1 q.2 k⟩
  · exact q.elim
section
variable {X : Cx} {pos : Pos}
theorem g_name {i : Nat} {x : Str} (hN : X.N.Nodup) (hi : X.N[i]? = some x) (hx : Loc X.env.scope x) (hf : X.fn x = true ∨ X.env.scope.names.lookup x = some .local := by first | exact .inl rfl | exact .inr rfl | assumption) : PGD X (.Name x pos) (dgName i) :=
  ⟨_, pg_name hN hi hx hf, simg_name⟩
theorem g_nil : PGsD X [] dgNil := ⟨_, pgs_nil, fun {B F σ H ρ μ xs ds Qd Q} S z q k => by
  obtain ⟨rfl, q⟩ := q
  exact ⟨fzl_inv0 z, k F σ H ρ μ .refl S q⟩⟩
theorem g_cons {e : Expr} {es : List Expr} {t : DG} {u : DGs} (h1 : PGD X e t) (h2 : PGsD X es u) (hs : (assignEach (e :: es) X.env).map (·.2) = assign e X.env :: (assignEach es X.env).map (·.2) := by rfl) : PGsD X (e :: es) (dgCons t u) := by
  obtain ⟨g, a1, a2⟩ := h1.ex
  obtain ⟨gs, b1, b2⟩ := h2.ex
  refine ⟨_, pgs_cons a1 b1 hs, fun {B F σ H ρ μ xs ds Qd Q} S z q k => ?_⟩
  cases ds with
  | nil => exact q.elim
  | cons d ds =>
    obtain ⟨v, r, e, z1, z2⟩ := fzl_inv z
    exact ⟨v, r, e, a2 S z1 q fun F1 σ1 H1 ρ1 μ1 e1 S1 q1 => b2 S1 (z2.mono e1.fz) q1 fun F2 σ2 H2 ρ2 μ2 e2 => k F2 σ2 H2 ρ2 μ2 (e1.trans e2)⟩
theorem g_tup {es : List Expr} {k : Nat} {t : DGs} {n : Nat} (hc : X.calm = true) (h : PGsD X es t) (hn : (assignEach es X.env).length = n := by rfl) (hst : (assignEach es X.env).findIdx? (·.1) = none := by rfl) : PGD X (.Tuple es k pos) (dgTup n t) := by
  obtain ⟨g, a1, a2⟩ := h.ex
  exact ⟨_, pg_seq hc a1 hn hst, simg_tup a2⟩
def dAsg (a : DE) (g : DG) : DS := fun D ρ μ => a ρ μ (fun d μ1 => g d ρ μ1 D.nx) (D.xc ρ)
variable {W : WX}
theorem s_asg {tg e : Expr} {de : DE} {g : DG} (he : PD X W e de) (hg : PGD X tg g) (hs : swapsWithSole [tg] e pos.line X.env = pure false := by rfl) (hw : swappedStores [tg] e X.env = pure none := by rfl)
    (h1 : (assignEach [tg] X.env).map (·.2) = [assign tg X.env] := by rfl) : PSD X W (.Assign [tg] e pos) (dAsg de g) := by
  obtain ⟨te, a1, a2⟩ := he.ex
  obtain ⟨tg, b1, b2⟩ := hg.ex
  exact ⟨_, ps_asg a1 b1 hs hw h1, fun {B F σ H ρ μ Dd D} S q r => a2 S q r.gox fun v F' H' d μ' g S' z q' => b2 S' z q' fun F2 σ2 H2 ρ2 μ2 e2 S2 q2 => r.nx F2 σ2 H2 ρ2 μ2 (g.fz.trans e2.fz) S2 q2⟩
theorem s_set {i : Nat} {x : Str} {e : Expr} {de : DE} {pos' : Pos} (hN : X.N.Nodup) (hi : X.N[i]? = some x) (hx : Loc X.env.scope x) (he : PD X W e de) (hs : swapsWith e (some (.Name x pos')) pos.line X.env = pure false := by rfl)
    (hf : X.fn x = true ∨ X.env.scope.names.lookup x = some .local := by first | exact .inl rfl | exact .inr rfl | assumption) : PSD X W (.Assign [.Name x pos'] e pos) (dAsg de (dgName i)) := by
  obtain ⟨te, a1, a2⟩ := he.ex
  exact ⟨_, L2.ps_set hN hi hx a1 hs hf, fun {B F σ H ρ μ Dd D} S q r => a2 S q r.gox fun v F' H' d μ' g S' z q' => simg_name S' z q' fun F2 σ2 H2 ρ2 μ2 e2 S2 q2 => r.nx F2 σ2 H2 ρ2 μ2 (g.fz.trans e2.fz) S2 q2⟩
def dAug (f : Int → Int → Int) (i : Nat) (a : DE) : DS := fun D ρ μ => match ρ[i]? with
  | some (.dat (.int x)) => a ρ μ (fun d μ1 => match d with
    | .int y => D.nx (ρ.set i (.dat (.int (f x y)))) μ1
    | _ => False) (D.xc ρ)
  | _ => False
end

def Walk (J : It) (F : Hp) (ds : List D) : Prop := ∀ (F2 : Hp) (μ2 : Mu) (H2 : Hp), Ex F F2 → Wd F2 μ2 H2 →
  (∀ i, i < ds.length → J.go i H2) ∧ (∀ i d x H3, ds[i]? = some d → J.yld i H2 x H3 → ∃ F3, Grow F2 μ2 H2 F3 μ2 H3 ∧ Wd F3 μ2 H3 ∧ Fz F3 d x) ∧ J.stop ds.length H2
abbrev DI := List Slot → Mu → (List D → Mu → Prop) → DXQ → Prop
def SimI (W : WX) (wi : TI) (t : DI) : Prop := ∀ {B : Anchor} {F : Hp} {σ : L2.St} {H : Hp} {ρ : List Slot} {μ : Mu} {Qd : List D → Mu → Prop} {Xd : DXQ} {R : It → Hp → Prop}, Sti B F σ H ρ μ → t ρ μ Qd Xd → GoX W B F σ H ρ μ Xd →
  (∀ J F' H' ds μ', Grow F μ H F' μ' H' → Sti B F' σ H' ρ μ' → Walk J F' ds → Qd ds μ' → R J H') → wi σ H R
structure PID (X : Cx) (W : WX) (tg iter : Expr) (t : DI) : Prop where
  ex : ∃ wi, PI X tg iter wi ∧ SimI W wi t
theorem walk_list {K : PySem.W.Frag} {F : Hp} {a : Addr} {vs : List V} {ds : List D} (h : F a = some (.lst vs)) (z : FzL F ds vs) : Walk (Itl K a) F ds := fun F2 μ2 H2 e W => by
  have hH := W.ext _ _ (e _ _ h)
  refine ⟨fun i hi => ?_, fun i d x H3 hd hy => ?_, ⟨vs, .of hH, by rw [z.length]; exact Nat.le_refl _⟩⟩
  · obtain ⟨v, hv, _⟩ := z.get (List.getElem?_eq_getElem hi)
    exact ⟨vs, v, .of hH, hv⟩
  · obtain ⟨rfl, q⟩ := hy
    obtain ⟨v, hv, zv⟩ := z.get hd
    have := q vs (.of hH)
    rw [hv] at this
    cases this
    exact ⟨F2, .refl, W, zv.mono e⟩
def rangeD (lo : Int) (n : Nat) : List D := (List.range n).map fun i => .int (lo + (i : Nat))
theorem rangeD_length (lo : Int) (n : Nat) : (rangeD lo n).length = n := by simp [rangeD]
theorem walk_range {F : Hp} {lo : Int} {n : Nat} : Walk (Itr lo n) F (rangeD lo n) := fun F2 μ2 H2 e W => by
  refine ⟨fun i hi => by rw [rangeD_length] at hi; exact hi, fun i d x H3 hd hy => ?_, by rw [rangeD_length]; exact Nat.le_refl _⟩
  obtain ⟨rfl, rfl⟩ := hy
  refine ⟨F2, .refl, W, ?_⟩
  have hi : i < n := by
    have := (List.getElem?_eq_some_iff.mp hd).1
    rwa [rangeD_length] at this
  unfold rangeD at hd
  rw [List.getElem?_map, List.getElem?_range hi] at hd
  simp at hd
  subst hd
  exact fz_int
section
variable {X : Cx} {W : WX} {tg e : Expr} {de : DE} {da : DA} {pos : Pos}
def diL (a : DE) : DI := fun ρ μ Q X => a ρ μ (fun d μ1 => match d with
  | .lst ds => Q ds μ1
  | _ => False) X
def diT (a : DE) : DI := fun ρ μ Q X => a ρ μ (fun d μ1 => match d with
  | .tup ds => Q ds μ1
  | _ => False) X
theorem i_list (h : PD X W e de) : PID X W tg e (diL de) := by
  obtain ⟨te, a1, a2⟩ := h.ex
  refine ⟨_, pi_list a1, fun {B F σ H ρ μ Qd Xd R} S q gx k => a2 S q gx fun v F' H' d μ' g S' z q' => ?_⟩
  split at q'
  · rename_i ds
    unfold Fz at z
    obtain ⟨a, vs, rfl, h1, z1⟩ := z
    exact ⟨a, rfl, ⟨vs, .of (S'.wd.ext _ _ h1)⟩, k _ F' H' ds μ' g S' (walk_list h1 z1) q'⟩
  · exact q'.elim
def diR1 (a : DA) : DI := fun ρ μ Q X => a ρ μ (fun ds μ1 => match ds with
  | [.int n] => -(2 ^ 62) ≤ n ∧ n < 2 ^ 62 ∧ Q (rangeD 0 n.toNat) μ1
  | _ => False) X
def diR2 (a : DA) : DI := fun ρ μ Q X => a ρ μ (fun ds μ1 => match ds with
  | [.int i, .int j] => (-(2 ^ 62) ≤ i ∧ i < 2 ^ 62 ∧ -(2 ^ 62) ≤ j ∧ j < 2 ^ 62) ∧ Q (rangeD i (j - i).toNat) μ1
  | _ => False) X
theorem i_range1 {a : Expr} {p : Pos} (hm : X.mg "range" = none) (ha : PAD X W [a] da) (hg : Gl X "range" := by rfl) (hs : starEach [a] X.env = [(false, eval a X.env)] := by rfl) : PID X W tg (.Call (.Name "range" p) [a] [] pos) (diR1 da) := by
  obtain ⟨te, a1, a2⟩ := ha.ex
  refine ⟨_, pi_range1 hg hm a1 hs, fun {B F σ H ρ μ Qd Xd R} S q gx k => a2 S q gx fun v F' H' d μ' g S' z q' => ?_⟩
  split at q'
  · rename_i n
    obtain ⟨v, r1, rfl, z1, z2⟩ := fzl_inv z
    unfold Fz at z1
    rw [z1, fzl_inv0 z2]
    exact ⟨n, rfl, q'.1, q'.2.1, k _ F' H' _ μ' g S' walk_range q'.2.2⟩
  · exact q'.elim
end
def dForGo (g : DG) (tb : DS) (Z : DEnds) : List D → List Slot → Mu → Prop
  | [], ρ, μ => Z.nx ρ μ
  | x :: xs, ρ, μ => g x ρ μ fun ρ1 μ1 => tb { nx := dForGo g tb Z xs, ct := dForGo g tb Z xs, bk := Z.nx, rt := Z.rt, xc := Z.xc } ρ1 μ1
def dFor (i : DI) (g : DG) (tb : DS) : DS := fun D ρ μ => i ρ μ (fun ds μ1 => dForGo g tb D ds ρ μ1) (D.xc ρ)
theorem drop_cons {α : Type} {l : List α} {i : Nat} {x : α} (h : l[i]? = some x) : l.drop i = x :: l.drop (i + 1) := by
  obtain ⟨hi, e⟩ := List.getElem?_eq_some_iff.mp h
  rw [← e]
  exact List.drop_eq_getElem_cons hi
theorem sims_for {W : WX} {wi : TI} {g : TG} {tb : TS} {di : DI} {dg : DG} {db : DS} (hi : SimI W wi di) (hg : SimG g dg) (hb : SimS W tb db) : SimS W (tFor wi g tb) (dFor di dg db) := fun {B F σ H ρ μ Dd D} S q r =>
  hi S q r.gox fun J F1 H1 ds μ1 g1 S1 wk q1 => by
    refine ⟨fun i m σ H => m = ds.length - i ∧ i ≤ ds.length ∧ ∃ F2 ρ2 μ2, Ex F1 F2 ∧ Sti B F2 σ H ρ2 μ2 ∧ dForGo dg db Dd (ds.drop i) ρ2 μ2, ⟨ds.length, rfl, Nat.zero_le _, F1, ρ, μ1, Evl.Ex.refl _, S1, q1⟩, ?_⟩
    rintro i m σ2 H2 ⟨rfl, hi, F2, ρ2, μ2, e2, S2, q2⟩
    obtain ⟨w1, w2, w3⟩ := wk F2 μ2 H2 e2 S2.wd
    by_cases hlt : i < ds.length
    · obtain ⟨d, hd⟩ : ∃ d, ds[i]? = some d := ⟨_, List.getElem?_eq_getElem hlt⟩
      rw [drop_cons hd] at q2
      refine .inr ⟨w1 i hlt, fun σ H => ∃ F3 ρ3 μ3, Ex F1 F3 ∧ Sti B F3 σ H ρ3 μ3 ∧ dForGo dg db Dd (ds.drop (i + 1)) ρ3 μ3, fun σ' H' hN => ⟨ds.length - (i + 1), by omega, rfl, hlt, hN⟩, fun x H3 hy => ?_⟩
      obtain ⟨F3, g3, W3, z3⟩ := w2 i d x H3 hd hy
      refine hg (S2.go g3 W3) z3 q2 fun F4 σ4 H4 ρ4 μ4 g4 S4 q4 => have e4 := g4.fz; hb S4 q4 ⟨?_, ?_, ?_, ?_, ?_⟩
      · exact fun F5 σ5 H5 ρ5 μ5 e5 S5 q5 => ⟨F5, ρ5, μ5, ((e2.trans g3.fz).trans e4).trans e5, S5, q5⟩
      · exact fun F5 σ5 H5 ρ5 μ5 e5 S5 q5 => r.nx F5 σ5 H5 ρ5 μ5 ((((g1.fz.trans e2).trans g3.fz).trans e4).trans e5) S5 q5
      · exact fun F5 σ5 H5 ρ5 μ5 e5 S5 q5 => ⟨F5, ρ5, μ5, ((e2.trans g3.fz).trans e4).trans e5, S5, q5⟩
      · exact fun v d F5 σ5 H5 ρ5 μ5 e5 S5 z5 q5 => r.rt v d F5 σ5 H5 ρ5 μ5 ((((g1.fz.trans e2).trans g3.fz).trans e4).trans e5) S5 z5 q5
      · exact fun c dd x F5 σ5 H5 ρ5 μ5 e5 S5 z5 q5 => r.xc c dd x F5 σ5 H5 ρ5 μ5 ((((g1.fz.trans e2).trans g3.fz).trans e4).trans e5) S5 z5 q5
    · have e : i = ds.length := by omega
      subst e
      rw [List.drop_length] at q2
      exact .inl ⟨w3, r.nx F2 σ2 H2 ρ2 μ2 (g1.fz.trans e2) S2 q2⟩
section
variable {X : Cx} {W : WX} {pos : Pos}
theorem s_for {tg iter : Expr} {body : List Stmt} {di : DI} {dg : DG} {db : DS} (hp : PassesOwn (model X.prog X.w) X.A X.env X.xe) (hc : X.calm = true) (hi : PID X W tg iter di) (hg : PGD X tg dg) (hb : PSsD X W body db) (hs : ∀ x, foldedSetIterable iter X.env x = pure x := by intro _; rfl) : PSD X W (.For tg iter body [] pos) (dFor di dg db) := by
  obtain ⟨wi, a1, a2⟩ := hi.ex
  obtain ⟨g, b1, b2⟩ := hg.ex
  obtain ⟨tb, c1, c2⟩ := hb.ex
  exact ⟨_, ps_for hp hc a1 b1 c1 hs, sims_for a2 b2 c2⟩
end
end DL

namespace DL
open PySem PySem.Spec PyProof.Rows L2

def NewAt (H : Hp) (μ : Mu) (p : Addr) : Prop := ∀ o, H p = some o → μ p = none → False
theorem NewAt.of {H : Hp} {μ : Mu} {p : Addr} (h : H p = none) : NewAt H μ p := fun o e _ => by
  rw [h] at e
  cases e
theorem NewAt.back {F F' : Hp} {μ μ' : Mu} {H H' : Hp} {p : Addr} (g : Grow F μ H F' μ' H') (h : NewAt H' μ' p) : NewAt H μ p := fun o e m => by
  obtain ⟨k1, k2, _⟩ := g.keep p o e m
  exact h o k1 k2
theorem NewAt.ne {H : Hp} {μ : Mu} {a p : Addr} {o : HO} (h : NewAt H μ p) (ha : H a = some o) (hm : μ a = none) : a ≠ p := by
  rintro rfl
  exact h o ha hm
def SimO (W : WX) (te : TE) (t : DI) : Prop := ∀ {B : Anchor} {F : Hp} {σ : L2.St} {H : Hp} {ρ : List Slot} {μ : Mu} {Qd : List D → Mu → Prop} {Xd : DXQ} {Q : VK}, Sti B F σ H ρ μ → t ρ μ Qd Xd → GoX W B F σ H ρ μ Xd →
  (∀ p vs F' H' ds μ', Grow F μ H F' μ' H' → Sti B F' σ H' ρ μ' → NewAt H μ p → H' p = some (.lst vs) → F' p = none → μ' p = none → FzL F' ds vs → Qd ds μ' → Q (.ref p) H') → te σ H Q
structure PO (X : Cx) (W : WX) (e : Expr) (t : DI) : Prop where
  ex : ∃ te, PE X e te ∧ SimO W te t
theorem Wd.frz {F : Hp} {μ : Mu} {H : Hp} (W : Wd F μ H) {p : Addr} {o : HO} (h : H p = some o) (hF : F p = none) (hm : μ p = none) : Wd (upd F p o) μ H := by
  refine ⟨fun a u e => ?_, fun a u e => ?_, fun a vs e => ?_⟩
  · by_cases hb : a = p
    · subst hb
      rw [upd_same] at e
      cases e
      exact h
    · rw [upd_ne hb] at e
      exact W.ext a u e
  · obtain ⟨q1, q2⟩ := W.mu a u e
    have hb : a ≠ p := by
      rintro rfl
      rw [hm] at e
      cases e
    exact ⟨q1.mono (Evl.Ex.new hF) fun v hv => hv, by rw [upd_ne hb]; exact q2⟩
  · by_cases hb : a = p
    · subst hb
      rw [h] at e
      rw [upd_same, e]
    · rw [upd_ne hb]
      exact W.tup a vs e
def dFl (t : DI) : DE := fun ρ μ Q X => t ρ μ (fun ds μ1 => Q (.lst ds) μ1) X
theorem PO.d {X : Cx} {W : WX} {e : Expr} {t : DI} (h : PO X W e t) : PD X W e (dFl t) := by
  obtain ⟨te, a1, a2⟩ := h.ex
  refine ⟨_, a1, fun {B F σ H ρ μ Qd Xd Q} S q gx k => a2 S q gx fun p vs F' H' ds μ' g S' h0 h1 h2 h3 z q' => ?_⟩
  have e : Ex F' (upd F' p (.lst vs)) := Evl.Ex.new h2
  have g2 : Grow F μ H (upd F' p (.lst vs)) μ' H' := ⟨g.fz.trans e, fun b o x1 x2 => by
    obtain ⟨k1, k2, k3⟩ := g.keep b o x1 x2
    exact ⟨k1, k2, fun x => by rw [upd_ne (h0.ne x1 x2)]; exact k3 x⟩⟩
  refine k _ _ H' (.lst ds) μ' g2 ?_ (fz_lst (z.mono e) upd_same) q'
  have g3 : Grow B.F B.μ B.H (upd F' p (.lst vs)) μ' H' := ⟨S'.grow.fz.trans e, fun b o x1 x2 => by
    obtain ⟨k1, k2, k3⟩ := S'.grow.keep b o x1 x2
    refine ⟨k1, k2, fun x => ?_⟩
    have hb : b ≠ p := by
      rintro rfl
      obtain ⟨j1, j2, _⟩ := S.grow.keep _ o x1 x2
      exact h0 o j1 j2
    rw [upd_ne hb]
    exact k3 x⟩
  refine ⟨S'.wd.frz h1 h2 h3, g3, S'.len, fun i s v x1 x2 => ?_, S'.dist⟩
  have q := S'.slot i s v x1 x2
  have q0 := S.slot i s v x1 x2
  cases s with
  | no => exact True.intro
  | fn _ _ _ _ => exact ⟨q.1, q.2.1, e _ _ q.2.2⟩
  | dat d =>
    obtain ⟨x, hx, q⟩ := q
    exact ⟨x, hx, q.mono e⟩
  | ml ds =>
    obtain ⟨a, vs', hv, ha, q, o1, o2, o3⟩ := q
    obtain ⟨a0, vs0, hv0, ha0, _, _, m0, _⟩ := q0
    rw [hv] at hv0
    cases hv0
    exact ⟨a, vs', hv, ha, q.mono e, by rw [upd_ne (h0.ne ha0 m0)]; exact o1, o2, o3⟩
  | md ks =>
    obtain ⟨a, vs', hv, ha, q, o1, o2, o3⟩ := q
    obtain ⟨a0, vs0, hv0, ha0, _, _, m0, _⟩ := q0
    rw [hv] at hv0
    cases hv0
    exact ⟨a, vs', hv, ha, q.mono e, by rw [upd_ne (h0.ne ha0 m0)]; exact o1, o2, o3⟩
theorem Wd.own {F : Hp} {μ : Mu} {H : Hp} (W : Wd F μ H) {p : Addr} {o : HO} (h : H p = none) (ho : ∀ vs, o ≠ .tup vs := by exact fun _ z => nomatch z) : Wd F μ (upd H p o) ∧ Grow F μ H F μ (upd H p o) := by
  obtain ⟨hF, hm⟩ := W.free h
  refine ⟨⟨fun a u e => ?_, fun a u e => ?_, fun a vs e => ?_⟩, Evl.Ex.refl _, fun b u e1 e2 => ⟨?_, e2, fun e3 => e3⟩⟩
  · rw [upd_ne (ne_of_none e hF)]
    exact W.ext a u e
  · obtain ⟨q1, q2⟩ := W.mu a u e
    have hb : a ≠ p := by
      rintro rfl
      rw [hm] at e
      cases e
    exact ⟨q1.mono (Evl.Ex.refl _) fun v hv => by rw [upd_ne hb]; exact hv, q2⟩
  · by_cases hb : a = p
    · subst hb
      rw [upd_same] at e
      exact (ho vs (Option.some.inj e)).elim
    · rw [upd_ne hb] at e
      exact W.tup a vs e
  · rw [upd_ne (ne_of_none e1 h)]
    exact e1
section
variable {X : Cx} {W : WX} {pos : Pos}
def doLst (a : DA) : DI := fun ρ μ Q X => a ρ μ (fun ds μ1 => ds.length ≤ sizeLine ∧ Q ds μ1) X
end

theorem Sti.setO {B : Anchor} {F : Hp} {σ : L2.St} {H : Hp} {ρ : List Slot} {μ : Mu} (S : Sti B F σ H ρ μ) {i : Nat} {s : Slot} {v : V} (h : SlotOk B F H μ (some v) s)
    (hn : ∀ (j : Nat) (t : Slot) (a : Addr), ρ[j]? = some t → t.own = true → σ[j]? = some (some (.ref a)) → v ≠ .ref a) : Sti B F (σ.set i (some v)) H (ρ.set i s) μ := by
  refine ⟨S.wd, S.grow, by rw [List.length_set, List.length_set]; exact S.len, fun j s' w h1 h2 => ?_, fun j k s1 t a hjk h1 h2 o1 o2 e1 e2 => ?_⟩
  · by_cases hj : i = j
    · subst hj
      rw [List.getElem?_set] at h1 h2
      simp only [if_true] at h1 h2
      split at h1
      · cases h1
        split at h2
        · cases h2
          exact h
        · cases h2
      · cases h1
    · rw [List.getElem?_set_ne hj] at h1 h2
      exact S.slot j s' w h1 h2
  · have own : ∀ (j : Nat), i = j → (σ.set i (some v))[j]? = some (some (.ref a)) → v = .ref a := fun j hj e => by
      subst hj
      rw [List.getElem?_set] at e
      simp only [if_true] at e
      split at e
      · exact Option.some.inj (Option.some.inj e)
      · cases e
    by_cases hj : i = j
    · by_cases hk : i = k
      · exact hjk (hj.symm.trans hk)
      · rw [List.getElem?_set_ne hk] at h2 e2
        exact hn k t a h2 o2 e2 (own j hj e1)
    · rw [List.getElem?_set_ne hj] at h1 e1
      by_cases hk : i = k
      · exact hn j s1 a h1 o1 e1 (own k hk e2)
      · rw [List.getElem?_set_ne hk] at h2 e2
        exact S.dist j k s1 t a hjk h1 h2 o1 o2 e1 e2
theorem Sti.ownAt {B : Anchor} {F : Hp} {σ : L2.St} {H : Hp} {ρ : List Slot} {μ : Mu} (S : Sti B F σ H ρ μ) {j : Nat} {t : Slot} {a : Addr} (h1 : ρ[j]? = some t) (h2 : t.own = true) (h3 : σ[j]? = some (some (.ref a))) : (∃ o, H a = some o) ∧ μ a = none := by
  have q := S.slot j t _ h1 h3
  cases t with
  | no => cases h2
  | fn _ _ _ _ => cases h2
  | dat d => cases h2
  | ml ds =>
    obtain ⟨a', vs, e, ha, _, _, m, _⟩ := q
    cases e
    exact ⟨⟨_, ha⟩, m⟩
  | md ds =>
    obtain ⟨a', vs, e, ha, _, _, m, _⟩ := q
    cases e
    exact ⟨⟨_, ha⟩, m⟩
def dSetO (i : Nat) (t : DI) : DS := fun D ρ μ => t ρ μ (fun ds μ1 => D.nx (ρ.set i (.ml ds)) μ1) (D.xc ρ)
theorem Sti.upd {B : Anchor} {F : Hp} {σ : L2.St} {H : Hp} {ρ : List Slot} {μ : Mu} (S : Sti B F σ H ρ μ) {i : Nat} {t : Slot} {a : Addr} {o : HO} (h1 : ρ[i]? = some t) (h2 : t.own = true) (h3 : σ[i]? = some (some (.ref a))) {s : Slot}
    (h : SlotOk B F (upd H a o) μ (some (.ref a)) s) (ho : ∀ vs, o ≠ .tup vs := by exact fun _ z => nomatch z) : Sti B F σ (upd H a o) (ρ.set i s) μ := by
  have hown : F a = none ∧ μ a = none ∧ ∀ o, B.H a = some o → B.μ a = none → False := by
    have q := S.slot i t _ h1 h3
    cases t with
    | no => cases h2
    | fn _ _ _ _ => cases h2
    | dat d => cases h2
    | ml ds =>
      obtain ⟨a', vs, e, ha, _, w⟩ := q
      cases e
      exact w
    | md ds =>
      obtain ⟨a', vs, e, ha, _, w⟩ := q
      cases e
      exact w
  obtain ⟨hF, hm, hB⟩ := hown
  have W' : Wd F μ (L2.upd H a o) := ⟨fun b u e => by rw [upd_ne (ne_of_none e hF)]; exact S.wd.ext b u e, fun b u e => by
    obtain ⟨q1, q2⟩ := S.wd.mu b u e
    have hb : b ≠ a := by
      rintro rfl
      rw [hm] at e
      cases e
    exact ⟨q1.mono (Evl.Ex.refl _) fun v hv => by rw [upd_ne hb]; exact hv, q2⟩, fun b vs e => by
    by_cases hb : b = a
    · subst hb
      rw [upd_same] at e
      exact (ho vs (Option.some.inj e)).elim
    · rw [upd_ne hb] at e
      exact S.wd.tup b vs e⟩
  have g' : Grow B.F B.μ B.H F μ (L2.upd H a o) := ⟨S.grow.fz, fun b u x1 x2 => by
    obtain ⟨k1, k2, k3⟩ := S.grow.keep b u x1 x2
    have hb : b ≠ a := by
      rintro rfl
      exact hB u x1 x2
    exact ⟨by rw [upd_ne hb]; exact k1, k2, k3⟩⟩
  refine ⟨W', g', by rw [List.length_set]; exact S.len, fun j s' w e1 e2 => ?_, fun j k s1 t' b hjk e1 e2 o1 o2 e3 e4 => ?_⟩
  · by_cases hj : i = j
    · subst hj
      rw [List.getElem?_set] at e1
      simp only [if_true] at e1
      split at e1
      · cases e1
        rw [h3] at e2
        cases e2
        exact h
      · cases e1
    · rw [List.getElem?_set_ne hj] at e1
      have q := S.slot j s' w e1 e2
      cases s' with
      | no => exact True.intro
      | fn _ _ _ _ => exact q
      | dat d => exact q
      | ml ds =>
        obtain ⟨b, vs, e, hb, z, w1⟩ := q
        have hba : b ≠ a := by
          rintro rfl
          exact S.dist i j t _ b hj h1 e1 h2 rfl h3 (by rw [e2, e])
        exact ⟨b, vs, e, by rw [upd_ne hba]; exact hb, z, w1⟩
      | md ds =>
        obtain ⟨b, vs, e, hb, z, w1⟩ := q
        have hba : b ≠ a := by
          rintro rfl
          exact S.dist i j t _ b hj h1 e1 h2 rfl h3 (by rw [e2, e])
        exact ⟨b, vs, e, by rw [upd_ne hba]; exact hb, z, w1⟩
  · have back : ∀ (j : Nat) (s1 : Slot), (ρ.set i s)[j]? = some s1 → s1.own = true → ∃ s2, ρ[j]? = some s2 ∧ s2.own = true := fun j s1 e o => by
      by_cases hj : i = j
      · subst hj
        exact ⟨t, h1, h2⟩
      · rw [List.getElem?_set_ne hj] at e
        exact ⟨s1, e, o⟩
    obtain ⟨s2, f1, f2⟩ := back j s1 e1 o1
    obtain ⟨s3, f3, f4⟩ := back k t' e2 o2
    exact S.dist j k s2 s3 b hjk f1 f3 f2 f4 e3 e4
theorem Sti.freeze {B : Anchor} {F : Hp} {σ : L2.St} {H : Hp} {ρ : List Slot} {μ : Mu} (S : Sti B F σ H ρ μ) {i : Nat} {t : Slot} {a : Addr} {o : HO} (h1 : ρ[i]? = some t) (h2 : t.own = true) (h3 : σ[i]? = some (some (.ref a))) (h4 : H a = some o) {d : D}
    (h : Fz (L2.upd F a o) d (.ref a)) : Ex F (L2.upd F a o) ∧ Sti B (L2.upd F a o) σ H (ρ.set i (.dat d)) μ := by
  have hown : F a = none ∧ μ a = none ∧ ∀ o, B.H a = some o → B.μ a = none → False := by
    have q := S.slot i t _ h1 h3
    cases t with
    | no => cases h2
    | fn _ _ _ _ => cases h2
    | dat d => cases h2
    | ml ds =>
      obtain ⟨a', vs, e, ha, _, w⟩ := q
      cases e
      exact w
    | md ds =>
      obtain ⟨a', vs, e, ha, _, w⟩ := q
      cases e
      exact w
  obtain ⟨hF, hm, hB⟩ := hown
  have e : Ex F (L2.upd F a o) := Evl.Ex.new hF
  refine ⟨e, S.wd.frz h4 hF hm, ⟨S.grow.fz.trans e, fun b u x1 x2 => ?_⟩, by rw [List.length_set]; exact S.len, fun j s' w e1 e2 => ?_, fun j k s1 t' b hjk e1 e2 o1 o2 e3 e4 => ?_⟩
  · obtain ⟨k1, k2, k3⟩ := S.grow.keep b u x1 x2
    refine ⟨k1, k2, fun x => ?_⟩
    have hb : b ≠ a := by
      rintro rfl
      exact hB u x1 x2
    rw [upd_ne hb]
    exact k3 x
  · by_cases hj : i = j
    · subst hj
      rw [List.getElem?_set] at e1
      simp only [if_true] at e1
      split at e1
      · cases e1
        rw [h3] at e2
        cases e2
        exact ⟨_, rfl, h⟩
      · cases e1
    · rw [List.getElem?_set_ne hj] at e1
      have q := S.slot j s' w e1 e2
      cases s' with
      | no => exact True.intro
      | fn _ _ _ _ => exact ⟨q.1, q.2.1, e _ _ q.2.2⟩
      | dat d =>
        obtain ⟨x, hx, z⟩ := q
        exact ⟨x, hx, z.mono e⟩
      | ml ds =>
        obtain ⟨b, vs, e', hb, z, w1, w2, w3⟩ := q
        have hba : b ≠ a := by
          rintro rfl
          exact S.dist i j t _ b hj h1 e1 h2 rfl h3 (by rw [e2, e'])
        exact ⟨b, vs, e', hb, z.mono e, by rw [upd_ne hba]; exact w1, w2, w3⟩
      | md ds =>
        obtain ⟨b, vs, e', hb, z, w1, w2, w3⟩ := q
        have hba : b ≠ a := by
          rintro rfl
          exact S.dist i j t _ b hj h1 e1 h2 rfl h3 (by rw [e2, e'])
        exact ⟨b, vs, e', hb, z.mono e, by rw [upd_ne hba]; exact w1, w2, w3⟩
  · have nj : ∀ (j : Nat) (s1 : Slot), (ρ.set i (.dat d))[j]? = some s1 → s1.own = true → ρ[j]? = some s1 := fun j s1 h o => by
      by_cases hj : i = j
      · subst hj
        rw [List.getElem?_set] at h
        simp only [if_true] at h
        split at h
        · cases h
          cases o
        · cases h
      · rw [List.getElem?_set_ne hj] at h
        exact h
    exact S.dist j k s1 t' b hjk (nj j s1 e1 o1) (nj k t' e2 o2) o1 o2 e3 e4
section
variable {X : Cx} {W : WX} {pos : Pos}
def dFreeze (i : Nat) (t : DS) : DS := fun D ρ μ => match ρ[i]? with
  | some (.ml ds) => t D (ρ.set i (.dat (.lst ds))) μ
  | some (.md ks) => t D (ρ.set i (.dat (.dic ks))) μ
  | some (.dat _) => t D ρ μ
  | _ => False
theorem Sti.lock {B : Anchor} {F : Hp} {σ : L2.St} {H : Hp} {ρ : List Slot} {μ : Mu} (S : Sti B F σ H ρ μ) {i : Nat} {a : Addr} {ks : List (Key × D)} {kws : List (Key × V)} {od : Obj} (h1 : ρ[i]? = some (.md ks)) (h3 : σ[i]? = some (some (.ref a))) (h4 : H a = some (.dK kws)) (z : FzK F ks kws) (w : Own B F μ a) :
    Ex F (L2.upd F a (.frz od (.dK kws))) ∧ Sti B (L2.upd F a (.frz od (.dK kws))) σ (L2.upd H a (.frz od (.dK kws))) (ρ.set i (.dat (.dic ks))) μ := by
  obtain ⟨hF, hm, hB⟩ := w
  have e : Ex F (L2.upd F a (.frz od (.dK kws))) := Evl.Ex.new hF
  have S1 : Sti B F σ (L2.upd H a (.frz od (.dK kws))) (ρ.set i .no) μ := S.upd h1 rfl h3 (s := .no) True.intro
  have nd : ∀ (j : Nat) (t : Slot) (b : Addr), i ≠ j → ρ[j]? = some t → t.own = true → σ[j]? = some (some (.ref b)) → b ≠ a := fun j t b hj x1 x2 x3 hb => by
    rw [hb] at x3
    exact S.dist i j _ t a hj h1 x1 rfl x2 h3 x3
  refine ⟨e, S1.wd.frz upd_same hF hm, ⟨S1.grow.fz.trans e, fun b u x1 x2 => ?_⟩, by rw [List.length_set]; exact S.len, fun j s' v e1 e2 => ?_, fun j k s1 t' b hjk e1 e2 o1 o2 e3 e4 => ?_⟩
  · obtain ⟨k1, k2, k3⟩ := S1.grow.keep b u x1 x2
    refine ⟨k1, k2, fun x => ?_⟩
    have hb : b ≠ a := by
      rintro rfl
      exact hB u x1 x2
    rw [upd_ne hb]
    exact k3 x
  · by_cases hj : i = j
    · subst hj
      rw [List.getElem?_set] at e1
      simp only [if_true] at e1
      split at e1
      · cases e1
        rw [h3] at e2
        cases e2
        exact ⟨_, rfl, by unfold Fz; exact ⟨a, od, kws, rfl, upd_same, z.mono e⟩⟩
      · cases e1
    · rw [List.getElem?_set_ne hj] at e1
      have q := S1.slot j s' v (by rw [List.getElem?_set_ne hj]; exact e1) e2
      cases s' with
      | no => exact True.intro
      | fn _ _ _ _ => exact ⟨q.1, q.2.1, e _ _ q.2.2⟩
      | dat d =>
        obtain ⟨x, hx, z⟩ := q
        exact ⟨x, hx, z.mono e⟩
      | ml ds =>
        obtain ⟨b, vs, e', hb, z, w1, w2, w3⟩ := q
        have hba : b ≠ a := nd j _ b hj e1 rfl (by rw [e2, e'])
        exact ⟨b, vs, e', hb, z.mono e, by rw [upd_ne hba]; exact w1, w2, w3⟩
      | md ds =>
        obtain ⟨b, vs, e', hb, z, w1, w2, w3⟩ := q
        have hba : b ≠ a := nd j _ b hj e1 rfl (by rw [e2, e'])
        exact ⟨b, vs, e', hb, z.mono e, by rw [upd_ne hba]; exact w1, w2, w3⟩
  · have nj : ∀ (j : Nat) (s1 : Slot), (ρ.set i (.dat (.dic ks)))[j]? = some s1 → s1.own = true → ρ[j]? = some s1 := fun j s1 h o => by
      by_cases hj : i = j
      · subst hj
        rw [List.getElem?_set] at h
        simp only [if_true] at h
        split at h
        · cases h
          cases o
        · cases h
      · rw [List.getElem?_set_ne hj] at h
        exact h
    exact S.dist j k s1 t' b hjk (nj j s1 e1 o1) (nj k t' e2 o2) o1 o2 e3 e4
def tLk (t : TS) : TS := fun D σ H => t D σ H ∨ ∃ a u, H a = some (.dK u) ∧ ∀ od, t D σ (L2.upd H a (.frz od (.dK u)))
theorem sims_freeze {ts : TS} {t : DS} {i : Nat} (h : SimS W ts t) : SimS W (tLk ts) (dFreeze i t) := fun {B F σ H ρ μ Dd D} S q r => by
  unfold dFreeze at q
  split at q
  · rename_i ds hx
    obtain ⟨v, hv, a, vs, rfl, ha, z, w⟩ := S.get hx
    obtain ⟨e, S'⟩ := S.freeze (d := .lst ds) hx rfl hv ha (fz_lst (z.mono (Evl.Ex.new w.1)) upd_same)
    exact .inl (h S' q (r.go e))
  · rename_i ds hx
    obtain ⟨v, hv, a, vs, rfl, ha, z, w⟩ := S.get hx
    refine .inr ⟨a, vs, ha, fun od => ?_⟩
    obtain ⟨e, S'⟩ := S.lock (od := od) hx hv ha z w
    exact h S' q (r.go e)
  · exact .inl (h S q r)
  · exact q.elim
def dApp (i : Nat) (a : DE) : DS := fun D ρ μ => match ρ[i]? with
  | some (.ml ds) => a ρ μ (fun d μ1 => ds.length < sizeLine ∧ D.nx (ρ.set i (.ml (ds ++ [d]))) μ1) (D.xc ρ)
  | _ => False
end
end DL

namespace DL
open PySem PySem.Spec PyProof.Rows L2

def W0 : WX := fun _ _ _ _ => False
def wipeS (ρ : List Slot) : List Nat → List Slot
  | [] => ρ
  | v :: vs => (wipeS ρ vs).set v .no
theorem Sti.wipe1 {B : Anchor} {F : Hp} {σ : L2.St} {H : Hp} {ρ : List Slot} {μ : Mu} (S : Sti B F σ H ρ μ) (i : Nat) : Sti B F (σ.set i none) H (ρ.set i .no) μ := by
  refine ⟨S.wd, S.grow, by rw [List.length_set, List.length_set]; exact S.len, fun j s w h1 h2 => ?_, fun j k s t a hjk h1 h2 o1 o2 e1 e2 => ?_⟩
  · by_cases hj : i = j
    · subst hj
      rw [List.getElem?_set] at h1
      simp only [if_true] at h1
      split at h1
      · cases h1
        exact True.intro
      · cases h1
    · rw [List.getElem?_set_ne hj] at h1 h2
      exact S.slot j s w h1 h2
  · have nj : ∀ (j : Nat) (s : Slot), (ρ.set i .no)[j]? = some s → s.own = true → i ≠ j ∧ ρ[j]? = some s := fun j s h o => by
      by_cases hj : i = j
      · subst hj
        rw [List.getElem?_set] at h
        simp only [if_true] at h
        split at h
        · cases h
          cases o
        · cases h
      · rw [List.getElem?_set_ne hj] at h
        exact ⟨hj, h⟩
    obtain ⟨n1, h1⟩ := nj j s h1 o1
    obtain ⟨n2, h2⟩ := nj k t h2 o2
    rw [List.getElem?_set_ne n1] at e1
    rw [List.getElem?_set_ne n2] at e2
    exact S.dist j k s t a hjk h1 h2 o1 o2 e1 e2
theorem Sti.wipe {B : Anchor} {F : Hp} {σ : L2.St} {H : Hp} {ρ : List Slot} {μ : Mu} (S : Sti B F σ H ρ μ) : ∀ vs : List Nat, Sti B F (L2.wipe σ vs) H (wipeS ρ vs) μ
  | [] => S
  | v :: vs => (S.wipe vs).wipe1 v
theorem wipe_set {σ : L2.St} {x : Option V} : ∀ {vs : List Nat} {i : Nat}, i ∈ vs → L2.wipe (σ.set i x) vs = L2.wipe σ vs
  | [], _, h => by cases h
  | v :: vs, i, h => by
    show (L2.wipe (σ.set i x) vs).set v none = (L2.wipe σ vs).set v none
    by_cases hv : i ∈ vs
    · rw [wipe_set hv]
    · have hiv : i = v := by
        rcases List.mem_cons.mp h with e | e
        · exact e
        · exact absurd e hv
      subst hiv
      have comm : ∀ (vs : List Nat) (σ : L2.St), i ∉ vs → L2.wipe (σ.set i x) vs = (L2.wipe σ vs).set i x := by
        intro vs
        induction vs with
        | nil => intro σ _; rfl
        | cons w ws ih =>
          intro σ hn
          show (L2.wipe (σ.set i x) ws).set w none = ((L2.wipe σ ws).set w none).set i x
          rw [ih σ fun z => hn (List.mem_cons_of_mem _ z)]
          exact List.set_comm _ _ fun z => hn (z ▸ List.mem_cons_self)
      rw [comm vs σ hv, List.set_set]
theorem wipe_wipe {σ : L2.St} : ∀ {vs ws : List Nat}, (∀ i ∈ ws, i ∈ vs) → L2.wipe (L2.wipe σ ws) vs = L2.wipe σ vs
  | vs, [], _ => rfl
  | vs, w :: ws, h => by
    show L2.wipe ((L2.wipe σ ws).set w none) vs = _
    rw [wipe_set (h w List.mem_cons_self), wipe_wipe fun i hi => h i (List.mem_cons_of_mem _ hi)]
def Keeps (g : TG) (vs : List Nat) : Prop := ∀ (x : V) (σ : L2.St) (H : Hp) (Q : L2.St → Hp → Prop), g x σ H Q → g x σ H fun σ2 H2 => L2.wipe σ2 vs = L2.wipe σ vs ∧ Q σ2 H2
def KeepsS (g : TGs) (vs : List Nat) : Prop := ∀ (xs : List V) (σ : L2.St) (H : Hp) (Q : L2.St → Hp → Prop), g xs σ H Q → g xs σ H fun σ2 H2 => L2.wipe σ2 vs = L2.wipe σ vs ∧ Q σ2 H2
structure PVD (X : Cx) (vs : List Nat) (tg : Expr) (t : DG) : Prop where
  ex : ∃ g, PG X tg g ∧ SimG g t ∧ Keeps g vs ∧ ∀ x σ H Q Q', g x σ H Q → (∀ σ H, Q σ H → Q' σ H) → g x σ H Q'
structure PVsD (X : Cx) (vs : List Nat) (tg : List Expr) (t : DGs) : Prop where
  ex : ∃ g, PGs X tg g ∧ SimGs g t ∧ KeepsS g vs ∧ ∀ x σ H Q Q', g x σ H Q → (∀ σ H, Q σ H → Q' σ H) → g x σ H Q'
section
variable {X : Cx} {pos : Pos} {vs : List Nat}
theorem v_name {i : Nat} {x : Str} (hm : i ∈ vs) (hN : X.N.Nodup) (hi : X.N[i]? = some x) (hx : Loc X.env.scope x) (hf : X.fn x = true ∨ X.env.scope.names.lookup x = some .local := by first | exact .inl rfl | exact .inr rfl | assumption) : PVD X vs (.Name x pos) (dgName i) :=
  ⟨_, pg_name hN hi hx hf, simg_name, fun x σ H Q q => ⟨wipe_set hm, q⟩, fun x σ H Q Q' q k => k _ _ q⟩
end
theorem Sti.updN {B : Anchor} {F : Hp} {σ : L2.St} {H : Hp} {ρ : List Slot} {μ : Mu} (S : Sti B F σ H ρ μ) {p : Addr} {o : HO} (hF : F p = none) (hm : μ p = none) (hB : ∀ o, B.H p = some o → B.μ p = none → False)
    (hs : ∀ (j : Nat) (t : Slot) (a : Addr), ρ[j]? = some t → t.own = true → σ[j]? = some (some (.ref a)) → a ≠ p) (ho : ∀ vs, o ≠ .tup vs := by exact fun _ z => nomatch z) : Sti B F σ (L2.upd H p o) ρ μ := by
  refine ⟨⟨fun b u e => by rw [upd_ne (ne_of_none e hF)]; exact S.wd.ext b u e, fun b u e => ?_, fun b vs e => by
    by_cases hb : b = p
    · subst hb
      rw [upd_same] at e
      exact (ho vs (Option.some.inj e)).elim
    · rw [upd_ne hb] at e
      exact S.wd.tup b vs e⟩, ⟨S.grow.fz, fun b u x1 x2 => ?_⟩, S.len, fun j s w e1 e2 => ?_, S.dist⟩
  · obtain ⟨q1, q2⟩ := S.wd.mu b u e
    have hb : b ≠ p := by
      rintro rfl
      rw [hm] at e
      cases e
    exact ⟨q1.mono (Evl.Ex.refl _) fun v hv => by rw [upd_ne hb]; exact hv, q2⟩
  · obtain ⟨k1, k2, k3⟩ := S.grow.keep b u x1 x2
    have hb : b ≠ p := by
      rintro rfl
      exact hB u x1 x2
    exact ⟨by rw [upd_ne hb]; exact k1, k2, k3⟩
  · have q := S.slot j s w e1 e2
    cases s with
    | no => exact True.intro
    | fn _ _ _ _ => exact q
    | dat d => exact q
    | ml ds =>
      obtain ⟨a, vs, rfl, ha, z, w1⟩ := q
      exact ⟨a, vs, rfl, by rw [upd_ne (hs j _ a e1 rfl e2)]; exact ha, z, w1⟩
    | md ds =>
      obtain ⟨a, vs, rfl, ha, z, w1⟩ := q
      exact ⟨a, vs, rfl, by rw [upd_ne (hs j _ a e1 rfl e2)]; exact ha, z, w1⟩
structure PTsD (X : Cx) (W : WX) (ifs : List Expr) (t : DT) : Prop where
  ex : ∃ tt, PTs X ifs tt ∧ SimT W tt t
def dYes : DT := fun _ μ Q _ => Q true μ
section
variable {X : Cx} {W : WX} {c : Expr} {t : DT}
theorem ts_nil : PTsD X W [] dYes := ⟨_, pts_nil, fun {B F σ H ρ μ Qd Xd Q} S q gx k => k true F H μ .refl S q⟩
theorem ts_one (h : PTD X W c t) : PTsD X W [c] t := by
  obtain ⟨u, h1, h2⟩ := h.ex
  exact ⟨u, pts_one h1, h2⟩
end
def dLcGo (g : DG) (tt : DT) (te : DE) (ρ : List Slot) (Q : List D → Mu → Prop) (Z : DXQ) : List D → List D → Mu → Prop
  | [], acc, μ => Q acc μ
  | x :: xs, acc, μ => g x ρ μ fun ρ1 μ1 => tt ρ1 μ1 (fun b μ2 => if b = true then te ρ1 μ2 (fun d μ3 => acc.length < sizeLine ∧ dLcGo g tt te ρ Q Z xs (acc ++ [d]) μ3) (fun _ _ => False) else dLcGo g tt te ρ Q Z xs acc μ2) (fun _ _ => False)
def dLc (i : DI) (g : DG) (tt : DT) (te : DE) (vs : List Nat) : DI := fun ρ μ Q Z => i ρ μ (fun ds μ1 => dLcGo g tt te (wipeS ρ vs) Q Z ds [] μ1) Z
theorem simo_lc {W : WX} {wi : TI} {g : TG} {tt : TT} {te : TE} {di : DI} {dg : DG} {dt : DT} {de : DE} {vs : List Nat} (hi : SimI W wi di) (hg : SimG g dg) (hk : Keeps g vs) (hm : ∀ x σ H Q Q', g x σ H Q → (∀ σ H, Q σ H → Q' σ H) → g x σ H Q')
    (ht : SimT W0 tt dt) (he : Sim W0 te de) : SimO W (tLc wi g tt te vs) (dLc di dg dt de vs) := fun {B F σ H ρ μ Qd Xd Q} S q gx k =>
  hi S q gx fun J F1 H1 ds μ1 g1 S1 wk q1 p hp => by
    obtain ⟨hF, hm1⟩ := S1.wd.free hp
    -- between the turns: a state without the new list, and the new list
    let P : Nat → Hp → Prop := fun i H' => ∃ F2 μ2 acc vacc, Grow F1 μ1 H1 F2 μ2 H' ∧ Sti B F2 σ H' ρ μ2 ∧ H' p = some (.lst vacc) ∧ F2 p = none ∧ μ2 p = none ∧ FzL F2 acc vacc ∧ dLcGo dg dt de (wipeS ρ vs) Qd Xd (ds.drop i) acc μ2
    obtain ⟨W', g'⟩ := S1.wd.own (o := .lst []) hp
    refine ⟨fun i m H' => m = ds.length - i ∧ i ≤ ds.length ∧ P i H', ⟨ds.length, rfl, Nat.zero_le _, F1, μ1, [], [], g', S1.go g' W', upd_same, hF, hm1, fzl_nil, q1⟩, ?_⟩
    rintro i m H2 ⟨rfl, hi, F2, μ2, acc, vacc, g2, S2, h2, hF2, hm2, z2, q2⟩
    obtain ⟨w1, w2, w3⟩ := wk F2 μ2 H2 g2.fz S2.wd
    by_cases hlt : i < ds.length
    · obtain ⟨d, hd⟩ : ∃ d, ds[i]? = some d := ⟨_, List.getElem?_eq_getElem hlt⟩
      rw [drop_cons hd] at q2
      refine .inr ⟨w1 i hlt, fun H' => P (i + 1) H', fun H' hN => ⟨ds.length - (i + 1), by omega, rfl, hlt, hN⟩, fun x H3 hy => ?_⟩
      obtain ⟨F3, g3, W3, z3⟩ := w2 i d x H3 hd hy
      have S3 := (S2.go g3 W3).wipe vs
      refine hm _ _ _ _ _ (hk _ _ _ _ (hg S3 z3 q2 (Q := fun σ2 H2 => tt σ2 H2 fun b H3 => if b = true then te σ2 H3 fun y H4 => ∃ acc, H4 p = some (.lst acc) ∧ acc.length < sizeLine ∧ P (i + 1) (upd H4 p (.lst (acc ++ [y]))) else P (i + 1) H3) ?_))
        fun σ4 H4 ⟨e4, q4⟩ => ⟨by rw [e4]; exact wipe_wipe fun _ h => h, q4⟩
      intro F4 σ4 H4 ρ4 μ4 g4 S4 q4
      have gx0 : ∀ {F : Hp} {σ : L2.St} {H : Hp} {ρ : List Slot} {μ : Mu}, GoX W0 B F σ H ρ μ (fun _ _ => False) := fun {F σ H ρ μ} cls dd F' H' x μ' g S z q => q.elim
      refine ht S4 q4 gx0 fun b F5 H5 μ5 g5 S5 q5 => ?_
      have h5 := ((g3.trans g4).trans g5).keep p _ h2 hm2
      have S5' := S2.go ((g3.trans g4).trans g5) S5.wd
      cases b with
      | false =>
        rw [if_neg (by decide)] at q5 ⊢
        exact ⟨F5, μ5, acc, vacc, g2.trans ((g3.trans g4).trans g5), S5', h5.1, h5.2.2 hF2, h5.2.1, z2.mono ((g3.trans g4).trans g5).fz, q5⟩
      | true =>
        rw [if_pos rfl] at q5 ⊢
        refine he S5 q5 gx0 fun y F6 H6 d6 μ6 g6 S6 z6 q6 => ?_
        have gg := ((g3.trans g4).trans g5).trans g6
        have h6 := gg.keep p _ h2 hm2
        have S6' := S2.go gg S6.wd
        have g7 := g2.trans gg
        refine ⟨vacc, h6.1, by rw [z2.length]; exact q6.1, F6, μ6, acc ++ [d6], vacc ++ [y], ⟨g7.fz, fun b o x1 x2 => ?_⟩, ?_, upd_same, h6.2.2 hF2, h6.2.1, (fzl_cons z6 fzl_nil).append (z2.mono gg.fz), q6.2⟩
        · obtain ⟨k1, k2, k3⟩ := g7.keep b o x1 x2
          exact ⟨by rw [upd_ne (ne_of_none x1 hp)]; exact k1, k2, k3⟩
        · exact S6'.updN (h6.2.2 hF2) h6.2.1 (S1.fresh hp) fun j t a e1 e2 e3 => by
            obtain ⟨⟨o, ho⟩, _⟩ := S1.ownAt e1 e2 e3
            exact ne_of_none ho hp
    · have e : i = ds.length := by omega
      subst e
      rw [List.drop_length] at q2
      exact .inl ⟨w3, k p vacc F2 H2 acc μ2 (g1.trans g2) S2 ((NewAt.of hp).back g1) h2 hF2 hm2 z2 q2⟩

section
variable {X : Cx} {W : WX}
abbrev BlkI := Shared × Hp × Addr × List (Str × Addr) × List Addr
abbrev blkF (X : Cx) (scope : Scope) (i : BlkI) : Cx := X.blk i.1 i.2.1 scope (compEnvC scope i.2.2.2.1 i.2.2.1 X.env) i.2.2.2.2
theorem fam_pd {ι : Type} {Y : ι → Cx} {W : WX} {e : Expr} {t : DE} (h : ∀ i, PD (Y i) W e t) : ∃ te, (∀ i, PE (Y i) e te) ∧ Sim W te t :=
  ⟨fun σ H Q => ∀ i, Classical.choose (h i).ex σ H Q, fun i => ⟨fun pins s σ H Q I q => (Classical.choose_spec (h i).ex).1.run pins s σ H Q I (q i)⟩,
    fun {B F σ H ρ μ Qd Xd Q} S q gx k i => (Classical.choose_spec (h i).ex).2 S q gx k⟩
theorem fam_ts {ι : Type} {Y : ι → Cx} {W : WX} {e : List Expr} {t : DT} (h : ∀ i, PTsD (Y i) W e t) : ∃ te, (∀ i, PTs (Y i) e te) ∧ SimT W te t :=
  ⟨fun σ H Q => ∀ i, Classical.choose (h i).ex σ H Q, fun i => ⟨fun pins s σ H Q I q => (Classical.choose_spec (h i).ex).1.run pins s σ H Q I (q i)⟩,
    fun {B F σ H ρ μ Qd Xd Q} S q gx k i => (Classical.choose_spec (h i).ex).2 S q gx k⟩
theorem fam_vd {ι : Type} {Y : ι → Cx} {vs : List Nat} {e : Expr} {t : DG} (h : ∀ i, PVD (Y i) vs e t) : ∃ g, (∀ i, PG (Y i) e g) ∧ SimG g t ∧ Keeps g vs ∧ ∀ x σ H Q Q', g x σ H Q → (∀ σ H, Q σ H → Q' σ H) → g x σ H Q' :=
  ⟨fun x σ H Q => ∀ i, Classical.choose (h i).ex x σ H Q, fun i => ⟨fun pins s σ H v u Q I r q => (Classical.choose_spec (h i).ex).1.run pins s σ H v u Q I r (q i)⟩,
    fun {B F σ H ρ μ x d Qd Q} S z q k i => (Classical.choose_spec (h i).ex).2.1 S z q k, fun x σ H Q q i => (Classical.choose_spec (h i).ex).2.2.1 x σ H Q (q i),
    fun x σ H Q Q' q k i => (Classical.choose_spec (h i).ex).2.2.2 x σ H Q Q' (q i) k⟩
variable {elt tg iter : Expr} {ifs : List Expr} {scope : Scope} {own : List (Str × Nat)} {pos : Pos} {di : DI} {dg : DG} {dt : DT} {de : DE}
theorem o_lc (hc : X.calm = true) (hN : X.N.Nodup) (hi : PID X W tg iter di) (ok : BlkOk X.N X.env.scope scope own) (hg : ∀ i : BlkI, PVD (blkF X scope i) (own.map (·.2)) tg dg) (ht : ∀ i : BlkI, PTsD (blkF X scope i) W0 ifs dt) (he : ∀ i : BlkI, PD (blkF X scope i) W0 elt de)
    (hs : ∀ x, foldedSetIterable iter X.env x = pure x := by intro _; rfl) : PO X W (.ListComp elt [⟨tg, iter, ifs, 0⟩] scope pos) (dLc di dg dt de (own.map (·.2))) := by
  obtain ⟨wi, a1, a2⟩ := hi.ex
  obtain ⟨g, b1, b2, b3, b4⟩ := fam_vd hg
  obtain ⟨tt, c1, c2⟩ := fam_ts ht
  obtain ⟨te, d1, d2⟩ := fam_pd he
  exact ⟨_, pe_lc hc hN a1 ok (fun s H C cl fp => b1 (s, H, C, cl, fp)) (fun s H C cl fp => c1 (s, H, C, cl, fp)) (fun s H C cl fp => d1 (s, H, C, cl, fp)) hs, simo_lc a2 b2 b3 b4 c2 d2⟩
theorem s_setLcO {i : Nat} {y : Str} {py spos : Pos} (hc : X.calm = true) (hN : X.N.Nodup) (hy : X.N[i]? = some y) (hyl : X.env.scope.names.lookup y = some .local)
    (hsw : swapsWith (.ListComp elt [⟨tg, iter, ifs, 0⟩] scope pos) (some (.Name y py)) spos.line X.env = pure true) (hi : PID X W tg iter di) (ok : BlkOk X.N X.env.scope scope own) (hg : ∀ i : BlkI, PVD (blkF X scope i) (own.map (·.2)) tg dg) (ht : ∀ i : BlkI, PTsD (blkF X scope i) W0 ifs dt)
    (he : ∀ i : BlkI, PD (blkF X scope i) W0 elt de) (hs : ∀ x, foldedSetIterable iter X.env x = pure x := by intro _; rfl) : PSD X W (.Assign [.Name y py] (.ListComp elt [⟨tg, iter, ifs, 0⟩] scope pos) spos) (dSetO i (dLc di dg dt de (own.map (·.2)))) := by
  obtain ⟨wi, a1, a2⟩ := hi.ex
  obtain ⟨g, b1, b2, b3, b4⟩ := fam_vd hg
  obtain ⟨tt, c1, c2⟩ := fam_ts ht
  obtain ⟨te, d1, d2⟩ := fam_pd he
  refine ⟨_, ps_setLc hc hN hy hyl hsw a1 ok (fun s H C cl fp => b1 (s, H, C, cl, fp)) (fun s H C cl fp => c1 (s, H, C, cl, fp)) (fun s H C cl fp => d1 (s, H, C, cl, fp)) hs, fun {B F σ H ρ μ Dd D} S q r => simo_lc a2 b2 b3 b4 c2 d2 S q r.gox fun p vs F' H' ds μ' g S' h0 h1 h2 h3 z q' => ?_⟩
  refine r.nx F' _ H' _ μ' g.fz (S'.setO (s := .ml ds) ⟨p, vs, rfl, h1, z, h2, h3, fun o j1 j2 => ?_⟩ fun j t a e1 e2 e3 e4 => ?_) q'
  · obtain ⟨k1, k2, _⟩ := S.grow.keep p o j1 j2
    exact h0 o k1 k2
  · obtain ⟨⟨o, ho⟩, hm⟩ := S.ownAt e1 e2 e3
    cases e4
    exact h0 o ho hm
end
def tLkNx (t : TS) : TS := fun D σ H => t { D with nx := tLk tNext D } σ H
theorem ps_lkNx {X : Cx} {st : Stmt} {t : TS} (h : PS X st t) : PS X st (tLkNx t) := ⟨fun pins s σ H D I hw => by
  refine thn (h.run pins s σ H _ I hw) fun f s1 q => ?_
  cases f with
  | next =>
    obtain ⟨σ', H', I2, q⟩ := q
    rcases q with q | ⟨a, u, ha, q⟩
    · exact ⟨σ', H', I2, q⟩
    · obtain ⟨od, I3⟩ := I2.lock ha True.intro
      exact ⟨σ', _, I3, q od⟩
  | brk => exact q
  | cont => exact q
  | ret v => exact q⟩
theorem sims_then {W : WX} {ts : TS} {t : DS} {i : Nat} (h : SimS W ts t) : SimS W (tLkNx ts) (dSeq t (dFreeze i dNext)) := fun {B F σ H ρ μ Dd D} S q r =>
  h S q ⟨fun F2 σ2 H2 ρ2 μ2 e2 S2 q2 => sims_freeze (ts := tNext) (fun {B F σ H ρ μ Dd D} S q r => r.nx F σ H ρ μ (Evl.Ex.refl _) S q) S2 q2 (r.go e2), r.bk, r.ct, r.rt, r.xc⟩
theorem s_then {X : Cx} {W : WX} {st : Stmt} {t : DS} (i : Nat) (h : PSD X W st t) : PSD X W st (dSeq t (dFreeze i dNext)) := by
  obtain ⟨ts, a1, a2⟩ := h.ex
  exact ⟨_, ps_lkNx a1, sims_then a2⟩
end DL

namespace DL
open PySem PySem.Spec PyProof.Rows L2

inductive BzL (F : Hp) (μ : Mu) (H : Hp) : List D → List V → Prop
  | nil : BzL F μ H [] []
  | cons {d ds v vs} : Bz F μ H d v → BzL F μ H ds vs → BzL F μ H (d :: ds) (v :: vs)
theorem BzL.go {F F' : Hp} {μ μ' : Mu} {H H' : Hp} (g : Grow F μ H F' μ' H') : ∀ {ds : List D} {vs : List V}, BzL F μ H ds vs → BzL F' μ' H' ds vs
  | _, _, .nil => .nil
  | _, _, .cons h r => .cons (h.go g) (r.go g)
def SimAB (W : WX) (ta : TA) (t : DA) : Prop := ∀ {B : Anchor} {F : Hp} {σ : L2.St} {H : Hp} {ρ : List Slot} {μ : Mu} {Qd : List D → Mu → Prop} {Xd : DXQ} {Q : List V → Hp → Prop}, Sti B F σ H ρ μ → t ρ μ Qd Xd → GoX W B F σ H ρ μ Xd →
  (∀ vs F' H' ds μ', Grow F μ H F' μ' H' → Sti B F' σ H' ρ μ' → BzL F' μ' H' ds vs → Qd ds μ' → Q vs H') → ta σ H Q
structure PAB (X : Cx) (W : WX) (es : List Expr) (t : DA) : Prop where
  ex : ∃ ta, PA X es ta ∧ SimAB W ta t
section
variable {X : Cx} {W : WX} {e : Expr} {es : List Expr} {de : DE} {ds : DA} {pos : Pos}
theorem b_nil : PAB X W [] dNil := ⟨_, pa_nil, fun {B F σ H ρ μ Qd Xd Q} S q gx k => k [] F H [] μ .refl S .nil q⟩
theorem b_cons (ha : PB X W e de) (hr : PAB X W es ds) (hs : starEach (e :: es) X.env = (false, eval e X.env) :: starEach es X.env := by rfl) : PAB X W (e :: es) (dCons de ds) := by
  obtain ⟨ta, a1, a2⟩ := ha.ex
  obtain ⟨tr, r1, r2⟩ := hr.ex
  refine ⟨_, pa_cons a1 r1 hs, fun {B F σ H ρ μ Qd Xd Q} S q gx k => a2 S q gx fun v F1 H1 d μ1 g1 S1 z1 q1 => r2 S1 q1 (gx.go g1) fun vs F2 H2 ds μ2 g2 S2 z2 q2 => ?_⟩
  exact k _ F2 H2 _ μ2 (g1.trans g2) S2 (.cons (z1.go g2) z2) q2
def dStar (a : DE) (r : DA) : DA := fun ρ μ Q X => a ρ μ (fun d μ1 => match d with
  | .tup xs | .lst xs => r ρ μ1 (fun ds μ2 => Q (xs ++ ds) μ2) X
  | _ => False) X
end

abbrev DC := List D → (D → Prop) → Prop
def SimC (r : List V → Hp → VK → Prop) (dr : DC) : Prop := ∀ {F : Hp} {μ : Mu} {H : Hp} {vs : List V} {ds : List D} {Qd : D → Prop} {Q : VK}, Wd F μ H → BzL F μ H ds vs → dr ds Qd →
  (∀ v F' H' d, Grow F μ H F' μ H' → Wd F' μ H' → Fz F' d v → Qd d → Q v H') → r vs H Q
def dCB (dr : DC) (a : DA) : DE := fun ρ μ Q X => a ρ μ (fun ds μ1 => dr (ds.map (rdD μ1)) fun d => Q d μ1) X
theorem BzL.rd {F : Hp} {μ : Mu} {H : Hp} (W : Wd F μ H) : ∀ {ds : List D} {vs : List V}, BzL F μ H ds vs → BzL F mu0 H (ds.map (rdD μ)) vs
  | _, _, .nil => .nil
  | _, _, .cons h r => .cons (h.rd W) (r.rd W)
theorem sim_cb {W : WX} {r : List V → Hp → VK → Prop} {dr : DC} {ta : TA} {a : DA} (h : SimC r dr) (ha : SimAB W ta a) : Sim W (tCB r ta) (dCB dr a) := fun {B F σ H ρ μ Qd Xd Q} S q gx k =>
  ha S q gx fun vs F1 H1 ds μ1 g1 S1 z1 q1 => h S1.wd.mu0 (z1.rd S1.wd) q1 fun v F2 H2 d g2 W2 z2 q2 => by
    obtain ⟨g2, W2⟩ := Grow.of0 S1.wd g2 W2
    exact k v F2 H2 d μ1 (g1.trans g2) (S1.go g2 W2) z2 q2
section
variable {X : Cx} {W : WX} {x : Str} {p pos : Pos} {e : Expr} {es : List Expr} {a : DA}
theorem d_callB {id : String} {r : List V → Hp → VK → Prop} {dr : DC} (hc : CallR X (.builtin id) r) (hr : SimC r dr) (hm : X.mg x = none) (hv : bootBuiltins x = some (.builtin id)) (ha : PAB X W (e :: es) a) (hg : Gl X x := by rfl) (hn : x ≠ "__name__" := by decide) (hdb : (x == ("__debug__" : Str)) = false := by decide)
    (he : starEach (e :: es) X.env = (false, eval e X.env) :: starEach es X.env := by rfl) (hpl : (backTo pos (starEach es X.env)).any (·.1) = false := by rfl) : PD X W (.Call (.Name x p) (e :: es) [] pos) (dCB dr a) := by
  obtain ⟨ta, a1, a2⟩ := ha.ex
  exact ⟨_, pe_callB hc hg hm hv a1 hn hdb he hpl, sim_cb hr a2⟩
theorem d_callTy {T : String} {r : List V → Hp → VK → Prop} {dr : DC} (hc : CallR X (.type T) r) (hr : SimC r dr) (hm : X.mg x = none) (hv : bootBuiltins x = some (.type T)) (ha : PAB X W (e :: es) a) (hg : Gl X x := by rfl) (hn : x ≠ "__name__" := by decide) (hdb : (x == ("__debug__" : Str)) = false := by decide)
    (he : starEach (e :: es) X.env = (false, eval e X.env) :: starEach es X.env := by rfl) (hpl : (backTo pos (starEach es X.env)).any (·.1) = false := by rfl) : PD X W (.Call (.Name x p) (e :: es) [] pos) (dCB dr a) := by
  obtain ⟨ta, a1, a2⟩ := ha.ex
  exact ⟨_, pe_callTy hc hg hm hv a1 hn hdb he hpl, sim_cb hr a2⟩
end
theorem bzl_inv {F : Hp} {μ : Mu} {H : Hp} {d : D} {ds : List D} {vs : List V} (h : BzL F μ H (d :: ds) vs) : ∃ v r, vs = v :: r ∧ Bz F μ H d v ∧ BzL F μ H ds r := by
  cases h with
  | cons h r => exact ⟨_, _, rfl, h, r⟩
theorem bzl_inv0 {F : Hp} {μ : Mu} {H : Hp} {vs : List V} (h : BzL F μ H [] vs) : vs = [] := by
  cases h
  rfl
def dLen : DC := fun ds Q => match ds with
  | [.lst xs] => Q (.int xs.length)
  | [.tup xs] => Q (.int xs.length)
  | [.str z] => z.length ≤ sizeLine ∧ Q (.int z.length)
  | _ => False
theorem sim_len {K : PySem.W.Frag} : SimC (fun xs H Q => ∃ x n, xs = [x] ∧ LenV K x H n ∧ Q (.int n) H) dLen := fun {F μ H vs ds Qd Q} W z q k => by
  unfold dLen at q
  split at q
  · rename_i xs
    obtain ⟨v, r, rfl, z1, z2⟩ := bzl_inv z
    rw [bzl_inv0 z2]
    obtain ⟨a, ws, rfl, h1, _, z3⟩ := bz_lst z1
    exact ⟨_, xs.length, rfl, .inl ⟨ws, .of h1, z3.length.symm⟩, k _ F H _ .refl W fz_int q⟩
  · rename_i xs
    obtain ⟨v, r, rfl, z1, z2⟩ := bzl_inv z
    rw [bzl_inv0 z2]
    obtain ⟨a, ws, rfl, h1, _, z3⟩ := bz_tup W z1
    exact ⟨_, xs.length, rfl, .inr ⟨ws, .of h1, z3.length.symm⟩, k _ F H _ .refl W fz_int q⟩
  · rename_i y
    obtain ⟨v, r, rfl, z1, z2⟩ := bzl_inv z
    rw [bzl_inv0 z2, bz_str z1]
    exact ⟨_, y.length, rfl, ⟨q.1, rfl⟩, k _ F H _ .refl W fz_int q.2⟩
  · exact q.elim
def dI1 (g : Int → D) : DC := fun ds Q => match ds with
  | [.int i] => Q (g i)
  | _ => False
theorem sim_I1 {g : Int → V} {g' : Int → D} (h : ∀ F i, Fz F (g' i) (g i)) : SimC (fun xs H Q => ∃ i, xs = [.int i] ∧ Q (g i) H) (dI1 g') := fun {F μ H vs ds Qd Q} W z q k => by
  unfold dI1 at q
  split at q
  · rename_i i
    obtain ⟨v, r, rfl, z1, z2⟩ := bzl_inv z
    rw [bzl_inv0 z2, bz_int z1]
    exact ⟨i, rfl, k _ F H _ .refl W (h F i) q⟩
  · exact q.elim
def dAbs : DC := dI1 fun i => .int (if i < 0 then -i else i)
def dI2 (g : Int → Int → D) : DC := fun ds Q => match ds with
  | [.int i, .int j] => Q (g i j)
  | _ => False
def dMax2 : DC := dI2 fun i j => .int (if j > i then j else i)
def dMin2 : DC := dI2 fun i j => .int (if j < i then j else i)
def dIntOf : DC := fun ds Q => match ds with
  | [.int i] => Q (.int i)
  | [.bl b] => Q (.int (if b then 1 else 0))
  | _ => False
theorem sim_intOf : SimC (fun xs H Q => (∃ i, xs = [.int i] ∧ Q (.int i) H) ∨ ∃ k, xs = [.bl k] ∧ Q (.int (if k then 1 else 0)) H) dIntOf := fun {F μ H vs ds Qd Q} W z q k => by
  unfold dIntOf at q
  split at q
  · rename_i i
    obtain ⟨v, r, rfl, z1, z2⟩ := bzl_inv z
    rw [bzl_inv0 z2, bz_int z1]
    exact .inl ⟨i, rfl, k _ F H _ .refl W fz_int q⟩
  · rename_i b
    obtain ⟨v, r, rfl, z1, z2⟩ := bzl_inv z
    rw [bzl_inv0 z2, bz_bl z1]
    exact .inr ⟨b, rfl, k _ F H _ .refl W fz_int q⟩
  · exact q.elim
def dTupOf : DC := fun ds Q => match ds with
  | [.lst xs] => Q (.tup xs)
  | [.tup xs] => Q (.tup xs)
  | _ => False
def dLstOf : DC := fun ds Q => match ds with
  | [.lst xs] => Q (.lst xs)
  | [.tup xs] => Q (.lst xs)
  | _ => False
def dIs (f : List Int → (D → Prop) → Prop) : DC := fun ds Q => match ds with
  | [.lst xs] => ∃ ns : List Int, xs = ns.map D.int ∧ f ns Q
  | _ => False
def dSum : DC := dIs fun ns Q => Q (.int ns.sum)
def dMaxL : DC := dIs fun ns Q => 0 < ns.length ∧ ∀ m, m ∈ ns → (∀ y, y ∈ ns → y ≤ m) → Q (.int m)
def dMinL : DC := dIs fun ns Q => 0 < ns.length ∧ ∀ m, m ∈ ns → (∀ y, y ∈ ns → m ≤ y) → Q (.int m)
def dSorted : DC := dIs fun ns Q => ∀ ns' : List Int, ns'.Perm ns → ns'.Pairwise (· ≤ ·) → Q (.lst (ns'.map D.int))
def dBs (f : List Bool → (D → Prop) → Prop) : DC := fun ds Q => match ds with
  | [.lst xs] => ∃ ns : List Bool, xs = ns.map D.bl ∧ f ns Q
  | _ => False
def dAll : DC := dBs fun bs Q => Q (.bl (bs.all id))
def dAny : DC := dBs fun bs Q => Q (.bl (bs.any id))
section
variable {X : Cx} {W : WX} {p pos : Pos} {e f : Expr} {es : List Expr} {a : DA}
theorem d_len (hm : X.mg "len" = none) (ha : PAB X W [e] a) (hg : Gl X "len" := by rfl) (he : starEach [e] X.env = (false, eval e X.env) :: starEach [] X.env := by rfl) : PD X W (.Call (.Name "len" p) [e] [] pos) (dCB dLen a) := d_callB call_len sim_len hm PySem.boot_len ha hg (he := he)
theorem d_abs (hm : X.mg "abs" = none) (ha : PAB X W [e] a) (hg : Gl X "abs" := by rfl) (he : starEach [e] X.env = (false, eval e X.env) :: starEach [] X.env := by rfl) : PD X W (.Call (.Name "abs" p) [e] [] pos) (dCB dAbs a) := d_callB call_abs (sim_I1 fun _ _ => fz_int) hm (by decide +kernel) ha hg (he := he)
theorem d_int_ (hm : X.mg "int" = none) (ha : PAB X W [e] a) (hg : Gl X "int" := by rfl) (he : starEach [e] X.env = (false, eval e X.env) :: starEach [] X.env := by rfl) : PD X W (.Call (.Name "int" p) [e] [] pos) (dCB dIntOf a) := d_callTy call_int1 sim_intOf hm (by decide +kernel) ha hg (he := he)
end
end DL

namespace DL
open PySem PySem.Spec PyProof.Rows L2

def topD : D → Bool
  | .lst _ | .tup _ | .int _ => true
  | _ => false
mutual
def pureR : D → Bool
  | .non | .bl _ | .int _ | .str _ => true
  | .tup xs | .lst xs => pureRL xs
  | .dic ks => pureRK ks
  | _ => false
def pureRL : List D → Bool
  | [] => true
  | x :: xs => pureR x && pureRL xs
def pureRK : List (Key × D) → Bool
  | [] => true
  | (_, x) :: xs => pureR x && pureRK xs
end
mutual
theorem pureR_of : ∀ {d : D}, pure0 d = true → pureR d = true
  | .non, _ => by simp [pureR]
  | .bl _, _ => by simp [pureR]
  | .int _, _ => by simp [pureR]
  | .str _, _ => by simp [pureR]
  | .ty _, p => by simp [pure0] at p
  | .obj _, p => by simp [pure0] at p
  | .scr _ _, p => by simp [pure0] at p
  | .xcp _ _ _ _, p => by simp [pure0] at p
  | .ins _ _, p => by simp [pure0] at p
  | .dic _, p => by simp [pure0] at p
  | .tup ds, p => by
    simp only [pureR]
    exact pureRL_of (by simpa [pure0] using p)
  | .lst ds, p => by
    simp only [pureR]
    exact pureRL_of (by simpa [pure0] using p)
theorem pureRL_of : ∀ {ds : List D}, pure0L ds = true → pureRL ds = true
  | [], _ => by simp [pureRL]
  | d :: ds, p => by
    have p' : pure0 d = true ∧ pure0L ds = true := by simpa [pure0L] using p
    simp only [pureRL, pureR_of p'.1, pureRL_of p'.2, Bool.and_self]
end
def shD (d : D) : Prop := pureR d = true ∧ (toPy d).showable = true ∧ (toPy d).shown.length ≤ sizeLine ∧ (toPy d).depth ≤ 60
def shown (d : D) : Str := (toPy d).shown
theorem pairs_keys {P : Program} {w : World} {h : Heap} : ∀ {es : List DictEntry} {kvs : List (Key × Value)}, Pairs (mixKind P w) es kvs → ∀ (ks : List (Key × D)), ks.map (·.1) = kvs.map (·.1) → (∀ t ∈ PyData.shownAll ((toPyK ks).map (·.1)), t.length ≤ sizeLine) → PyData.showableAll ((toPyK ks).map (·.1)) = true →
    ReadsAll h (es.map (·.key)) ((toPyK ks).map (·.1)) [] ∧ ∀ n, ReprAllK P w [] h n (es.map (·.key)) (PyData.shownAll ((toPyK ks).map (·.1)))
  | _, _, .nil, ks, e, _, _ => by
    cases ks with
    | nil => exact ⟨.nil, fun n => .nil⟩
    | cons k ks => simp at e
  | _, _, .cons (e := en) (kv := kv) h1 h2 hr, ks, e, hl, hs => by
    cases ks with
    | nil => simp at e
    | cons k ks =>
      simp only [List.map_cons, List.cons.injEq] at e
      obtain ⟨k, d⟩ := k
      have e1 : k = kv.1 := e.1
      have hk : keyIs k en.key = true := by rw [e1]; exact h1
      cases k with
      | inl i =>
        simp only [toPyK, List.map_cons, PyData.shownAll, PyData.showableAll, List.forall_mem_cons, Bool.and_eq_true] at hl hs
        obtain ⟨ra, hn⟩ := pairs_keys (h := h) hr ks e.2 hl.2 hs.2
        rcases keyIs_shape hk with ⟨j, t, ek, ej⟩ | ⟨x, t, ek, ej⟩
        · injection ek with ek
          subst ek
          simp only [toPyK, List.map_cons, PyData.shownAll, ej]
          exact ⟨.cons (.int i t) ra, fun n => .cons (.of_is (by simpa only [PyData.shown] using ReprIs.int t (by simpa [PyData.showable] using hs.1)) _ _ _) (hn n)⟩
        · cases ek
      | inr x =>
        simp only [toPyK, List.map_cons, PyData.shownAll, PyData.showableAll, List.forall_mem_cons, Bool.and_eq_true] at hl hs
        obtain ⟨ra, hn⟩ := pairs_keys (h := h) hr ks e.2 hl.2 hs.2
        rcases keyIs_shape hk with ⟨j, t, ek, ej⟩ | ⟨y, t, ek, ej⟩
        · cases ek
        · injection ek with ek
          subst ek
          simp only [toPyK, List.map_cons, PyData.shownAll, ej]
          exact ⟨.cons (.str x t) ra, fun n => .cons (.of_is (by simpa only [PyData.shown] using ReprIs.str x t (by simpa only [PyData.shown] using hl.1)) _ _ _) (hn n)⟩
theorem pairs_vals {P : Program} {w : World} : ∀ {es : List DictEntry} {kvs : List (Key × Value)}, Pairs (mixKind P w) es kvs → es.map (·.val) = kvs.map (·.2)
  | _, _, .nil => rfl
  | _, _, .cons h1 h2 hr => by
    rw [List.map_cons, List.map_cons, h2, pairs_vals hr]
theorem fzk_len {F : Hp} : ∀ {ks : List (Key × D)} {kws : List (Key × V)}, FzK F ks kws → ks.map (·.1) = kws.map (·.1)
  | [], _, h => by
    unfold FzK at h
    subst h
    rfl
  | (k, d) :: ks, _, h => by
    unfold FzK at h
    obtain ⟨v, r, rfl, h1, h2⟩ := h
    rw [List.map_cons, List.map_cons, fzk_len h2]
theorem kv_keys : ∀ {kws : List (Key × V)} {vs : List (Key × Value)}, KV kws vs → kws.map (·.1) = vs.map (·.1)
  | _, _, .nil => rfl
  | _, _, .cons r t => by
    rw [List.map_cons, List.map_cons, kv_keys t, r.1]
def RkT (P : Program) (w : World) (h : Heap) (u : Value) (d : PyData) : Prop :=
  ∃ as bs, Reads h u d as ∧ ReadAtMost h d.depth bs ∧ ReprK P w bs h d.depth u d.shown ∧ ∀ a, u = .ref a → ∃ T idr, ShowsBy P w h a d T idr
def RkA (P : Program) (w : World) (h : Heap) (us : List Value) (ds : List PyData) : Prop :=
  ∃ as bs, ReadsAll h us ds as ∧ ReadAtMost h (PyData.depthAll ds) bs ∧ ReprAllK P w bs h (PyData.depthAll ds) us (PyData.shownAll ds)
section
variable {P : Program} {w : World} {h : Heap}
theorem rk_flat {u : Value} {d : PyData} (r : Reads h u d []) (k : ReprIs P w u d.shown) (n : ∀ a, u ≠ .ref a) : RkT P w h u d :=
  ⟨_, [], r, (fun _ z => nomatch z), .of_is k _ _ _, fun a e => absurd e (n a)⟩
theorem rk_list {a : Addr} {o : Obj} {us : List Value} {n : Nat} {ds : List PyData} (h1 : h.get? a = some o) (h2 : o.cls = .type "list") (h3 : o.data = .seq us.toArray n) (hA : RkA P w h us ds) (hz : (PyData.shown (.list ds)).length ≤ sizeLine) : RkT P w h (.ref a) (.list ds) := by
  obtain ⟨as, bs, h4, hb, hk⟩ := hA
  have r : Reads h (.ref a) (.list ds) _ := Reads.list h1 h2 h3 h4
  have hd : PyData.depthAll ds < (PyData.list ds).depth := by simp only [PyData.depth]; omega
  have hna := not_mem_of_deeper r hd hb
  have hz' : (listText (PyData.shownAll ds)).length ≤ sizeLine := by simpa only [PyData.shown] using hz
  have hR := ReadAtMost.cons r (Nat.le_of_lt hd) hb
  cases us with
  | nil =>
    cases h4
    refine ⟨_, _, r, hR, ?_, fun b eb => ?_⟩
    · simp only [PyData.depth, PyData.shown, PyData.shownAll, listText_nil]
      exact ReprK.listEmpty h1 h2 h3
    · cases eb
      refine ⟨"list", "list.__repr__", F.slot_list_repr.toG, F.slot_list_str, F.slot_list_format, fun s k => ⟨o, k _ _ h1, h2⟩, fun A E s Q hg hu k hQ => ?_⟩
      simp only [PyData.shown, PyData.shownAll, listText_nil] at hQ
      exact call_list_repr_empty ⟨o, k _ _ h1, h2⟩ (k _ _ h1) h3 (hQ s.heap _ _ fun _ _ e => e)
  | cons x l =>
    have hl : (PyData.shownAll ds).length = (x :: l).toArray.size := by simpa using hk.length_eq
    have hi : ∀ (i : Nat) (y : Value), (x :: l).toArray[i]? = some y → ∃ t, (PyData.shownAll ds)[i]? = some t ∧ ReprK P w bs h (PyData.depthAll ds) y t := fun i y e => hk.item i y (by simpa using e)
    refine ⟨_, _, r, hR, ?_, fun b eb => ?_⟩
    · simp only [PyData.depth, PyData.shown]
      exact ReprK.list h1 h2 h3 hna hl hi
    · cases eb
      refine ⟨"list", "list.__repr__", F.slot_list_repr.toG, F.slot_list_str, F.slot_list_format, fun s k => ⟨o, k _ _ h1, h2⟩, fun A E s Q hg hu k hQ => ?_⟩
      simp only [PyData.depth] at hu
      simp only [PyData.shown] at hQ
      exact call_list_reprK h1 h2 h3 hna hl hi hg (fun b _ => Clear.nil b) hu k hQ hz'
theorem rk_tuple {a : Addr} {o : Obj} {us : List Value} {n : Nat} {ds : List PyData} (h1 : h.get? a = some o) (h2 : o.cls = .type "tuple") (h3 : o.data = .seq us.toArray n) (hA : RkA P w h us ds) (hz : (PyData.shown (.tuple ds)).length ≤ sizeLine) : RkT P w h (.ref a) (.tuple ds) := by
  obtain ⟨as, bs, h4, hb, hk⟩ := hA
  have r : Reads h (.ref a) (.tuple ds) _ := Reads.tuple h1 h2 h3 h4
  have hd : PyData.depthAll ds < (PyData.tuple ds).depth := by simp only [PyData.depth]; omega
  have hna := not_mem_of_deeper r hd hb
  have hz' : (tupleText (PyData.shownAll ds)).length ≤ sizeLine := by simpa only [PyData.shown] using hz
  refine ⟨_, _, r, ReadAtMost.cons r (Nat.le_of_lt hd) hb, ?_, fun b eb => ?_⟩
  · simp only [PyData.depth, PyData.shown]
    exact ReprK.tuple h1 h2 h3 hna hk
  · cases eb
    refine ⟨"tuple", "tuple.__repr__", F.slot_tuple_repr, F.slot_tuple_str, F.slot_tuple_format, fun s k => ⟨o, k _ _ h1, h2⟩, fun A E s Q hg hu k hQ => ?_⟩
    simp only [PyData.depth] at hu
    simp only [PyData.shown] at hQ
    exact call_tuple_reprK h1 h2 h3 hna hk hg (fun b _ => Clear.nil b) hu k hQ hz'
theorem rk_dict {a : Addr} {o : Obj} {es : Array DictEntry} {n : Nat} {kvs : List (PyData × PyData)} (h1 : h.get? a = some o) (h2 : o.cls = .type "dict") (h3 : o.data = .dict es n) (hsys : (a == sysModules) = false)
    (hK : ReadsAll h (es.toList.map (·.key)) (kvs.map (·.1)) [] ∧ ∀ n, ReprAllK P w [] h n (es.toList.map (·.key)) (PyData.shownAll (kvs.map (·.1)))) (hA : RkA P w h (es.toList.map (·.val)) (kvs.map (·.2))) (hz : (PyData.shown (.dict kvs)).length ≤ sizeLine) : RkT P w h (.ref a) (.dict kvs) := by
  obtain ⟨as, bs, h4, hb, hk⟩ := hA
  have r : Reads h (.ref a) (.dict kvs) _ := Reads.dict h1 h2 h3 hK.1 h4
  have hb2 := hb.mono (PyData.depthAll_vals_le kvs)
  have hd : PyData.depthKv kvs < (PyData.dict kvs).depth := by simp only [PyData.depth]; omega
  have hna := not_mem_of_deeper r hd hb2
  have hE := ReprEntriesK.of_two es.toList _ _ ((hK.2 (PyData.depthKv kvs)).more_le (as' := bs) (fun b (z : b ∈ ([] : List Addr)) => absurd z (by simp)) (Nat.le_refl _)) (hk.more_le (as' := bs) (fun b z => z) (PyData.depthAll_vals_le kvs))
  refine ⟨_, _, r, ReadAtMost.cons r (Nat.le_of_lt hd) hb2, ?_, fun b eb => ?_⟩
  · simp only [PyData.depth, PyData.shown, PyData.shownKv_eq]
    exact ReprK.dict h1 h2 h3 hsys hna hE
  · cases eb
    refine ⟨"dict", "dict.__repr__", F.slot_dict_repr, F.slot_dict_str, F.slot_dict_format, fun s k => ⟨o, k _ _ h1, h2⟩, fun A E s Q hg hu k hQ => ?_⟩
    simp only [PyData.depth] at hu
    simp only [PyData.shown, PyData.shownKv_eq] at hQ
    exact call_dict_reprK h1 h2 h3 hsys hna hE hg (fun b _ => Clear.nil b) hu k hQ (by rw [← PyData.shownKv_eq]; simpa only [PyData.shown] using hz)
end
section
variable {X : Cx} {pins : List (Addr × Obj)} {σ : L2.St} {H F : Hp} {s : Shared}
theorem lst_of (I : Inv X pins σ H s) {a : Addr} {ds : List D} {vs : List V} (h2 : H a = some (.lst vs)) (hs : (toPy (.lst ds)).showable = true) (hz : (toPy (.lst ds)).shown.length ≤ sizeLine)
    (go : ∀ us, PyData.showableAll (toPyL ds) = true → (∀ t ∈ PyData.shownAll (toPyL ds), t.length ≤ sizeLine) → Vals vs us → RkA X.prog X.w s.heap us (toPyL ds)) : RkT X.prog X.w s.heap (.ref a) (toPy (.lst ds)) := by
  obtain ⟨its, rv, ⟨o, n, ho, hc, _, hd⟩, _⟩ := I.list (.of h2)
  unfold toPy at hs hz ⊢
  refine rk_list ho hc hd (go its (by simpa [PyData.showable] using hs) (fun t ht => ?_) rv) hz
  exact Nat.le_trans (listText_mem_le ht) (by simpa only [PyData.shown] using hz)
theorem tup_of (I : Inv X pins σ H s) {a : Addr} {ds : List D} {vs : List V} (h2 : H a = some (.tup vs)) (hs : (toPy (.tup ds)).showable = true) (hz : (toPy (.tup ds)).shown.length ≤ sizeLine)
    (go : ∀ us, PyData.showableAll (toPyL ds) = true → (∀ t ∈ PyData.shownAll (toPyL ds), t.length ≤ sizeLine) → Vals vs us → RkA X.prog X.w s.heap us (toPyL ds)) : RkT X.prog X.w s.heap (.ref a) (toPy (.tup ds)) := by
  obtain ⟨its, rv, ⟨o, ho, hc, n, hd⟩, _⟩ := I.tuple (.of h2)
  unfold toPy at hs hz ⊢
  refine rk_tuple ho hc hd (go its (by simpa [PyData.showable] using hs) (fun t ht => ?_) rv) hz
  exact Nat.le_trans (tupleText_mem_le ht) (by simpa only [PyData.shown] using hz)
theorem dic_of (I : Inv X pins σ H s) {a : Addr} {ks : List (Key × D)} {kws : List (Key × V)} (h2 : Rd H a (.dK kws)) (h3 : ks.map (·.1) = kws.map (·.1)) (hs : (toPy (.dic ks)).showable = true) (hz : (toPy (.dic ks)).shown.length ≤ sizeLine)
    (go : ∀ vs, PyData.showableAll ((toPyK ks).map (·.2)) = true → (∀ t ∈ PyData.shownAll ((toPyK ks).map (·.2)), t.length ≤ sizeLine) → KV kws vs → RkA X.prog X.w s.heap (vs.map (·.2)) ((toPyK ks).map (·.2))) : RkT X.prog X.w s.heap (.ref a) (toPy (.dic ks)) := by
  obtain ⟨_, hsys, vs, rel, o, es, ep, ho, hx, hd, _, hp, _⟩ := (show ObjOk X.prog X.w H s.heap a (.dK kws) from h2.ok I.hok)
  unfold toPy at hs hz ⊢
  obtain ⟨hs1, hs2⟩ := PyData.showableKv_split (toPyK ks) (by simpa [PyData.showable] using hs)
  have hz' : (dictText (PyData.shownKv (toPyK ks))).length ≤ sizeLine := by simpa only [PyData.shown] using hz
  have hB := go vs hs2 (fun t ht => by
    obtain ⟨q, hq, hl⟩ := PyData.shownKv_val_le _ t ht
    exact Nat.le_trans hl (Nat.le_trans (dictText_mem_le hq) hz')) rel
  rw [← pairs_vals hp] at hB
  exact rk_dict ho hx.1 hd hsys (pairs_keys hp ks (h3.trans (kv_keys rel)) (fun t ht => by
    obtain ⟨q, hq, hl⟩ := PyData.shownKv_key_le _ t ht
    exact Nat.le_trans hl (Nat.le_trans (dictText_mem_le hq) hz')) hs1) hB hz
mutual
theorem rd_of (I : Inv X pins σ H s) (e : Ex F H) : ∀ (d : D) (v : V) (u : Value), Fz F d v → pureR d = true → (toPy d).showable = true → (toPy d).shown.length ≤ sizeLine → RelV v u → RkT X.prog X.w s.heap u (toPy d)
  | .non, _, _, h, _, hs, hz, r => by
    unfold Fz at h
    subst h
    cases r
    exact rk_flat .none (by simpa only [toPy, PyData.shown] using ReprIs.none) (fun _ z => nomatch z)
  | .bl b, _, _, h, _, hs, hz, r => by
    unfold Fz at h
    subst h
    cases r
    exact rk_flat (.bool b) (by simpa only [toPy, PyData.shown] using ReprIs.bool b) (fun _ z => nomatch z)
  | .int i, _, _, h, _, hs, hz, r => by
    unfold Fz at h
    subst h
    obtain ⟨t, rfl⟩ := r
    exact rk_flat (.int i t) (by simpa only [toPy, PyData.shown] using ReprIs.int t (by simpa [toPy, PyData.showable] using hs)) (fun _ z => nomatch z)
  | .str x, _, _, h, _, hs, hz, r => by
    unfold Fz at h
    subst h
    obtain ⟨t, rfl⟩ := r
    exact rk_flat (.str x t) (by simpa only [toPy, PyData.shown] using ReprIs.str x t (by simpa only [toPy, PyData.shown] using hz)) (fun _ z => nomatch z)
  | .ty _, _, _, _, p, _, _, _ => by simp [pureR] at p
  | .obj _, _, _, _, p, _, _, _ => by simp [pureR] at p
  | .scr _ _, _, _, _, p, _, _, _ => by simp [pureR] at p
  | .xcp _ _ _ _, _, _, _, p, _, _, _ => by simp [pureR] at p
  | .ins _ _, _, _, _, p, _, _, _ => by simp [pureR] at p
  | .lst ds, _, _, h, p, hs, hz, r => by
    unfold Fz at h
    obtain ⟨a, vs, rfl, h2, h3⟩ := h
    cases r
    exact lst_of I (e _ _ h2) hs hz fun us k1 k2 rv => rd_ofL I e ds vs us h3 (by simpa [pureR] using p) k1 k2 rv
  | .tup ds, _, _, h, p, hs, hz, r => by
    unfold Fz at h
    obtain ⟨a, vs, rfl, h2, h3⟩ := h
    cases r
    exact tup_of I (e _ _ h2) hs hz fun us k1 k2 rv => rd_ofL I e ds vs us h3 (by simpa [pureR] using p) k1 k2 rv
  | .dic ks, _, _, h, p, hs, hz, r => by
    unfold Fz at h
    obtain ⟨a, od, kws, rfl, h2, h3⟩ := h
    cases r
    exact dic_of I (.inr ⟨od, e _ _ h2⟩) (fzk_len h3) hs hz fun us k1 k2 rv => rd_ofK I e ks kws us h3 (by simpa [pureR] using p) k1 k2 rv
theorem rd_ofL (I : Inv X pins σ H s) (e : Ex F H) : ∀ (ds : List D) (vs : List V) (us : List Value), FzL F ds vs → pureRL ds = true → PyData.showableAll (toPyL ds) = true → (∀ t ∈ PyData.shownAll (toPyL ds), t.length ≤ sizeLine) → Vals vs us → RkA X.prog X.w s.heap us (toPyL ds)
  | [], _, _, h, _, _, _, r => by
    rw [fzl_inv0 h] at r
    cases r
    unfold toPyL
    exact ⟨[], [], .nil, (fun _ z => nomatch z), by simp only [PyData.shownAll]; exact .nil⟩
  | d :: ds, _, _, h, p, hs, hz, r => by
    obtain ⟨v, vs, rfl, h1, h2⟩ := fzl_inv h
    have p' : pureR d = true ∧ pureRL ds = true := by simpa [pureRL] using p
    unfold toPyL at hs hz ⊢
    simp only [PyData.showableAll, PyData.shownAll, List.forall_mem_cons, Bool.and_eq_true] at hs hz
    cases r with
    | cons r1 r2 =>
      obtain ⟨a1, b1, q1, m1, k1, _⟩ := rd_of I e d v _ h1 p'.1 hs.1 hz.1 r1
      obtain ⟨a2, b2, q2, m2, k2⟩ := rd_ofL I e ds vs _ h2 p'.2 hs.2 hz.2 r2
      refine ⟨_, b1 ++ b2, .cons q1 q2, ?_, ?_⟩
      · simp only [PyData.depthAll]
        exact (m1.mono (Nat.le_max_left _ _)).append (m2.mono (Nat.le_max_right _ _))
      · simp only [PyData.depthAll, PyData.shownAll]
        exact .cons ((k1.more fun b z => List.mem_append_left _ z).level_le (Nat.le_max_left _ _)) (k2.more_le (fun b z => List.mem_append_right _ z) (Nat.le_max_right _ _))
theorem rd_ofK (I : Inv X pins σ H s) (e : Ex F H) : ∀ (ks : List (Key × D)) (kws : List (Key × V)) (vs : List (Key × Value)), FzK F ks kws → pureRK ks = true → PyData.showableAll ((toPyK ks).map (·.2)) = true → (∀ t ∈ PyData.shownAll ((toPyK ks).map (·.2)), t.length ≤ sizeLine) → KV kws vs → RkA X.prog X.w s.heap (vs.map (·.2)) ((toPyK ks).map (·.2))
  | [], _, _, h, _, _, _, r => by
    unfold FzK at h
    subst h
    cases r
    unfold toPyK
    exact ⟨[], [], .nil, (fun _ z => nomatch z), by simp only [List.map_nil, PyData.shownAll]; exact .nil⟩
  | (k, d) :: ks, _, _, h, p, hs, hz, r => by
    unfold FzK at h
    obtain ⟨v, kws, rfl, h1, h2⟩ := h
    have p' : pureR d = true ∧ pureRK ks = true := by simpa [pureRK] using p
    have ek : (toPyK ((k, d) :: ks)).map (·.2) = toPy d :: (toPyK ks).map (·.2) := by cases k <;> simp [toPyK]
    rw [ek] at hs hz ⊢
    simp only [PyData.showableAll, PyData.shownAll, List.forall_mem_cons, Bool.and_eq_true] at hs hz
    cases r with
    | cons r1 r2 =>
      obtain ⟨a1, b1, q1, m1, k1, _⟩ := rd_of I e d v _ h1 p'.1 hs.1 hz.1 r1.2
      obtain ⟨a2, b2, q2, m2, k2⟩ := rd_ofK I e ks kws _ h2 p'.2 hs.2 hz.2 r2
      refine ⟨_, b1 ++ b2, .cons q1 q2, ?_, ?_⟩
      · simp only [PyData.depthAll]
        exact (m1.mono (Nat.le_max_left _ _)).append (m2.mono (Nat.le_max_right _ _))
      · simp only [PyData.depthAll, PyData.shownAll]
        exact .cons ((k1.more fun b z => List.mem_append_left _ z).level_le (Nat.le_max_left _ _)) (k2.more_le (fun b z => List.mem_append_right _ z) (Nat.le_max_right _ _))
end
end
def rRepr : List V → Hp → VK → Prop := fun vs H Q => ∃ v F μ d, vs = [v] ∧ Wd F μ H ∧ Bz F μ H d v ∧ shD d ∧ Q (.str (shown d)) H
theorem call_repr {X : Cx} {k : Nat} (hG : X.A.guards = some []) (hr : Room k X.A) : CallR X (.builtin "repr") rRepr := by
  intro pins s σ H vs us Q I r h
  obtain ⟨v, F, μ, d, rfl, W, z, ⟨h1, hs, hl, hdp⟩, q⟩ := h
  obtain ⟨u, rfl, ru⟩ := vals1 r
  have hu := hr.un
  unfold shown at q
  have step : ∀ {h' : Heap} {t u' : Nat}, (∀ b o, s.heap.get? b = some o → h'.get? b = some o) → EP X pins σ Q (.str (toPy d).shown u') { s with heap := h', toks := t } := fun hk => ⟨.str (toPy d).shown, H, I.kept hk, ⟨_, rfl⟩, q⟩
  have go : ∀ a, u = .ref a → RkT X.prog X.w s.heap u (toPy d) → wpAny (model X.prog X.w) X.A (call (.builtin "repr") [u]) (EP X pins σ Q) X.xe s := fun a ea ⟨_, _, _, _, _, z⟩ => by
    subst ea
    obtain ⟨T, idr, S⟩ := z a rfl
    exact call_repr_slot (by omega) (S.typeIs s fun _ _ e => e) S.slotRepr (S.call X.A.in1 _ s _ hG (by show X.A.units + 1 + (toPy d).depth < cLine; omega) (fun _ _ e => e) fun h' u' tk hk => ⟨_, _, rfl, step hk⟩)
  cases d with
  | non =>
    rw [bz_non z] at ru
    cases ru
    refine PySem.P.repr_of_none ⟨.str _, H, I.tok _, ⟨_, rfl⟩, ?_⟩
    simpa only [toPy, PyData.shown] using q
  | bl b =>
    rw [bz_bl z] at ru
    cases ru
    refine PySem.P.repr_of_bool ⟨.str _, H, I.tok _, ⟨_, rfl⟩, ?_⟩
    cases b <;> simpa only [toPy, PyData.shown] using q
  | int i =>
    rw [bz_int z] at ru
    obtain ⟨t, rfl⟩ := ru
    refine PySem.P.repr_of_int (by simpa [toPy, PyData.showable] using hs) ⟨.str _, H, I.tok _, ⟨_, rfl⟩, ?_⟩
    simpa only [toPy, PyData.shown] using q
  | str x =>
    rw [bz_str z] at ru
    obtain ⟨t, rfl⟩ := ru
    refine PySem.P.repr_of_str ⟨.str _, H, I.tok _, ⟨_, rfl⟩, ?_⟩ (by simpa only [toPy, PyData.shown] using hl)
    simpa only [toPy, PyData.shown] using q
  | lst ds =>
    obtain ⟨a, vs, rfl, h2, _, h4⟩ := bz_lst z
    cases ru
    exact go a rfl (lst_of I h2 hs hl fun us k1 k2 rv => rd_ofL I W.ext ds vs us h4 (by simpa [pureR] using h1) k1 k2 rv)
  | tup ds =>
    have z' : Fz F (.tup ds) v := z
    obtain ⟨a, vs, rfl, _⟩ := bz_tup W z
    cases ru
    exact go a rfl (rd_of I W.ext _ _ _ z' h1 hs hl rfl)
  | dic ks =>
    obtain ⟨a, kws, rfl, h2, _, h4⟩ := (show ∃ a kws, v = .ref a ∧ Rd H a (.dK kws) ∧ μ a = none ∧ FzK F ks kws from z)
    cases ru
    exact go a rfl (dic_of I h2 (fzk_len h4) hs hl fun us k1 k2 rv => rd_ofK I W.ext ks kws us h4 (by simpa [pureR] using h1) k1 k2 rv)
  | ty _ => simp [pureR] at h1
  | ins _ _ => simp [pureR] at h1
  | obj _ => simp [pureR] at h1
  | scr _ _ => simp [pureR] at h1
  | xcp _ _ _ _ => simp [pureR] at h1
def dRepr : DC := fun ds Q => match ds with
  | [d] => shD d ∧ Q (.str (shown d))
  | _ => False
theorem sim_repr : SimC rRepr dRepr := fun {F μ H vs ds Qd Q} W z q k => by
  unfold dRepr at q
  split at q
  · rename_i d
    obtain ⟨v, r, rfl, z1, z2⟩ := bzl_inv z
    rw [bzl_inv0 z2]
    exact ⟨v, F, μ, d, rfl, W, z1, q.1, k _ F H _ .refl W fz_str q.2⟩
  · exact q.elim
section
variable {X : Cx} {W : WX} {p pos : Pos} {e : Expr} {a : DA} {k : Nat}
theorem d_repr (hG : X.A.guards = some []) (hr : Room k X.A) (hm : X.mg "repr" = none) (ha : PAB X W [e] a) (hg : Gl X "repr" := by rfl) (he : starEach [e] X.env = (false, eval e X.env) :: starEach [] X.env := by rfl) : PD X W (.Call (.Name "repr" p) [e] [] pos) (dCB dRepr a) := d_callB (call_repr hG hr) sim_repr hm (by decide +kernel) ha hg (he := he)
end

abbrev DSp := List D → Mu → DQ → DXQ → Prop
def spOf (sp : DSp) : Sp := fun vs H Q E => ∃ F ds μ Qd Xd, Wd F μ H ∧ FzL F ds vs ∧ sp ds μ Qd Xd ∧ (∀ v F' H' d μ', Grow F μ H F' μ' H' → Wd F' μ' H' → Fz F' d v → Qd d μ' → Q v H') ∧
  ∀ cls dd F' H' x μ', Grow F μ H F' μ' H' → Wd F' μ' H' → XIs F' μ' H' cls dd x → Xd x μ' → E cls dd H'
structure FnV (P : Program) (w : World) (K : PySem.W.Frag) (mg : Str → Option Value) (base : Heap) (k : Nat) (f : Addr) (fd : FuncData) (ps : List Str) (sp : Sp) : Prop where
  len : ∀ vs H Q E, sp vs H Q E → vs.length = ps.length
  run : ∀ (A : Around) (outer : List Env) (s : Shared) (H : Hp) (args : Args) (us : List Value) (vs : List V) (Q : VK) (E : XK), Room k A → A.guards = some [] → Env0 P w K mg base A outer s H → BindsTo s fd args (ps.zip us) → Vals vs us → sp vs H Q E →
    codeAny (model P w) A (.call (.ref f) args) (CR (L2.CX P w) outer P w H s Q E) s
theorem FnV.mono {P : Program} {w : World} {K : PySem.W.Frag} {mg : Str → Option Value} {base : Heap} {j k : Nat} {f : Addr} {fd : FuncData} {ps : List Str} {sp : Sp} (F : FnV P w K mg base j f fd ps sp) (h : j ≤ k) : FnV P w K mg base k f fd ps sp :=
  ⟨F.len, fun A outer s H args us vs Q E hr => F.run A outer s H args us vs Q E (hr.mono h)⟩
theorem FnV.imp {P : Program} {w : World} {K : PySem.W.Frag} {mg : Str → Option Value} {base : Heap} {k : Nat} {f : Addr} {fd : FuncData} {ps : List Str} {sp sp' : Sp} (F : FnV P w K mg base k f fd ps sp)
    (h : ∀ vs H Q E, sp' vs H Q E → sp vs H Q E) : FnV P w K mg base k f fd ps sp' :=
  ⟨fun vs H Q E q => F.len vs H Q E (h _ _ _ _ q), fun A outer s H args us vs Q E hr hG he hb hv q => F.run A outer s H args us vs Q E hr hG he hb hv (h _ _ _ _ q)⟩
theorem spOf_len {sp : DSp} {n : Nat} (h : ∀ ds μ Q Z, sp ds μ Q Z → ds.length = n) : ∀ vs H Q E, spOf sp vs H Q E → vs.length = n := fun vs H Q E ⟨F0, ds, μ, Qd, Xd, _, z, q, _⟩ => z.length.trans (h ds μ Qd Xd q)
def startD (N : List Str) (ds : List D) : List Slot := ds.map .dat ++ List.replicate (N.length - ds.length) .no
theorem sti_start {F : Hp} {μ : Mu} {H : Hp} {N : List Str} {ds : List D} {vs : List V} (W : Wd F μ H) (z : FzL F ds vs) : Sti ⟨F, μ, H⟩ F (start N vs) H (startD N ds) μ := by
  have el := z.length
  have own : ∀ (j : Nat) (t : Slot), (startD N ds)[j]? = some t → t.own = true → False := fun j t h o => by
    unfold startD at h
    by_cases hj : j < ds.length
    · rw [List.getElem?_append_left (by simpa using hj), List.getElem?_map] at h
      cases e : ds[j]? with
      | none => rw [e] at h; cases h
      | some d => rw [e] at h; cases h; cases o
    · rw [List.getElem?_append_right (by simpa using hj), List.getElem?_replicate] at h
      split at h
      · cases h; cases o
      · cases h
  refine ⟨W, .refl, by unfold startD L2.start; simp [el], fun i s v h1 h2 => ?_, fun i j s t a hij h1 h2 o1 => (own i s h1 o1).elim⟩
  unfold startD at h1
  unfold L2.start at h2
  by_cases hi : i < ds.length
  · rw [List.getElem?_append_left (by simpa using hi), List.getElem?_map] at h1
    rw [List.getElem?_append_left (by simpa [el] using hi), List.getElem?_map] at h2
    cases e : ds[i]? with
    | none => rw [e] at h1; cases h1
    | some d =>
      rw [e] at h1
      cases h1
      obtain ⟨x, hx, zx⟩ := z.get e
      rw [hx] at h2
      cases h2
      exact ⟨x, rfl, zx⟩
  · rw [List.getElem?_append_right (by simpa using hi), List.getElem?_replicate] at h1
    split at h1
    · cases h1; exact True.intro
    · cases h1
section
variable {P : Program} {w : World} {K : PySem.W.Frag} {mg : Str → Option Value} {base : Heap}
theorem body_of {sp : DSp} {N : List Str} {ts : TS} {t : DS} {vs : List V} {H : Hp} {Q : VK} {E : XK} (hs : SimS (fun cls d _ H => E cls d H) ts t) (hp : ∀ ds μ Qd Xd, sp ds μ Qd Xd → t { nx := fun _ μ' => Qd .non μ', rt := Qd, xc := fun _ => Xd } (startD N ds) μ) (h : spOf sp vs H Q E) :
    ts { nx := fun _ H' => Q .non H', rt := Q } (start N vs) H := by
  obtain ⟨F, ds, μ, Qd, Xd, W, z, q, kr, kx⟩ := h
  refine hs (sti_start W z) (hp ds μ Qd Xd q) ⟨?_, ?_, ?_, ?_, ?_⟩
  · exact fun F' σ' H' ρ' μ' e S q => kr .non F' H' .non μ' S.grow S.wd fz_non q
  · exact fun F' σ' H' ρ' μ' e S q => q.elim
  · exact fun F' σ' H' ρ' μ' e S q => q.elim
  · exact fun v d F' σ' H' ρ' μ' e S zv q => kr v F' H' d μ' S.grow S.wd zv q
  · exact fun cls dd x F' σ' H' ρ' μ' e S zx q => kx cls dd F' H' x μ' S.grow S.wd zx q
abbrev bodyX (P : Program) (w : World) (K : PySem.W.Frag) (mg : Str → Option Value) (base : Heap) (N : List Str) (qual : Str) (st : Stmt) (f : Addr) (cdv : Value) (A : Around) (outer : List Env) (s : Shared) (H : Hp) (E : XK) : Cx :=
  cxOf (L2.CX P w) P w K mg base N qual (defScope st) f cdv A outer s H E
theorem fn_bodyV {x qual : Str} {st : Stmt} {f : Addr} {fd : FuncData} {N ps : List Str} {k : Nat} {sp : Sp} (F : Fun K x qual st f fd) (S : FnScope N ps (defScope st)) (len : ∀ vs H Q E, sp vs H Q E → vs.length = ps.length)
    (hb : ∀ (cdv : Value) (A : Around) (outer : List Env) (s : Shared) (H : Hp) (E : XK), Room k (A.deeper (envOfC qual (defScope st) s.heap.objs.size f cdv)) → A.guards = some [] →
      ∃ ts, PSs (bodyX P w K mg base N qual st f cdv A outer s H E) (defBody st) ts ∧ ∀ vs Q, sp vs H Q E → ts { nx := fun _ H' => Q .non H', rt := Q } (start N vs) H) :
    FnV P w K mg base (k + 1) f fd ps sp := by
  obtain ⟨oc, od, kV, doc, pm, an, cdv, ct, osl, rfl, lk, hcd⟩ := F.ex
  refine ⟨len, fun A outer s H args us vs Q E hr hG e0 hbd r hsp => ?_⟩
  obtain ⟨ts, hts, hp⟩ := hb cdv A outer s H E (hr.deeper _) hG
  have go := hp vs Q hsp
  have nvs := len vs H Q E hsp
  have inK : K.In s.heap := e0.mod.kin.keeps (fun b o e => (e0.bs b o e).1)
  have lim := Heap.NoLimit.keeps (h' := s.heap) e0.mod.nolimit (fun b o e => (e0.bs b o e).1)
  have kinds : ∀ y ∈ ps.zip us, (defScope st).names.lookup y.1 = some .local ∨ ((defScope st).names.lookup y.1 = some .cell ∧ ((cellsFrom (s.heap.objs.size + 1) (defScope st).names []).lookup y.1).isSome = true) := by
    intro y hy
    have hm : y.1 ∈ ps := (List.of_mem_zip (show (y.1, y.2) ∈ ps.zip us from hy)).1
    cases S.par y.1 hm with
    | inl q => exact Or.inl q
    | inr q => exact Or.inr ⟨q, PySem.W.cellsFrom_some _ _ _ (Or.inl q)⟩
  refine codeAny_call_function hr.depth (inK _ _ lk) rfl S.co S.gen rfl (PySem.W.codeRec_of inK hcd) (hbd _ _ _ _ (wpAny_newFunctionEnv_cells S.kind kinds fun env henv s1 hin => ?_))
  subst henv
  refine ⟨lim.keeps hin.toInCall.keep, codeAny_func (wpAny_mono (hts.run [] s1 (start N vs) H _ (inv_start S hr.hd e0 nvs r hin) go) (fun fl s' hq => ?_) (fun e s' hq => hq))⟩
  cases fl with
  | ret u =>
    obtain ⟨v, σ', H', J, rv, q⟩ := hq
    exact ⟨v, H', J.os, J.bare, J.base, J.hok, rv, q⟩
  | next =>
    obtain ⟨σ', H', J, q⟩ := hq
    exact ⟨.non, H', J.os, J.bare, J.base, J.hok, rfl, q⟩
  | brk => exact hq.elim fun σ' h => h.elim fun H' h => h.2.elim
  | cont => exact hq.elim fun σ' h => h.elim fun H' h => h.2.elim
theorem fn_body {x qual : Str} {st : Stmt} {f : Addr} {fd : FuncData} {N ps : List Str} {k : Nat} {sp : DSp} (F : Fun K x qual st f fd) (S : FnScope N ps (defScope st)) (len : ∀ ds μ Q Z, sp ds μ Q Z → ds.length = ps.length)
    (hb : ∀ (cdv : Value) (A : Around) (outer : List Env) (s : Shared) (H : Hp) (E : XK), Room k (A.deeper (envOfC qual (defScope st) s.heap.objs.size f cdv)) → A.guards = some [] →
      ∃ t, PSsD (bodyX P w K mg base N qual st f cdv A outer s H E) (fun cls d _ H => E cls d H) (defBody st) t ∧ ∀ ds μ Qd Xd, sp ds μ Qd Xd → t { nx := fun _ μ' => Qd .non μ', rt := Qd, xc := fun _ => Xd } (startD N ds) μ) :
    FnV P w K mg base (k + 1) f fd ps (spOf sp) := fn_bodyV F S (spOf_len len) fun cdv A outer s H E hr hG => by
  obtain ⟨t, ht, hp⟩ := hb cdv A outer s H E hr hG
  obtain ⟨ts, hts, hsim⟩ := ht.ex
  exact ⟨ts, hts, fun vs Q h => body_of hsim hp h⟩
def FnW (P : Program) (w : World) (K : PySem.W.Frag) (mg : Str → Option Value) (base : Heap) (k : Nat) (f : Addr) (sp : Sp) : Prop :=
  ∀ (A : Around) (outer : List Env) (s : Shared) (H : Hp) (us : List Value) (vs : List V) (Q : VK) (E : XK), Room k A → A.guards = some [] → Env0 P w K mg base A outer s H → Vals vs us → sp vs H Q E →
    codeAny (model P w) A (.call (.ref f) ⟨us, []⟩) (CR (L2.CX P w) outer P w H s Q E) s
theorem FnV.toW {k : Nat} {f : Addr} {fd : FuncData} {ps : List Str} {sp : Sp} (F : FnV P w K mg base k f fd ps sp) (b : Binds K fd ps []) : FnW P w K mg base k f sp := fun A outer s H us vs Q E hr hG e0 r h => by
  have nus : us.length = ps.length := by rw [← r.length]; exact F.len _ _ _ _ h
  have bd := b s us (e0.mod.kin.keeps fun b o e => (e0.bs b o e).1) (by rw [List.append_nil]; exact nus)
  rw [List.append_nil] at bd
  exact F.run A outer s H ⟨us, []⟩ us vs Q E hr hG e0 bd r h
structure CalV (P : Program) (w : World) (K : PySem.W.Frag) (mg : Str → Option Value) (base : Heap) (k : Nat) (x : Str) (sp : Sp) : Prop where
  ex : ∃ (f : Addr), FnW P w K mg base k f sp ∧ mg x = some (.ref f) ∧ PySem.W.keepIn K (.ref f) = true
theorem calV_of {k : Nat} {x : Str} {f : Addr} {fd : FuncData} {ps : List Str} {sp : Sp} (F : FnV P w K mg base k f fd ps sp) (hm : mg x = some (.ref f)) (kp : PySem.W.keepIn K (.ref f) = true) (b : Binds K fd ps []) : CalV P w K mg base k x sp := ⟨f, F.toW b, hm, kp⟩
abbrev CalG (P : Program) (w : World) (K : PySem.W.Frag) (mg : Str → Option Value) (base : Heap) (k : Nat) (x : Str) (sp : DSp) : Prop := CalV P w K mg base k x (spOf sp)
end
def dCall (sp : DSp) (a : DA) : DE := fun ρ μ Q Z => a ρ μ (fun ds μ1 => sp ds μ1 Q Z) Z
section
variable {X : Cx} {W : WX} {k j : Nat} {x : Str} {p pos : Pos} {e : Expr} {es : List Expr} {a : DA} {sp : DSp}
theorem run_g {f : Addr} {sv : Sp} {pins : List (Addr × Obj)} {σ : L2.St} {H : Hp} {s : Shared} {Q : VK} {us : List Value} {vs : List V} (F : FnW X.prog X.w X.K X.mg X.base k f sv) (hr : Room k X.A) (hG : X.A.guards = some []) (tk : Takes X W)
    (I : Inv X pins σ H s) (r : Vals vs us) (h : sv vs H Q (fun c d H => W c d σ H)) : wpAny (model X.prog X.w) X.A (call (.ref f) us) (EP X pins σ Q) X.xe s := by
  refine wpAny_call (codeAny_mono (F X.A X.stack s H us vs Q _ hr hG I.env0 r h) fun res s' hq => ?_)
  match res, hq with
  | .error e, hq => exact tk e s' (XE.of_call I (fun _ _ _ h => h) hq)
  | .ok (.ret u), hq => exact I.after hq
  | .ok .next, hq => exact hq.elim
  | .ok .brk, hq => exact hq.elim
  | .ok .cont, hq => exact hq.elim
theorem pe_callV {sv : Sp} {ta : TA} (c : CalV X.prog X.w X.K X.mg X.base k x sv) (hr : Room j X.A) (hk : k ≤ j) (hG : X.A.guards = some []) (tk : Takes X W) (a1 : PA X (e :: es) ta) (hg : Gl X x := by rfl) (hdb : (x == ("__debug__" : Str)) = false := by decide)
    (he : starEach (e :: es) X.env = (false, eval e X.env) :: starEach es X.env := by rfl) (hpl : (backTo pos (starEach es X.env)).any (·.1) = false := by rfl) : PE X (.Call (.Name x p) (e :: es) [] pos) (tCallS sv (WE W) ta) := by
  obtain ⟨f, F, hm, kp⟩ := c.ex
  exact ⟨fun pins s σ H Q I h => wpAny_Call_Name_kw (ld_glob I hg hm (PySem.W.callWith_K (h₀ := X.base) I.ok.mod.kin kp (thn (a1.run pos pins s σ H _ I h) fun us s1 ⟨vs, H1, I1, r, q⟩ => ⟨I1.kIn, run_g F (hr.mono hk) hG tk I1 r q⟩) he hpl) hdb)⟩
theorem d_call (c : CalG X.prog X.w X.K X.mg X.base k x sp) (hr : Room j X.A) (hk : k ≤ j) (hG : X.A.guards = some []) (tk : Takes X W) (ha : PAD X W (e :: es) a) (hg : Gl X x := by rfl) (hdb : (x == ("__debug__" : Str)) = false := by decide)
    (he : starEach (e :: es) X.env = (false, eval e X.env) :: starEach es X.env := by rfl) (hpl : (backTo pos (starEach es X.env)).any (·.1) = false := by rfl) : PD X W (.Call (.Name x p) (e :: es) [] pos) (dCall sp a) := by
  obtain ⟨ta, a1, a2⟩ := ha.ex
  exact ⟨_, pe_callV c hr hk hG tk a1 hg hdb he hpl, fun {B F0 σ H ρ μ Qd Xd Q} S q gx kk => a2 S q gx fun vs F1 H1 ds μ1 g1 S1 z1 q1 =>
    ⟨F1, ds, μ1, Qd, Xd, S1.wd, z1, q1, fun v F2 H2 d μ2 g2 W2 z2 q2 => kk v F2 H2 d μ2 (g1.trans g2) (S1.go g2 W2) z2 q2, fun cls dd F2 H2 x μ2 g2 W2 z2 q2 => gx cls dd F2 H2 x μ2 (g1.trans g2) (S1.go g2 W2) z2 q2⟩⟩
end
end DL

namespace DL
open PySem PySem.Spec PyProof.Rows L2

def mset (μ : Mu) (p : Addr) (o : MO) : Mu := fun a => if a = p then some o else μ a
theorem mset_same {μ : Mu} {p : Addr} {o : MO} : mset μ p o p = some o := if_pos rfl
theorem mset_ne {μ : Mu} {p a : Addr} {o : MO} (h : a ≠ p) : mset μ p o a = μ a := if_neg h
def dObj (t : DI) : DE := fun ρ μ Q X => t ρ μ (fun ds μ1 => ∀ p, μ1 p = none → Q (.obj p) (mset μ1 p (.lst ds))) X
theorem PO.obj {X : Cx} {W : WX} {e : Expr} {t : DI} (h : PO X W e t) : PD X W e (dObj t) := by
  obtain ⟨te, a1, a2⟩ := h.ex
  refine ⟨_, a1, fun {B F σ H ρ μ Qd Xd Q} S q gx k => a2 S q gx fun p vs F' H' ds μ' g S' h0 h1 h2 h3 z q' => ?_⟩
  have hmu : ∀ {b : Addr}, b ≠ p → mset μ' p (.lst ds) b = μ' b := fun hb => mset_ne hb
  have g2 : Grow F μ H F' (mset μ' p (.lst ds)) H' := ⟨g.fz, fun b o x1 x2 => by
    obtain ⟨k1, k2, k3⟩ := g.keep b o x1 x2
    exact ⟨k1, (hmu (h0.ne x1 x2)).trans k2, k3⟩⟩
  have W' : Wd F' (mset μ' p (.lst ds)) H' := ⟨S'.wd.ext, fun a o e => by
    by_cases hb : a = p
    · subst hb
      rw [mset_same] at e
      cases e
      exact ⟨⟨vs, h1, z⟩, h2⟩
    · rw [mset_ne hb] at e
      exact S'.wd.mu a o e, S'.wd.tup⟩
  refine k _ F' H' (.obj p) _ g2 ?_ (by unfold Fz; rfl) (q' p h3)
  refine ⟨W', ⟨S'.grow.fz, fun b o x1 x2 => ?_⟩, S'.len, fun i s v x1 x2 => ?_, S'.dist⟩
  · obtain ⟨k1, k2, k3⟩ := S'.grow.keep b o x1 x2
    have hb : b ≠ p := by
      rintro rfl
      obtain ⟨j1, j2, _⟩ := S.grow.keep _ o x1 x2
      exact h0 o j1 j2
    exact ⟨k1, (mset_ne hb).trans k2, k3⟩
  · have q := S'.slot i s v x1 x2
    have q0 := S.slot i s v x1 x2
    cases s with
    | no => exact True.intro
    | fn _ _ _ _ => exact q
    | dat d => exact q
    | ml ds' =>
      obtain ⟨a, vs', hv, ha, q, o1, o2, o3⟩ := q
      obtain ⟨a0, vs0, hv0, ha0, _, _, m0, _⟩ := q0
      rw [hv] at hv0
      cases hv0
      exact ⟨a, vs', hv, ha, q, o1, (mset_ne (h0.ne ha0 m0)).trans o2, o3⟩
    | md ks =>
      obtain ⟨a, vs', hv, ha, q, o1, o2, o3⟩ := q
      obtain ⟨a0, vs0, hv0, ha0, _, _, m0, _⟩ := q0
      rw [hv] at hv0
      cases hv0
      exact ⟨a, vs', hv, ha, q, o1, (mset_ne (h0.ne ha0 m0)).trans o2, o3⟩
theorem Sti.mput {B : Anchor} {F : Hp} {σ : L2.St} {H : Hp} {ρ : List Slot} {μ : Mu} (S : Sti B F σ H ρ μ) {p : Addr} {o o' : MO} {u : HO} (h : μ p = some o) (h' : MOk F (L2.upd H p u) p o') :
    Grow F μ H F (mset μ p o') (L2.upd H p u) ∧ Sti B F σ (L2.upd H p u) ρ (mset μ p o') := by
  obtain ⟨q1, hF⟩ := S.wd.mu p o h
  have nf : ∀ {b : Addr} {v : HO}, F b = some v → b ≠ p := fun e => by
    rintro rfl
    rw [hF] at e
    cases e
  have nm : ∀ {b : Addr}, μ b = none → b ≠ p := fun e => by
    rintro rfl
    rw [h] at e
    cases e
  have g : Grow F μ H F (mset μ p o') (L2.upd H p u) := ⟨Evl.Ex.refl _, fun b v e1 e2 => ⟨by rw [upd_ne (nm e2)]; exact e1, (mset_ne (nm e2)).trans e2, fun e => e⟩⟩
  have W' : Wd F (mset μ p o') (L2.upd H p u) := ⟨fun b v e => by rw [upd_ne (nf e)]; exact S.wd.ext b v e, fun b v e => by
    by_cases hb : b = p
    · subst hb
      rw [mset_same] at e
      cases e
      exact ⟨h', hF⟩
    · rw [mset_ne hb] at e
      obtain ⟨w1, w2⟩ := S.wd.mu b v e
      exact ⟨w1.mono (Evl.Ex.refl _) fun v hv => by rw [upd_ne hb]; exact hv, w2⟩, fun b vs e => by
    by_cases hb : b = p
    · subst hb
      exact (h'.notup e).elim
    · rw [upd_ne hb] at e
      exact S.wd.tup b vs e⟩
  exact ⟨g, S.go g W'⟩

def diScr (K : PySem.W.Frag) (i : Nat) : DI := fun ρ μ Q X => ∃ ns, ρ[i]? = some (.dat (.scr K ns)) ∧ Q (ns.map D.int) μ
def dLenS (K : PySem.W.Frag) : DC := fun ds Q => match ds with
  | [.scr K' ns] => K' = K ∧ Q (.int ns.length)
  | _ => False
abbrev DM := List D → List D → (D → List D → Prop) → Prop
theorem FzL.set {F : Hp} {d : D} {v : V} (hd : Fz F d v) : ∀ (i : Nat) {ds : List D} {vs : List V}, FzL F ds vs → FzL F (ds.set i d) (vs.set i v)
  | i, [], _, h => by
    rw [fzl_inv0 h]
    simpa using fzl_nil
  | 0, e :: ds, _, h => by
    obtain ⟨w, r, rfl, h1, h3⟩ := fzl_inv h
    exact fzl_cons hd h3
  | i + 1, e :: ds, _, h => by
    obtain ⟨w, r, rfl, h1, h3⟩ := fzl_inv h
    exact fzl_cons h1 (FzL.set hd i h3)
theorem FzL.dropLast {F : Hp} {ds : List D} {vs : List V} (h : FzL F ds vs) : FzL F ds.dropLast vs.dropLast := by
  rw [List.dropLast_eq_take, List.dropLast_eq_take, h.length]
  exact h.take _
section
variable {X : Cx} {W : WX} {o e : Expr} {es : List Expr} {dO : DE} {a : DA} {apos cpos : Pos} {name : Str} {id : String} {r : V → List V → Hp → VK → Prop} {f : DM}
variable {i : Expr} {di dv : DE} {pos tpos : Pos}
def dOSet (o i v : DE) : DS := fun D ρ μ => v ρ μ (fun dx μ1 => o ρ μ1 (fun dp μ2 => i ρ μ2 (fun dk μ3 => ∃ p ds k j, dp = .obj p ∧ dk = .int k ∧ μ3 p = some (.lst ds) ∧ ixN ds.length k = some j ∧ D.nx ρ (mset μ3 p (.lst (ds.set j dx)))) (D.xc ρ)) (D.xc ρ)) (D.xc ρ)
end

structure SlsOk (B : Anchor) (F H0 : Hp) (μ0 : Mu) (H : Hp) (μ : Mu) (ss : List Slot) (vs : List V) : Prop where
  len : ss.length = vs.length
  ok : ∀ (i : Nat) (s : Slot) (v : V), ss[i]? = some s → vs[i]? = some v → SlotOk B F H μ (some v) s
  new : ∀ (i : Nat) (s : Slot) (a : Addr), ss[i]? = some s → s.own = true → vs[i]? = some (.ref a) → NewAt H0 μ0 a
  dist : ∀ (i j : Nat) (s t : Slot) (a : Addr), i ≠ j → ss[i]? = some s → ss[j]? = some t → s.own = true → t.own = true → vs[i]? = some (.ref a) → vs[j]? = some (.ref a) → False
theorem SlotOk.go {B : Anchor} {F F' : Hp} {μ μ' : Mu} {H H' : Hp} {v : Option V} {s : Slot} (q : SlotOk B F H μ v s) (g : Grow F μ H F' μ' H') : SlotOk B F' H' μ' v s := by
  cases s with
  | no => exact True.intro
  | fn _ _ _ _ => exact ⟨q.1, q.2.1, g.fz _ _ q.2.2⟩
  | dat d =>
    obtain ⟨x, hx, q⟩ := q
    exact ⟨x, hx, q.mono g.fz⟩
  | ml ds =>
    obtain ⟨a, vs, hv, ha, q, o1, o2, o3⟩ := q
    obtain ⟨k1, k2, k3⟩ := g.keep a _ ha o2
    exact ⟨a, vs, hv, k1, q.mono g.fz, k3 o1, k2, o3⟩
  | md ks =>
    obtain ⟨a, vs, hv, ha, q, o1, o2, o3⟩ := q
    obtain ⟨k1, k2, k3⟩ := g.keep a _ ha o2
    exact ⟨a, vs, hv, k1, q.mono g.fz, k3 o1, k2, o3⟩
theorem SlotOk.at_ {B : Anchor} {F : Hp} {μ : Mu} {H : Hp} {a : Addr} {s : Slot} (q : SlotOk B F H μ (some (.ref a)) s) (o : s.own = true) : ∃ u, H a = some u ∧ μ a = none := by
  cases s with
  | no => cases o
  | fn _ _ _ _ => cases o
  | dat d => cases o
  | ml ds =>
    obtain ⟨a', vs, e, ha, _, _, m, _⟩ := q
    cases e
    exact ⟨_, ha, m⟩
  | md ds =>
    obtain ⟨a', vs, e, ha, _, _, m, _⟩ := q
    cases e
    exact ⟨_, ha, m⟩
abbrev DSl := List Slot → Mu → (List Slot → Mu → Prop) → DXQ → Prop
def SimSl (W : WX) (ta : TA) (t : DSl) : Prop := ∀ {B : Anchor} {F : Hp} {σ : L2.St} {H : Hp} {ρ : List Slot} {μ : Mu} {Qd : List Slot → Mu → Prop} {Xd : DXQ} {Q : List V → Hp → Prop}, Sti B F σ H ρ μ → t ρ μ Qd Xd → GoX W B F σ H ρ μ Xd →
  (∀ vs F' H' ss μ', Grow F μ H F' μ' H' → Sti B F' σ H' ρ μ' → SlsOk B F' H μ H' μ' ss vs → Qd ss μ' → Q vs H') → ta σ H Q
structure PSl (X : Cx) (W : WX) (es : List Expr) (t : DSl) : Prop where
  ex : ∃ ta, PA X es ta ∧ SimSl W ta t
def slNil : DSl := fun _ μ Q _ => Q [] μ
def slD (a : DE) (r : DSl) : DSl := fun ρ μ Q X => a ρ μ (fun d μ1 => r ρ μ1 (fun ss μ2 => Q (.dat d :: ss) μ2) X) X
def slO (a : DI) (r : DSl) : DSl := fun ρ μ Q X => a ρ μ (fun ds μ1 => r ρ μ1 (fun ss μ2 => Q (.ml ds :: ss) μ2) X) X
theorem SlsOk.cons {B : Anchor} {F0 F1 F2 : Hp} {μ0 μ1 μ2 : Mu} {H0 H1 H2 : Hp} {s : Slot} {v : V} {ss : List Slot} {vs : List V} (g1 : Grow F0 μ0 H0 F1 μ1 H1) (g2 : Grow F1 μ1 H1 F2 μ2 H2) (h : SlotOk B F1 H1 μ1 (some v) s) (n : s.own = true → ∀ a, v = .ref a → NewAt H0 μ0 a)
    (r : SlsOk B F2 H1 μ1 H2 μ2 ss vs) : SlsOk B F2 H0 μ0 H2 μ2 (s :: ss) (v :: vs) := by
  refine ⟨by simp [r.len], fun i s' v' e1 e2 => ?_, fun i s' a e1 o e2 => ?_, fun i j s' t' a hij e1 e2 o1 o2 e3 e4 => ?_⟩
  · cases i with
    | zero =>
      cases e1
      cases e2
      exact h.go g2
    | succ i => exact r.ok i s' v' e1 e2
  · cases i with
    | zero =>
      cases e1
      cases e2
      exact n o a rfl
    | succ i => exact (r.new i s' a e1 o e2).back g1
  · cases i with
    | zero =>
      cases e1
      cases e3
      cases j with
      | zero => exact hij rfl
      | succ j =>
        obtain ⟨u, hu, hm⟩ := h.at_ o1
        exact r.new j t' a e2 o2 e4 u hu hm
    | succ i =>
      cases j with
      | zero =>
        cases e2
        cases e4
        obtain ⟨u, hu, hm⟩ := h.at_ o2
        exact r.new i s' a e1 o1 e3 u hu hm
      | succ j => exact r.dist i j s' t' a (fun e => hij (by rw [e])) e1 e2 o1 o2 e3 e4
theorem SlsOk.away {B : Anchor} {F F0 H0 : Hp} {σ : L2.St} {μ μ0 : Mu} {H : Hp} {ρ : List Slot} {ss : List Slot} {vs : List V} (S0 : Sti B F0 σ H0 ρ μ0) (z : SlsOk B F H0 μ0 H μ ss vs) {i : Nat} {s : Slot} {v : V} (e1 : ss[i]? = some s) (o : s.own = true) (e2 : vs[i]? = some v)
    (j : Nat) (t : Slot) (a : Addr) (h1 : ρ[j]? = some t) (h2 : t.own = true) (h3 : σ[j]? = some (some (.ref a))) : v ≠ .ref a := by
  rintro rfl
  obtain ⟨⟨u, hu⟩, hm⟩ := S0.ownAt h1 h2 h3
  exact z.new i s a e1 o e2 u hu hm
theorem Sti.setAny {B : Anchor} {F : Hp} {σ : L2.St} {H : Hp} {ρ : List Slot} {μ : Mu} (S : Sti B F σ H ρ μ) {i : Nat} {s : Slot} {v : V} (h : SlotOk B F H μ (some v) s)
    (hn : s.own = true → ∀ (j : Nat) (t : Slot) (a : Addr), ρ[j]? = some t → t.own = true → σ[j]? = some (some (.ref a)) → v ≠ .ref a) : Sti B F (σ.set i (some v)) H (ρ.set i s) μ := by
  cases s with
  | no =>
    refine ⟨S.wd, S.grow, by rw [List.length_set, List.length_set]; exact S.len, fun j s' w h1 h2 => ?_, fun j k s1 t a hjk h1 h2 o1 o2 e1 e2 => ?_⟩
    · by_cases hj : i = j
      · subst hj
        rw [List.getElem?_set] at h1
        simp only [if_true] at h1
        split at h1
        · cases h1
          exact True.intro
        · cases h1
      · rw [List.getElem?_set_ne hj] at h1 h2
        exact S.slot j s' w h1 h2
    · have nj : ∀ (j : Nat) (s : Slot), (ρ.set i .no)[j]? = some s → s.own = true → i ≠ j ∧ ρ[j]? = some s := fun j s h o => by
        by_cases hj : i = j
        · subst hj
          rw [List.getElem?_set] at h
          simp only [if_true] at h
          split at h
          · cases h
            cases o
          · cases h
        · rw [List.getElem?_set_ne hj] at h
          exact ⟨hj, h⟩
      obtain ⟨n1, h1⟩ := nj j s1 h1 o1
      obtain ⟨n2, h2⟩ := nj k t h2 o2
      rw [List.getElem?_set_ne n1] at e1
      rw [List.getElem?_set_ne n2] at e2
      exact S.dist j k s1 t a hjk h1 h2 o1 o2 e1 e2
  | fn f c q B0 =>
    refine ⟨S.wd, S.grow, by rw [List.length_set, List.length_set]; exact S.len, fun j s' w h1 h2 => ?_, fun j k s1 t a hjk h1 h2 o1 o2 e1 e2 => ?_⟩
    · by_cases hj : i = j
      · subst hj
        rw [List.getElem?_set] at h1 h2
        simp only [if_true] at h1 h2
        split at h1
        · cases h1
          split at h2
          · cases h2
            exact h
          · cases h2
        · cases h1
      · rw [List.getElem?_set_ne hj] at h1 h2
        exact S.slot j s' w h1 h2
    · have nj : ∀ (j : Nat) (s : Slot), (ρ.set i (.fn f c q B0))[j]? = some s → s.own = true → i ≠ j ∧ ρ[j]? = some s := fun j s h o => by
        by_cases hj : i = j
        · subst hj
          rw [List.getElem?_set] at h
          simp only [if_true] at h
          split at h
          · cases h
            cases o
          · cases h
        · rw [List.getElem?_set_ne hj] at h
          exact ⟨hj, h⟩
      obtain ⟨n1, h1⟩ := nj j s1 h1 o1
      obtain ⟨n2, h2⟩ := nj k t h2 o2
      rw [List.getElem?_set_ne n1] at e1
      rw [List.getElem?_set_ne n2] at e2
      exact S.dist j k s1 t a hjk h1 h2 o1 o2 e1 e2
  | dat d =>
    obtain ⟨x, hx, z⟩ := h
    cases hx
    exact S.set z
  | ml ds => exact S.setO h (hn rfl)
  | md ds => exact S.setO h (hn rfl)
theorem own_set {ρ : List Slot} {σ : L2.St} {i : Nat} {s : Slot} {v : V} {j : Nat} {t : Slot} {a : Addr} (h1 : (ρ.set i s)[j]? = some t) (h2 : t.own = true) (h3 : (σ.set i (some v))[j]? = some (some (.ref a))) :
    (i = j ∧ t = s ∧ v = .ref a) ∨ (ρ[j]? = some t ∧ σ[j]? = some (some (.ref a))) := by
  by_cases hj : i = j
  · subst hj
    rw [List.getElem?_set] at h1 h3
    simp only [if_true] at h1 h3
    split at h1
    · cases h1
      split at h3
      · cases h3
        exact .inl ⟨rfl, rfl, rfl⟩
      · cases h3
    · cases h1
  · rw [List.getElem?_set_ne hj] at h1 h3
    exact .inr ⟨h1, h3⟩
theorem Sti.setS {B : Anchor} {F F0 H0 : Hp} {σ : L2.St} {μ μ0 : Mu} {H : Hp} {ρ : List Slot} {s t : Slot} {v w : V} {i j : Nat} (S : Sti B F σ H ρ μ) (S0 : Sti B F0 σ H0 ρ μ0) (z : SlsOk B F H0 μ0 H μ [s, t] [v, w]) :
    Sti B F ((σ.set i (some v)).set j (some w)) H ((ρ.set i s).set j t) μ := by
  have S1 := S.setAny (i := i) (z.ok 0 s v rfl rfl) fun o => z.away S0 (i := 0) rfl o rfl
  refine S1.setAny (z.ok 1 t w rfl rfl) fun o j' t' a e1 e2 e3 => ?_
  rcases own_set e1 e2 e3 with ⟨_, rfl, rfl⟩ | ⟨e1, e3⟩
  · rintro rfl
    exact z.dist 0 1 _ _ a (by decide) rfl rfl e2 o rfl rfl
  · exact z.away S0 (i := 1) rfl o rfl j' t' a e1 e2 e3
theorem Sti.setS3 {B : Anchor} {F F0 H0 : Hp} {σ : L2.St} {μ μ0 : Mu} {H : Hp} {ρ : List Slot} {s t r : Slot} {v w u : V} {i j k : Nat} (S : Sti B F σ H ρ μ) (S0 : Sti B F0 σ H0 ρ μ0) (z : SlsOk B F H0 μ0 H μ [s, t, r] [v, w, u]) :
    Sti B F (((σ.set i (some v)).set j (some w)).set k (some u)) H (((ρ.set i s).set j t).set k r) μ := by
  have S1 := S.setAny (i := i) (z.ok 0 s v rfl rfl) fun o => z.away S0 (i := 0) rfl o rfl
  have S2 : Sti B F ((σ.set i (some v)).set j (some w)) H ((ρ.set i s).set j t) μ := by
    refine S1.setAny (z.ok 1 t w rfl rfl) fun o j' t' a e1 e2 e3 => ?_
    rcases own_set e1 e2 e3 with ⟨_, rfl, rfl⟩ | ⟨e1, e3⟩
    · rintro rfl
      exact z.dist 0 1 _ _ a (by decide) rfl rfl e2 o rfl rfl
    · exact z.away S0 (i := 1) rfl o rfl j' t' a e1 e2 e3
  refine S2.setAny (z.ok 2 r u rfl rfl) fun o j' t' a e1 e2 e3 => ?_
  rcases own_set e1 e2 e3 with ⟨_, rfl, rfl⟩ | ⟨e1, e3⟩
  · rintro rfl
    exact z.dist 1 2 _ _ a (by decide) rfl rfl e2 o rfl rfl
  · rcases own_set e1 e2 e3 with ⟨_, rfl, rfl⟩ | ⟨e1, e3⟩
    · rintro rfl
      exact z.dist 0 2 _ _ a (by decide) rfl rfl e2 o rfl rfl
    · exact z.away S0 (i := 2) rfl o rfl j' t' a e1 e2 e3
section
variable {X : Cx} {W : WX} {e : Expr} {es : List Expr} {de : DE} {dO : DI} {r : DSl}
theorem sl_nil : PSl X W [] slNil := ⟨_, pa_nil, fun {B F σ H ρ μ Qd Xd Q} S q gx k => k [] F H [] μ .refl S ⟨rfl, fun i s v e => by simp at e, fun i s a e => by simp at e, fun i j s t a _ e => by simp at e⟩ q⟩
theorem sl_d (ha : PD X W e de) (hr : PSl X W es r) (hs : starEach (e :: es) X.env = (false, eval e X.env) :: starEach es X.env := by rfl) : PSl X W (e :: es) (slD de r) := by
  obtain ⟨ta, a1, a2⟩ := ha.ex
  obtain ⟨tr, r1, r2⟩ := hr.ex
  refine ⟨_, pa_cons a1 r1 hs, fun {B F σ H ρ μ Qd Xd Q} S q gx k => a2 S q gx fun v F1 H1 d μ1 g1 S1 z1 q1 => r2 S1 q1 (gx.go g1) fun vs F2 H2 ss μ2 g2 S2 z2 q2 => ?_⟩
  exact k _ F2 H2 _ μ2 (g1.trans g2) S2 (.cons (s := .dat d) g1 g2 ⟨v, rfl, z1⟩ (fun o => by cases o) z2) q2
variable {i j l : Nat} {x y z : Str} {a b c : Expr} {px py pz pt pos : Pos} {kt k2 pt2}
def dParS (i j : Nat) (a : DSl) : DS := fun D ρ μ => a ρ μ (fun ss μ1 => match ss with
  | [s, t] => D.nx ((ρ.set i s).set j t) μ1
  | _ => False) (D.xc ρ)
theorem s_parS (hc : X.calm = true) (hN : X.N.Nodup) (hi : X.N[i]? = some x) (hj : X.N[j]? = some y) (hij : i ≠ j)
    (hx : X.env.scope.names.lookup x = some .local) (hy : X.env.scope.names.lookup y = some .local) (ha : PSl X W [a, b] r)
    (hw : swappedStores [.Tuple [.Name x px, .Name y py] kt pt] (.Tuple [a, b] k2 pt2) X.env = pure (some [x, y]))
    (hs : swapsWithSole [.Tuple [.Name x px, .Name y py] kt pt] (.Tuple [a, b] k2 pt2) pos.line X.env = pure false := by rfl) :
    PSD X W (.Assign [.Tuple [.Name x px, .Name y py] kt pt] (.Tuple [a, b] k2 pt2) pos) (dParS i j r) := by
  obtain ⟨ta, a1, a2⟩ := ha.ex
  refine ⟨_, ps_par hc hN hi hj hij hx hy a1 hw hs, fun {B F σ H ρ μ Dd D} S q r => a2 S q r.gox fun vs F' H' ss μ' g S' z q' => ?_⟩
  split at q'
  · rename_i s t
    obtain ⟨v, w, rfl⟩ : ∃ v w, vs = [v, w] := by
      have := z.len
      match vs, this with
      | [v, w], _ => exact ⟨v, w, rfl⟩
    exact ⟨v, w, rfl, r.nx F' _ H' _ μ' g.fz (S'.setS S z) q'⟩
  · exact q'.elim
def dParS3 (i j l : Nat) (a : DSl) : DS := fun D ρ μ => a ρ μ (fun ss μ1 => match ss with
  | [s, t, u] => D.nx (((ρ.set i s).set j t).set l u) μ1
  | _ => False) (D.xc ρ)
theorem s_parS3 (hc : X.calm = true) (hN : X.N.Nodup) (hi : X.N[i]? = some x) (hj : X.N[j]? = some y) (hl : X.N[l]? = some z) (hij : i ≠ j) (hil : i ≠ l) (hjl : j ≠ l)
    (hx : X.env.scope.names.lookup x = some .local) (hy : X.env.scope.names.lookup y = some .local) (hz : X.env.scope.names.lookup z = some .local) (ha : PSl X W [a, b, c] r)
    (hw : swappedStores [.Tuple [.Name x px, .Name y py, .Name z pz] kt pt] (.Tuple [a, b, c] k2 pt2) X.env = pure (some [x, y, z]))
    (hs : swapsWithSole [.Tuple [.Name x px, .Name y py, .Name z pz] kt pt] (.Tuple [a, b, c] k2 pt2) pos.line X.env = pure false := by rfl) :
    PSD X W (.Assign [.Tuple [.Name x px, .Name y py, .Name z pz] kt pt] (.Tuple [a, b, c] k2 pt2) pos) (dParS3 i j l r) := by
  obtain ⟨ta, a1, a2⟩ := ha.ex
  refine ⟨_, ps_par3 hc hN hi hj hl hij hil hjl hx hy hz a1 hw hs, fun {B F σ H ρ μ Dd D} S q r => a2 S q r.gox fun vs F' H' ss μ' g S' z q' => ?_⟩
  split at q'
  · rename_i s t u
    obtain ⟨v, w, o, rfl⟩ : ∃ v w o, vs = [v, w, o] := by
      have := z.len
      match vs, this with
      | [v, w, o], _ => exact ⟨v, w, o, rfl⟩
    exact ⟨v, w, o, rfl, r.nx F' _ H' _ μ' g.fz (S'.setS3 S z) q'⟩
  · exact q'.elim
end
end DL

namespace DL.Bld
open PySem PySem.Spec PyProof.Rows L2
section
variable {P : Program} {w : World} {A : Around} {s : Shared}
def Full (w : World) (s : Shared) (S : Addr) (ns : List Int) (r : Value) (s' : Shared) : Prop :=
  r = Value.none ∧ ∃ h' tk c, s' = { s with heap := h', toks := tk } ∧ SetR w h' S (fun j => decide (j ∈ ns)) c ∧ c ≤ ns.length ∧ ∀ b o, b ≠ S → s.heap.get? b = some o → h'.get? b = some o
end
end DL.Bld

namespace DL.Bld
open PySem PySem.Spec PyProof.Rows L2
section
variable {P : Program} {w : World} {A : Around} {s : Shared}
end
end DL.Bld
namespace DL
open PySem PySem.Spec PyProof.Rows L2
section
variable {X : Cx}
end
def dSortedT : DC := fun ds Q => match ds with
  | [.tup xs] => ∃ ns : List Int, xs = ns.map D.int ∧ ∀ ns' : List Int, ns'.Perm ns → ns'.Pairwise (· ≤ ·) → Q (.lst (ns'.map D.int))
  | _ => False
def dSortedS : DC := dIs fun ns Q => ns.length < 64 ∧ ∀ ns' : List Int, ns'.Pairwise (· < ·) → (∀ k, k ∈ ns' ↔ k ∈ ns) → ns'.length ≤ ns.length → Q (.lst (ns'.map D.int))
section
variable {X : Cx} {W : WX} {p q pos pos2 : Pos} {e : Expr} {a : DA} {de : DE}
end
end DL

namespace DL
open PySem PySem.Spec PyProof.Rows L2
abbrev yes : DQ := fun d _ => d = .bl true
abbrev nox : DXQ := fun _ _ => False
theorem spOf_true {sp : DSp} {H : Hp} {ds : List D} {vs : List V} (z : FzL H ds vs) (h : sp ds mu0 yes nox) : spOf sp vs H (fun v _ => v = .bl true) fun _ _ _ => False :=
  ⟨H, ds, mu0, yes, nox, ⟨Evl.Ex.refl _, (fun a o e => by cases e), fun a vs e => e⟩, z, h, fun v F' H' d μ' _ _ zv q => by
    subst q
    unfold Fz at zv
    exact zv, fun cls dd F' H' x μ' _ _ _ q => q⟩
theorem law_callV {P : Program} {w : World} {K : PySem.W.Frag} {mg mb : Str → Option Value} {k : Nat} {fa a : Addr} {fd : FuncData} {x : Str} {sp : DSp} {s : Shared} {vs : List Value} {ns : List Int}
    (KX : K.In s.heap) (G : s.heap.Ns mainGlobals mg) (B : s.heap.Ns builtinsNs mb) (BB : ∀ x : Str, x ≠ "__name__" → mb x = bootBuiltins x) (nl : s.heap.NoLimit) (gn : s.gens = #[])
    (ha : s.heap.get? a = some { cls := .type "list", data := .seq vs.toArray }) (hi : IntsAre vs ns) (hl : ns.length ≤ sizeLine) (hr : Room k callerA)
    (F : ∀ base : Heap, K.In base → base.Ns mainGlobals mg → FnV P w K mg base k fa fd [x] (spOf sp)) (bd : ∀ (s : Shared) (u : Value), BindsTo s fd ⟨[u], []⟩ [(x, u)]) (hsp : sp [.scr K ns] mu0 yes nox) :
    codeAny (model P w) callerA (.call (.ref fa) ⟨[.ref a], []⟩) (fun r s' => r = .ok (.ret (.bool true)) ∧ OldK s.heap s'.heap ∧ s'.os = s.os ∧ AllBare s'.gens) s := by
  have vi := vals_ints hi
  have ln := hi.length
  let scrO : Obj := { cls := .type "list", data := .seq vs.toArray }
  -- H: nothing, or the script alone
  obtain ⟨H, hH, hA, hS, hK⟩ : ∃ H : Hp, HOk P w H s.heap ∧ (∀ b u, H b = some u → b = a ∧ u = .frz scrO (.lst (ns.map V.int))) ∧ (∀ H', Ex H H' → SqL K H' a (ns.map V.int)) ∧ (∀ b, H b ≠ none → K.lookup b = none) := by
    cases e : K.lookup a with
    | some o =>
      have eo : some o = some scrO := (KX a o e).symm.trans ha
      cases eo
      exact ⟨fun _ => none, fun b u z => (by cases z), fun b u z => (by cases z), fun H' _ => .inr ⟨_, vs.toArray, _, e, rfl, rfl, rfl, by rw [List.size_toArray, ln]; exact hl, by simpa using vi⟩, fun b z => absurd rfl z⟩
    | none =>
      refine ⟨fun b => if b = a then some (.frz scrO (.lst (ns.map V.int))) else none, fun b u z => ?_, fun b u z => ?_, fun H' ex => .inl (.inr ⟨scrO, ex a _ (if_pos rfl)⟩), fun b z => ?_⟩
      · have z : (if b = a then some (HO.frz scrO (.lst (ns.map V.int))) else none) = some u := z
        split at z
        · rename_i eb
          cases z
          subst eb
          exact ⟨ha, by rw [List.length_map]; exact hl, vs, _, vi, ha⟩
        · cases z
      · have z : (if b = a then some (HO.frz scrO (.lst (ns.map V.int))) else none) = some u := z
        split at z
        · rename_i eb
          cases z
          exact ⟨eb, rfl⟩
        · cases z
      · have z : (if b = a then some (HO.frz scrO (.lst (ns.map V.int))) else none) ≠ none := z
        split at z
        · rename_i eb
          rw [eb]
          exact e
        · exact absurd rfl z
  have untracked : ∀ {b : Addr} {o : Obj}, s.heap.get? b = some o → (∀ es ep, o.data = .dict es ep → False) ∨ H b = none := fun {b o} e => by
    cases q : H b with
    | none => exact .inr rfl
    | some u =>
      obtain ⟨rfl, _⟩ := hA b u q
      rw [ha] at e
      cases e
      exact .inl fun es ep z => by cases z
  have ns_of : ∀ {b : Addr} {m : Str → Option Value}, s.heap.Ns b m → (hidT s.heap H).Ns b m := fun {b m} ⟨o, es, ep, e, d, r⟩ => by
    rcases untracked e with q | q
    · exact (q es ep d).elim
    · exact ⟨o, es, ep, hidT_get e q, d, r⟩
  have kb : K.In (hidT s.heap H) := fun b o e => hidT_get (KX b o e) (by
    cases q : H b with
    | none => rfl
    | some u =>
      have := hK b (by rw [q]; exact Option.some_ne_none u)
      rw [this] at e
      cases e)
  have lim : (hidT s.heap H).NoLimit := by
    obtain ⟨mc, n1, n2⟩ := nl
    exact ⟨mc, ns_of n1, n2⟩
  have env : Env0 P w K mg (hidT s.heap H) callerA [] s H := ⟨rfl, ⟨kb, ns_of G, ⟨mb, ns_of B, BB⟩, lim⟩, fun b o e => of_hidT e, Nat.le_of_eq (hidT_size _ _), trivial, fun b hb => (by cases hb), hH, .of_eq gn⟩
  have arg : FzL H [.scr K ns] [.ref a] := fzl_cons (by unfold Fz; exact ⟨a, rfl, hS⟩) fzl_nil
  refine codeAny_mono ((F _ kb (ns_of G)).run callerA [] s H ⟨[.ref a], []⟩ [.ref a] [.ref a] _ _ hr rfl env (bd s _) (.cons rfl .nil) (spOf_true arg hsp)) fun r s' h => ?_
  match r, h with
  | .error e, h =>
    obtain ⟨_, _, _, _, _, _, _, _, _, _, _, _, f⟩ := h
    exact f.elim
  | .ok .next, h => exact h.elim
  | .ok .brk, h => exact h.elim
  | .ok .cont, h => exact h.elim
  | .ok (.ret u), h =>
    obtain ⟨v, H', os, bare, un, ok', ru, q⟩ := h
    obtain rfl : v = .bl true := q
    obtain rfl : u = Value.bool true := ru
    refine ⟨rfl, OldK.of_keep fun b o e => ?_, os, bare⟩
    cases q : H b with
    | none => exact un.keep b o e q (fun z => by cases z) (by simp)
    | some t =>
      obtain ⟨rfl, rfl⟩ := hA b t q
      have q2 := (ok' _ _ (un.frzs _ _ _ q)).1
      have q1 := (hH _ _ q).1
      rw [e] at q1
      cases q1
      exact q2
section
variable {X : Cx} {W : WX} {a b e o i : Expr} {rest es : List Expr} {da db : DE} {dO : DE} {dA : DA} {p q pos pos2 apos cpos : Pos}
def dAndV (a b : DE) : DE := fun ρ μ Q X => a ρ μ (fun d μ1 => match d with
  | .bl c => if c = true then b ρ μ1 Q X else Q (.bl false) μ1
  | _ => False) X
def dOrV (a b : DE) : DE := fun ρ μ Q X => a ρ μ (fun d μ1 => match d with
  | .bl c => if c = true then Q (.bl true) μ1 else b ρ μ1 Q X
  | _ => False) X
theorem d_one {op} (h : PD X W a da) : PD X W (.BoolOp op [a] pos) da := by
  obtain ⟨ta, a1, a2⟩ := h.ex
  exact ⟨_, pe_one a1, a2⟩
theorem d_and (ha : PD X W a da) (hb : PD X W (.BoolOp .And (b :: rest) pos) db) : PD X W (.BoolOp .And (a :: b :: rest) pos) (dAndV da db) := by
  obtain ⟨ta, a1, a2⟩ := ha.ex
  obtain ⟨tb, b1, b2⟩ := hb.ex
  refine ⟨_, pe_and a1 b1, fun {B F σ H ρ μ Qd Xd Q} S q gx k => a2 S q gx fun v F' H' d μ' g S' z q' => ?_⟩
  split at q'
  · rename_i c
    unfold Fz at z
    refine ⟨c, z, ?_⟩
    cases c with
    | true =>
      rw [if_pos rfl] at q' ⊢
      exact b2 S' q' (gx.go g) fun v F2 H2 d μ2 gg => k v F2 H2 d μ2 (g.trans gg)
    | false =>
      rw [if_neg (by decide)] at q' ⊢
      exact k _ F' H' _ μ' g S' fz_bl q'
  · exact q'.elim
def dRgT (a : DE) : DE := fun ρ μ Q X => a ρ μ (fun d μ1 => match d with
  | .int n => n ≤ 16777216 ∧ 0 ≤ n ∧ Q (.tup (rangeD 0 n.toNat)) μ1
  | _ => False) X
def dRgL (a : DE) : DE := fun ρ μ Q X => a ρ μ (fun d μ1 => match d with
  | .int n => n ≤ 16777216 ∧ 0 ≤ n ∧ Q (.lst (rangeD 0 n.toNat)) μ1
  | _ => False) X
end
end DL

namespace DL
open PySem PySem.Spec PyProof.Rows L2
theorem small {n : Nat} (h : n ≤ 1000000) : n ≤ sizeLine := by unfold sizeLine; omega
theorem smallL {n : Nat} (h : n < 1000000) : n < sizeLine := by unfold sizeLine; omega
structure Fit (dep n : Nat) (d : D) : Prop where
  pure : pure0 d = true
  lay : (toPy d).canLay0 = true
  dp : (toPy d).depth ≤ dep
  wt : (toPy d).weight ≤ n
  nums : (toPy d).intsShort 13 = true
  shw : (toPy d).showable = true
structure FitL (dep n : Nat) (ds : List D) : Prop where
  pure : pure0L ds = true
  lay : PyData.canLayAll0 (toPyL ds) = true
  dp : PyData.depthAll (toPyL ds) ≤ dep
  wt : PyData.weightAll (toPyL ds) ≤ n
  nums : PyData.intsShortAll 13 (toPyL ds) = true
  shw : PyData.showableAll (toPyL ds) = true
theorem fit_int {i : Int} (h : -(10 ^ 12) < i ∧ i ≤ 10 ^ 12) : Fit 0 41 (.int i) := by
  refine ⟨by simp [pure0], by simp [toPy, PyData.canLay0], by simp [toPy, PyData.depth], ?_, ?_, ?_⟩
  · have q : i.natAbs < 2 ^ 40 := by
      have : (10 : Int) ^ 12 = 1000000000000 := by decide
      have : (2 : Nat) ^ 40 = 1099511627776 := by decide
      omega
    have := PySem.Flt.log2_lt_of (by decide : 0 < 40) q
    simp only [toPy, PyData.weight]
    split <;> omega
  · by_cases e : i = 10 ^ 12
    · subst e
      decide +kernel
    · have q := PyData.intsShortAll_ints [i] (fun n hn => by
        rw [List.mem_singleton.mp hn]
        have : (10 : Nat) ^ 12 = 1000000000000 := by decide
        have : (10 : Int) ^ 12 = 1000000000000 := by decide
        omega)
      simpa [PyData.intsShortAll, toPy] using q
  · have q : i.natAbs < 2 ^ 41 := by
      have : (10 : Int) ^ 12 = 1000000000000 := by decide
      have : (2 : Nat) ^ 41 = 2199023255552 := by decide
      omega
    have := PySem.Flt.log2_lt_of (by decide : 0 < 41) q
    simp only [toPy, PyData.showable, decide_eq_true_eq]
    omega
theorem Fit.ok {e n : Nat} {d : D} (h : Fit e n d) (h1 : e ≤ 60) : okD d := ⟨h.pure, by
  show ((toPy d).canLay0 && decide ((toPy d).depth ≤ 64)) = true
  have := h.dp
  rw [h.lay, decide_eq_true (by omega)]
  rfl⟩
theorem Fit.shD {e n : Nat} {d : D} (h : Fit e n d) (ht : topD d = true) (h1 : e ≤ 60) (h2 : n ≤ 1000000) : DL.shD d := by
  have q1 := h.dp
  have q2 := h.wt
  refine ⟨pureR_of h.pure, h.shw, PyData.shown_fits_of_layable0 (B := 13) (by decide) (by decide) ?_ h.nums, by omega⟩
  show ((toPy d).canLay0 && decide ((toPy d).depth ≤ 64) && decide ((toPy d).weight ≤ 2 ^ 20)) = true
  rw [h.lay, decide_eq_true (by omega), decide_eq_true (by omega)]
  rfl
theorem eq_strs {a b : Str} : eqOk (.str a) (.str b) := .inr (.inl ⟨a, b, rfl, rfl⟩)
theorem eqv_int {i j : Int} : eqvD (.int i) (.int j) = (i == j) := by simp [eqvD, toPy, PyData.eqv]
theorem eqv_non_int {j : Int} : eqvD .non (.int j) = false := by simp [eqvD, toPy, PyData.eqv]
theorem eqv_str {a b : Str} : eqvD (.str a) (.str b) = (a == b) := by simp [eqvD, toPy, PyData.eqv]
end DL

namespace DL
open PySem PySem.Spec PyProof.Rows L2
abbrev DPt := List Slot → Mu → (Option Int → Mu → Prop) → DXQ → Prop
def SimPt (W : WX) (to : TO) (t : DPt) : Prop := ∀ {B : Anchor} {F : Hp} {σ : L2.St} {H : Hp} {ρ : List Slot} {μ : Mu} {Qd : Option Int → Mu → Prop} {Xd : DXQ} {Q : Option Int → Hp → Prop}, Sti B F σ H ρ μ → t ρ μ Qd Xd → GoX W B F σ H ρ μ Xd →
  (∀ o F' H' μ', Grow F μ H F' μ' H' → Sti B F' σ H' ρ μ' → Qd o μ' → Q o H') → to σ H Q
structure PPt (X : Cx) (W : WX) (o : Option Expr) (t : DPt) : Prop where
  ex : ∃ to, L2.PO X o to ∧ SimPt W to t
def lNone : DPt := fun _ μ Q _ => Q none μ
def lSome (a : DE) : DPt := fun ρ μ Q X => a ρ μ (fun d μ1 => match d with
  | .int i => Q (some i) μ1
  | _ => False) X
def cutD (xs : List D) (lo hi : Option Int) : List D := (xs.drop (HT.sIx xs.length 0 lo)).take (HT.sIx xs.length xs.length hi - HT.sIx xs.length 0 lo)
theorem FzL.cut {F : Hp} {ds : List D} {vs : List V} (h : FzL F ds vs) (lo hi : Option Int) : FzL F (cutD ds lo hi) (cutV vs lo hi) := by
  unfold cutD cutV
  rw [h.length]
  exact (h.drop _).take _
def dSlice (a : DE) (l u : DPt) : DE := fun ρ μ Q X => a ρ μ (fun d μ1 => l ρ μ1 (fun lo μ2 => u ρ μ2 (fun hi μ3 => match rdD μ3 d with
  | .lst ds => Q (.lst (cutD ds lo hi)) μ3
  | .tup ds => Q (.tup (cutD ds lo hi)) μ3
  | _ => False) X) X) X
section
variable {X : Cx} {W : WX} {e : Expr} {lo hi : Option Expr} {de : DE} {dl du : DPt} {pos p2 : Pos}
theorem l_none : PPt X W none lNone := ⟨_, po_none, fun {B F σ H ρ μ Qd Xd Q} S q gx k => k none F H μ .refl S q⟩
theorem l_some {a : Expr} {da : DE} (h : PD X W a da) : PPt X W (some a) (lSome da) := by
  obtain ⟨ta, a1, a2⟩ := h.ex
  refine ⟨_, po_some a1, fun {B F σ H ρ μ Qd Xd Q} S q gx k => a2 S q gx fun v F' H' d μ' g S' z q' => ?_⟩
  split at q'
  · rename_i i
    unfold Fz at z
    exact ⟨i, z, k _ F' H' μ' g S' q'⟩
  · exact q'.elim
theorem d_slice (he : PB X W e de) (hl : PPt X W lo dl) (hu : PPt X W hi du) : PD X W (.Subscript e (.Slice lo hi none p2) pos) (dSlice de dl du) := by
  obtain ⟨te, e1, e2⟩ := he.ex
  obtain ⟨tl, l1, l2⟩ := hl.ex
  obtain ⟨tu, u1, u2⟩ := hu.ex
  refine ⟨_, pe_slice (sl_list.or sl_tupA) e1 l1 u1, fun {B F σ H ρ μ Qd Xd Q} S q gx k => e2 S q gx fun v F1 H1 d μ1 g1 S1 z1 q1 => l2 S1 q1 (gx.go g1) fun a F2 H2 μ2 g2 S2 q2 => u2 S2 q2 ((gx.go g1).go g2) fun b F3 H3 μ3 g3 S3 q3 => ?_⟩
  have z := ((z1.go g2).go g3).rd S3.wd
  have gg := (g1.trans g2).trans g3
  split at q3
  · rename_i ds e
    rw [e] at z
    obtain ⟨p, vs, rfl, h1, _, z3⟩ := bz_lst z
    refine .inl ⟨p, vs, rfl, .of h1, fun r hr => ?_⟩
    obtain ⟨g4, W4, z4⟩ := new_lst S3.wd (z3.cut a b) hr
    exact k _ _ _ _ μ3 (gg.trans g4) (S3.go g4 W4) z4 q3
  · rename_i ds e
    rw [e] at z
    obtain ⟨p, vs, rfl, h1, f1, z3⟩ := bz_tup S3.wd.mu0 z
    refine .inr ⟨p, vs, rfl, .of h1, fun hw => ?_, fun _ r hr => ?_⟩
    · rw [z3.length] at hw
      have e2 : cutD ds a b = ds := by
        unfold cutD
        rw [hw.1, hw.2]
        simp
      rw [e2] at q3
      exact k _ F3 H3 _ μ3 gg S3 (fz_tup z3 f1) q3
    · obtain ⟨g4, W4, z4⟩ := new_tup S3.wd (z3.cut a b) hr
      exact k _ _ _ _ μ3 (gg.trans g4) (S3.go g4 W4) z4 q3
  · exact q3.elim
def dSliceS (K : PySem.W.Frag) (i : Nat) (l u : DPt) : DE := fun ρ μ Q X => ∃ ns, ρ[i]? = some (.dat (.scr K ns)) ∧ l ρ μ (fun lo μ2 => u ρ μ2 (fun hi μ3 => Q (.lst (cutD (ns.map D.int) lo hi)) μ3) X) X
theorem d_sliceS (i : Nat) {x : Str} {px : Pos} (hl : PPt X W lo dl) (hu : PPt X W hi du) (hN : X.N[i]? = some x := by rfl) (hv : Vis X.env.scope x := by first | exact Or.inl rfl | exact Or.inr (Or.inl rfl) | exact Or.inr (Or.inr rfl)) (hd : (x == ("__debug__" : Str)) = false := by decide)
    (hcd : (x == ("__classdict__" : Str)) = false := by decide) : PD X W (.Subscript (.Name x px) (.Slice lo hi none p2) pos) (dSliceS X.K i dl du) := by
  obtain ⟨tl, l1, l2⟩ := hl.ex
  obtain ⟨tu, u1, u2⟩ := hu.ex
  refine ⟨_, pe_slice sl_list (pe_var hN hv hd hcd) l1 u1, fun {B F σ H ρ μ Qd Xd Q} S ⟨ns, hi, q⟩ gx k => ?_⟩
  obtain ⟨v, hv, y, hy, z⟩ := S.get hi
  subst hy
  unfold Fz at z
  obtain ⟨a, rfl, z⟩ := z
  refine ⟨_, hv, l2 S q gx fun lo F2 H2 μ2 g2 S2 q2 => u2 S2 q2 (gx.go g2) fun hi F3 H3 μ3 g3 S3 q3 => ⟨a, _, rfl, z H3 ((g2.trans g3).fz.trans S3.wd.ext), fun r hr => ?_⟩⟩
  obtain ⟨g4, W4, z4⟩ := new_lst S3.wd ((fzl_ints ns).cut lo hi) hr
  exact k _ _ _ _ μ3 ((g2.trans g3).trans g4) (S3.go g4 W4) z4 q3
def dNeg (a : DE) : DE := fun ρ μ Q X => a ρ μ (fun d μ1 => match d with
  | .int i => Q (.int (-i)) μ1
  | _ => False) X
theorem d_neg {a : Expr} {da : DE} (h : PD X W a da) : PD X W (.UnaryOp .USub a pos) (dNeg da) := by
  obtain ⟨ta, a1, a2⟩ := h.ex
  refine ⟨_, pe_un un_neg a1, fun {B F σ H ρ μ Qd Xd Q} S q gx k => a2 S q gx fun v F' H' d μ' g S' z q' => ?_⟩
  split at q'
  · rename_i i
    unfold Fz at z
    exact ⟨i, z, k _ F' H' _ μ' g S' fz_int q'⟩
  · exact q'.elim
def dChain (r r' : DR2) (a b c : DE) : DE := fun ρ μ Q X => a ρ μ (fun dx μ1 => b ρ μ1 (fun dy μ2 => r (rdD μ2 dx) (rdD μ2 dy) fun d => match d with
  | .bl k => if k = true then c ρ μ2 (fun dz μ3 => r' (rdD μ3 dy) (rdD μ3 dz) fun d => Q d μ3) X else Q (.bl false) μ2
  | _ => False) X) X
end
end DL

namespace DL
open PySem PySem.Spec PyProof.Rows L2
section
variable {X : Cx} {W : WX} {x : Str} {e j : Expr} {dv dj : DE} {p pos tpos apos cpos : Pos}
def dSIx (i : Nat) (ix v : DE) : DS := fun D ρ μ => v ρ μ (fun dx μ1 => (∃ ds, ρ[i]? = some (.ml ds)) ∧ ix ρ μ1 (fun dk μ2 => match ρ[i]? with
  | some (.ml ds) => ∃ k n, dk = .int k ∧ ixN ds.length k = some n ∧ D.nx (ρ.set i (.ml (ds.set n dx))) μ2
  | _ => False) (D.xc ρ)) (D.xc ρ)
def dSExt (i : Nat) (a : DE) : DS := fun D ρ μ => (∃ ds, ρ[i]? = some (.ml ds)) ∧ a ρ μ (fun d μ1 => match ρ[i]?, d with
  | some (.ml ds), .lst xs => ds.length + xs.length ≤ sizeLine ∧ D.nx (ρ.set i (.ml (ds ++ xs))) μ1
  | _, _ => False) (D.xc ρ)
end
end DL

namespace DL
open PySem PySem.Spec PyProof.Rows L2
def tyName : D → Option String
  | .non => some "NoneType"
  | .bl _ => some "bool"
  | .int _ => some "int"
  | .str _ => some "str"
  | .tup _ => some "tuple"
  | .lst _ => some "list"
  | .dic _ => some "dict"
  | _ => none
def dIsi : DC := fun ds Q => match ds with
  | [x, .ty T] => ∃ n b, tyName x = some n ∧ kitB n T = some b ∧ Q (.bl b)
  | _ => False
section
variable {X : Cx} {W : WX} {p pos : Pos} {e f : Expr} {a : DA}
theorem d_bty {x : Str} {T : String} (hm : X.mg x = none) (hv : bootBuiltins x = some (.type T)) (hg : Gl X x := by rfl) (hn : x ≠ "__name__" := by decide) (hd : (x == ("__debug__" : Str)) = false := by decide) : PD X W (.Name x pos) (dC (.ty T)) :=
  ⟨_, pe_bltn (v := .ty T) hg hm hv rfl hn hd, sim_c fun _ => by unfold Fz; rfl⟩
end
end DL

namespace DL
open PySem PySem.Spec PyProof.Rows L2
def doOf (a : DE) : DI := fun ρ μ Q X => a ρ μ (fun d μ1 => match rdD μ1 d with
  | .lst xs => Q xs μ1
  | .tup xs => Q xs μ1
  | _ => False) X
def doCat (a b : DE) : DI := fun ρ μ Q X => a ρ μ (fun dx μ1 => b ρ μ1 (fun dy μ2 => match rdD μ2 dx, rdD μ2 dy with
  | .lst xs, .lst ys => xs.length + ys.length ≤ sizeLine ∧ Q (xs ++ ys) μ2
  | _, _ => False) X) X
section
variable {X : Cx} {W : WX} {p q pos pos2 : Pos} {e a b : Expr} {de da db : DE}
def doRg (a : DE) : DI := fun ρ μ Q X => a ρ μ (fun d μ1 => match d with
  | .int n => n ≤ 16777216 ∧ 0 ≤ n ∧ Q (rangeD 0 n.toNat) μ1
  | _ => False) X
def dNotV (a : DE) : DE := fun ρ μ Q X => a ρ μ (fun d μ1 => match d with
  | .bl c => Q (.bl (!c)) μ1
  | _ => False) X
end
end DL

namespace DL
open PySem PySem.Spec PyProof.Rows L2
def Keeps1 (sp : DSp) (N : List Str) (t : DS) : Prop := ∀ ds μ Qd Xd, sp ds μ Qd Xd → t { nx := fun _ μ' => Qd .non μ', rt := Qd, xc := fun _ => Xd } (startD N ds) μ
theorem le_line {n : Nat} (h : n ≤ 1000000) : (n ≤ sizeLine) = True := eq_true (small h)
theorem lt_line {n : Nat} (h : n < 1000000) : (n < sizeLine) = True := eq_true (smallL h)
theorem ex_some {α : Type} {a : α} {P : α → Prop} : (∃ d, some a = some d ∧ P d) = P a := propext ⟨fun ⟨d, e, h⟩ => by cases e; exact h, fun h => ⟨a, rfl, h⟩⟩
theorem map_int_inj : ∀ {xs ys : List Int}, xs.map D.int = ys.map D.int → xs = ys
  | [], [], _ => rfl
  | [], y :: ys, h => by simp at h
  | x :: xs, [], h => by simp at h
  | x :: xs, y :: ys, h => by
    simp only [List.map_cons, List.cons.injEq, D.int.injEq] at h
    rw [h.1, map_int_inj h.2]
theorem map_bl_inj : ∀ {xs ys : List Bool}, xs.map D.bl = ys.map D.bl → xs = ys
  | [], [], _ => rfl
  | [], y :: ys, h => by simp at h
  | x :: xs, [], h => by simp at h
  | x :: xs, y :: ys, h => by
    simp only [List.map_cons, List.cons.injEq, D.bl.injEq] at h
    rw [h.1, map_bl_inj h.2]
theorem ex_ints {xs : List Int} {P : List Int → Prop} : (∃ ns : List Int, xs.map D.int = ns.map D.int ∧ P ns) = P xs := propext ⟨fun ⟨ns, e, h⟩ => by rw [map_int_inj e]; exact h, fun h => ⟨xs, rfl, h⟩⟩
theorem ex_bls {xs : List Bool} {P : List Bool → Prop} : (∃ ns : List Bool, xs.map D.bl = ns.map D.bl ∧ P ns) = P xs := propext ⟨fun ⟨ns, e, h⟩ => by rw [map_bl_inj e]; exact h, fun h => ⟨xs, rfl, h⟩⟩
section
variable {α β : Type} {a b c d e f : α} {l : List α}
theorem atI_nat {i : Nat} {l : List α} : atI l (i : Int) = l[i]? := by
  unfold atI ixN
  rw [if_pos (by omega)]
  by_cases h : i < l.length
  · rw [if_pos (by omega)]
    simp
  · rw [if_neg (by omega)]
    simp
    omega
theorem at0 : atI (a :: l) 0 = some a := atI_nat (i := 0)
theorem at1 : atI (a :: b :: l) 1 = some b := atI_nat (i := 1)
theorem at2 : atI (a :: b :: c :: l) 2 = some c := atI_nat (i := 2)
theorem at3 : atI (a :: b :: c :: d :: l) 3 = some d := atI_nat (i := 3)
theorem at4 : atI (a :: b :: c :: d :: e :: l) 4 = some e := atI_nat (i := 4)
theorem at5 : atI (a :: b :: c :: d :: e :: f :: l) 5 = some f := atI_nat (i := 5)
theorem atI_map {g : α → β} {i : Int} {l : List α} : atI (l.map g) i = (atI l i).map g := by
  unfold atI
  rw [List.length_map]
  cases ixN l.length i with
  | none => rfl
  | some j => simp
theorem atI_last {a : α} {l : List α} : atI (l ++ [a]) (-1) = some a := by
  unfold atI ixN
  rw [if_neg (by omega), if_pos (by simp; omega)]
  have h : ((-1 : Int) + ((l ++ [a]).length : Int)).toNat = l.length := by
    rw [List.length_append]
    simp only [List.length_cons, List.length_nil]
    omega
  rw [h]
  simp
end
theorem atI_mem {α : Type} {l : List α} {i : Int} (h0 : 0 ≤ i) (h1 : i < l.length) : ∃ a, atI l i = some a ∧ l[i.toNat]? = some a ∧ a ∈ l := by
  obtain ⟨n, rfl⟩ := Int.eq_ofNat_of_zero_le h0
  have hn : n < l.length := by omega
  refine ⟨l[n], ?_, ?_, List.getElem_mem hn⟩
  · have := atI_nat (l := l) (i := n)
    rw [List.getElem?_eq_getElem hn] at this
    exact this
  · simp [hn]
theorem cut_to {xs : List D} {i : Int} (h : 0 ≤ i) : cutD xs none (some i) = xs.take i.toNat := by
  obtain ⟨n, rfl⟩ := Int.eq_ofNat_of_zero_le h
  unfold cutD
  show (xs.drop (HT.sIx xs.length 0 none)).take (HT.sIx xs.length xs.length (some ((n : Nat) : Int)) - HT.sIx xs.length 0 none) = _
  rw [HT.sIx_nat, HT.sIx_none]
  simp only [List.drop_zero, Nat.sub_zero]
  rw [show ((n : Nat) : Int).toNat = n from rfl]
  by_cases hh : n ≤ xs.length
  · rw [Nat.min_eq_left hh]
  · rw [Nat.min_eq_right (by omega), List.take_of_length_le (Nat.le_refl _), List.take_of_length_le (by omega)]
theorem cut_from {xs : List D} {i : Int} (h : 0 ≤ i) : cutD xs (some i) none = xs.drop i.toNat := by
  obtain ⟨n, rfl⟩ := Int.eq_ofNat_of_zero_le h
  unfold cutD
  show (xs.drop (HT.sIx xs.length 0 (some ((n : Nat) : Int)))).take (HT.sIx xs.length xs.length none - HT.sIx xs.length 0 (some ((n : Nat) : Int))) = _
  rw [HT.sIx_nat, HT.sIx_none]
  rw [show ((n : Nat) : Int).toNat = n from rfl]
  by_cases hh : n ≤ xs.length
  · rw [Nat.min_eq_left hh, List.take_of_length_le (by simp)]
  · rw [Nat.min_eq_right (by omega)]
    simp
    omega
mutual
def okN : Nat → D → Bool
  | _, .non | _, .bl _ | _, .int _ => true
  | _, .str x => (toPy (.str x)).canLay0
  | k + 1, .tup xs | k + 1, .lst xs => okNL k xs
  | _, _ => false
def okNL : Nat → List D → Bool
  | _, [] => true
  | k, x :: xs => okN k x && okNL k xs
end
mutual
theorem okN_ok : ∀ {k : Nat} {d : D}, okN k d = true → pure0 d = true ∧ (toPy d).canLay0 = true ∧ (toPy d).depth ≤ k
  | k, .non, _ => ⟨by simp [pure0], by simp [toPy, PyData.canLay0], by simp [toPy, PyData.depth]⟩
  | k, .bl _, _ => ⟨by simp [pure0], by simp [toPy, PyData.canLay0], by simp [toPy, PyData.depth]⟩
  | k, .int _, _ => ⟨by simp [pure0], by simp [toPy, PyData.canLay0], by simp [toPy, PyData.depth]⟩
  | k, .str x, h => ⟨by simp [pure0], by simpa [okN] using h, by simp [toPy, PyData.depth]⟩
  | 0, .tup xs, h => by simp [okN] at h
  | 0, .lst xs, h => by simp [okN] at h
  | k + 1, .tup xs, h => by
    obtain ⟨a, b, c⟩ := okNL_ok (k := k) (ds := xs) (by simpa [okN] using h)
    exact ⟨by simpa [pure0] using a, by simpa [toPy, PyData.canLay0] using b, by simp [toPy, PyData.depth]; omega⟩
  | k + 1, .lst xs, h => by
    obtain ⟨a, b, c⟩ := okNL_ok (k := k) (ds := xs) (by simpa [okN] using h)
    exact ⟨by simpa [pure0] using a, by simpa [toPy, PyData.canLay0] using b, by simp [toPy, PyData.depth]; omega⟩
  | k, .ty _, h => by cases k <;> simp [okN] at h
  | k, .dic _, h => by cases k <;> simp [okN] at h
  | k, .ins _ _, h => by cases k <;> simp [okN] at h
  | k, .obj _, h => by cases k <;> simp [okN] at h
  | k, .scr _ _, h => by cases k <;> simp [okN] at h
  | k, .xcp _ _ _ _, h => by cases k <;> simp [okN] at h
theorem okNL_ok : ∀ {k : Nat} {ds : List D}, okNL k ds = true → pure0L ds = true ∧ PyData.canLayAll0 (toPyL ds) = true ∧ PyData.depthAll (toPyL ds) ≤ k
  | k, [], _ => ⟨by simp [pure0L], by simp [toPyL, PyData.canLayAll0], by simp [toPyL, PyData.depthAll]⟩
  | k, d :: ds, h => by
    simp only [okNL, Bool.and_eq_true] at h
    obtain ⟨a, b, c⟩ := okN_ok h.1
    obtain ⟨a2, b2, c2⟩ := okNL_ok h.2
    exact ⟨by simp [pure0L, a, a2], by simp [toPyL, PyData.canLayAll0, b, b2], by simp only [toPyL, PyData.depthAll]; omega⟩
end
mutual
theorem okN_up : ∀ {k m : Nat} {d : D}, k ≤ m → okN k d = true → okN m d = true
  | k, m, .non, _, _ => by cases m <;> rfl
  | k, m, .bl _, _, _ => by cases m <;> rfl
  | k, m, .int _, _, _ => by cases m <;> rfl
  | k, m, .str x, _, h => by simpa [okN] using h
  | 0, m, .tup xs, _, h => by simp [okN] at h
  | 0, m, .lst xs, _, h => by simp [okN] at h
  | k + 1, 0, .tup xs, hk, h => by omega
  | k + 1, 0, .lst xs, hk, h => by omega
  | k + 1, m + 1, .tup xs, hk, h => by
    simp only [okN] at h ⊢
    exact okNL_up (by omega) h
  | k + 1, m + 1, .lst xs, hk, h => by
    simp only [okN] at h ⊢
    exact okNL_up (by omega) h
  | k, m, .ty _, _, h => by cases k <;> simp [okN] at h
  | k, m, .dic _, _, h => by cases k <;> simp [okN] at h
  | k, m, .ins _ _, _, h => by cases k <;> simp [okN] at h
  | k, m, .obj _, _, h => by cases k <;> simp [okN] at h
  | k, m, .scr _ _, _, h => by cases k <;> simp [okN] at h
  | k, m, .xcp _ _ _ _, _, h => by cases k <;> simp [okN] at h
theorem okNL_up : ∀ {k m : Nat} {ds : List D}, k ≤ m → okNL k ds = true → okNL m ds = true
  | k, m, [], _, _ => by cases m <;> rfl
  | k, m, d :: ds, hk, h => by
    simp only [okNL, Bool.and_eq_true] at h ⊢
    exact ⟨okN_up hk h.1, okNL_up hk h.2⟩
end
theorem okN_okD {d : D} (h : okN 50 d = true) : okD d := by
  obtain ⟨a, b, c⟩ := okN_ok h
  refine ⟨a, ?_⟩
  show ((toPy d).canLay0 && decide ((toPy d).depth ≤ 64)) = true
  rw [b, decide_eq_true (by omega)]
  rfl
theorem okNL_map {α : Type} {f : α → D} {k : Nat} : ∀ {xs : List α}, (∀ x ∈ xs, okN k (f x) = true) → okNL k (xs.map f) = true
  | [], _ => rfl
  | x :: xs, h => by
    simp only [List.map_cons, okNL, Bool.and_eq_true]
    exact ⟨h x List.mem_cons_self, okNL_map fun y hy => h y (List.mem_cons_of_mem _ hy)⟩
theorem okNL_ints {k : Nat} {xs : List Int} : okNL k (xs.map D.int) = true := okNL_map fun x _ => by simp [okN]
theorem okNL_nats {k : Nat} {xs : List Nat} : okNL k (xs.map fun i : Nat => D.int (i : Int)) = true := okNL_map fun x _ => by simp [okN]
theorem okNL_bls {k : Nat} {xs : List Bool} : okNL k (xs.map D.bl) = true := okNL_map fun x _ => by simp [okN]
theorem okNL_append {k : Nat} : ∀ {xs ys : List D}, okNL k (xs ++ ys) = (okNL k xs && okNL k ys)
  | [], ys => by simp [okNL]
  | x :: xs, ys => by simp only [List.cons_append, okNL, okNL_append (xs := xs), Bool.and_assoc]
theorem eqOk_of {x y : D} (h : okN 50 x = true) (h2 : okN 50 y = true) : eqOk x y = True := eq_true (.inl ⟨okN_okD h, okN_okD h2⟩)
theorem eqOk_str {a b : Str} : eqOk (.str a) (.str b) = True := eq_true eq_strs
def eqvL (a b : List D) : Bool := PyData.eqvAll (toPyL a) (toPyL b)
theorem eqv_tup {a b : List D} : eqvD (.tup a) (.tup b) = eqvL a b := by simp [eqvD, eqvL, toPy, PyData.eqv]
theorem eqv_lst {a b : List D} : eqvD (.lst a) (.lst b) = eqvL a b := by simp [eqvD, eqvL, toPy, PyData.eqv]
theorem eqv_tl {a b : List D} : eqvD (.tup a) (.lst b) = false := by simp [eqvD, toPy, PyData.eqv]
theorem eqv_lt {a b : List D} : eqvD (.lst a) (.tup b) = false := by simp [eqvD, toPy, PyData.eqv]
theorem eqv_nn : eqvD .non .non = true := by simp [eqvD, toPy, PyData.eqv]
theorem eqv_nt {a : List D} : eqvD .non (.tup a) = false := by simp [eqvD, toPy, PyData.eqv]
theorem eqv_tn {a : List D} : eqvD (.tup a) .non = false := by simp [eqvD, toPy, PyData.eqv]
theorem eqv_in {i : Int} : eqvD (.int i) .non = false := by simp [eqvD, toPy, PyData.eqv]
theorem eqv_it {i : Int} {a : List D} : eqvD (.int i) (.tup a) = false := by simp [eqvD, toPy, PyData.eqv]
theorem eqv_ti {i : Int} {a : List D} : eqvD (.tup a) (.int i) = false := by simp [eqvD, toPy, PyData.eqv]
theorem eqv_bb {i j : Bool} : eqvD (.bl i) (.bl j) = (i == j) := by simp [eqvD, toPy, PyData.eqv]
theorem eqvL_nil : eqvL [] [] = true := by simp [eqvL, toPyL, PyData.eqvAll]
theorem eqvL_cn {x : D} {a : List D} : eqvL (x :: a) [] = false := by simp [eqvL, toPyL, PyData.eqvAll]
theorem eqvL_nc {x : D} {a : List D} : eqvL [] (x :: a) = false := by simp [eqvL, toPyL, PyData.eqvAll]
theorem eqvL_cc {x y : D} {a b : List D} : eqvL (x :: a) (y :: b) = (eqvD x y && eqvL a b) := by simp [eqvL, eqvD, toPyL, PyData.eqvAll]
theorem eqvL_map {α : Type} [BEq α] {f : α → D} : ∀ {xs ys : List α}, (∀ x ∈ xs, ∀ y ∈ ys, eqvD (f x) (f y) = (x == y)) → eqvL (xs.map f) (ys.map f) = (xs == ys)
  | [], [], _ => by simp [eqvL_nil]
  | [], y :: ys, _ => by simp [eqvL_nc]
  | x :: xs, [], _ => by simp [eqvL_cn]
  | x :: xs, y :: ys, h => by
    simp only [List.map_cons, eqvL_cc, List.cons_beq_cons]
    rw [h x List.mem_cons_self y List.mem_cons_self, eqvL_map fun a ha b hb => h a (List.mem_cons_of_mem _ ha) b (List.mem_cons_of_mem _ hb)]
theorem eqvL_ints {xs ys : List Int} : eqvL (xs.map D.int) (ys.map D.int) = (xs == ys) := eqvL_map fun _ _ _ _ => eqv_int
theorem eqv_self {d : D} (h : okN 50 d = true) : eqvD d d = true := SeqAt.eqv_refl _ (okN_ok h).2.1
mutual
def wtD : D → Nat
  | .int _ => 64
  | .str x => x.cps.size
  | .tup xs | .lst xs => wtL xs
  | _ => 0
def wtL : List D → Nat
  | [] => 0
  | x :: xs => wtD x + 1 + wtL xs
end
mutual
def shortD : D → Prop
  | .int i => -(10 ^ 12) < i ∧ i ≤ 10 ^ 12
  | .str x => (toPy (.str x)).showable = true
  | .tup xs | .lst xs => shortL xs
  | _ => True
def shortL : List D → Prop
  | [] => True
  | x :: xs => shortD x ∧ shortL xs
end
mutual
theorem short_ok : ∀ {k : Nat} {d : D}, okN k d = true → shortD d → (toPy d).intsShort 13 = true ∧ (toPy d).showable = true ∧ (toPy d).weight ≤ wtD d
  | k, .non, _, _ => by simp [toPy, PyData.intsShort, PyData.showable, PyData.weight]
  | k, .bl _, _, _ => by simp [toPy, PyData.intsShort, PyData.showable, PyData.weight]
  | k, .int i, _, h => by
    have f := fit_int (i := i) (by simpa [shortD] using h)
    exact ⟨f.nums, f.shw, Nat.le_trans f.wt (by simp [wtD])⟩
  | k, .str x, _, h => ⟨by simp [toPy, PyData.intsShort], by simpa [shortD] using h, by simp [toPy, PyData.weight, wtD]⟩
  | 0, .tup xs, h, _ => by simp [okN] at h
  | 0, .lst xs, h, _ => by simp [okN] at h
  | k + 1, .tup xs, h, s => by
    obtain ⟨a, b, c⟩ := short_okL (k := k) (ds := xs) (by simpa [okN] using h) (by simpa [shortD] using s)
    exact ⟨by simpa [toPy, PyData.intsShort] using a, by simpa [toPy, PyData.showable] using b, by simpa [toPy, PyData.weight, wtD] using c⟩
  | k + 1, .lst xs, h, s => by
    obtain ⟨a, b, c⟩ := short_okL (k := k) (ds := xs) (by simpa [okN] using h) (by simpa [shortD] using s)
    exact ⟨by simpa [toPy, PyData.intsShort] using a, by simpa [toPy, PyData.showable] using b, by simpa [toPy, PyData.weight, wtD] using c⟩
  | k, .ty _, h, _ => by cases k <;> simp [okN] at h
  | k, .dic _, h, _ => by cases k <;> simp [okN] at h
  | k, .ins _ _, h, _ => by cases k <;> simp [okN] at h
  | k, .obj _, h, _ => by cases k <;> simp [okN] at h
  | k, .scr _ _, h, _ => by cases k <;> simp [okN] at h
  | k, .xcp _ _ _ _, h, _ => by cases k <;> simp [okN] at h
theorem short_okL : ∀ {k : Nat} {ds : List D}, okNL k ds = true → shortL ds → PyData.intsShortAll 13 (toPyL ds) = true ∧ PyData.showableAll (toPyL ds) = true ∧ PyData.weightAll (toPyL ds) ≤ wtL ds
  | k, [], _, _ => by simp [toPyL, PyData.intsShortAll, PyData.showableAll, PyData.weightAll]
  | k, d :: ds, h, s => by
    simp only [okNL, Bool.and_eq_true] at h
    obtain ⟨a, b, c⟩ := short_ok h.1 (by simpa [shortL] using s.1)
    obtain ⟨a2, b2, c2⟩ := short_okL h.2 (by simpa [shortL] using s.2)
    exact ⟨by simp [toPyL, PyData.intsShortAll, a, a2], by simp [toPyL, PyData.showableAll, b, b2], by simp only [toPyL, PyData.weightAll, wtL]; omega⟩
end
mutual
def okR : Nat → D → Bool
  | _, .non | _, .bl _ | _, .int _ => true
  | _, .str x => (toPy (.str x)).canLay0
  | k + 1, .tup xs | k + 1, .lst xs => okRL k xs
  | k + 1, .dic ks => okRK k ks
  | _, _ => false
def okRL : Nat → List D → Bool
  | _, [] => true
  | k, x :: xs => okR k x && okRL k xs
def okRK : Nat → List (Key × D) → Bool
  | _, [] => true
  | k, (.inl _, x) :: xs => okR k x && okRK k xs
  | k, (.inr s, x) :: xs => (toPy (.str s)).canLay0 && (okR k x && okRK k xs)
end
mutual
def wR : D → Nat
  | .int _ => 200
  | .str x => x.cps.size
  | .tup xs | .lst xs => wRL xs
  | .dic ks => wRK ks
  | _ => 0
def wRL : List D → Nat
  | [] => 0
  | x :: xs => wR x + 1 + wRL xs
def wRK : List (Key × D) → Nat
  | [] => 0
  | (.inl _, x) :: xs => 202 + wR x + wRK xs
  | (.inr s, x) :: xs => s.cps.size + 2 + wR x + wRK xs
end
def shI (i : Int) : Prop := i.natAbs < 10 ^ 58
mutual
def shortR : D → Prop
  | .int i => shI i
  | .tup xs | .lst xs => shortRL xs
  | .dic ks => shortRK ks
  | _ => True
def shortRL : List D → Prop
  | [] => True
  | x :: xs => shortR x ∧ shortRL xs
def shortRK : List (Key × D) → Prop
  | [] => True
  | (.inl i, x) :: xs => shI i ∧ shortR x ∧ shortRK xs
  | (.inr _, x) :: xs => shortR x ∧ shortRK xs
end
structure Wd60 (n k : Nat) (p : PyData) : Prop where
  lv : p.leavesShort 60 = true
  sh : p.showable = true
  wt : p.weight ≤ n
  dp : p.depth ≤ k
theorem leaf_str {x : Str} (h : (toPy (.str x)).canLay0 = true) : (PyData.str x).leavesShort 60 = true := PyData.leavesShort_of_canLay0 60 _ (by simpa [toPy] using h) (by simp [PyData.intsShort])
theorem leaf_int {i : Int} (h : shI i) {k : Nat} : Wd60 200 k (.int i) := by
  unfold shI at h
  refine ⟨?_, ?_, ?_, by simp [PyData.depth]⟩
  · have e := int_text_length_le10 (k := 58) (by decide) h
    simp only [PyData.leavesShort, decide_eq_true_eq]
    show (Str.ofString (toString i)).length ≤ 60
    rw [PySem.ofString_length]
    omega
  · have : (10 : Nat) ^ 58 ≤ 2 ^ 199 := by decide
    have := PySem.Flt.log2_lt_of (by decide : 0 < 199) (Nat.lt_of_lt_of_le h this)
    simp only [PyData.showable, decide_eq_true_eq]
    omega
  · have : (10 : Nat) ^ 58 ≤ 2 ^ 199 := by decide
    have := PySem.Flt.log2_lt_of (by decide : 0 < 199) (Nat.lt_of_lt_of_le h this)
    simp only [PyData.weight]
    split <;> omega
mutual
theorem wd_of : ∀ {k : Nat} {d : D}, okR k d = true → shortR d → pureR d = true ∧ Wd60 (wR d) k (toPy d)
  | k, .non, _, _ => ⟨by simp [pureR], by simp [toPy, PyData.leavesShort], by simp [toPy, PyData.showable], by simp [toPy, PyData.weight], by simp [toPy, PyData.depth]⟩
  | k, .bl _, _, _ => ⟨by simp [pureR], by simp [toPy, PyData.leavesShort], by simp [toPy, PyData.showable], by simp [toPy, PyData.weight], by simp [toPy, PyData.depth]⟩
  | k, .int i, _, h => ⟨by simp [pureR], by
    have q := leaf_int (k := k) (by simpa [shortR] using h)
    simpa [toPy, wR] using q⟩
  | k, .str x, h, _ => ⟨by simp [pureR], by
    have q := leaf_str (x := x) (by simpa [okR] using h)
    exact ⟨by simpa [toPy] using q, by simp [toPy, PyData.showable], by simp [toPy, PyData.weight, wR], by simp [toPy, PyData.depth]⟩⟩
  | 0, .tup xs, h, _ => by simp [okR] at h
  | 0, .lst xs, h, _ => by simp [okR] at h
  | 0, .dic xs, h, _ => by simp [okR] at h
  | k + 1, .tup xs, h, s => by
    obtain ⟨a, b, c, d, e⟩ := wdL_of (k := k) (ds := xs) (by simpa [okR] using h) (by simpa [shortR] using s)
    exact ⟨by simpa [pureR] using a, by simpa [toPy, PyData.leavesShort] using b, by simpa [toPy, PyData.showable] using c, by simpa [toPy, PyData.weight, wR] using d, by simp [toPy, PyData.depth]; omega⟩
  | k + 1, .lst xs, h, s => by
    obtain ⟨a, b, c, d, e⟩ := wdL_of (k := k) (ds := xs) (by simpa [okR] using h) (by simpa [shortR] using s)
    exact ⟨by simpa [pureR] using a, by simpa [toPy, PyData.leavesShort] using b, by simpa [toPy, PyData.showable] using c, by simpa [toPy, PyData.weight, wR] using d, by simp [toPy, PyData.depth]; omega⟩
  | k + 1, .dic xs, h, s => by
    obtain ⟨a, b, c, d, e⟩ := wdK_of (k := k) (ks := xs) (by simpa [okR] using h) (by simpa [shortR] using s)
    exact ⟨by simpa [pureR] using a, by simpa [toPy, PyData.leavesShort] using b, by simpa [toPy, PyData.showable] using c, by simpa [toPy, PyData.weight, wR] using d, by simp [toPy, PyData.depth]; omega⟩
  | k, .ty _, h, _ => by cases k <;> simp [okR] at h
  | k, .ins _ _, h, _ => by cases k <;> simp [okR] at h
  | k, .obj _, h, _ => by cases k <;> simp [okR] at h
  | k, .scr _ _, h, _ => by cases k <;> simp [okR] at h
  | k, .xcp _ _ _ _, h, _ => by cases k <;> simp [okR] at h
theorem wdL_of : ∀ {k : Nat} {ds : List D}, okRL k ds = true → shortRL ds → pureRL ds = true ∧ PyData.leavesShortAll 60 (toPyL ds) = true ∧ PyData.showableAll (toPyL ds) = true ∧ PyData.weightAll (toPyL ds) ≤ wRL ds ∧ PyData.depthAll (toPyL ds) ≤ k
  | k, [], _, _ => by simp [pureRL, toPyL, PyData.leavesShortAll, PyData.showableAll, PyData.weightAll, PyData.depthAll]
  | k, d :: ds, h, s => by
    simp only [okRL, Bool.and_eq_true] at h
    simp only [shortRL] at s
    obtain ⟨a, b, c, e, f⟩ := wd_of h.1 s.1
    obtain ⟨a2, b2, c2, e2, f2⟩ := wdL_of h.2 s.2
    exact ⟨by simp [pureRL, a, a2], by simp [toPyL, PyData.leavesShortAll, b, b2], by simp [toPyL, PyData.showableAll, c, c2], by simp only [toPyL, PyData.weightAll, wRL]; omega, by simp only [toPyL, PyData.depthAll]; omega⟩
theorem wdK_of : ∀ {k : Nat} {ks : List (Key × D)}, okRK k ks = true → shortRK ks → pureRK ks = true ∧ PyData.leavesShortKv 60 (toPyK ks) = true ∧ PyData.showableKv (toPyK ks) = true ∧ PyData.weightKv (toPyK ks) ≤ wRK ks ∧ PyData.depthKv (toPyK ks) ≤ k
  | k, [], _, _ => by simp [pureRK, toPyK, PyData.leavesShortKv, PyData.showableKv, PyData.weightKv, PyData.depthKv]
  | k, (.inl i, d) :: ds, h, s => by
    simp only [okRK, Bool.and_eq_true] at h
    simp only [shortRK] at s
    obtain ⟨a, b, c, e, f⟩ := wd_of h.1 s.2.1
    obtain ⟨a2, b2, c2, e2, f2⟩ := wdK_of h.2 s.2.2
    have q := leaf_int (k := 0) s.1
    have q1 := q.wt
    have q2 := q.dp
    exact ⟨by simp [pureRK, a, a2], by simp [toPyK, PyData.leavesShortKv, b, b2, q.lv], by simp [toPyK, PyData.showableKv, c, c2, q.sh], by simp only [toPyK, PyData.weightKv, wRK]; omega, by simp only [toPyK, PyData.depthKv]; omega⟩
  | k, (.inr x, d) :: ds, h, s => by
    simp only [okRK, Bool.and_eq_true] at h
    simp only [shortRK] at s
    obtain ⟨a, b, c, e, f⟩ := wd_of h.2.1 s.1
    obtain ⟨a2, b2, c2, e2, f2⟩ := wdK_of h.2.2 s.2
    have q := leaf_str h.1
    exact ⟨by simp [pureRK, a, a2], by simp [toPyK, PyData.leavesShortKv, b, b2, q], by simp [toPyK, PyData.showableKv, c, c2]; simp [PyData.showable], by simp only [toPyK, PyData.weightKv, wRK]; simp only [PyData.weight]; omega, by simp only [toPyK, PyData.depthKv]; simp only [PyData.depth]; omega⟩
end
theorem shR_of {d : D} (h : okR 50 d = true) (s : shortR d) (w : wR d ≤ 100000) : shD d = True := by
  obtain ⟨a, b, c, e, f⟩ := wd_of h s
  refine eq_true ⟨a, c, ?_, by omega⟩
  have := PyData.shown_le 60 (by decide) _ b
  have : (60 + 2) * (toPy d).weight ≤ 62 * 100000 := Nat.mul_le_mul (by decide) (by omega)
  rw [sizeLine_eq]
  omega
theorem shI_of {i : Int} (h : -(10 ^ 20) < i ∧ i < 10 ^ 20) : shI i := by
  unfold shI
  have : (10 : Int) ^ 20 = 100000000000000000000 := by decide
  have : (10 : Nat) ^ 58 = 10000000000000000000000000000000000000000000000000000000000 := by decide
  omega
theorem for_rest {g : DG} {tb : DS} {Z : DEnds} {α : Type} {e : α → D} (I : List α → List Slot → Mu → Prop) : ∀ (xs : List α) {ρ : List Slot} {μ : Mu}, I xs ρ μ →
    (∀ x r ρ μ (N : List Slot → Mu → Prop), (∃ l, xs = l ++ x :: r) → I (x :: r) ρ μ → (∀ ρ' μ', I r ρ' μ' → N ρ' μ') → g (e x) ρ μ fun ρ1 μ1 => tb { nx := N, ct := N, bk := Z.nx, rt := Z.rt, xc := Z.xc } ρ1 μ1) →
    (∀ ρ μ, I [] ρ μ → Z.nx ρ μ) → dForGo g tb Z (xs.map e) ρ μ
  | [], ρ, μ, h0, _, h1 => h1 ρ μ h0
  | x :: xs, ρ, μ, h0, hs, h1 => by
    simp only [List.map_cons, dForGo]
    exact hs x xs ρ μ _ ⟨[], rfl⟩ h0 fun ρ' μ' h => for_rest I xs h (fun y r ρ μ N ⟨l, e⟩ => hs y r ρ μ N ⟨x :: l, by rw [e]; rfl⟩) h1
theorem lc_pure {g : DG} {tt : DT} {te : DE} {ρ : List Slot} {Q : List D → Mu → Prop} {Z : DXQ} {μ : Mu} {α : Type} {e : α → D} (p : α → Bool) (f : α → D) : ∀ (xs : List α) (acc : List D), acc.length + xs.length ≤ 100000 →
    (∀ x ∈ xs, ∀ K : List D → Mu → Prop, ∀ acc : List D, acc.length < sizeLine → K (if p x then acc ++ [f x] else acc) μ →
      g (e x) ρ μ fun ρ1 μ1 => tt ρ1 μ1 (fun b μ2 => if b = true then te ρ1 μ2 (fun d μ3 => acc.length < sizeLine ∧ K (acc ++ [d]) μ3) (fun _ _ => False) else K acc μ2) (fun _ _ => False)) →
    Q (acc ++ (xs.filter p).map f) μ → dLcGo g tt te ρ Q Z (xs.map e) acc μ
  | [], acc, _, _, q => by simpa [dLcGo] using q
  | x :: xs, acc, hl, h, q => by
    have hl' : acc.length + xs.length + 1 ≤ 100000 := by simpa [Nat.add_assoc] using hl
    simp only [List.map_cons, dLcGo]
    refine h x List.mem_cons_self (fun a μ => dLcGo g tt te ρ Q Z (xs.map e) a μ) acc (smallL (by omega)) ?_
    refine lc_pure p f xs _ (by split <;> first | omega | (simp only [List.length_append, List.length_cons, List.length_nil]; omega)) (fun y hy => h y (List.mem_cons_of_mem _ hy)) ?_
    cases ep : p x with
    | true =>
      rw [List.filter_cons_of_pos ep] at q
      simpa using q
    | false =>
      rw [List.filter_cons_of_neg (by rw [ep]; decide)] at q
      simpa using q
theorem flat_ints {ts : List Int} : (ts.map D.int).all flatD = true := by
  rw [List.all_eq_true]
  intro d hd
  obtain ⟨t, _, rfl⟩ := List.mem_map.mp hd
  rfl
theorem in_ints {v : Int} : ∀ {ts : List Int}, inD (.int v) (ts.map D.int) = decide (v ∈ ts)
  | [] => by simp [inD]
  | t :: ts => by
    have ih := in_ints (v := v) (ts := ts)
    unfold inD at ih ⊢
    rw [List.map_cons, List.any_cons, ih]
    simp only [eq0, List.mem_cons]
    by_cases h : t = v
    · simp [h]
    · have h2 : ¬ v = t := fun e => h e.symm
      simp [h, h2]
theorem take_map {α β : Type} {f : α → β} {xs : List α} {n : Nat} : (xs.map f).take n = (xs.take n).map f := List.map_take.symm
theorem drop_map {α β : Type} {f : α → β} {xs : List α} {n : Nat} : (xs.map f).drop n = (xs.drop n).map f := List.map_drop.symm
theorem cmul_true {i j : Int} (h : (-(2 ^ 64) < i ∧ i < 2 ^ 64) ∨ (-(2 ^ 64) < j ∧ j < 2 ^ 64)) : CMulD i j = True := eq_true (.inr h)
theorem cdiv_true {i j : Int} (h : 0 < j ∧ j < 2 ^ 64) : CDivW i j = True := eq_true (wide_div (b := 64) h.1 (by omega) (by decide) (by decide))
end DL

namespace DL
open PySem PySem.Spec PyProof.Rows L2
section
variable {μ : Mu} {ρ : List Slot} {Q : D → Prop} {QQ : DQ} {X : DXQ} {d e x y : D} {ds es a b : List D} {i j : Int} {s t : Str} {c k : Bool} {p : Addr}
theorem rd_int : rdD μ (.int i) = .int i := rfl
theorem rd_bl : rdD μ (.bl c) = .bl c := rfl
theorem rd_str : rdD μ (.str s) = .str s := rfl
theorem rd_non : rdD μ .non = .non := rfl
theorem rd_tup : rdD μ (.tup ds) = .tup ds := rfl
theorem rd_lst : rdD μ (.lst ds) = .lst ds := rfl
theorem rd_ty {T} : rdD μ (.ty T) = .ty T := rfl
theorem rd_scr {K ns} : rdD μ (.scr K ns) = .scr K ns := rfl
theorem rd_dic {ks} : rdD μ (.dic ks) = .dic ks := rfl
theorem rd_objL (h : μ p = some (.lst ds)) : rdD μ (.obj p) = .lst ds := by simp only [rdD, h]
theorem rd_objD {ks} (h : μ p = some (.dK ks)) : rdD μ (.obj p) = .dic ks := by simp only [rdD, h]
theorem rd_mL : rdD (mset μ p (.lst ds)) (.obj p) = .lst ds := rd_objL mset_same
theorem rd_mD {ks} : rdD (mset μ p (.dK ks)) (.obj p) = .dic ks := rd_objD mset_same
def blP (d : D) (Q : Bool → Prop) : Prop := match d with
  | .bl c => Q c
  | _ => False
theorem blP_bl {Q : Bool → Prop} : blP (.bl c) Q = Q c := rfl
def inP (d : D) (Q : Int → Prop) : Prop := match d with
  | .int c => Q c
  | _ => False
theorem inP_int {Q : Int → Prop} : inP (.int i) Q = Q i := rfl
def sqP (d : D) (Q : List D → Prop) : Prop := match d with
  | .tup xs | .lst xs => Q xs
  | _ => False
theorem sqP_t {Q : List D → Prop} : sqP (.tup ds) Q = Q ds := rfl
theorem sqP_l {Q : List D → Prop} : sqP (.lst ds) Q = Q ds := rfl
def liP (d : D) (Q : List D → Prop) : Prop := match d with
  | .lst xs => Q xs
  | _ => False
theorem liP_l {Q : List D → Prop} : liP (.lst ds) Q = Q ds := rfl
def tuP (d : D) (Q : List D → Prop) : Prop := match d with
  | .tup xs => Q xs
  | _ => False
theorem tuP_t {Q : List D → Prop} : tuP (.tup ds) Q = Q ds := rfl
theorem u_test {f : DE} {Q : Bool → Mu → Prop} : dTest f ρ μ Q X = f ρ μ (fun d μ1 => blP d fun c => Q c μ1) X := rfl
theorem u_andV {f g : DE} : dAndV f g ρ μ QQ X = f ρ μ (fun d μ1 => blP d fun c => if c = true then g ρ μ1 QQ X else QQ (.bl false) μ1) X := rfl
theorem u_orV {f g : DE} : dOrV f g ρ μ QQ X = f ρ μ (fun d μ1 => blP d fun c => if c = true then QQ (.bl true) μ1 else g ρ μ1 QQ X) X := rfl
theorem u_notV {f : DE} : dNotV f ρ μ QQ X = f ρ μ (fun d μ1 => blP d fun c => QQ (.bl (!c)) μ1) X := rfl
theorem u_neg {f : DE} : dNeg f ρ μ QQ X = f ρ μ (fun d μ1 => inP d fun i => QQ (.int (-i)) μ1) X := rfl
theorem u_star {f : DE} {r : DA} {Q : List D → Mu → Prop} : dStar f r ρ μ Q X = f ρ μ (fun d μ1 => sqP d fun xs => r ρ μ1 (fun ds μ2 => Q (xs ++ ds) μ2) X) X := by
  unfold dStar sqP
  first | rfl | (congr 1; funext d μ1; cases d <;> rfl)
theorem u_diL {f : DE} {Q : List D → Mu → Prop} : diL f ρ μ Q X = f ρ μ (fun d μ1 => liP d fun xs => Q xs μ1) X := rfl
theorem u_diT {f : DE} {Q : List D → Mu → Prop} : diT f ρ μ Q X = f ρ μ (fun d μ1 => tuP d fun xs => Q xs μ1) X := rfl
theorem u_some {f : DE} {Q : Option Int → Mu → Prop} : lSome f ρ μ Q X = f ρ μ (fun d μ1 => inP d fun i => Q (some i) μ1) X := rfl
def cutP (d : D) (lo hi : Option Int) (Q : D → Prop) : Prop := match d with
  | .lst ds => Q (.lst (cutD ds lo hi))
  | .tup ds => Q (.tup (cutD ds lo hi))
  | _ => False
theorem cutP_l {lo hi} : cutP (.lst ds) lo hi Q = Q (.lst (cutD ds lo hi)) := rfl
theorem cutP_t {lo hi} : cutP (.tup ds) lo hi Q = Q (.tup (cutD ds lo hi)) := rfl
theorem u_slice {f : DE} {l u : DPt} : dSlice f l u ρ μ QQ X = f ρ μ (fun d μ1 => l ρ μ1 (fun lo μ2 => u ρ μ2 (fun hi μ3 => cutP (rdD μ3 d) lo hi fun d => QQ d μ3) X) X) X := by
  unfold dSlice cutP
  first | rfl | (congr 1; funext d μ1; congr 1; funext lo μ2; congr 1; funext hi μ3; generalize rdD μ3 d = z; cases z <;> rfl)
theorem u_doOf {f : DE} {Q : List D → Mu → Prop} : doOf f ρ μ Q X = f ρ μ (fun d μ1 => sqP (rdD μ1 d) fun xs => Q xs μ1) X := by
  unfold doOf sqP
  congr 1
  funext d μ1
  generalize rdD μ1 d = z
  cases z <;> rfl
def catP (x y : D) (Q : List D → Prop) : Prop := match x, y with
  | .lst xs, .lst ys => xs.length + ys.length ≤ sizeLine ∧ Q (xs ++ ys)
  | _, _ => False
theorem catP_l {Q : List D → Prop} : catP (.lst a) (.lst b) Q = (a.length + b.length ≤ sizeLine ∧ Q (a ++ b)) := rfl
theorem u_doCat {f g : DE} {Q : List D → Mu → Prop} : doCat f g ρ μ Q X = f ρ μ (fun dx μ1 => g ρ μ1 (fun dy μ2 => catP (rdD μ2 dx) (rdD μ2 dy) fun xs => Q xs μ2) X) X := by
  unfold doCat catP
  first | rfl | (congr 1; funext d μ1; congr 1; funext lo μ2; generalize rdD μ2 d = z; generalize rdD μ2 lo = z2; cases z <;> cases z2 <;> rfl)
def rgP (d : D) (Q : Int → Prop) : Prop := match d with
  | .int n => n ≤ 16777216 ∧ 0 ≤ n ∧ Q n
  | _ => False
theorem rgP_int {Q : Int → Prop} : rgP (.int i) Q = (i ≤ 16777216 ∧ 0 ≤ i ∧ Q i) := rfl
theorem u_doRg {f : DE} {Q : List D → Mu → Prop} : doRg f ρ μ Q X = f ρ μ (fun d μ1 => rgP d fun n => Q (rangeD 0 n.toNat) μ1) X := rfl
theorem u_rgT {f : DE} : dRgT f ρ μ QQ X = f ρ μ (fun d μ1 => rgP d fun n => QQ (.tup (rangeD 0 n.toNat)) μ1) X := rfl
theorem u_rgL {f : DE} : dRgL f ρ μ QQ X = f ρ μ (fun d μ1 => rgP d fun n => QQ (.lst (rangeD 0 n.toNat)) μ1) X := rfl
def itP (o : Option D) (Q : D → Prop) : Prop := match o with
  | some d => Q d
  | none => False
theorem itP_some : itP (some d) Q = Q d := rfl
theorem itP_ex (o : Option D) : itP o Q = ∃ d, o = some d ∧ Q d := by
  cases o with
  | none => exact propext ⟨fun h => h.elim, fun ⟨_, e, _⟩ => by cases e⟩
  | some d => exact propext ⟨fun h => ⟨d, rfl, h⟩, fun ⟨_, e, h⟩ => by cases e; exact h⟩
theorem ix_l : dIx (.lst ds) (.int i) Q = itP (atI ds i) Q := (itP_ex _).symm
theorem ix_t : dIx (.tup ds) (.int i) Q = itP (atI ds i) Q := (itP_ex _).symm
theorem add_ii : dAdd (.int i) (.int j) Q = Q (.int (i + j)) := rfl
theorem add_ss : dAdd (.str s) (.str t) Q = (s.length + t.length ≤ sizeLine ∧ Q (.str (s ++ t))) := rfl
theorem add_ll : dAdd (.lst a) (.lst b) Q = (a.length + b.length ≤ sizeLine ∧ Q (.lst (a ++ b))) := rfl
theorem add_tt : dAdd (.tup a) (.tup b) Q = (a.length + b.length ≤ sizeLine ∧ Q (.tup (a ++ b))) := rfl
theorem sub_ii : dSub (.int i) (.int j) Q = Q (.int (i - j)) := rfl
theorem mul_ii : dMul (.int i) (.int j) Q = (CMulD i j ∧ Q (.int (i * j))) := rfl
theorem mul_li : dMul (.lst a) (.int j) Q = (-(2 ^ 63) ≤ j ∧ j < 2 ^ 63 ∧ a.length * j.toNat ≤ sizeLine ∧ Q (.lst (List.replicate j.toNat a).flatten)) := rfl
theorem mod_ii : dMod (.int i) (.int j) Q = (0 < j ∧ Q (.int (i % j))) := rfl
theorem div_ii : dDiv (.int i) (.int j) Q = (CDivW i j ∧ Q (.int (i / j))) := rfl
theorem pow_ii : dPow (.int i) (.int j) Q = (CPow i j ∧ Q (.int (i ^ j.toNat))) := rfl
theorem lt_ii : dLt (.int i) (.int j) Q = Q (.bl (decide (i < j))) := rfl
theorem le_ii : dLe (.int i) (.int j) Q = Q (.bl (decide (i ≤ j))) := rfl
theorem gt_ii : dGt (.int i) (.int j) Q = Q (.bl (decide (j < i))) := rfl
theorem ge_ii : dGe (.int i) (.int j) Q = Q (.bl (decide (j ≤ i))) := rfl
theorem isN_n : dIsN x .non Q = Q (.bl (isNon x)) := rfl
theorem notN_n : dNotN x .non Q = Q (.bl (!isNon x)) := rfl
theorem in_l {n} : dIn n x (.lst ds) Q = (flatD x = true ∧ ds.all flatD = true ∧ Q (.bl (if n then !inD x ds else inD x ds))) := rfl
theorem in_t {n} : dIn n x (.tup ds) Q = (flatD x = true ∧ ds.all flatD = true ∧ Q (.bl (if n then !inD x ds else inD x ds))) := rfl
theorem len_l : dLen [.lst ds] Q = Q (.int ds.length) := rfl
theorem len_t : dLen [.tup ds] Q = Q (.int ds.length) := rfl
theorem len_s : dLen [.str s] Q = (s.length ≤ sizeLine ∧ Q (.int s.length)) := rfl
theorem abs_i : dAbs [.int i] Q = Q (.int (if i < 0 then -i else i)) := rfl
theorem max_ii : dMax2 [.int i, .int j] Q = Q (.int (if j > i then j else i)) := rfl
theorem min_ii : dMin2 [.int i, .int j] Q = Q (.int (if j < i then j else i)) := rfl
theorem int_i : dIntOf [.int i] Q = Q (.int i) := rfl
theorem int_b : dIntOf [.bl c] Q = Q (.int (if c then 1 else 0)) := rfl
theorem tupOf_l : dTupOf [.lst ds] Q = Q (.tup ds) := rfl
theorem tupOf_t : dTupOf [.tup ds] Q = Q (.tup ds) := rfl
theorem lstOf_l : dLstOf [.lst ds] Q = Q (.lst ds) := rfl
theorem lstOf_t : dLstOf [.tup ds] Q = Q (.lst ds) := rfl
theorem is_l {f : List Int → (D → Prop) → Prop} : dIs f [.lst ds] Q = ∃ ns : List Int, ds = ns.map D.int ∧ f ns Q := rfl
theorem bs_l {f : List Bool → (D → Prop) → Prop} : dBs f [.lst ds] Q = ∃ ns : List Bool, ds = ns.map D.bl ∧ f ns Q := rfl
theorem sortedT_t : dSortedT [.tup ds] Q = ∃ ns : List Int, ds = ns.map D.int ∧ ∀ ns' : List Int, ns'.Perm ns → ns'.Pairwise (· ≤ ·) → Q (.lst (ns'.map D.int)) := rfl
theorem repr_d : dRepr [d] Q = (shD d ∧ Q (.str (shown d))) := rfl
theorem lenS_s {K ns} : dLenS K [.scr K ns] Q = Q (.int ns.length) := propext ⟨fun h => h.2, fun h => ⟨rfl, h⟩⟩
theorem isi_x {T} : dIsi [x, .ty T] Q = ∃ n b, tyName x = some n ∧ kitB n T = some b ∧ Q (.bl b) := rfl
def isiB (x : D) (T : String) : Option Bool := (tyName x).bind fun n => kitB n T
theorem isi_o {T} (h : isiB x T = some k) : dIsi [x, .ty T] Q = Q (.bl k) := by
  rw [isi_x]
  unfold isiB at h
  cases e : tyName x with
  | none => rw [e] at h; cases h
  | some n =>
    rw [e] at h
    exact propext ⟨fun ⟨n', b, e1, e2, q⟩ => by cases e1; rw [show kitB n T = some k from h] at e2; cases e2; exact q, fun q => ⟨n, k, rfl, h, q⟩⟩
theorem isi_non_int : dIsi [.non, .ty "int"] Q = Q (.bl false) := isi_o (show kitB "NoneType" "int" = some false from by decide +kernel)
theorem isi_non_bool : dIsi [.non, .ty "bool"] Q = Q (.bl false) := isi_o (show kitB "NoneType" "bool" = some false from by decide +kernel)
theorem isi_non_str : dIsi [.non, .ty "str"] Q = Q (.bl false) := isi_o (show kitB "NoneType" "str" = some false from by decide +kernel)
theorem isi_non_tuple : dIsi [.non, .ty "tuple"] Q = Q (.bl false) := isi_o (show kitB "NoneType" "tuple" = some false from by decide +kernel)
theorem isi_non_list : dIsi [.non, .ty "list"] Q = Q (.bl false) := isi_o (show kitB "NoneType" "list" = some false from by decide +kernel)
theorem isi_non_dict : dIsi [.non, .ty "dict"] Q = Q (.bl false) := isi_o (show kitB "NoneType" "dict" = some false from by decide +kernel)
theorem isi_bl_int : dIsi [.bl c, .ty "int"] Q = Q (.bl true) := isi_o (show kitB "bool" "int" = some true from by decide +kernel)
theorem isi_bl_bool : dIsi [.bl c, .ty "bool"] Q = Q (.bl true) := isi_o (show kitB "bool" "bool" = some true from by decide +kernel)
theorem isi_bl_str : dIsi [.bl c, .ty "str"] Q = Q (.bl false) := isi_o (show kitB "bool" "str" = some false from by decide +kernel)
theorem isi_bl_tuple : dIsi [.bl c, .ty "tuple"] Q = Q (.bl false) := isi_o (show kitB "bool" "tuple" = some false from by decide +kernel)
theorem isi_bl_list : dIsi [.bl c, .ty "list"] Q = Q (.bl false) := isi_o (show kitB "bool" "list" = some false from by decide +kernel)
theorem isi_bl_dict : dIsi [.bl c, .ty "dict"] Q = Q (.bl false) := isi_o (show kitB "bool" "dict" = some false from by decide +kernel)
theorem isi_int_int : dIsi [.int i, .ty "int"] Q = Q (.bl true) := isi_o (show kitB "int" "int" = some true from by decide +kernel)
theorem isi_int_bool : dIsi [.int i, .ty "bool"] Q = Q (.bl false) := isi_o (show kitB "int" "bool" = some false from by decide +kernel)
theorem isi_int_str : dIsi [.int i, .ty "str"] Q = Q (.bl false) := isi_o (show kitB "int" "str" = some false from by decide +kernel)
theorem isi_int_tuple : dIsi [.int i, .ty "tuple"] Q = Q (.bl false) := isi_o (show kitB "int" "tuple" = some false from by decide +kernel)
theorem isi_int_list : dIsi [.int i, .ty "list"] Q = Q (.bl false) := isi_o (show kitB "int" "list" = some false from by decide +kernel)
theorem isi_int_dict : dIsi [.int i, .ty "dict"] Q = Q (.bl false) := isi_o (show kitB "int" "dict" = some false from by decide +kernel)
theorem isi_str_int : dIsi [.str s, .ty "int"] Q = Q (.bl false) := isi_o (show kitB "str" "int" = some false from by decide +kernel)
theorem isi_str_bool : dIsi [.str s, .ty "bool"] Q = Q (.bl false) := isi_o (show kitB "str" "bool" = some false from by decide +kernel)
theorem isi_str_str : dIsi [.str s, .ty "str"] Q = Q (.bl true) := isi_o (show kitB "str" "str" = some true from by decide +kernel)
theorem isi_str_tuple : dIsi [.str s, .ty "tuple"] Q = Q (.bl false) := isi_o (show kitB "str" "tuple" = some false from by decide +kernel)
theorem isi_str_list : dIsi [.str s, .ty "list"] Q = Q (.bl false) := isi_o (show kitB "str" "list" = some false from by decide +kernel)
theorem isi_str_dict : dIsi [.str s, .ty "dict"] Q = Q (.bl false) := isi_o (show kitB "str" "dict" = some false from by decide +kernel)
theorem isi_tup_int : dIsi [.tup ds, .ty "int"] Q = Q (.bl false) := isi_o (show kitB "tuple" "int" = some false from by decide +kernel)
theorem isi_tup_bool : dIsi [.tup ds, .ty "bool"] Q = Q (.bl false) := isi_o (show kitB "tuple" "bool" = some false from by decide +kernel)
theorem isi_tup_str : dIsi [.tup ds, .ty "str"] Q = Q (.bl false) := isi_o (show kitB "tuple" "str" = some false from by decide +kernel)
theorem isi_tup_tuple : dIsi [.tup ds, .ty "tuple"] Q = Q (.bl true) := isi_o (show kitB "tuple" "tuple" = some true from by decide +kernel)
theorem isi_tup_list : dIsi [.tup ds, .ty "list"] Q = Q (.bl false) := isi_o (show kitB "tuple" "list" = some false from by decide +kernel)
theorem isi_tup_dict : dIsi [.tup ds, .ty "dict"] Q = Q (.bl false) := isi_o (show kitB "tuple" "dict" = some false from by decide +kernel)
theorem isi_lst_int : dIsi [.lst ds, .ty "int"] Q = Q (.bl false) := isi_o (show kitB "list" "int" = some false from by decide +kernel)
theorem isi_lst_bool : dIsi [.lst ds, .ty "bool"] Q = Q (.bl false) := isi_o (show kitB "list" "bool" = some false from by decide +kernel)
theorem isi_lst_str : dIsi [.lst ds, .ty "str"] Q = Q (.bl false) := isi_o (show kitB "list" "str" = some false from by decide +kernel)
theorem isi_lst_tuple : dIsi [.lst ds, .ty "tuple"] Q = Q (.bl false) := isi_o (show kitB "list" "tuple" = some false from by decide +kernel)
theorem isi_lst_list : dIsi [.lst ds, .ty "list"] Q = Q (.bl true) := isi_o (show kitB "list" "list" = some true from by decide +kernel)
theorem isi_lst_dict : dIsi [.lst ds, .ty "dict"] Q = Q (.bl false) := isi_o (show kitB "list" "dict" = some false from by decide +kernel)
theorem isi_dic_int {ks : List (Key × D)} : dIsi [.dic ks, .ty "int"] Q = Q (.bl false) := isi_o (show kitB "dict" "int" = some false from by decide +kernel)
theorem isi_dic_bool {ks : List (Key × D)} : dIsi [.dic ks, .ty "bool"] Q = Q (.bl false) := isi_o (show kitB "dict" "bool" = some false from by decide +kernel)
theorem isi_dic_str {ks : List (Key × D)} : dIsi [.dic ks, .ty "str"] Q = Q (.bl false) := isi_o (show kitB "dict" "str" = some false from by decide +kernel)
theorem isi_dic_tuple {ks : List (Key × D)} : dIsi [.dic ks, .ty "tuple"] Q = Q (.bl false) := isi_o (show kitB "dict" "tuple" = some false from by decide +kernel)
theorem isi_dic_list {ks : List (Key × D)} : dIsi [.dic ks, .ty "list"] Q = Q (.bl false) := isi_o (show kitB "dict" "list" = some false from by decide +kernel)
theorem isi_dic_dict {ks : List (Key × D)} : dIsi [.dic ks, .ty "dict"] Q = Q (.bl true) := isi_o (show kitB "dict" "dict" = some true from by decide +kernel)
theorem dgTup_t {n : Nat} {r : DGs} {N : List Slot → Mu → Prop} : dgTup n r (.tup ds) ρ μ N = (ds.length = n ∧ r ds ρ μ N) := rfl
theorem dgTup_l {n : Nat} {r : DGs} {N : List Slot → Mu → Prop} : dgTup n r (.lst ds) ρ μ N = (ds.length = n ∧ r ds ρ μ N) := rfl
theorem dgCons_c {g : DG} {r : DGs} {N : List Slot → Mu → Prop} : dgCons g r (d :: ds) ρ μ N = g d ρ μ fun ρ1 μ1 => r ds ρ1 μ1 N := rfl
theorem dgNil_n {N : List Slot → Mu → Prop} : dgNil [] ρ μ N = N ρ μ := propext ⟨fun h => h.2, fun h => ⟨rfl, h⟩⟩
def r1P (ds : List D) (Q : Int → Prop) : Prop := match ds with
  | [.int n] => -(2 ^ 62) ≤ n ∧ n < 2 ^ 62 ∧ Q n
  | _ => False
theorem r1P_i {Q : Int → Prop} (h : -(2 ^ 62) ≤ i ∧ i < 2 ^ 62) : r1P [.int i] Q = Q i := propext ⟨fun z => z.2.2, fun z => ⟨h.1, h.2, z⟩⟩
theorem u_r1 {f : DA} {Q : List D → Mu → Prop} : diR1 f ρ μ Q X = f ρ μ (fun ds μ1 => r1P ds fun n => Q (rangeD 0 n.toNat) μ1) X := rfl
def r2P (ds : List D) (Q : Int → Int → Prop) : Prop := match ds with
  | [.int i, .int j] => (-(2 ^ 62) ≤ i ∧ i < 2 ^ 62 ∧ -(2 ^ 62) ≤ j ∧ j < 2 ^ 62) ∧ Q i j
  | _ => False
theorem r2P_i {Q : Int → Int → Prop} (h : -(2 ^ 62) ≤ i ∧ i < 2 ^ 62 ∧ -(2 ^ 62) ≤ j ∧ j < 2 ^ 62) : r2P [.int i, .int j] Q = Q i j := propext ⟨fun z => z.2, fun z => ⟨h, z⟩⟩
theorem u_r2 {f : DA} {Q : List D → Mu → Prop} : diR2 f ρ μ Q X = f ρ μ (fun ds μ1 => r2P ds fun i j => Q (rangeD i (j - i).toNat) μ1) X := rfl
def osP (μ : Mu) (dp dk dx : D) (N : Mu → Prop) : Prop := ∃ p ds k j, dp = .obj p ∧ dk = .int k ∧ μ p = some (.lst ds) ∧ ixN ds.length k = some j ∧ N (mset μ p (.lst (ds.set j dx)))
theorem u_oset {o iD v : DE} {Dd : DEnds} : dOSet o iD v Dd ρ μ = v ρ μ (fun dx μ1 => o ρ μ1 (fun dp μ2 => iD ρ μ2 (fun dk μ3 => osP μ3 dp dk dx fun μ' => Dd.nx ρ μ') (Dd.xc ρ)) (Dd.xc ρ)) (Dd.xc ρ) := rfl
theorem mset_mset {μ : Mu} {p : Addr} {o u : MO} : mset (mset μ p o) p u = mset μ p u := by
  funext a
  by_cases h : a = p
  · rw [h, mset_same, mset_same]
  · rw [mset_ne h, mset_ne h, mset_ne h]
theorem cpow_true (h : 0 ≤ j ∧ j ≤ 1000 ∧ 0 ≤ i ∧ i < 2 ^ 62) : CPow i j = True := eq_true ⟨h.1, by omega, by
  have : (2 : Int) ^ 62 = 4611686018427387904 := by decide
  have : (2 : Nat) ^ 64 = 18446744073709551616 := by decide
  omega⟩
def slP (o : Option Slot) (Q : D → Prop) : Prop := match o with
  | some (.dat d) => Q d
  | _ => False
theorem slP_d : slP (some (.dat d)) Q = Q d := rfl
def boP (o : Option Slot) (Q : D → Prop) : Prop := match o with
  | some (.dat d) => Q d
  | some (.ml ds) => Q (.lst ds)
  | some (.md ks) => Q (.dic ks)
  | _ => False
theorem boP_d : boP (some (.dat d)) Q = Q d := rfl
theorem boP_l : boP (some (.ml ds)) Q = Q (.lst ds) := rfl
theorem boP_m {ks} : boP (some (.md ks)) Q = Q (.dic ks) := rfl
def mlP (o : Option Slot) (Q : List D → Prop) : Prop := match o with
  | some (.ml ds) => Q ds
  | _ => False
theorem mlP_l {Q : List D → Prop} : mlP (some (.ml ds)) Q = Q ds := rfl
def frP (o : Option Slot) (a : Option D → Prop) : Prop := match o with
  | some (.ml ds) => a (some (.lst ds))
  | some (.md ks) => a (some (.dic ks))
  | some (.dat _) => a none
  | _ => False
theorem frP_d {a : Option D → Prop} : frP (some (.dat d)) a = a none := rfl
theorem frP_l {a : Option D → Prop} : frP (some (.ml ds)) a = a (some (.lst ds)) := rfl
theorem frP_m {a : Option D → Prop} {ks} : frP (some (.md ks)) a = a (some (.dic ks)) := rfl
def frS (ρ : List Slot) (i : Nat) (o : Option D) : List Slot := match o with
  | some d => ρ.set i (.dat d)
  | none => ρ
theorem frS_some {n : Nat} : frS ρ n (some d) = ρ.set n (.dat d) := rfl
theorem frS_none {n : Nat} : frS ρ n none = ρ := rfl
theorem u_var {n : Nat} : dVar n ρ μ QQ X = slP ρ[n]? fun d => QQ d μ := by
  unfold dVar slP
  rcases ρ[n]? with _ | _ | _ | _ | _ | _ <;> rfl
theorem u_bor {n : Nat} : dBor n ρ μ QQ X = boP ρ[n]? fun d => QQ d μ := by
  unfold dBor boP
  rcases ρ[n]? with _ | _ | _ | _ | _ | _ <;> rfl
theorem u_app {n : Nat} {f : DE} {Dd : DEnds} : dApp n f Dd ρ μ = mlP ρ[n]? fun ds => f ρ μ (fun d μ1 => ds.length < sizeLine ∧ Dd.nx (ρ.set n (.ml (ds ++ [d]))) μ1) (Dd.xc ρ) := by
  unfold dApp mlP
  rcases ρ[n]? with _ | _ | _ | _ | _ | _ <;> rfl
theorem u_sext {n : Nat} {f : DE} {Dd : DEnds} : dSExt n f Dd ρ μ = mlP ρ[n]? fun ds => f ρ μ (fun d μ1 => liP d fun xs => ds.length + xs.length ≤ sizeLine ∧ Dd.nx (ρ.set n (.ml (ds ++ xs))) μ1) (Dd.xc ρ) := by
  unfold dSExt mlP
  rcases ρ[n]? with _ | _ | _ | ds | _ | _
  · exact propext ⟨fun ⟨⟨_, e⟩, _⟩ => (by cases e), fun h => h.elim⟩
  · exact propext ⟨fun ⟨⟨_, e⟩, _⟩ => (by cases e), fun h => h.elim⟩
  · exact propext ⟨fun ⟨⟨_, e⟩, _⟩ => (by cases e), fun h => h.elim⟩
  · have e : (fun (d : D) (μ1 : Mu) => liP d fun xs => ds.length + xs.length ≤ sizeLine ∧ Dd.nx (ρ.set n (.ml (ds ++ xs))) μ1) = fun d μ1 => match some (Slot.ml ds), d with
      | some (.ml ds), .lst xs => ds.length + xs.length ≤ sizeLine ∧ Dd.nx (ρ.set n (.ml (ds ++ xs))) μ1
      | _, _ => False := by
      funext d μ1
      cases d <;> rfl
    show ((∃ ds', some (Slot.ml ds) = some (Slot.ml ds')) ∧ _) = f ρ μ (fun (d : D) (μ1 : Mu) => liP d fun xs => ds.length + xs.length ≤ sizeLine ∧ Dd.nx (ρ.set n (.ml (ds ++ xs))) μ1) (Dd.xc ρ)
    rw [e]
    exact propext ⟨fun h => h.2, fun h => ⟨⟨ds, rfl⟩, h⟩⟩
  · exact propext ⟨fun ⟨⟨_, e⟩, _⟩ => (by cases e), fun h => h.elim⟩
  · exact propext ⟨fun ⟨⟨_, e⟩, _⟩ => (by cases e), fun h => h.elim⟩
theorem u_frz {n : Nat} {t : DS} {Dd : DEnds} : dFreeze n t Dd ρ μ = frP ρ[n]? fun o => t Dd (frS ρ n o) μ := by
  unfold dFreeze frP frS
  rcases ρ[n]? with _ | _ | _ | _ | _ | _ <;> rfl
theorem u_aug {g : Int → Int → Int} {n : Nat} {f : DE} {Dd : DEnds} : dAug g n f Dd ρ μ = slP ρ[n]? fun d => inP d fun x => f ρ μ (fun d μ1 => inP d fun y => Dd.nx (ρ.set n (.dat (.int (g x y)))) μ1) (Dd.xc ρ) := by
  unfold dAug slP inP
  rcases ρ[n]? with _ | _ | d | _ | _ | _
  · rfl
  · rfl
  · cases d <;> rfl
  · rfl
  · rfl
  · rfl
end
end DL

namespace DL
open PySem PySem.Spec PyProof.Rows L2
def lookD (ks : List (Key × D)) (k : Key) : Option D := (ks.find? fun kv => decide (kv.1 = k)).map (·.2)
def putD (ks : List (Key × D)) (k : Key) (d : D) : List (Key × D) :=
  if (ks.any fun kv => decide (kv.1 = k)) = true then ks.map (fun kv => if kv.1 = k then (kv.1, d) else kv) else ks ++ [(k, d)]
def keyD : Key → D
  | .inl i => .int i
  | .inr x => .str x
theorem fzk_inv {F : Hp} {k : Key} {d : D} {ks : List (Key × D)} {vs : List (Key × V)} (h : FzK F ((k, d) :: ks) vs) : ∃ v r, vs = (k, v) :: r ∧ Fz F d v ∧ FzK F ks r := by
  unfold FzK at h
  exact h
theorem fzk_nil {F : Hp} : FzK F [] [] := by unfold FzK; rfl
theorem fzk_inv0 {F : Hp} {vs : List (Key × V)} (h : FzK F [] vs) : vs = [] := by
  unfold FzK at h
  exact h
theorem fzk_cons {F : Hp} {k : Key} {d : D} {ks : List (Key × D)} {v : V} {vs : List (Key × V)} (h : Fz F d v) (hs : FzK F ks vs) : FzK F ((k, d) :: ks) ((k, v) :: vs) := by
  unfold FzK
  exact ⟨v, vs, rfl, h, hs⟩
theorem FzK.length {F : Hp} : ∀ {ks : List (Key × D)} {vs : List (Key × V)}, FzK F ks vs → vs.length = ks.length
  | [], _, h => by rw [fzk_inv0 h]; rfl
  | (k, d) :: ks, _, h => by
    obtain ⟨v, r, rfl, _, h3⟩ := fzk_inv h
    simp [FzK.length h3]
theorem FzK.look {F : Hp} {k : Key} : ∀ {ks : List (Key × D)} {vs : List (Key × V)} {d : D}, FzK F ks vs → lookD ks k = some d → ∃ v, valV vs k = some v ∧ Fz F d v
  | [], _, d, h, e => by cases e
  | (k', d') :: ks, _, d, h, e => by
    obtain ⟨v, r, rfl, h2, h3⟩ := fzk_inv h
    by_cases hk : k' = k
    · have : lookD ((k', d') :: ks) k = some d' := by simp [lookD, List.find?_cons, hk]
      rw [this] at e
      cases e
      exact ⟨v, valV_pos hk, h2⟩
    · have : lookD ((k', d') :: ks) k = lookD ks k := by simp [lookD, List.find?_cons, hk]
      rw [this] at e
      obtain ⟨w, e1, e2⟩ := FzK.look h3 e
      exact ⟨w, by rw [valV_neg hk]; exact e1, e2⟩
theorem FzK.any {F : Hp} {k : Key} : ∀ {ks : List (Key × D)} {vs : List (Key × V)}, FzK F ks vs → (vs.any fun kv => decide (kv.1 = k)) = ks.any fun kv => decide (kv.1 = k)
  | [], _, h => by rw [fzk_inv0 h]; rfl
  | (k', d) :: ks, _, h => by
    obtain ⟨v, r, rfl, _, h3⟩ := fzk_inv h
    simp [FzK.any h3]
theorem FzK.mapPut {F : Hp} {k : Key} {d : D} {v : V} (z : Fz F d v) : ∀ {ks : List (Key × D)} {vs : List (Key × V)}, FzK F ks vs →
    FzK F (ks.map fun kv => if kv.1 = k then (kv.1, d) else kv) (vs.map fun kv => if kv.1 = k then (kv.1, v) else kv)
  | [], _, h => by
    rw [fzk_inv0 h]
    exact fzk_nil
  | (k', d') :: ks, _, h => by
    obtain ⟨v', r, rfl, h2, h3⟩ := fzk_inv h
    simp only [List.map_cons]
    by_cases hk : k' = k
    · rw [if_pos hk, if_pos hk]
      exact fzk_cons z (FzK.mapPut z h3)
    · rw [if_neg hk, if_neg hk]
      exact fzk_cons h2 (FzK.mapPut z h3)
theorem FzK.append {F : Hp} {es : List (Key × D)} {ws : List (Key × V)} (h2 : FzK F es ws) : ∀ {ks : List (Key × D)} {vs : List (Key × V)}, FzK F ks vs → FzK F (ks ++ es) (vs ++ ws)
  | [], _, h => by
    rw [fzk_inv0 h]
    exact h2
  | (k, d) :: ks, _, h => by
    obtain ⟨v, r, rfl, h1, h3⟩ := fzk_inv h
    exact fzk_cons h1 (FzK.append h2 h3)
theorem FzK.put {F : Hp} {k : Key} {d : D} {v : V} (z : Fz F d v) {ks : List (Key × D)} {vs : List (Key × V)} (h : FzK F ks vs) : FzK F (putD ks k d) (putK vs k v) := by
  unfold putD putK
  rw [h.any]
  split
  · exact FzK.mapPut z h
  · exact FzK.append (fzk_cons z fzk_nil) h
theorem fz_key {F : Hp} {k : Key} {v : V} (h : Fz F (keyD k) v) : v = kV k := by
  cases k <;> (unfold keyD Fz at h; exact h)
abbrev DId := List Slot → Mu → (List (Key × D) → Mu → Prop) → DXQ → Prop
def SimOd (W : WX) (te : TE) (t : DId) : Prop := ∀ {B : Anchor} {F : Hp} {σ : L2.St} {H : Hp} {ρ : List Slot} {μ : Mu} {Qd : List (Key × D) → Mu → Prop} {Xd : DXQ} {Q : VK}, Sti B F σ H ρ μ → t ρ μ Qd Xd → GoX W B F σ H ρ μ Xd →
  (∀ p vs F' H' ks μ', Grow F μ H F' μ' H' → Sti B F' σ H' ρ μ' → NewAt H μ p → H' p = some (.dK vs) → F' p = none → μ' p = none → FzK F' ks vs → Qd ks μ' → Q (.ref p) H') → te σ H Q
structure POd (X : Cx) (W : WX) (e : Expr) (t : DId) : Prop where
  ex : ∃ te, PE X e te ∧ SimOd W te t
def dObjD (t : DId) : DE := fun ρ μ Q X => t ρ μ (fun ks μ1 => ∀ p, μ1 p = none → Q (.obj p) (mset μ1 p (.dK ks))) X
theorem POd.obj {X : Cx} {W : WX} {e : Expr} {t : DId} (h : POd X W e t) : PD X W e (dObjD t) := by
  obtain ⟨te, a1, a2⟩ := h.ex
  refine ⟨_, a1, fun {B F σ H ρ μ Qd Xd Q} S q gx k => a2 S q gx fun p vs F' H' ks μ' g S' h0 h1 h2 h3 z q' => ?_⟩
  have hmu : ∀ {b : Addr}, b ≠ p → mset μ' p (.dK ks) b = μ' b := fun hb => mset_ne hb
  have g2 : Grow F μ H F' (mset μ' p (.dK ks)) H' := ⟨g.fz, fun b o x1 x2 => by
    obtain ⟨k1, k2, k3⟩ := g.keep b o x1 x2
    exact ⟨k1, (hmu (h0.ne x1 x2)).trans k2, k3⟩⟩
  have W' : Wd F' (mset μ' p (.dK ks)) H' := ⟨S'.wd.ext, fun a o e => by
    by_cases hb : a = p
    · subst hb
      rw [mset_same] at e
      cases e
      exact ⟨⟨vs, h1, z⟩, h2⟩
    · rw [mset_ne hb] at e
      exact S'.wd.mu a o e, S'.wd.tup⟩
  refine k _ F' H' (.obj p) _ g2 ?_ (by unfold Fz; rfl) (q' p h3)
  refine ⟨W', ⟨S'.grow.fz, fun b o x1 x2 => ?_⟩, S'.len, fun i s v x1 x2 => ?_, S'.dist⟩
  · obtain ⟨k1, k2, k3⟩ := S'.grow.keep b o x1 x2
    have hb : b ≠ p := by
      rintro rfl
      obtain ⟨j1, j2, _⟩ := S.grow.keep _ o x1 x2
      exact h0 o j1 j2
    exact ⟨k1, (mset_ne hb).trans k2, k3⟩
  · have q := S'.slot i s v x1 x2
    have q0 := S.slot i s v x1 x2
    cases s with
    | no => exact True.intro
    | fn _ _ _ _ => exact q
    | dat d => exact q
    | ml ds' =>
      obtain ⟨a, vs', hv, ha, q, o1, o2, o3⟩ := q
      obtain ⟨a0, vs0, hv0, ha0, _, _, m0, _⟩ := q0
      rw [hv] at hv0
      cases hv0
      exact ⟨a, vs', hv, ha, q, o1, (mset_ne (h0.ne ha0 m0)).trans o2, o3⟩
    | md ds' =>
      obtain ⟨a, vs', hv, ha, q, o1, o2, o3⟩ := q
      obtain ⟨a0, vs0, hv0, ha0, _, _, m0, _⟩ := q0
      rw [hv] at hv0
      cases hv0
      exact ⟨a, vs', hv, ha, q, o1, (mset_ne (h0.ne ha0 m0)).trans o2, o3⟩
def dFlD (t : DId) : DE := fun ρ μ Q X => t ρ μ (fun ks μ1 => Q (.dic ks) μ1) X
section
variable {X : Cx} {W : WX} {e v : Expr} {ks : List (Option Expr)} {vs : List Expr} {a : DA} {de : DE} {pos p2 : Pos} {names : List Str}
def SimPr (W : WX) (trs : List (TE × TE)) (names : List Str) (t : DA) : Prop := ∀ {B : Anchor} {F : Hp} {σ : L2.St} {H : Hp} {ρ : List Slot} {μ : Mu} {Qd : List D → Mu → Prop} {Xd : DXQ} {Q : List (V × V) → Hp → Prop}, Sti B F σ H ρ μ → t ρ μ Qd Xd → GoX W B F σ H ρ μ Xd →
  (∀ vs F' H' ds μ', Grow F μ H F' μ' H' → Sti B F' σ H' ρ μ' → FzL F' ds vs → ds.length = names.length → Qd ds μ' → Q ((names.map V.str).zip vs) H') → tPairs trs σ H Q
structure PPD (X : Cx) (W : WX) (pos : Pos) (keys : List (Option Expr)) (values : List Expr) (names : List Str) (t : DA) : Prop where
  ex : ∃ trs, PPs X pos keys values trs ∧ SimPr W trs names t
theorem pr_nil : PPD X W pos [] [] [] dNil := ⟨_, pps_nil, fun {B F σ H ρ μ Qd Xd Q} S q gx k => k [] F H [] μ .refl S fzl_nil rfl q⟩
theorem pr_cons {x : Str} {j} (ha : PD X W v de) (hr : PPD X W pos ks vs names a) : PPD X W pos (some (.Constant (.str x) j p2) :: ks) (v :: vs) (x :: names) (dCons de a) := by
  obtain ⟨ta, a1, a2⟩ := ha.ex
  obtain ⟨tr, r1, r2⟩ := hr.ex
  refine ⟨_, pps_cons pe_str a1 r1, fun {B F σ H ρ μ Qd Xd Q} S q gx k => a2 S q gx fun v F1 H1 d μ1 g1 S1 z1 q1 => r2 S1 q1 (gx.go g1) fun vs F2 H2 ds μ2 g2 S2 z2 hl q2 => ?_⟩
  exact k _ F2 H2 _ μ2 (g1.trans g2) S2 (fzl_cons (z1.mono g2.fz) z2) (by simp [hl]) q2
theorem merge_zip : ∀ (names : List Str) (vs : List V) (acc : List (Key × V)), names.Nodup → names.length = vs.length → (∀ n ∈ names, ∀ kv ∈ acc, kv.1 ≠ Sum.inr n) → mergeK acc ((names.map Sum.inr).zip vs) = acc ++ (names.map Sum.inr).zip vs
  | [], vs, acc, _, _, _ => by simp [mergeK]
  | n :: names, [], acc, _, h, _ => by simp at h
  | n :: names, v :: vs, acc, nd, hl, hn => by
    have nd' := List.nodup_cons.mp nd
    have e : putK acc (Sum.inr n) v = acc ++ [(Sum.inr n, v)] := by
      unfold putK
      rw [if_neg]
      simp only [List.any_eq_true, decide_eq_true_eq, not_exists, not_and]
      exact fun kv hm => hn n List.mem_cons_self kv hm
    have ih := merge_zip names vs (acc ++ [(Sum.inr n, v)]) nd'.2 (by simpa using hl) (fun m hm kv hk => by
      rcases List.mem_append.mp hk with h | h
      · exact hn m (List.mem_cons_of_mem _ hm) kv h
      · rw [List.mem_singleton.mp h]
        intro z
        cases z
        exact nd'.1 hm)
    simp only [List.map_cons, List.zip_cons_cons]
    show mergeK (putK acc (Sum.inr n) v) ((names.map Sum.inr).zip vs) = _
    rw [e, ih]
    simp
theorem fzk_zip {F : Hp} : ∀ {names : List Str} {ds : List D} {vs : List V}, FzL F ds vs → ds.length = names.length → FzK F ((names.map Sum.inr).zip ds) ((names.map Sum.inr).zip vs)
  | [], ds, vs, h, hl => by
    simp only [List.map_nil, List.zip_nil_left]
    exact fzk_nil
  | n :: names, [], vs, h, hl => by simp at hl
  | n :: names, d :: ds, vs, h, hl => by
    obtain ⟨v, r, rfl, h1, h2⟩ := fzl_inv h
    simp only [List.map_cons, List.zip_cons_cons]
    exact fzk_cons h1 (fzk_zip h2 (by simpa using hl))
def doDisp (names : List Str) (a : DA) : DId := fun ρ μ Q X => a ρ μ (fun ds μ1 => Q ((names.map Sum.inr).zip ds) μ1) X
theorem od_disp (h : PPD X W pos ks vs names a) (nd : names.Nodup) (hn : ks.length ≤ 15) (hk : ks.length = names.length) (hall : ks.all (·.isSome) = true) (hl : ks.length = vs.length) (h0 : ks ≠ []) : POd X W (.Dict ks vs pos) (doDisp names a) := by
  obtain ⟨trs, r1, r2⟩ := h.ex
  refine ⟨_, pe_disp r1 hall hl h0 hn, fun {B F σ H ρ μ Qd Xd Q} S q gx k => fun p hp => ?_⟩
  obtain ⟨W1, g1⟩ := S.wd.own (o := .dK []) hp
  have hm := S.wd.free hp
  refine r2 (S.go g1 W1) q (gx.go g1) fun ws F2 H2 ds μ2 g2 S2 z hl q2 => ?_
  obtain ⟨k1, k2, k3⟩ := g2.keep p _ upd_same hm.2
  have hF2 := k3 hm.1
  have lz := z.length
  refine ⟨k1, (names.map Sum.inr).zip ws, ?_, ?_, ?_⟩
  · rw [List.map_zip_eq_zipWith]
    simp only [List.zip]
    rw [List.zipWith_map_left, List.zipWith_map_left]
    first | rfl | (congr 1)
  · rw [List.length_zip, List.length_map]
    omega
  · rw [merge_zip names ws [] nd (by omega) (fun _ _ kv h => by cases h)]
    simp only [List.nil_append]
    have hB : ∀ o, B.H p = some o → B.μ p = none → False := S.fresh hp
    have away : ∀ (j : Nat) (t : Slot) (b : Addr), ρ[j]? = some t → t.own = true → σ[j]? = some (some (.ref b)) → b ≠ p := fun j t b x1 x2 x3 => by
      obtain ⟨⟨u, hu⟩, _⟩ := S.ownAt x1 x2 x3
      rintro rfl
      rw [hp] at hu
      cases hu
    refine k p _ F2 _ _ μ2 ⟨(g1.trans g2).fz, fun b o e1 e2 => ?_⟩ (S2.updN hF2 k2 hB away) (.of hp) upd_same hF2 k2 (fzk_zip z (by omega)) q2
    obtain ⟨j1, j2, j3⟩ := (g1.trans g2).keep b o e1 e2
    have hb : b ≠ p := by
      rintro rfl
      rw [hp] at e1
      cases e1
    exact ⟨by rw [upd_ne hb]; exact j1, j2, j3⟩
end
section
variable {X : Cx} {W : WX} {o i e : Expr} {dO di dv : DE} {pos tpos : Pos}
def dgP (dd dk : D) (Q : D → Prop) : Prop := match dd with
  | .dic ks => ∃ k d, dk = keyD k ∧ lookD ks k = some d ∧ Q d
  | _ => False
def dDGet (o i : DE) : DE := fun ρ μ Q X => o ρ μ (fun dp μ1 => i ρ μ1 (fun dk μ2 => dgP (rdD μ2 dp) dk fun d => Q d μ2) X) X
theorem d_dget (hr : X.A.units + 1 < cLine) (ho : PB X W o dO) (hi : PD X W i di) (hs : NoSl i := by exact fun _ _ => rfl) : PD X W (.Subscript o i pos) (dDGet dO di) := by
  obtain ⟨to, o1, o2⟩ := ho.ex
  obtain ⟨ti, i1, i2⟩ := hi.ex
  refine ⟨_, pe_dget hr o1 i1 hs, fun {B F σ H ρ μ Qd Xd Q} S q gx k => o2 S q gx fun v F1 H1 dp μ1 g1 S1 z1 q1 => i2 S1 q1 (gx.go g1) fun y F2 H2 dk μ2 g2 S2 z2 q2 => ?_⟩
  have z := (z1.go g2).rd S2.wd
  generalize rdD μ2 dp = dd at z q2
  cases dd with
  | dic ks =>
    obtain ⟨kk, d, rfl, el, q⟩ := q2
    obtain ⟨a, kws, rfl, ha, _, zk⟩ := z
    obtain ⟨w, hw, zw⟩ := zk.look el
    have ey := fz_key z2
    subst ey
    refine ⟨a, w, rfl, ?_, k w F2 H2 d μ2 (g1.trans g2) S2 zw q⟩
    rw [← hw]
    exact .inl ⟨_, _, ha, rfl, rfl⟩
  | non => exact q2.elim
  | bl _ => exact q2.elim
  | int _ => exact q2.elim
  | str _ => exact q2.elim
  | ty _ => exact q2.elim
  | tup _ => exact q2.elim
  | lst _ => exact q2.elim
  | ins _ _ => exact q2.elim
  | obj _ => exact q2.elim
  | scr _ _ => exact q2.elim
  | xcp _ _ _ _ => exact q2.elim
def hpP (μ : Mu) (dp dk dx : D) (N : Mu → Prop) : Prop := ∃ p ks k, dp = .obj p ∧ dk = keyD k ∧ μ p = some (.dK ks) ∧ ks.length < sizeLine ∧ N (mset μ p (.dK (putD ks k dx)))
def dHPut (o i v : DE) : DS := fun D ρ μ => v ρ μ (fun dx μ1 => o ρ μ1 (fun dp μ2 => i ρ μ2 (fun dk μ3 => hpP μ3 dp dk dx fun μ' => D.nx ρ μ') (D.xc ρ)) (D.xc ρ)) (D.xc ρ)
theorem s_hput (hr : X.A.units + 1 < cLine) (hv : PD X W e dv) (ho : PD X W o dO) (hi : PD X W i di) (hs : swapsWith e (some (.Subscript o i tpos)) pos.line X.env = pure false := by rfl) : PSD X W (.Assign [.Subscript o i tpos] e pos) (dHPut dO di dv) := by
  obtain ⟨tv, v1, v2⟩ := hv.ex
  obtain ⟨to, o1, o2⟩ := ho.ex
  obtain ⟨ti, i1, i2⟩ := hi.ex
  refine ⟨_, ps_dput hr o1 i1 v1 hs, fun {B F σ H ρ μ Dd D} S q r => v2 S q r.gox fun v F1 H1 dx μ1 g1 S1 z1 q1 => o2 S1 q1 (r.gox.go g1) fun vo F2 H2 dp μ2 g2 S2 z2 q2 => i2 S2 q2 ((r.gox.go g1).go g2) fun vi F3 H3 dk μ3 g3 S3 z3 q3 => ?_⟩
  obtain ⟨p, ks, kk, rfl, rfl, m3, hl, q4⟩ := q3
  unfold Fz at z2
  subst z2
  have ey := fz_key z3
  subst ey
  obtain ⟨⟨kws, h3, zk⟩, _⟩ := S3.wd.mu p _ m3
  refine ⟨p, _, rfl, DPut.k h3 (by rw [zk.length]; exact hl), ?_⟩
  obtain ⟨g4, S4⟩ := S3.mput (o' := .dK (putD ks kk dx)) m3 ⟨_, upd_same, zk.put (z1.mono ((g2.trans g3).fz))⟩
  exact r.nx F3 _ _ ρ _ (((g1.trans g2).trans g3).fz) S4 q4
theorem dgP_s {ks : List (Key × D)} {x : Str} {Q : D → Prop} : dgP (.dic ks) (.str x) Q = itP (lookD ks (.inr x)) Q := by
  unfold dgP
  rw [itP_ex]
  exact propext ⟨fun ⟨k, d, e1, e2, q⟩ => by
    cases k with
    | inl n => cases e1
    | inr y => cases e1; exact ⟨d, e2, q⟩, fun ⟨d, e2, q⟩ => ⟨.inr x, d, rfl, e2, q⟩⟩
theorem hpP_s {μ : Mu} {p : Addr} {ks : List (Key × D)} {x : Str} {d : D} {N : Mu → Prop} (h : μ p = some (.dK ks)) (hl : ks.length ≤ 1000) : hpP μ (.obj p) (.str x) d N = N (mset μ p (.dK (putD ks (.inr x) d))) := by
  unfold hpP
  exact propext ⟨fun ⟨p', ks', k, e1, e2, e3, _, q⟩ => by
    cases e1
    rw [h] at e3
    cases e3
    cases k with
    | inl n => cases e2
    | inr y => cases e2; exact q, fun q => ⟨p, ks, .inr x, rfl, rfl, h, smallL (by omega), q⟩⟩
def tLkE (t : TE) : TE := fun σ H Q => t σ H fun v H1 => ∃ a u, H1 a = some (.dK u) ∧ ∀ od, Q v (L2.upd H1 a (.frz od (.dK u)))
theorem pe_lk {e : Expr} {t : TE} (h : PE X e t) : PE X e (tLkE t) := by
  refine ⟨fun pins s σ H Q I hw => ?_⟩
  refine thn (h.run pins s σ H _ I hw) fun v s1 ⟨x, H1, I1, r, a, u, ha, q⟩ => ?_
  obtain ⟨od, I2⟩ := I1.lock ha True.intro
  exact ⟨x, _, I2, r, q od⟩
theorem POd.d {e : Expr} {t : DId} (h : POd X W e t) : PD X W e (dFlD t) := by
  obtain ⟨te, a1, a2⟩ := h.ex
  refine ⟨_, pe_lk a1, fun {B F σ H ρ μ Qd Xd Q} S q gx k => a2 S q gx fun p vs F' H0 ks μ' g0 S0 h0 h1 h2 h3 z q' => ⟨p, vs, h1, fun od => ?_⟩⟩
  have hB : ∀ o, B.H p = some o → B.μ p = none → False := fun o x1 x2 => by
    obtain ⟨j1, j2, _⟩ := S.grow.keep _ o x1 x2
    exact h0 o j1 j2
  have hs : ∀ (j : Nat) (t : Slot) (a : Addr), ρ[j]? = some t → t.own = true → σ[j]? = some (some (.ref a)) → a ≠ p := fun j t a x1 x2 x3 => by
    have q0 := S.slot j t _ x1 x3
    cases t with
    | no => cases x2
    | fn _ _ _ _ => cases x2
    | dat d => cases x2
    | ml ds =>
      obtain ⟨a0, vs0, hv0, ha0, _, _, m0, _⟩ := q0
      cases hv0
      exact h0.ne ha0 m0
    | md ds =>
      obtain ⟨a0, vs0, hv0, ha0, _, _, m0, _⟩ := q0
      cases hv0
      exact h0.ne ha0 m0
  have S' := S0.updN (o := .frz od (.dK vs)) h2 h3 hB hs
  have g : Grow F μ H F' μ' (L2.upd H0 p (.frz od (.dK vs))) := ⟨g0.fz, fun b o x1 x2 => by
    obtain ⟨k1, k2, k3⟩ := g0.keep b o x1 x2
    exact ⟨by rw [upd_ne (h0.ne x1 x2)]; exact k1, k2, k3⟩⟩
  have h1' : (L2.upd H0 p (.frz od (.dK vs))) p = some (.frz od (.dK vs)) := upd_same
  generalize L2.upd H0 p (.frz od (.dK vs)) = H' at S' g h1'
  have e : Ex F' (upd F' p (.frz od (.dK vs))) := Evl.Ex.new h2
  have g2 : Grow F μ H (upd F' p (.frz od (.dK vs))) μ' H' := ⟨g.fz.trans e, fun b o x1 x2 => by
    obtain ⟨k1, k2, k3⟩ := g.keep b o x1 x2
    exact ⟨k1, k2, fun x => by rw [upd_ne (h0.ne x1 x2)]; exact k3 x⟩⟩
  refine k _ _ H' (.dic ks) μ' g2 ?_ (by unfold Fz; exact ⟨p, od, vs, rfl, upd_same, z.mono e⟩) q'
  have g3 : Grow B.F B.μ B.H (upd F' p (.frz od (.dK vs))) μ' H' := ⟨S'.grow.fz.trans e, fun b o x1 x2 => by
    obtain ⟨k1, k2, k3⟩ := S'.grow.keep b o x1 x2
    refine ⟨k1, k2, fun x => ?_⟩
    have hb : b ≠ p := by
      rintro rfl
      exact hB o x1 x2
    rw [upd_ne hb]
    exact k3 x⟩
  refine ⟨S'.wd.frz h1' h2 h3, g3, S'.len, fun i s v x1 x2 => ?_, S'.dist⟩
  have q := S'.slot i s v x1 x2
  cases s with
  | no => exact True.intro
  | fn _ _ _ _ => exact ⟨q.1, q.2.1, e _ _ q.2.2⟩
  | dat d =>
    obtain ⟨x, hx, zx⟩ := q
    exact ⟨x, hx, zx.mono e⟩
  | ml ds =>
    obtain ⟨a, vs', hv, ha, zq, o1, o2, o3⟩ := q
    exact ⟨a, vs', hv, ha, zq.mono e, by rw [upd_ne (hs i _ a x1 rfl (by rw [x2, hv]))]; exact o1, o2, o3⟩
  | md ds =>
    obtain ⟨a, vs', hv, ha, zq, o1, o2, o3⟩ := q
    exact ⟨a, vs', hv, ha, zq.mono e, by rw [upd_ne (hs i _ a x1 rfl (by rw [x2, hv]))]; exact o1, o2, o3⟩
def doEmp : DId := fun _ μ Q _ => Q [] μ
theorem od_emp : POd X W (.Dict [] [] pos) doEmp := by
  refine ⟨_, pe_dnewK, fun {B F σ H ρ μ Qd Xd Q} S q gx k => fun p hp => ?_⟩
  obtain ⟨W1, g1⟩ := S.wd.own (o := .dK []) hp
  have hm := S.wd.free hp
  exact k p [] F _ [] μ g1 (S.go g1 W1) (.of hp) upd_same hm.1 hm.2 fzk_nil q
end
end DL

namespace DL
open PySem PySem.Spec PyProof.Rows L2
def spStar (n : Nat) (sp : DSp) : DSp := fun ds μ Q Z => n ≤ ds.length ∧ (ds.drop n).length ≤ sizeLine ∧ sp (ds.take n ++ [.tup (ds.drop n)]) μ Q Z
section
variable {P : Program} {w : World} {K : PySem.W.Frag} {mg : Str → Option Value} {base : Heap}
end
end DL

namespace DL
open PySem PySem.Spec PyProof.Rows L2
theorem lc_if {g : DG} {tt : DT} {te : DE} {ρ : List Slot} {Q : List D → Mu → Prop} {Z : DXQ} {μ : Mu} {α : Type} {e : α → D} (p : α → Bool) (f : α → D) (xs : List α) (hl : xs.length ≤ 100000)
    (h : ∀ x ∈ xs, ∀ K : List D → Mu → Prop, ∀ acc : List D, acc.length < sizeLine → (p x = true → K (acc ++ [f x]) μ) → (p x = false → K acc μ) →
      g (e x) ρ μ fun ρ1 μ1 => tt ρ1 μ1 (fun b μ2 => if b = true then te ρ1 μ2 (fun d μ3 => acc.length < sizeLine ∧ K (acc ++ [d]) μ3) (fun _ _ => False) else K acc μ2) (fun _ _ => False))
    (q : Q ((xs.filter p).map f) μ) : dLcGo g tt te ρ Q Z (xs.map e) [] μ :=
  lc_pure p f xs [] (by simpa using hl) (fun x hx K acc ha hK => h x hx K acc ha (fun e => by rw [if_pos e] at hK; exact hK) fun e => by rw [if_neg (by rw [e]; decide)] at hK; exact hK) (by simpa using q)
theorem lc_ints {g : DG} {tt : DT} {te : DE} {ρ : List Slot} {Q : List D → Mu → Prop} {Z : DXQ} {μ : Mu} (p : Int → Bool) (f : Int → Int) (xs : List Int) (hl : xs.length ≤ 100000)
    (h : ∀ x ∈ xs, ∀ K : List D → Mu → Prop, ∀ acc : List D, acc.length < sizeLine → (p x = true → K (acc ++ [.int (f x)]) μ) → (p x = false → K acc μ) →
      g (.int x) ρ μ fun ρ1 μ1 => tt ρ1 μ1 (fun b μ2 => if b = true then te ρ1 μ2 (fun d μ3 => acc.length < sizeLine ∧ K (acc ++ [d]) μ3) (fun _ _ => False) else K acc μ2) (fun _ _ => False))
    (q : Q (((xs.filter p).map f).map D.int) μ) : dLcGo g tt te ρ Q Z (xs.map D.int) [] μ :=
  lc_if p (fun x => .int (f x)) xs hl h (by rw [List.map_map] at q; exact q)
theorem lc_made {g : DG} {te : DE} {ρ : List Slot} {Q : List D → Mu → Prop} {Z : DXQ} {α : Type} (f : α → D) (I : Mu → Prop) (P : α → Prop) : ∀ (ds : List D) (as : List α) (μ : Mu), I μ → as.length + ds.length ≤ 100000 → (∀ a ∈ as, P a) →
    (∀ d ∈ ds, ∀ μ, I μ → ∀ K : DQ, (∀ a μ', I μ' → P a → K (f a) μ') → g d ρ μ fun ρ1 μ1 => te ρ1 μ1 K (fun _ _ => False)) →
    (∀ (zs : List α) μ', I μ' → (∀ z ∈ zs, P z) → zs.length = as.length + ds.length → Q (zs.map f) μ') → (∀ (d : D) (K K' : List Slot → Mu → Prop) (μ : Mu), (∀ ρ μ, K ρ μ → K' ρ μ) → g d ρ μ K → g d ρ μ K') → dLcGo g dYes te ρ Q Z ds (as.map f) μ
  | [], as, μ, hI, _, ha, _, q, _ => q as μ hI ha (by simp)
  | d :: ds, as, μ, hI, hl, ha, he, q, mono => by
    have hl' : as.length + ds.length + 1 ≤ 100000 := by simpa [Nat.add_assoc] using hl
    simp only [dLcGo, dYes, if_true]
    refine he d List.mem_cons_self μ hI _ fun a μ' hI' hz => ⟨by rw [List.length_map]; exact smallL (by omega), ?_⟩
    have e : as.map f ++ [f a] = (as ++ [a]).map f := by simp
    rw [e]
    refine lc_made f I P ds (as ++ [a]) μ' hI' (by simp; omega) (fun y hy => ?_) (fun d hd => he d (List.mem_cons_of_mem _ hd)) (fun zs μ2 h1 h2 h3 => q zs μ2 h1 h2 (by simp at h3 ⊢; omega)) mono
    rcases List.mem_append.mp hy with h | h
    · exact ha y h
    · rw [List.mem_singleton.mp h]; exact hz
theorem walkVB {l : PySem.W.OpenLaw} {n k : Nat} {q : Program} {loose : List Str} {XP : (Str → Option Value) → Heap → Prop} {YP : World → Heap → Prop} {d : DefRec} {K : Params → PySem.W.Frag} {sp : PySem.W.Frag → DSp} {x : Str}
    (hn : l.most = some n) (hn2 : n ≤ sizeLine) (hdf : d.params.defaults = []) (hr : Room k callerA) (hY : ∀ (w : World) (h : Heap), YP w h → (K w.params).In h)
    (F : ∀ (w : World) (mg : Str → Option Value) (fa : Addr) (h : Heap), (K w.params).In h → h.Ns mainGlobals mg → mg d.name = some (.ref fa) →
      ∃ fd : FuncData, (∀ (s : Shared) (u : Value), BindsTo s fd ⟨[u], []⟩ [(x, u)]) ∧ ∀ base : Heap, (K w.params).In base → base.Ns mainGlobals mg → FnV l.prog w (K w.params) mg base k fa fd [x] (spOf (sp (K w.params))))
    (hsp : ∀ (K : PySem.W.Frag) (ns : List Int), ns.length ≤ n → (∀ z ∈ ns, z.natAbs.log2 ≤ 1048576) → sp K [.scr K ns] mu0 yes nox) : PySem.W.WalkO q loose XP YP l.row.toRowW d [] (fun f vs => PySem.call f vs) := by
  refine Att.attach_callB hn hdf fun w s0 s1 mg mb fa o pm cd doc a vs ns G Y ho hd hcd hmg hobj hints hlen hbits hg => ?_
  obtain ⟨fd, hb, hF⟩ := F w mg fa _ (hY w _ Y) G.T.g hmg
  refine law_callV (hY w _ Y) G.T.g G.T.b G.T.builtins G.T.nolimit hg hobj hints (Nat.le_trans hlen hn2) hr hF hb (hsp _ ns hlen fun z hz => ?_)
  have := hbits z hz
  unfold Builtin.Int.intBits at this
  split at this
  · rename_i h
    rw [beq_iff_eq] at h
    subst h
    decide
  · omega
theorem cut_neg1 {xs : List D} : cutD xs none (some (-1)) = xs.dropLast := by
  unfold cutD HT.sIx
  simp only [List.drop_zero, Nat.sub_zero]
  rw [if_pos (by decide), List.dropLast_eq_take]
  congr 1
  omega
theorem log2_lt {x b : Nat} (h : x.log2 ≤ b) : x < 2 ^ (b + 1) := by
  by_cases hx : x = 0
  · rw [hx]
    exact Nat.two_pow_pos _
  · exact (Nat.log2_lt hx).mp (by omega)
def absI (x : Int) : Int := if x < 0 then -x else x
theorem absI_nat (x : Int) : absI x = x.natAbs := by
  unfold absI
  split <;> omega
end DL

namespace DL
open PySem PySem.Spec PyProof.Rows L2
section
variable {X : Cx} {W : WX} {pos : Pos}
def dRevL (a : DE) : DE := fun ρ μ Q X => a ρ μ (fun d μ1 => liP (rdD μ1 d) fun xs => Q (.lst xs.reverse) μ1) X
theorem FzL.reverse {F : Hp} : ∀ {ds : List D} {vs : List V}, FzL F ds vs → FzL F ds.reverse vs.reverse
  | [], _, h => by
    rw [fzl_inv0 h]
    exact fzl_nil
  | d :: ds, _, h => by
    obtain ⟨v, r, rfl, h1, h3⟩ := fzl_inv h
    rw [List.reverse_cons, List.reverse_cons]
    exact FzL.append (fzl_cons h1 fzl_nil) (FzL.reverse h3)
end
end DL

namespace DL
open PySem PySem.Spec PyProof.Rows L2
structure Ex0 (K : PySem.W.Frag) (mg : Str → Option Value) (x : Str) (C : Addr) : Prop where
  q : PySem.W.excIn K C [.type "ValueError", .type "Exception", .type "BaseException", .type "object"] "ValueError.__new__" = true
  g : mg x = some (.ref C)
  k : PySem.W.keepIn K (.ref C) = true
  b : PySem.W.subIn K (.ref C) (.type "BaseException") = some true
  t : PySem.W.typeIn K (.ref C) = some (.type "type")
section
variable {X : Cx} {W : WX} {C : Addr} {x : Str} {p pos pos2 : Pos}
def dRaise0 (C : Addr) : DS := fun D ρ μ => D.xc ρ ⟨C, []⟩ μ
def dTryAs (i : Nat) (hnd : Addr → Option Bool) (tb : DS) (ts : Addr → Addr → Option Addr → DS) : DS := fun D ρ μ =>
  tb { D with xc := fun ρ' x μ' => ∃ b, hnd x.cls = some b ∧ (if b = true then ∀ a d, ts a x.cls d { nx := fun ρ2 μ2 => D.nx (ρ2.set i .no) μ2, rt := D.rt, xc := fun _ _ _ => False, bk := fun ρ2 μ2 => D.bk (ρ2.set i .no) μ2, ct := fun ρ2 μ2 => D.ct (ρ2.set i .no) μ2 }
      (ρ'.set i (.dat (.xcp a x.cls d x.fs))) μ' else D.xc ρ' x μ') } ρ μ
def dTryOnly (hnd : Addr → Option Bool) (tb : DS) (ts : Addr → Addr → Option Addr → DS) : DS := fun D ρ μ =>
  tb { D with xc := fun ρ' x μ' => ∃ b, hnd x.cls = some b ∧ (if b = true then ∀ a d, ts a x.cls d { D with xc := fun _ _ _ => False } ρ' μ' else D.xc ρ' x μ') } ρ μ
structure ExK (K : PySem.W.Frag) (C : Addr) : Prop where
  hcl : (PySem.W.clsIn K C).isSome = true
  hga : PySem.W.findIn K (.ref C) "__getattribute__" = some (some (.builtin "BaseException.__getattribute__"))
  hgt : PySem.W.findIn K (.ref C) "__getattr__" = some none
  hsub : PySem.W.subIn K (.ref C) (.type "BaseException") = some true
  ha : PySem.W.findIn K (.ref C) "__class__" = some (some (.builtin "object.__class__"))
  hn : PySem.W.specialIn K (.builtin "object.__class__") "__get__" = some (some (.builtin "getset_descriptor.__get__"))
  htk : PySem.W.takesIn K (.builtin "object.__class__") = some true
  hm : PySem.W.mroIn K C (.type "object") = some true
def clsU : D → Option Value
  | .ty T => some (.type T)
  | .obj c => some (.ref c)
  | _ => none
theorem cls_v {F : Hp} {d : D} {v : V} {u : Value} (h : Fz F d v) (e : clsU d = some u) : ClsV v u := by
  cases d <;> simp [clsU] at e
  case ty T =>
    subst e
    unfold Fz at h
    subst h
    exact .ty T
  case obj c =>
    subst e
    unfold Fz at h
    subst h
    exact .own c
def clsUs : List D → Option (List Value)
  | [] => some []
  | d :: ds => (clsU d).bind fun u => (clsUs ds).map fun us => u :: us
theorem kit_one {K : PySem.W.Frag} {t u : Value} {b : Bool} (h : PySem.W.kitAny K t [u] = some b) : PySem.W.kitOne K t u = some b := by
  unfold PySem.W.kitAny at h
  cases e : PySem.W.kitOne K t u with
  | none => rw [e] at h; cases h
  | some c =>
    rw [e] at h
    cases c with
    | true => exact h
    | false => exact h
def dIsX (K : PySem.W.Frag) (C a : Addr) (d : Option Addr) : DC := fun ds Q => match ds with
  | [.xcp a' C' d' _, x] => a' = a ∧ C' = C ∧ d' = d ∧ ExK K C ∧ ∃ us b, (match x with | .tup xs => clsUs xs | x => clsUs [x]) = some us ∧ PySem.W.kitAny K (.ref C) us = some b ∧ Q (.bl b)
  | _ => False
def dCX (dr : DC) (a : DA) : DE := fun ρ μ Q X => a ρ μ (fun ds μ1 => dr ds fun d => Q d μ1) X
theorem d_gcls {x : Str} (hm : X.mg x = some (.ref C)) (hg : Gl X x := by rfl) (hd : (x == ("__debug__" : Str)) = false := by decide) : PD X W (.Name x pos) (dC (.obj C)) :=
  ⟨_, pe_glob (v := .ref C) hg hm rfl hd, sim_c fun _ => by unfold Fz; rfl⟩
def xfP (a C : Addr) (d : Option Addr) (f : Str) (x : D) (Q : D → Prop) : Prop := match x with
  | .xcp a' C' d' fs => a' = a ∧ C' = C ∧ d' = d ∧ ∃ y, fs.lookup f = some y ∧ Q y
  | _ => False
theorem FzS.look {F : Hp} {f : Str} : ∀ {fs : List (Str × D)} {vs : List (Str × V)} {y : D}, FzS F fs vs → fs.lookup f = some y → ∃ v, vs.lookup f = some v ∧ Fz F y v
  | [], _, y, h, e => by cases e
  | (g, d) :: fs, _, y, h, e => by
    unfold FzS at h
    obtain ⟨v, r, rfl, h1, h2⟩ := h
    by_cases hg : f == g
    · simp only [List.lookup, hg] at e ⊢
      cases e
      exact ⟨v, rfl, h1⟩
    · simp only [List.lookup, hg] at e ⊢
      exact FzS.look h2 e
def dXF (K : PySem.W.Frag) (a C : Addr) (d : Option Addr) (f : Str) (o : DE) : DE := fun ρ μ Q X => XfC K C ∧ PySem.W.findIn K (.ref C) f = some none ∧ o ρ μ (fun x μ1 => xfP a C d f x fun y => Q y μ1) X
end
def cAt (K : PySem.W.Frag) (x : Str) : Addr := match PySem.W.nsIn K mainGlobals x with
  | some (some (.ref C)) => C
  | _ => 0
theorem cAt_of {K : PySem.W.Frag} {x : Str} {C : Addr} (h : PySem.W.nsIn K mainGlobals x = some (some (.ref C))) : C = cAt K x := by
  unfold cAt
  rw [h]
def exkB (K : PySem.W.Frag) (C : Addr) : Bool := (PySem.W.clsIn K C).isSome && decide (PySem.W.findIn K (.ref C) "__getattribute__" = some (some (.builtin "BaseException.__getattribute__"))) && decide (PySem.W.findIn K (.ref C) "__getattr__" = some none) &&
  decide (PySem.W.subIn K (.ref C) (.type "BaseException") = some true) && decide (PySem.W.findIn K (.ref C) "__class__" = some (some (.builtin "object.__class__"))) && decide (PySem.W.specialIn K (.builtin "object.__class__") "__get__" = some (some (.builtin "getset_descriptor.__get__"))) &&
  decide (PySem.W.takesIn K (.builtin "object.__class__") = some true) && decide (PySem.W.mroIn K C (.type "object") = some true)
theorem exkB_ok {K : PySem.W.Frag} {C : Addr} (h : exkB K C = true) : ExK K C := by
  unfold exkB at h
  simp only [Bool.and_eq_true, decide_eq_true_eq] at h
  obtain ⟨⟨⟨⟨⟨⟨⟨h1, h2⟩, h3⟩, h4⟩, h5⟩, h6⟩, h7⟩, h8⟩ := h
  exact ⟨h1, h2, h3, h4, h5, h6, h7, h8⟩
section
variable {K : PySem.W.Frag} {C c a : Addr} {d : Option Addr} {fs : List (Str × D)} {T : String} {Q : D → Prop} {xs : List D}
theorem isX_ty : dIsX K C a d [.xcp a C d fs, .ty T] Q = (ExK K C ∧ ∃ b, PySem.W.kitAny K (.ref C) [.type T] = some b ∧ Q (.bl b)) := by simp [dIsX, clsUs, clsU]
theorem isX_obj : dIsX K C a d [.xcp a C d fs, .obj c] Q = (ExK K C ∧ ∃ b, PySem.W.kitAny K (.ref C) [.ref c] = some b ∧ Q (.bl b)) := by simp [dIsX, clsUs, clsU]
theorem isX_tup : dIsX K C a d [.xcp a C d fs, .tup xs] Q = (ExK K C ∧ ∃ us, clsUs xs = some us ∧ ∃ b, PySem.W.kitAny K (.ref C) us = some b ∧ Q (.bl b)) := by simp [dIsX]
theorem xfP_1 {f : Str} {y : D} : xfP a C d f (.xcp a C d [(f, y)]) Q = Q y := by simp [xfP, List.lookup]
theorem rd_xcp {μ : Mu} : rdD μ (.xcp a C d fs) = .xcp a C d fs := rfl
end
theorem SlsOk.go {B : Anchor} {F F' H0 H H' : Hp} {μ0 μ μ' : Mu} {ss : List Slot} {vs : List V} (z : SlsOk B F H0 μ0 H μ ss vs) (g : Grow F μ H F' μ' H') : SlsOk B F' H0 μ0 H' μ' ss vs :=
  ⟨z.len, fun i s v h1 h2 => (z.ok i s v h1 h2).go g, z.new, z.dist⟩
section
variable {X : Cx} {W : WX} {r : DSl} {i j : Nat} {x y : Str} {a b : Expr} {px py pt pos : Pos} {kt k2 pt2}
end
def pairLe (a b c d : Int) : Bool := decide (a < c ∨ (a = c ∧ b ≤ d))
def dLeP : DR2 := fun x y Q => match x, y with
  | .tup [.int a, .int b], .tup [.int c, .int d] => Q (.bl (pairLe a b c d))
  | _, _ => False
section
variable {X : Cx} {W : WX} {a b : Expr} {da db : DE} {pos : Pos}
end
theorem leP_p {a b c d : Int} {Q : D → Prop} : dLeP (.tup [.int a, .int b]) (.tup [.int c, .int d]) Q = Q (.bl (pairLe a b c d)) := rfl
theorem nc0 : ((0 : Nat) : Int) = 0 := rfl
theorem nc1 : ((1 : Nat) : Int) = 1 := rfl
theorem nc2 : ((2 : Nat) : Int) = 2 := rfl
theorem nc3 : ((3 : Nat) : Int) = 3 := rfl
theorem nc4 : ((4 : Nat) : Int) = 4 := rfl
theorem nc5 : ((5 : Nat) : Int) = 5 := rfl
theorem nc6 : ((6 : Nat) : Int) = 6 := rfl
theorem nc7 : ((7 : Nat) : Int) = 7 := rfl
theorem nc8 : ((8 : Nat) : Int) = 8 := rfl
theorem nc9 : ((9 : Nat) : Int) = 9 := rfl
end DL

namespace DL
open PySem PySem.W PySem.Calls PyProof.Rows PySem.HandSPX
def iA (fn : Str) (p1 p2 : Pos) : Arguments := { posonlyargs := [], args := [{ arg := "self", annotation := none, pos := p1 }, { arg := fn, annotation := none, pos := p2 }], vararg := none, kwonlyargs := [], kw_defaults := [], kwarg := none, defaults := [] }
def iB (fn : Str) (q1 q2 q3 q4 : Pos) : List Stmt := [.Assign [.Attribute (.Name "self" q1) fn q2] (.Name fn q3) q4]
def iS (fn : Str) : Scope := { kind := .function, names := [(PySem.Str.ofString "self", .local), (fn, .local)], isGenerator := false, isCoroutine := false, more := [] }
structure ExI (K : Frag) (mg : Str → Option Value) (x fn : Str) (C : Addr) : Prop where
  gC : mg x = some (.ref C)
  cls : ∃ nm q N bs bm sn sub ab col dd k0 k1 k2 k3 k5, K.lookup C = some (excClassObj nm q C N bs bm true sn sub ab col dd k0 k1 k2 k3 k5 "ValueError.__new__") ∧ refsVE bm = true
  sa : findIn K (.ref C) "__setattr__" = some (some (.builtin "object.__setattr__"))
  noN : findIn K (.ref C) fn = some none
  kC : keepIn K (.ref C) = true
  exC : subIn K (.ref C) (.type "BaseException") = some true
  tyC : typeIn K (.ref C) = some (.type "type")
  fI : ∃ fI, findIn K (.ref C) "__init__" = some (some (.ref fI)) ∧ typeIn K (.ref fI) = some (.type "function") ∧ ∃ (oc : Value) (od : Option Addr) (doc pm : Value) (an : Option Addr) (cdv ct : Value) (osl : Array (Option Value)) (qual : Str) (p1 p2 q1 q2 q3 q4 : Pos),
    K.lookup fI = some ⟨oc, od, .func (fnOf "__init__" qual (iA fn p1 p2) (iB fn q1 q2 q3 q4) (iS fn) .none .none doc pm an cdv ct), osl⟩ ∧ codeIn K cdv qual = true
theorem x_one_size (v : Value) : [v].length ≤ sizeLine := by
  rw [sizeLine_eq]
  exact (by decide : 1 ≤ 16777216)
theorem xldC {M : Model} {s : Shared} {name : Str} {scope : Scope} {L a : Addr} {cd : Value} {m : Str → Option Value} {x : Str} {pos : Pos} {v : Value} {Q : Value → Shared → Prop} {A : Around} {E : Value → Shared → Prop} (hn : s.heap.Ns L m) (hv : m x = some v) (h : Q v s)
    (hk : scope.kind = .function := by rfl) (hl : (envOfC name scope L a cd).kindOf x = some .local := by rfl) (hd : (x == ("__debug__" : Str)) = false := by decide) :
    wpAny M A (eval (.Name x pos) (envOfC name scope L a cd)) Q E s := wpAny_Name (wpAny_loadName_local hk hl hn hv h) hd
structure InitEnd (fn : Str) (h h' : Heap) (x C dx t1 : Addr) (v : Value) : Prop where
  keep : ∀ b o, b ≠ x → h.get? b = some o → h'.get? b = some o
  obj : h'.get? x = some { cls := .ref C, dict := some dx, data := .fields #[.ref t1, .none, .none, .none, .bool false, .none] }
  dbig : h.objs.size ≤ dx
  dne : dx ≠ x
  ns : h'.Ns1 dx (fun y => if y = fn then some v else none)
structure OwnMade (fn : Str) (h h' : Heap) (e C d : Addr) (v : Value) : Prop where
  keep : ∀ b o, h.get? b = some o → h'.get? b = some o
  new : h.objs.size ≤ e
  obj : ∃ oe vs, h'.get? e = some oe ∧ oe.cls = .ref C ∧ oe.dict = some d ∧ oe.data = .fields vs ∧ vs[1]? = some .none ∧ vs[2]? = some .none ∧ 4 < vs.size
  dbig : h.objs.size ≤ d
  dne : d ≠ e
  ns : h'.Ns1 d (fun y => if y = fn then some v else none)
def MadeR (K : Frag) (mg : Str → Option Value) (x fn : Str) (C : Addr) : Prop := ∀ {prog : Program} {w : World} {A : Around} {R : Result → Shared → Prop} {s : Shared} {v : Value} (X : K.In s.heap) (hlim : s.heap.NoLimit) (hroom : A.depth + 1 < recursionLimit)
    (hq : ∀ h' tk e d, OwnMade fn s.heap h' e C d v → R (.ok (.ret (.ref e))) { s with heap := h', toks := tk }), codeAny (model prog w) A (.call (.ref C) ⟨[v], []⟩) R s
theorem relO_x {fn : Str} {v : L2.V} {v' : Value} (r : L2.RelV v v') (f : Str) : L2.RelO (List.lookup f [(fn, v)]) (if f = fn then some v' else none) := by
  by_cases hw : f = fn
  · subst hw
    rw [if_pos rfl]
    have q : List.lookup f [(f, v)] = some v := by simp [List.lookup]
    rw [q]
    exact r
  · rw [if_neg hw]
    have qw : (f == fn) = false := by simpa using hw
    have q2 : List.lookup f [(fn, v)] = none := by simp [List.lookup, qw]
    rw [q2]
    trivial
section
variable {K : Frag} {mg : Str → Option Value} {x : Str} {C : Addr}
theorem init_limit {prog : Program} {w : World} {A : Around} {E : Value → Shared → Prop} {R : Result → Shared → Prop} {s : Shared} (T : ExI K mg x "limit" C) {x0 t0 fI : Addr} {v : Value} (hfI : ∃ (oc : Value) (od : Option Addr) (doc pm : Value) (an : Option Addr) (cdv ct : Value) (osl : Array (Option Value)) (qual : Str) (p1 p2 q1 q2 q3 q4 : Pos),
    K.lookup fI = some ⟨oc, od, .func (fnOf "__init__" qual (iA "limit" p1 p2) (iB "limit" q1 q2 q3 q4) (iS "limit") .none .none doc pm an cdv ct), osl⟩ ∧ codeIn K cdv qual = true) (X : K.In s.heap) (hlim : s.heap.NoLimit) (hx : s.heap.get? x0 = some (excO C t0)) (hnx : K.lookup x0 = none) (hroom : A.depth < recursionLimit)
    (hq : ∀ h' tk dx, InitEnd "limit" s.heap h' x0 C dx t0 v → R (.ok (.ret .none)) { s with heap := h', toks := tk }) :
    codeAny (model prog w) A (.call (.ref fI) ⟨[.ref x0, v], []⟩) R s := by
  obtain ⟨oc, od, doc, pm, an, cdv, ct, osl, qual, p1, p2, q1, q2, q3, q4, ho, hcd⟩ := hfI
  obtain ⟨nm, q, N, bs, bm, sn, sub, ab, col, dd, k0, k1, k2, k3, k5, hC, hbm⟩ := T.cls
  have hcl : clsIn K C = some { name := nm, bases := bs, mro := .ref C :: bm, ns := N, qualname := q, hasDict := true, slotNames := sn, subclasses := sub, abstract := ab, collection := col, hasDel := false } := by unfold clsIn; rw [hC] <;> rfl
  refine Att.call_fn (binds := [("self", .ref x0), ("limit", v)]) X hlim ho hcd hroom (BindsTo.of_eq (by first | rfl | with_unfolding_all rfl)) (by first | rfl | decide | with_unfolding_all rfl) (fun s₁ IC => ?_) rfl rfl rfl
  obtain ⟨h₁, tk₁, rfl⟩ := IC.toInCall.same
  have k : ∀ b o, s.heap.get? b = some o → h₁.get? b = some o := IC.toInCall.keep
  have hn := IC.toInCall.ns
  have hxL : s.heap.objs.size ≠ x0 := Nat.ne_of_gt (Heap.lt_size hx)
  have X₁ : K.In h₁ := X.keeps k
  have hx₁ := k _ _ hx
  show wpAny _ _ (execs _ _) _ _ _
  refine wpAny_execs_cons (plainObj_wpAny_Assign_Attribute ?_)
  refine xldC (v := v) hn (by first | rfl | with_unfolding_all rfl | kernel_rfl) (xldC (v := .ref x0) hn (by first | rfl | with_unfolding_all rfl | kernel_rfl) ?_)
  refine set_plain X₁ (ox := excO C t0) (od := none) ⟨hx₁, rfl, rfl, trivial⟩ T.sa ?_
  refine exc_osa X₁ hx₁ hcl (show refsVE (.ref C :: bm) = true from hbm) rfl T.noN (fun h₃ tk₃ dx k₃ dn dne hx₃ hn₃ => ?_)
  show wpAny _ _ (execs _ _) _ _ _
  have z : s.heap.objs.size < h₁.objs.size := hn.lt
  exact wpAny_execs_nil (hq h₃ tk₃ dx ⟨fun b o hb e => k₃ b o hb (k b o e), hx₃, Nat.le_of_lt (Nat.lt_of_lt_of_le z dn), dne, hn₃⟩)
theorem made_limit (T : ExI K mg x "limit" C) : MadeR K mg x "limit" C := fun {prog w A R s v} X hlim hroom hq => by
  obtain ⟨nm, q, N, bs, bm, sn, sub, ab, col, dd, k0, k1, k2, k3, k5, hC, hbm⟩ := T.cls
  obtain ⟨fI, iC, tC, hfI⟩ := T.fI
  obtain ⟨hp, g, dr, tk, os⟩ := s
  have k : ∀ b o, hp.get? b = some o → ((hp.push (kdv_tup [v])).push (excO C hp.objs.size)).get? b = some o := fun b o e => Heap.get?_push_of_some _ (Heap.get?_push_of_some _ e)
  have hget : ((hp.push (kdv_tup [v])).push (excO C hp.objs.size)).get? (hp.objs.size + 1) = some (excO C hp.objs.size) := by heap_get
  have hnx : K.lookup (hp.objs.size + 1) = none := by
    cases e : K.lookup (hp.objs.size + 1) with
    | none => rfl
    | some o =>
      have z : hp.get? (hp.objs.size + 1) = some o := X _ _ e
      exact absurd (Nat.lt_of_succ_lt (Heap.lt_size z)) (Nat.lt_irrefl _)
  refine call_own F.excBase_ValueError (fun X => refsVE_contains X bm hbm) (X _ _ hC) (looks_findIn X iC) (fun self => bind_fn X self tC) (x_one_size v) ?_
  refine init_limit (s := ⟨(hp.push (kdv_tup [v])).push (excO C hp.objs.size), g, dr, tk, os⟩) (E := fun _ _ => True) T hfI (X.keeps k) (hlim.keeps k) hget hnx ?_ fun h' tk' dx ⟨k', hx, dn, dne, hns⟩ => ?_
  · show A.depth + 1 < recursionLimit
    exact hroom
  · have old : ∀ b o, hp.get? b = some o → h'.get? b = some o := fun b o e => k' b o (Nat.ne_of_lt (Nat.lt_succ_of_lt (Heap.lt_size e))) (k b o e)
    have z : hp.objs.size + 1 + 1 ≤ dx := by
      first
        | (simpa only [Heap.size_push] using dn)
        | exact dn
        | (have q := dn; rw [Heap.size_push, Heap.size_push] at q; exact q)
    exact ⟨rfl, hq h' tk' (hp.objs.size + 1) dx ⟨old, Nat.le_succ _, ⟨_, _, hx, rfl, rfl, rfl, rfl, rfl, (by decide : 4 < 6)⟩, Nat.le_trans (Nat.le_trans (Nat.le_succ _) (Nat.le_succ _)) z, dne, hns⟩⟩
end
section
variable {K : Frag} {mg : Str → Option Value} {x : Str} {C : Addr}
theorem init_value {prog : Program} {w : World} {A : Around} {E : Value → Shared → Prop} {R : Result → Shared → Prop} {s : Shared} (T : ExI K mg x "value" C) {x0 t0 fI : Addr} {v : Value} (hfI : ∃ (oc : Value) (od : Option Addr) (doc pm : Value) (an : Option Addr) (cdv ct : Value) (osl : Array (Option Value)) (qual : Str) (p1 p2 q1 q2 q3 q4 : Pos),
    K.lookup fI = some ⟨oc, od, .func (fnOf "__init__" qual (iA "value" p1 p2) (iB "value" q1 q2 q3 q4) (iS "value") .none .none doc pm an cdv ct), osl⟩ ∧ codeIn K cdv qual = true) (X : K.In s.heap) (hlim : s.heap.NoLimit) (hx : s.heap.get? x0 = some (excO C t0)) (hnx : K.lookup x0 = none) (hroom : A.depth < recursionLimit)
    (hq : ∀ h' tk dx, InitEnd "value" s.heap h' x0 C dx t0 v → R (.ok (.ret .none)) { s with heap := h', toks := tk }) :
    codeAny (model prog w) A (.call (.ref fI) ⟨[.ref x0, v], []⟩) R s := by
  obtain ⟨oc, od, doc, pm, an, cdv, ct, osl, qual, p1, p2, q1, q2, q3, q4, ho, hcd⟩ := hfI
  obtain ⟨nm, q, N, bs, bm, sn, sub, ab, col, dd, k0, k1, k2, k3, k5, hC, hbm⟩ := T.cls
  have hcl : clsIn K C = some { name := nm, bases := bs, mro := .ref C :: bm, ns := N, qualname := q, hasDict := true, slotNames := sn, subclasses := sub, abstract := ab, collection := col, hasDel := false } := by unfold clsIn; rw [hC] <;> rfl
  refine Att.call_fn (binds := [("self", .ref x0), ("value", v)]) X hlim ho hcd hroom (BindsTo.of_eq (by first | rfl | with_unfolding_all rfl)) (by first | rfl | decide | with_unfolding_all rfl) (fun s₁ IC => ?_) rfl rfl rfl
  obtain ⟨h₁, tk₁, rfl⟩ := IC.toInCall.same
  have k : ∀ b o, s.heap.get? b = some o → h₁.get? b = some o := IC.toInCall.keep
  have hn := IC.toInCall.ns
  have hxL : s.heap.objs.size ≠ x0 := Nat.ne_of_gt (Heap.lt_size hx)
  have X₁ : K.In h₁ := X.keeps k
  have hx₁ := k _ _ hx
  show wpAny _ _ (execs _ _) _ _ _
  refine wpAny_execs_cons (plainObj_wpAny_Assign_Attribute ?_)
  refine xldC (v := v) hn (by first | rfl | with_unfolding_all rfl | kernel_rfl) (xldC (v := .ref x0) hn (by first | rfl | with_unfolding_all rfl | kernel_rfl) ?_)
  refine set_plain X₁ (ox := excO C t0) (od := none) ⟨hx₁, rfl, rfl, trivial⟩ T.sa ?_
  refine exc_osa X₁ hx₁ hcl (show refsVE (.ref C :: bm) = true from hbm) rfl T.noN (fun h₃ tk₃ dx k₃ dn dne hx₃ hn₃ => ?_)
  show wpAny _ _ (execs _ _) _ _ _
  have z : s.heap.objs.size < h₁.objs.size := hn.lt
  exact wpAny_execs_nil (hq h₃ tk₃ dx ⟨fun b o hb e => k₃ b o hb (k b o e), hx₃, Nat.le_of_lt (Nat.lt_of_lt_of_le z dn), dne, hn₃⟩)
theorem made_value (T : ExI K mg x "value" C) : MadeR K mg x "value" C := fun {prog w A R s v} X hlim hroom hq => by
  obtain ⟨nm, q, N, bs, bm, sn, sub, ab, col, dd, k0, k1, k2, k3, k5, hC, hbm⟩ := T.cls
  obtain ⟨fI, iC, tC, hfI⟩ := T.fI
  obtain ⟨hp, g, dr, tk, os⟩ := s
  have k : ∀ b o, hp.get? b = some o → ((hp.push (kdv_tup [v])).push (excO C hp.objs.size)).get? b = some o := fun b o e => Heap.get?_push_of_some _ (Heap.get?_push_of_some _ e)
  have hget : ((hp.push (kdv_tup [v])).push (excO C hp.objs.size)).get? (hp.objs.size + 1) = some (excO C hp.objs.size) := by heap_get
  have hnx : K.lookup (hp.objs.size + 1) = none := by
    cases e : K.lookup (hp.objs.size + 1) with
    | none => rfl
    | some o =>
      have z : hp.get? (hp.objs.size + 1) = some o := X _ _ e
      exact absurd (Nat.lt_of_succ_lt (Heap.lt_size z)) (Nat.lt_irrefl _)
  refine call_own F.excBase_ValueError (fun X => refsVE_contains X bm hbm) (X _ _ hC) (looks_findIn X iC) (fun self => bind_fn X self tC) (x_one_size v) ?_
  refine init_value (s := ⟨(hp.push (kdv_tup [v])).push (excO C hp.objs.size), g, dr, tk, os⟩) (E := fun _ _ => True) T hfI (X.keeps k) (hlim.keeps k) hget hnx ?_ fun h' tk' dx ⟨k', hx, dn, dne, hns⟩ => ?_
  · show A.depth + 1 < recursionLimit
    exact hroom
  · have old : ∀ b o, hp.get? b = some o → h'.get? b = some o := fun b o e => k' b o (Nat.ne_of_lt (Nat.lt_succ_of_lt (Heap.lt_size e))) (k b o e)
    have z : hp.objs.size + 1 + 1 ≤ dx := by
      first
        | (simpa only [Heap.size_push] using dn)
        | exact dn
        | (have q := dn; rw [Heap.size_push, Heap.size_push] at q; exact q)
    exact ⟨rfl, hq h' tk' (hp.objs.size + 1) dx ⟨old, Nat.le_succ _, ⟨_, _, hx, rfl, rfl, rfl, rfl, rfl, (by decide : 4 < 6)⟩, Nat.le_trans (Nat.le_trans (Nat.le_succ _) (Nat.le_succ _)) z, dne, hns⟩⟩
end
section
variable {K : Frag} {mg : Str → Option Value} {x : Str} {C : Addr}
theorem init_seat {prog : Program} {w : World} {A : Around} {E : Value → Shared → Prop} {R : Result → Shared → Prop} {s : Shared} (T : ExI K mg x "seat" C) {x0 t0 fI : Addr} {v : Value} (hfI : ∃ (oc : Value) (od : Option Addr) (doc pm : Value) (an : Option Addr) (cdv ct : Value) (osl : Array (Option Value)) (qual : Str) (p1 p2 q1 q2 q3 q4 : Pos),
    K.lookup fI = some ⟨oc, od, .func (fnOf "__init__" qual (iA "seat" p1 p2) (iB "seat" q1 q2 q3 q4) (iS "seat") .none .none doc pm an cdv ct), osl⟩ ∧ codeIn K cdv qual = true) (X : K.In s.heap) (hlim : s.heap.NoLimit) (hx : s.heap.get? x0 = some (excO C t0)) (hnx : K.lookup x0 = none) (hroom : A.depth < recursionLimit)
    (hq : ∀ h' tk dx, InitEnd "seat" s.heap h' x0 C dx t0 v → R (.ok (.ret .none)) { s with heap := h', toks := tk }) :
    codeAny (model prog w) A (.call (.ref fI) ⟨[.ref x0, v], []⟩) R s := by
  obtain ⟨oc, od, doc, pm, an, cdv, ct, osl, qual, p1, p2, q1, q2, q3, q4, ho, hcd⟩ := hfI
  obtain ⟨nm, q, N, bs, bm, sn, sub, ab, col, dd, k0, k1, k2, k3, k5, hC, hbm⟩ := T.cls
  have hcl : clsIn K C = some { name := nm, bases := bs, mro := .ref C :: bm, ns := N, qualname := q, hasDict := true, slotNames := sn, subclasses := sub, abstract := ab, collection := col, hasDel := false } := by unfold clsIn; rw [hC] <;> rfl
  refine Att.call_fn (binds := [("self", .ref x0), ("seat", v)]) X hlim ho hcd hroom (BindsTo.of_eq (by first | rfl | with_unfolding_all rfl)) (by first | rfl | decide | with_unfolding_all rfl) (fun s₁ IC => ?_) rfl rfl rfl
  obtain ⟨h₁, tk₁, rfl⟩ := IC.toInCall.same
  have k : ∀ b o, s.heap.get? b = some o → h₁.get? b = some o := IC.toInCall.keep
  have hn := IC.toInCall.ns
  have hxL : s.heap.objs.size ≠ x0 := Nat.ne_of_gt (Heap.lt_size hx)
  have X₁ : K.In h₁ := X.keeps k
  have hx₁ := k _ _ hx
  show wpAny _ _ (execs _ _) _ _ _
  refine wpAny_execs_cons (plainObj_wpAny_Assign_Attribute ?_)
  refine xldC (v := v) hn (by first | rfl | with_unfolding_all rfl | kernel_rfl) (xldC (v := .ref x0) hn (by first | rfl | with_unfolding_all rfl | kernel_rfl) ?_)
  refine set_plain X₁ (ox := excO C t0) (od := none) ⟨hx₁, rfl, rfl, trivial⟩ T.sa ?_
  refine exc_osa X₁ hx₁ hcl (show refsVE (.ref C :: bm) = true from hbm) rfl T.noN (fun h₃ tk₃ dx k₃ dn dne hx₃ hn₃ => ?_)
  show wpAny _ _ (execs _ _) _ _ _
  have z : s.heap.objs.size < h₁.objs.size := hn.lt
  exact wpAny_execs_nil (hq h₃ tk₃ dx ⟨fun b o hb e => k₃ b o hb (k b o e), hx₃, Nat.le_of_lt (Nat.lt_of_lt_of_le z dn), dne, hn₃⟩)
theorem made_seat (T : ExI K mg x "seat" C) : MadeR K mg x "seat" C := fun {prog w A R s v} X hlim hroom hq => by
  obtain ⟨nm, q, N, bs, bm, sn, sub, ab, col, dd, k0, k1, k2, k3, k5, hC, hbm⟩ := T.cls
  obtain ⟨fI, iC, tC, hfI⟩ := T.fI
  obtain ⟨hp, g, dr, tk, os⟩ := s
  have k : ∀ b o, hp.get? b = some o → ((hp.push (kdv_tup [v])).push (excO C hp.objs.size)).get? b = some o := fun b o e => Heap.get?_push_of_some _ (Heap.get?_push_of_some _ e)
  have hget : ((hp.push (kdv_tup [v])).push (excO C hp.objs.size)).get? (hp.objs.size + 1) = some (excO C hp.objs.size) := by heap_get
  have hnx : K.lookup (hp.objs.size + 1) = none := by
    cases e : K.lookup (hp.objs.size + 1) with
    | none => rfl
    | some o =>
      have z : hp.get? (hp.objs.size + 1) = some o := X _ _ e
      exact absurd (Nat.lt_of_succ_lt (Heap.lt_size z)) (Nat.lt_irrefl _)
  refine call_own F.excBase_ValueError (fun X => refsVE_contains X bm hbm) (X _ _ hC) (looks_findIn X iC) (fun self => bind_fn X self tC) (x_one_size v) ?_
  refine init_seat (s := ⟨(hp.push (kdv_tup [v])).push (excO C hp.objs.size), g, dr, tk, os⟩) (E := fun _ _ => True) T hfI (X.keeps k) (hlim.keeps k) hget hnx ?_ fun h' tk' dx ⟨k', hx, dn, dne, hns⟩ => ?_
  · show A.depth + 1 < recursionLimit
    exact hroom
  · have old : ∀ b o, hp.get? b = some o → h'.get? b = some o := fun b o e => k' b o (Nat.ne_of_lt (Nat.lt_succ_of_lt (Heap.lt_size e))) (k b o e)
    have z : hp.objs.size + 1 + 1 ≤ dx := by
      first
        | (simpa only [Heap.size_push] using dn)
        | exact dn
        | (have q := dn; rw [Heap.size_push, Heap.size_push] at q; exact q)
    exact ⟨rfl, hq h' tk' (hp.objs.size + 1) dx ⟨old, Nat.le_succ _, ⟨_, _, hx, rfl, rfl, rfl, rfl, rfl, (by decide : 4 < 6)⟩, Nat.le_trans (Nat.le_trans (Nat.le_succ _) (Nat.le_succ _)) z, dne, hns⟩⟩
end
section
variable {K : Frag} {mg : Str → Option Value} {x : Str} {C : Addr}
theorem init_index {prog : Program} {w : World} {A : Around} {E : Value → Shared → Prop} {R : Result → Shared → Prop} {s : Shared} (T : ExI K mg x "index" C) {x0 t0 fI : Addr} {v : Value} (hfI : ∃ (oc : Value) (od : Option Addr) (doc pm : Value) (an : Option Addr) (cdv ct : Value) (osl : Array (Option Value)) (qual : Str) (p1 p2 q1 q2 q3 q4 : Pos),
    K.lookup fI = some ⟨oc, od, .func (fnOf "__init__" qual (iA "index" p1 p2) (iB "index" q1 q2 q3 q4) (iS "index") .none .none doc pm an cdv ct), osl⟩ ∧ codeIn K cdv qual = true) (X : K.In s.heap) (hlim : s.heap.NoLimit) (hx : s.heap.get? x0 = some (excO C t0)) (hnx : K.lookup x0 = none) (hroom : A.depth < recursionLimit)
    (hq : ∀ h' tk dx, InitEnd "index" s.heap h' x0 C dx t0 v → R (.ok (.ret .none)) { s with heap := h', toks := tk }) :
    codeAny (model prog w) A (.call (.ref fI) ⟨[.ref x0, v], []⟩) R s := by
  obtain ⟨oc, od, doc, pm, an, cdv, ct, osl, qual, p1, p2, q1, q2, q3, q4, ho, hcd⟩ := hfI
  obtain ⟨nm, q, N, bs, bm, sn, sub, ab, col, dd, k0, k1, k2, k3, k5, hC, hbm⟩ := T.cls
  have hcl : clsIn K C = some { name := nm, bases := bs, mro := .ref C :: bm, ns := N, qualname := q, hasDict := true, slotNames := sn, subclasses := sub, abstract := ab, collection := col, hasDel := false } := by unfold clsIn; rw [hC] <;> rfl
  refine Att.call_fn (binds := [("self", .ref x0), ("index", v)]) X hlim ho hcd hroom (BindsTo.of_eq (by first | rfl | with_unfolding_all rfl)) (by first | rfl | decide | with_unfolding_all rfl) (fun s₁ IC => ?_) rfl rfl rfl
  obtain ⟨h₁, tk₁, rfl⟩ := IC.toInCall.same
  have k : ∀ b o, s.heap.get? b = some o → h₁.get? b = some o := IC.toInCall.keep
  have hn := IC.toInCall.ns
  have hxL : s.heap.objs.size ≠ x0 := Nat.ne_of_gt (Heap.lt_size hx)
  have X₁ : K.In h₁ := X.keeps k
  have hx₁ := k _ _ hx
  show wpAny _ _ (execs _ _) _ _ _
  refine wpAny_execs_cons (plainObj_wpAny_Assign_Attribute ?_)
  refine xldC (v := v) hn (by first | rfl | with_unfolding_all rfl | kernel_rfl) (xldC (v := .ref x0) hn (by first | rfl | with_unfolding_all rfl | kernel_rfl) ?_)
  refine set_plain X₁ (ox := excO C t0) (od := none) ⟨hx₁, rfl, rfl, trivial⟩ T.sa ?_
  refine exc_osa X₁ hx₁ hcl (show refsVE (.ref C :: bm) = true from hbm) rfl T.noN (fun h₃ tk₃ dx k₃ dn dne hx₃ hn₃ => ?_)
  show wpAny _ _ (execs _ _) _ _ _
  have z : s.heap.objs.size < h₁.objs.size := hn.lt
  exact wpAny_execs_nil (hq h₃ tk₃ dx ⟨fun b o hb e => k₃ b o hb (k b o e), hx₃, Nat.le_of_lt (Nat.lt_of_lt_of_le z dn), dne, hn₃⟩)
theorem made_index (T : ExI K mg x "index" C) : MadeR K mg x "index" C := fun {prog w A R s v} X hlim hroom hq => by
  obtain ⟨nm, q, N, bs, bm, sn, sub, ab, col, dd, k0, k1, k2, k3, k5, hC, hbm⟩ := T.cls
  obtain ⟨fI, iC, tC, hfI⟩ := T.fI
  obtain ⟨hp, g, dr, tk, os⟩ := s
  have k : ∀ b o, hp.get? b = some o → ((hp.push (kdv_tup [v])).push (excO C hp.objs.size)).get? b = some o := fun b o e => Heap.get?_push_of_some _ (Heap.get?_push_of_some _ e)
  have hget : ((hp.push (kdv_tup [v])).push (excO C hp.objs.size)).get? (hp.objs.size + 1) = some (excO C hp.objs.size) := by heap_get
  have hnx : K.lookup (hp.objs.size + 1) = none := by
    cases e : K.lookup (hp.objs.size + 1) with
    | none => rfl
    | some o =>
      have z : hp.get? (hp.objs.size + 1) = some o := X _ _ e
      exact absurd (Nat.lt_of_succ_lt (Heap.lt_size z)) (Nat.lt_irrefl _)
  refine call_own F.excBase_ValueError (fun X => refsVE_contains X bm hbm) (X _ _ hC) (looks_findIn X iC) (fun self => bind_fn X self tC) (x_one_size v) ?_
  refine init_index (s := ⟨(hp.push (kdv_tup [v])).push (excO C hp.objs.size), g, dr, tk, os⟩) (E := fun _ _ => True) T hfI (X.keeps k) (hlim.keeps k) hget hnx ?_ fun h' tk' dx ⟨k', hx, dn, dne, hns⟩ => ?_
  · show A.depth + 1 < recursionLimit
    exact hroom
  · have old : ∀ b o, hp.get? b = some o → h'.get? b = some o := fun b o e => k' b o (Nat.ne_of_lt (Nat.lt_succ_of_lt (Heap.lt_size e))) (k b o e)
    have z : hp.objs.size + 1 + 1 ≤ dx := by
      first
        | (simpa only [Heap.size_push] using dn)
        | exact dn
        | (have q := dn; rw [Heap.size_push, Heap.size_push] at q; exact q)
    exact ⟨rfl, hq h' tk' (hp.objs.size + 1) dx ⟨old, Nat.le_succ _, ⟨_, _, hx, rfl, rfl, rfl, rfl, rfl, (by decide : 4 < 6)⟩, Nat.le_trans (Nat.le_trans (Nat.le_succ _) (Nat.le_succ _)) z, dne, hns⟩⟩
end
end DL
namespace DL
open PySem PySem.Spec PyProof.Rows L2
section
variable {X : Cx} {W : WX} {C : Addr} {x fn : Str} {p pos pos2 : Pos}
def dRaise1 (C : Addr) (fn : Str) (de : DE) : DS := fun D ρ μ => de ρ μ (fun d μ1 => D.xc ρ ⟨C, [(fn, d)]⟩ μ1) (D.xc ρ)
end
end DL

namespace DL
open PySem PySem.Spec PyProof.Rows L2
abbrev rowD (s : Int) (ts : List Int) : D := .tup [.int s, .tup (ts.map D.int)]
abbrev gapD (g : Int × Int) : D := .tup [.int g.1, .int g.2]
def gapsF : Int → List Int → List (Int × Int)
  | _, [] => []
  | b, x :: xs => if b < x then (b, x - b) :: gapsF (x + 1) xs else gapsF (x + 1) xs
structure RowOk (s : Int) (ts : List Int) : Prop where
  one : 1 ≤ s
  up : ts.Pairwise (· < ·)
  lim : ∀ t ∈ ts, 0 ≤ t ∧ t < s
abbrev gapLD (g : Int × Int) : D := .lst [.int g.1, .int g.2]
theorem okNL_gaps {k : Nat} {xs : List (Int × Int)} : okNL (k + 1) (xs.map gapD) = true := okNL_map fun x _ => by simp [okN, okNL]
theorem okNL_gapsL {k : Nat} {xs : List (Int × Int)} : okNL (k + 1) (xs.map gapLD) = true := okNL_map fun x _ => by simp [okN, okNL]
theorem eqvL_snoc {a : List D} {x : D} : eqvL (a ++ [x]) [] = false := by
  cases a <;> simp [eqvL_cn]
theorem eqvL_self {a : List D} (h : okNL 49 a = true) : eqvL a a = true := by
  have := eqv_self (d := .lst a) (by simpa [okN] using h)
  rwa [eqv_lst] at this
theorem eqvL_gaps {xs ys : List (Int × Int)} : eqvL (xs.map gapD) (ys.map gapD) = (xs == ys) := eqvL_map fun x _ y _ => by
  simp only [gapD, eqv_tup, eqvL_cc, eqvL_nil, eqv_int, Bool.and_true]
  rfl
theorem gapsF_pos : ∀ (xs : List Int) (b : Int), ∀ g ∈ gapsF b xs, 0 < g.2
  | [], _, _, h => by cases h
  | x :: xs, b, g, h => by
    unfold gapsF at h
    split at h
    · rcases List.mem_cons.mp h with rfl | h
      · show 0 < x - b
        omega
      · exact gapsF_pos xs (x + 1) g h
    · exact gapsF_pos xs (x + 1) g h
theorem gapsF_ge : ∀ (xs : List Int) (b : Int), xs.Pairwise (· < ·) → (∀ x ∈ xs, b ≤ x) → ∀ g ∈ gapsF b xs, b ≤ g.1
  | [], _, _, _, _, h => by cases h
  | x :: xs, b, hp, hb, g, h => by
    obtain ⟨p1, p2⟩ := List.pairwise_cons.mp hp
    have hx := hb x List.mem_cons_self
    have ih := gapsF_ge xs (x + 1) p2 (fun y hy => by have := p1 y hy; omega)
    unfold gapsF at h
    split at h
    · rcases List.mem_cons.mp h with rfl | h
      · exact Int.le_refl _
      · have := ih g h
        omega
    · have := ih g h
      omega
theorem gapsF_end : ∀ (xs : List Int) (b : Int), ∀ g ∈ gapsF b xs, g.1 + g.2 ∈ xs
  | [], _, _, h => by cases h
  | x :: xs, b, g, h => by
    unfold gapsF at h
    split at h
    · rcases List.mem_cons.mp h with rfl | h
      · show b + (x - b) ∈ _
        rw [show b + (x - b) = x by omega]
        exact List.mem_cons_self
      · exact List.mem_cons_of_mem _ (gapsF_end xs (x + 1) g h)
    · exact List.mem_cons_of_mem _ (gapsF_end xs (x + 1) g h)
theorem row_up {s : Int} {ts : List Int} (R : RowOk s ts) : (ts ++ [s]).Pairwise (· < ·) ∧ ∀ x ∈ ts ++ [s], 0 ≤ x := by
  refine ⟨List.pairwise_append.mpr ⟨R.up, List.pairwise_singleton _ _, fun a ha b hb => ?_⟩, fun x hx => ?_⟩
  · rw [List.mem_singleton.mp hb]
    exact (R.lim a ha).2
  · rcases List.mem_append.mp hx with h | h
    · exact (R.lim x h).1
    · rw [List.mem_singleton.mp h]
      have := R.one
      omega
theorem gapsF_cons {b x : Int} {xs : List Int} : gapsF b (x :: xs) = if b < x then (b, x - b) :: gapsF (x + 1) xs else gapsF (x + 1) xs := rfl
def insI (v : Int) : List Int → List Int
  | [] => [v]
  | x :: xs => if v < x then v :: x :: xs else x :: insI v xs
theorem mem_ins {v y : Int} : ∀ {xs : List Int}, y ∈ insI v xs ↔ y = v ∨ y ∈ xs
  | [] => by simp [insI]
  | x :: xs => by
    unfold insI
    split
    · simp
    · simp only [List.mem_cons, mem_ins (xs := xs)]
      constructor <;> (rintro (h | h | h) <;> simp [h])
structure Fresh (s : Int) (ts vs : List Int) : Prop where
  nd : vs.Nodup
  new : ∀ v ∈ vs, v ∉ ts
  lim : ∀ v ∈ vs, 0 ≤ v ∧ v < s
theorem Fresh.tail {s v : Int} {ts vs : List Int} (h : Fresh s ts (v :: vs)) : Fresh s (insI v ts) vs := by
  have nd := List.nodup_cons.mp h.nd
  refine ⟨nd.2, fun w hw hm => ?_, fun w hw => h.lim w (List.mem_cons_of_mem _ hw)⟩
  rcases mem_ins.mp hm with rfl | hm
  · exact nd.1 hw
  · exact h.new w (List.mem_cons_of_mem _ hw) hm
end DL

namespace DL
open PySem PySem.Spec PyProof.Rows L2
def zipD (xs ys : List D) : List D := List.zipWith (fun x y => D.tup [x, y]) xs ys
theorem zipD_get {xs ys : List D} {i : Nat} {d : D} (h : (zipD xs ys)[i]? = some d) : ∃ x y, xs[i]? = some x ∧ ys[i]? = some y ∧ d = .tup [x, y] := by
  unfold zipD at h
  rw [List.getElem?_zipWith] at h
  split at h
  · rename_i x y h1 h2
    exact ⟨x, y, h1, h2, (Option.some.inj h).symm⟩
  · cases h
theorem zipD_len {xs ys : List D} : (zipD xs ys).length = min xs.length ys.length := by simp [zipD]
section
variable {X : Cx} {W : WX} {tg e e2 : Expr} {da : DA} {p pos : Pos} {elts : List Expr} {kk : Nat} {tpos : Pos}
def diZ (a : DA) : DI := fun ρ μ Q X => a ρ μ (fun ds μ1 => match ds with
  | [.lst xs, .lst ys] => Q (zipD xs ys) μ1
  | [.tup xs, .tup ys] => Q (zipD xs ys) μ1
  | _ => False) X
def enumD (xs : List D) : List D := zipD ((List.range xs.length).map fun i : Nat => D.int (i : Int)) xs
theorem enumD_get {xs : List D} {i : Nat} {d : D} (h : (enumD xs)[i]? = some d) : ∃ x, xs[i]? = some x ∧ d = .tup [.int (i : Nat), x] := by
  obtain ⟨a, x, h1, h2, rfl⟩ := zipD_get h
  have hi : i < xs.length := (List.getElem?_eq_some_iff.mp h2).1
  rw [List.getElem?_map, List.getElem?_range hi] at h1
  cases h1
  exact ⟨x, h2, rfl⟩
theorem enumD_len {xs : List D} : (enumD xs).length = xs.length := by
  unfold enumD
  rw [zipD_len]
  simp
theorem walk_enumL {K : PySem.W.Frag} {F : Hp} {a : Addr} {vs : List V} {xs : List D} (h : F a = some (.lst vs)) (z : FzL F xs vs) : Walk (Ite K a) F (enumD xs) := fun F2 μ2 H2 e W => by
  have hH := W.ext _ _ (e _ _ h)
  refine ⟨fun i hi => ?_, fun i d x H3 hd hy => ?_, ⟨vs, .of hH, by rw [enumD_len, z.length]; exact Nat.le_refl _⟩⟩
  · rw [enumD_len] at hi
    obtain ⟨v, hv, _⟩ := z.get (List.getElem?_eq_getElem hi)
    exact ⟨vs, v, .of hH, hv⟩
  · obtain ⟨T, x', rfl, hT, rfl, q1⟩ := hy
    obtain ⟨dx, h1, rfl⟩ := enumD_get hd
    obtain ⟨v, hv, zv⟩ := z.get h1
    have e1 := q1 vs (.of hH)
    rw [hv] at e1
    cases e1
    obtain ⟨g, W', zz⟩ := new_tup W (fzl_cons (fz_int (i := (i : Nat))) (fzl_cons (zv.mono e) fzl_nil)) hT
    exact ⟨_, g, W', zz⟩
def diE (a : DA) : DI := fun ρ μ Q X => a ρ μ (fun ds μ1 => match ds with
  | [.lst xs] => Q (enumD xs) μ1
  | _ => False) X
theorem i_enum (hm : X.mg "enumerate" = none) (ha : PAD X W [e] da) (hg : Gl X "enumerate" := by rfl) (hs : starEach [e] X.env = [(false, eval e X.env)] := by rfl) :
    PID X W (.Tuple elts kk tpos) (.Call (.Name "enumerate" p) [e] [] pos) (diE da) := by
  obtain ⟨ta, a1, a2⟩ := ha.ex
  refine ⟨_, pi_enum hg hm a1 hs, fun {B F σ H ρ μ Qd Xd R} S q gx k => a2 S q gx fun vs F' H' ds μ' g S' z q' => ?_⟩
  split at q'
  · rename_i xs
    obtain ⟨v, r, rfl, z1, z⟩ := fzl_inv z
    rw [fzl_inv0 z]
    unfold Fz at z1
    obtain ⟨a, vs, rfl, h1, y1⟩ := z1
    exact ⟨a, vs, rfl, .of (S'.wd.ext _ _ h1), k _ F' H' _ μ' g S' (walk_enumL h1 y1) q'⟩
  · exact q'.elim
end
def zpP (ds : List D) (Q : List D → Prop) : Prop := match ds with
  | [.lst xs, .lst ys] => Q (zipD xs ys)
  | [.tup xs, .tup ys] => Q (zipD xs ys)
  | _ => False
section
variable {ρ : List Slot} {μ : Mu} {Q : List D → Mu → Prop} {X : DXQ} {a : DA} {xs ys : List D} {R : List D → Prop}
theorem u_diZ : diZ a ρ μ Q X = a ρ μ (fun ds μ1 => zpP ds fun l => Q l μ1) X := by
  unfold diZ zpP
  congr 1
theorem zpP_l : zpP [.lst xs, .lst ys] R = R (zipD xs ys) := rfl
theorem zpP_t : zpP [.tup xs, .tup ys] R = R (zipD xs ys) := rfl
def enP (ds : List D) (Q : List D → Prop) : Prop := match ds with
  | [.lst xs] => Q (enumD xs)
  | _ => False
theorem u_diE : diE a ρ μ Q X = a ρ μ (fun ds μ1 => enP ds fun l => Q l μ1) X := by
  unfold diE enP
  congr 1
theorem enP_l : enP [.lst xs] R = R (enumD xs) := rfl
end
end DL

namespace DL
open PySem PySem.Spec PyProof.Rows L2
section
variable {X : Cx} {W : WX} {a b : Expr} {da db : DE} {pos : Pos}
def dIsB : DR2 := fun x y Q => match x, y with
  | .bl i, .bl j => Q (.bl (i == j))
  | _, _ => False
def dNotB : DR2 := fun x y Q => match x, y with
  | .bl i, .bl j => Q (.bl (i != j))
  | _, _ => False
theorem isB_b {i j : Bool} {Q : D → Prop} : dIsB (.bl i) (.bl j) Q = Q (.bl (i == j)) := rfl
theorem notB_b {i j : Bool} {Q : D → Prop} : dNotB (.bl i) (.bl j) Q = Q (.bl (i != j)) := rfl
end
section
variable {X : Cx}
end
def isBl : D → Bool
  | .bl _ => true
  | _ => false
def cBl (k : Bool) : List D → Int
  | [] => 0
  | .bl b :: ds => (if b == k then 1 else 0) + cBl k ds
  | _ :: ds => cBl k ds
def cntP (ds : List D) (x : D) (Q : Int → Prop) : Prop := ∃ k, x = .bl k ∧ ds.all isBl = true ∧ Q (cBl k ds)
theorem cntP_l {ds : List D} {k : Bool} {Q : Int → Prop} (h : ds.all isBl = true) : cntP ds (.bl k) Q = Q (cBl k ds) :=
  propext ⟨fun ⟨_, e2, _, q⟩ => by cases e2; exact q, fun q => ⟨k, rfl, h, q⟩⟩
theorem cBl_n {k : Bool} : cBl k [] = 0 := rfl
theorem cBl_c {k b : Bool} {ds : List D} : cBl k (.bl b :: ds) = (if b == k then 1 else 0) + cBl k ds := rfl
theorem isBl_b {b : Bool} : isBl (.bl b) = true := rfl
def dCntB (o e : DE) : DE := fun ρ μ Q X => o ρ μ (fun d μ1 => liP d fun ds => e ρ μ1 (fun x μ2 => cntP ds x fun n => Q (.int n) μ2) X) X
section
variable {X : Cx} {W : WX} {o e : Expr} {de dx : DE} {apos cpos : Pos}
end
def ssP2 (ss : List Slot) (N : Slot → Slot → Prop) : Prop := match ss with
  | [s, t] => N s t
  | _ => False
theorem ssP2_2 {s t : Slot} {N : Slot → Slot → Prop} : ssP2 [s, t] N = N s t := rfl
def ssP3 (ss : List Slot) (N : Slot → Slot → Slot → Prop) : Prop := match ss with
  | [s, t, u] => N s t u
  | _ => False
theorem ssP3_3 {s t u : Slot} {N : Slot → Slot → Slot → Prop} : ssP3 [s, t, u] N = N s t u := rfl
theorem u_parS {i j : Nat} {a : DSl} {Dd : DEnds} {ρ : List Slot} {μ : Mu} : dParS i j a Dd ρ μ = a ρ μ (fun ss μ1 => ssP2 ss fun s t => Dd.nx ((ρ.set i s).set j t) μ1) (Dd.xc ρ) := rfl
theorem u_parS3 {i j l : Nat} {a : DSl} {Dd : DEnds} {ρ : List Slot} {μ : Mu} : dParS3 i j l a Dd ρ μ = a ρ μ (fun ss μ1 => ssP3 ss fun s t u => Dd.nx (((ρ.set i s).set j t).set l u) μ1) (Dd.xc ρ) := rfl
def DEnds.nxt (D : DEnds) (f : List Slot → Mu → Prop) : DEnds := { D with nx := f }
section
variable {D : DEnds} {f : List Slot → Mu → Prop} {ρ : List Slot} {μ : Mu} {a b : DS}
theorem u_seq : dSeq a b D ρ μ = a (D.nxt (b D)) ρ μ := rfl
theorem nxt_nx : (D.nxt f).nx = f := rfl
theorem nxt_rt : (D.nxt f).rt = D.rt := rfl
theorem nxt_xc : (D.nxt f).xc = D.xc := rfl
theorem nxt_bk : (D.nxt f).bk = D.bk := rfl
theorem nxt_ct : (D.nxt f).ct = D.ct := rfl
end
theorem seq_gen {a b : DS} {D : DEnds} {ρ : List Slot} {μ : Mu} (h : ∀ N : List Slot → Mu → Prop, (∀ ρ' μ', b D ρ' μ' → N ρ' μ') → a (D.nxt N) ρ μ) : dSeq a b D ρ μ := h _ fun _ _ h => h
theorem eqOk_cn {x : D} {xs : List D} : eqOk (.lst (x :: xs)) (.lst []) = True := eq_true (.inr (.inr ⟨_, _, rfl, rfl, by simp⟩))
theorem eqs_there : True := by
  have _ := @dAsg.eq_1
  have _ := @dgName.eq_1
  have _ := @dC.eq_1
  have _ := @dIfS.eq_1
  have _ := @dOrT.eq_1
  have _ := @dAndT.eq_1
  have _ := @dNotT.eq_1
  have _ := @dOp.eq_1
  have _ := @dCX.eq_1
  have _ := @dCntB.eq_1
  have _ := @dXF.eq_1
  have _ := @dRaise0.eq_1
  have _ := @dRaise1.eq_1
  have _ := @dTryAs.eq_1
  have _ := @dTryOnly.eq_1
  have _ := @dTup.eq_1
  have _ := @dLst.eq_1
  have _ := @dCons.eq_1
  have _ := @dNil.eq_1
  have _ := @slO.eq_1
  have _ := @slD.eq_1
  have _ := @slNil.eq_1
  have _ := @doLst.eq_1
  have _ := @dFor.eq_1
  have _ := @diScr.eq_1
  have _ := @dRet.eq_1
  have _ := @dRetN.eq_1
  have _ := @dNext.eq_1
  have _ := @dCB.eq_1
  have _ := @dCall.eq_1
  have _ := @dFl.eq_1
  have _ := @dSum.eq_1
  have _ := @dAll.eq_1
  have _ := @dAny.eq_1
  have _ := @dMaxL.eq_1
  have _ := @dMinL.eq_1
  have _ := @dDrop.eq_1
  have _ := @dLc.eq_1
  have _ := @dYes.eq_1
  have _ := @dEq.eq_1
  have _ := @dNe.eq_1
  have _ := @dObj.eq_1
  have _ := @dSetO.eq_1
  have _ := @dIf.eq_1
  have _ := @dChain.eq_1
  have _ := @dSliceS.eq_1
  have _ := @lNone.eq_1
  have _ := @dSortedS.eq_1
  have _ := @dSorted.eq_1
  have _ := @dBrk.eq_1
  have _ := @dCnt.eq_1
  have _ := @dDGet.eq_1
  have _ := @dHPut.eq_1
  have _ := @dObjD.eq_1
  have _ := @doDisp.eq_1
  have _ := @doEmp.eq_1
  have _ := @dFlD.eq_1
  have _ := @dRevL.eq_1
  have _ := @spStar.eq_1
  exact True.intro
end DL

namespace DL
open PySem PySem.Spec PyProof.Rows L2
def isLT : D → Option Bool
  | .non => some false
  | .bl _ => some false
  | .int _ => some false
  | .str _ => some false
  | .tup _ => some true
  | .lst _ => some true
  | .dic _ => some false
  | _ => none
def dIsiLT : DC := fun ds Q => match ds with
  | [x, .tup [.ty a, .ty c]] => a = "list" ∧ c = "tuple" ∧ ∃ b, isLT x = some b ∧ Q (.bl b)
  | _ => False
section
variable {X : Cx} {W : WX} {p pos : Pos} {e f : Expr} {a : DA}
end
section
variable {Q : D → Prop}
theorem lt_int {b} : dIsiLT [.int b, .tup [.ty "list", .ty "tuple"]] Q = Q (.bl false) := by simp [dIsiLT, isLT]
end
section
variable {X : Cx} {W : WX} {a b : Expr} {da db : DE} {pos : Pos}
end
mutual
def okS : Nat → D → Bool
  | 0, _ => false
  | _ + 1, .non => true
  | _ + 1, .bl _ => true
  | _ + 1, .int _ => true
  | _ + 1, .str _ => true
  | n + 1, .tup xs => decide (xs.length ≤ 50000) && okSL n xs
  | n + 1, .lst xs => decide (xs.length ≤ 50000) && okSL n xs
  | _ + 1, .dic ks => decide ((ks.map (·.1)).Nodup) && ks.all fun p => flatD p.2
  | _ + 1, .ty _ => false
  | _ + 1, .ins _ _ => false
  | _ + 1, .obj _ => false
  | _ + 1, .scr _ _ => false
  | _ + 1, .xcp _ _ _ _ => false
def okSL : Nat → List D → Bool
  | _, [] => true
  | n, x :: xs => okS n x && okSL n xs
end
mutual
theorem okS_up1 : ∀ {n : Nat} {d : D}, okS n d = true → okS (n + 1) d = true
  | 0, d, h => by simp [okS] at h
  | n + 1, .tup xs, h => by
    simp only [okS, Bool.and_eq_true] at h ⊢
    exact ⟨h.1, okSL_up1 h.2⟩
  | n + 1, .lst xs, h => by
    simp only [okS, Bool.and_eq_true] at h ⊢
    exact ⟨h.1, okSL_up1 h.2⟩
  | n + 1, .dic xs, h => by simpa [okS] using h
  | n + 1, .non, h => by simp [okS]
  | n + 1, .bl _, h => by simp [okS]
  | n + 1, .int _, h => by simp [okS]
  | n + 1, .str _, h => by simp [okS]
  | n + 1, .ty _, h => by simp [okS] at h
  | n + 1, .obj _, h => by simp [okS] at h
  | n + 1, .scr _ _, h => by simp [okS] at h
  | n + 1, .xcp _ _ _ _, h => by simp [okS] at h
  | n + 1, .ins _ _, h => by simp [okS] at h
theorem okSL_up1 : ∀ {n : Nat} {ds : List D}, okSL n ds = true → okSL (n + 1) ds = true
  | n, [], h => by simp [okSL]
  | n, x :: xs, h => by
    simp only [okSL, Bool.and_eq_true] at h ⊢
    exact ⟨okS_up1 h.1, okSL_up1 h.2⟩
end
end DL

namespace DL
open PySem PySem.Spec PyProof.Rows L2
end DL

namespace DL
open PySem PySem.Spec PyProof.Rows L2
def capF (d w : Int) : Int := if 0 < (w + 1) / d - 1 then (w + 1) / d - 1 else 0
def capsF (s : Int) (ts : List Int) (d : Int) : List Int := (gapsF 0 (ts ++ [s])).map fun g => capF d g.2
def roomF (s : Int) (ts : List Int) (d : Int) : Int := (capsF s ts d).sum
theorem div_anti {d e n : Int} (h0 : 0 < d) (h : d ≤ e) (hn : 0 ≤ n) : n / e ≤ n / d := by
  have q0 : 0 ≤ n / e := Int.ediv_nonneg hn (by omega)
  have h1 : n / e * e ≤ n := Int.ediv_mul_le n (by omega)
  have h2 : n / e * d ≤ n / e * e := Int.mul_le_mul_of_nonneg_left h q0
  exact (Int.le_ediv_iff_mul_le h0).mpr (by omega)
theorem cap_anti {d e w : Int} (h0 : 0 < d) (h : d ≤ e) (hw : 0 ≤ w) : capF e w ≤ capF d w := by
  have := div_anti (n := w + 1) h0 h (by omega)
  unfold capF
  split <;> split <;> omega
theorem sum_map_le {α : Type} {f g : α → Int} : ∀ {l : List α}, (∀ x ∈ l, f x ≤ g x) → (l.map f).sum ≤ (l.map g).sum
  | [], _ => Int.le_refl _
  | x :: l, h => by
    have h1 := h x List.mem_cons_self
    have h2 := sum_map_le (f := f) (g := g) (l := l) fun y hy => h y (List.mem_cons_of_mem _ hy)
    simp only [List.map_cons, List.sum_cons]
    omega
theorem room_anti {s d e : Int} {ts : List Int} (h0 : 0 < d) (h : d ≤ e) : roomF s ts e ≤ roomF s ts d :=
  sum_map_le fun g hg => cap_anti h0 h (by have := gapsF_pos _ _ g hg; omega)
theorem sum_gaps {s : Int} : ∀ (ts : List Int) (b : Int), (ts ++ [s]).Pairwise (· < ·) → (∀ x ∈ ts ++ [s], b ≤ x) → ((gapsF b (ts ++ [s])).map fun g => g.2).sum = s - b - ts.length
  | [], b, _, h => by
    have := h s (by simp)
    rw [List.nil_append, gapsF_cons]
    split
    · simp [gapsF]
    · simp [gapsF]
      omega
  | x :: ts, b, u, h => by
    have hx := h x (by simp)
    obtain ⟨u1, u2⟩ := List.pairwise_cons.mp u
    have ih := sum_gaps ts (x + 1) u2 fun y hy => u1 y hy
    rw [List.cons_append, gapsF_cons]
    split
    · rw [List.map_cons, List.sum_cons, ih]
      simp
      omega
    · rw [ih]
      simp
      omega
theorem gap_le {s : Int} {ts : List Int} (R : RowOk s ts) {g : Int × Int} (hg : g ∈ gapsF 0 (ts ++ [s])) : 0 ≤ g.1 ∧ 0 < g.2 ∧ g.1 + g.2 ≤ s := by
  obtain ⟨u, p⟩ := row_up R
  have h1 := gapsF_ge _ _ u p g hg
  have h2 := gapsF_pos _ _ g hg
  have h3 := gapsF_end _ _ g hg
  refine ⟨h1, h2, ?_⟩
  rcases List.mem_append.mp h3 with h | h
  · have := (R.lim _ h).2
    omega
  · rw [List.mem_singleton.mp h]
    exact Int.le_refl _
theorem room_top {s d : Int} {ts : List Int} (R : RowOk s ts) (h : s < d) : roomF s ts d = 0 := by
  have s0 := R.one
  have : capsF s ts d = (gapsF 0 (ts ++ [s])).map fun _ => (0 : Int) := List.map_congr_left fun g hg => by
    obtain ⟨a, b, c⟩ := gap_le R hg
    have : (g.2 + 1) / d < 2 := (Int.ediv_lt_iff_lt_mul (by omega)).mpr (by omega)
    unfold capF
    rw [if_neg (by omega)]
  unfold roomF
  rw [this]
  generalize gapsF 0 (ts ++ [s]) = gs
  induction gs with
  | nil => rfl
  | cons g gs ih => rw [List.map_cons, List.sum_cons, ih]; rfl
structure IsBest (s : Int) (ts : List Int) (c d : Int) : Prop where
  lo : 1 ≤ d
  ok : c ≤ roomF s ts d
  no : roomF s ts (d + 1) < c
theorem IsBest.eq {s c d e : Int} {ts : List Int} (h : IsBest s ts c d) (g : IsBest s ts c e) : d = e := by
  have h1 : ¬ d < e := fun l => by
    have := room_anti (s := s) (ts := ts) (d := d + 1) (e := e) (by have := h.lo; omega) (by omega)
    have := g.ok
    have := h.no
    omega
  have h2 : ¬ e < d := fun l => by
    have := room_anti (s := s) (ts := ts) (d := e + 1) (e := d) (by have := g.lo; omega) (by omega)
    have := h.ok
    have := g.no
    omega
  omega
theorem IsBest.le {s c d : Int} {ts : List Int} (R : RowOk s ts) (h : IsBest s ts c d) (hc : 1 ≤ c) : d ≤ s := by
  by_cases l : d ≤ s
  · exact l
  · have := room_top (d := d) R (by omega)
    have := h.ok
    omega
end DL

namespace DL
open PySem PySem.Spec PyProof.Rows L2
def itemsD (ks : List (Key × D)) : List D := ks.map fun p => .tup [keyD p.1, p.2]
theorem FzK.get {F : Hp} : ∀ {ks : List (Key × D)} {vs : List (Key × V)} {i : Nat} {k : Key} {d : D}, FzK F ks vs → ks[i]? = some (k, d) → ∃ v, vs[i]? = some (k, v) ∧ Fz F d v
  | [], _, i, k, d, h, e => by simp at e
  | (k', d') :: ks, _, 0, k, d, h, e => by
    obtain ⟨v, r, rfl, h1, h3⟩ := fzk_inv h
    simp at e
    obtain ⟨rfl, rfl⟩ := e
    exact ⟨v, by simp, h1⟩
  | (k', d') :: ks, _, i + 1, k, d, h, e => by
    obtain ⟨v, r, rfl, h1, h3⟩ := fzk_inv h
    obtain ⟨w, hw1, hw2⟩ := FzK.get (i := i) h3 (by simpa using e)
    exact ⟨w, by simpa using hw1, hw2⟩
def dcP (d : D) (Q : List (Key × D) → Prop) : Prop := match d with
  | .dic ks => Q ks
  | _ => False
def diItems (a : DE) : DI := fun ρ μ Q X => a ρ μ (fun d μ1 => dcP d fun ks => Q (itemsD ks) μ1) X
section
variable {X : Cx} {W : WX} {e : Expr} {de : DE} {apos cpos : Pos}
end
def kyP (d : D) (Q : Key → Prop) : Prop := ∃ k, d = keyD k ∧ Q k
def dGet2 (o i e : DE) : DE := fun ρ μ Q X => o ρ μ (fun dp μ1 => dcP dp fun ks => i ρ μ1 (fun dk μ2 => e ρ μ2 (fun dx μ3 => kyP dk fun k => Q ((lookD ks k).getD dx) μ3) X) X) X
section
variable {X : Cx} {W : WX} {o i e : Expr} {dO di de : DE} {apos cpos : Pos}
end
def slM (a : DId) (r : DSl) : DSl := fun ρ μ Q X => a ρ μ (fun ks μ1 => r ρ μ1 (fun ss μ2 => Q (.md ks :: ss) μ2) X) X
def dSetM (i : Nat) (t : DId) : DS := fun D ρ μ => t ρ μ (fun ks μ1 => D.nx (ρ.set i (.md ks)) μ1) (D.xc ρ)
section
variable {X : Cx} {W : WX} {e : Expr} {es : List Expr} {dO : DId} {r : DSl} {pos : Pos}
end
def mdP (s : Option Slot) (Q : List (Key × D) → Prop) : Prop := match s with
  | some (.md ks) => Q ks
  | _ => False
def dMPut (i : Nat) (ix v : DE) : DS := fun D ρ μ => v ρ μ (fun dx μ1 => mdP ρ[i]? fun ks => ix ρ μ1 (fun dk μ2 => kyP dk fun k => ks.length < sizeLine ∧ D.nx (ρ.set i (.md (putD ks k dx))) μ2) (D.xc ρ)) (D.xc ρ)
section
variable {X : Cx} {W : WX} {j e : Expr} {dj dv : DE} {x : Str} {p pos tpos : Pos}
end
end DL

namespace DL
open PySem PySem.Spec PyProof.Rows L2 L2.DX
def gtP (a b : Int × Int) : Prop := b.1 < a.1 ∨ (b.1 = a.1 ∧ b.2 ≤ a.2)
abbrev entD (e : Int × Int) : Key × D := (Sum.inl e.1, D.int e.2)
def dSortItR (a : DE) : DE := fun ρ μ Q X => a ρ μ (fun d μ1 => dcP d fun ks => ∃ es : List (Int × Int), ks = es.map entD ∧ es.length ≤ 100000 ∧ ∀ ls : List (Int × Int), ls.Perm es → ls.Pairwise gtP → Q (.lst (ls.map gapD)) μ1) X
section
variable {X : Cx} {W : WX} {e : Expr} {de : DE} {apos cpos pos p cp kp : Pos} {j : Nat}
end
end DL

namespace DL
open PySem PySem.Spec PyProof.Rows L2
def cntW (w v : Nat) : Nat := if h : w = 0 then 0 else (if w = v then 1 else 0) + cntW ((w - 1) / 2) v + cntW (w / 2) v
termination_by w
decreasing_by all_goals omega
def cntI (w v : Int) : Int := (cntW w.toNat v.toNat : Int)
abbrev Tab := List (Int × Int)
def cntE : Tab → Int → Int
  | [], _ => 0
  | e :: r, v => if e.1 = v then e.2 else cntE r v
structure TabOk (es : Tab) : Prop where
  nd : (es.map (·.1)).Nodup
  pos : ∀ e ∈ es, 0 < e.1 ∧ 0 < e.2
theorem TabOk.nil : TabOk [] := ⟨List.nodup_nil, fun e h => by cases h⟩
end DL

namespace DL
open PySem PySem.Spec PyProof.Rows L2
def WalkG (J : It) (F : Hp) (μ : Mu) (H : Hp) (ds : List D) : Prop := ∀ (F2 : Hp) (μ2 : Mu) (H2 : Hp), Grow F μ H F2 μ2 H2 → Wd F2 μ2 H2 →
  (∀ i, i < ds.length → J.go i H2) ∧ (∀ i d x H3, ds[i]? = some d → J.yld i H2 x H3 → ∃ F3, Grow F2 μ2 H2 F3 μ2 H3 ∧ Wd F3 μ2 H3 ∧ Fz F3 d x) ∧ J.stop ds.length H2
def SimJ (W : WX) (wi : TI) (t : DI) : Prop := ∀ {B : Anchor} {F : Hp} {σ : L2.St} {H : Hp} {ρ : List Slot} {μ : Mu} {Qd : List D → Mu → Prop} {Xd : DXQ} {R : It → Hp → Prop}, Sti B F σ H ρ μ → t ρ μ Qd Xd → GoX W B F σ H ρ μ Xd →
  (∀ J F' H' ds μ', Grow F μ H F' μ' H' → Sti B F' σ H' ρ μ' → WalkG J F' μ' H' ds → Qd ds μ' → R J H') → wi σ H R
structure PJD (X : Cx) (W : WX) (tg iter : Expr) (t : DI) : Prop where
  ex : ∃ wi, PI X tg iter wi ∧ SimJ W wi t
theorem PID.j {X : Cx} {W : WX} {tg iter : Expr} {t : DI} (h : PID X W tg iter t) : PJD X W tg iter t := by
  obtain ⟨wi, a1, a2⟩ := h.ex
  exact ⟨wi, a1, fun S q gx k => a2 S q gx fun J F' H' ds μ' g S' wk => k J F' H' ds μ' g S' fun F2 μ2 H2 g2 W2 => wk F2 μ2 H2 g2.fz W2⟩
section
variable {X : Cx} {W : WX}
variable {elt tg iter : Expr} {ifs : List Expr} {scope : Scope} {own : List (Str × Nat)} {pos : Pos} {di : DI} {dg : DG} {dt : DT} {de : DE}
end
end DL

namespace DL
open PySem PySem.Spec PyProof.Rows L2
def totC (gs : List (Int × Int)) (v : Int) : Int := (gs.map fun g => cntI g.2 v).sum
def sumW (gs : List (Int × Int)) : Int := (gs.map fun g => g.2).sum
def exp (ls : Tab) : List Int := ls.flatMap fun e => List.replicate e.2.toNat e.1
theorem exp_cons {e : Int × Int} {r : Tab} : exp (e :: r) = List.replicate e.2.toNat e.1 ++ exp r := rfl
theorem mem_exp {x : Int} : ∀ {ls : Tab}, x ∈ exp ls → x ∈ ls.map (·.1)
  | [], h => by simp [exp] at h
  | e :: r, h => by
    rw [exp_cons] at h
    rcases List.mem_append.mp h with h | h
    · rw [List.eq_of_mem_replicate h]
      simp
    · rw [List.map_cons]
      exact List.mem_cons_of_mem _ (mem_exp h)
theorem count_exp {v : Int} : ∀ {ls : Tab}, (ls.map (·.1)).Nodup → (∀ e ∈ ls, 0 < e.2) → ((exp ls).count v : Int) = cntE ls v
  | [], _, _ => by simp [exp, cntE]
  | e :: r, nd, hp => by
    obtain ⟨h1, h2⟩ := List.nodup_cons.mp nd
    have he := hp e List.mem_cons_self
    have ih := count_exp (v := v) h2 fun x hx => hp x (List.mem_cons_of_mem _ hx)
    rw [exp_cons, List.count_append, List.count_replicate]
    unfold cntE
    by_cases c : e.1 = v
    · rw [if_pos (by simpa using c), if_pos c]
      have : (exp r).count v = 0 := List.count_eq_zero.mpr fun hm => h1 (by show e.1 ∈ _; rw [show e.1 = v from c]; exact mem_exp hm)
      rw [this]
      push_cast
      omega
    · rw [if_neg (by simpa using c), if_neg c, ← ih]
      push_cast
      omega
theorem exp_srt : ∀ {ls : Tab}, ls.Pairwise gtP → (ls.map (·.1)).Nodup → (exp ls).Pairwise (· ≥ ·)
  | [], _, _ => by simp [exp]
  | e :: r, h, nd => by
    obtain ⟨h1, h2⟩ := List.pairwise_cons.mp h
    obtain ⟨n1, n2⟩ := List.nodup_cons.mp nd
    rw [exp_cons, List.pairwise_append]
    refine ⟨List.pairwise_replicate.mpr (.inr (Int.le_refl _)), exp_srt h2 n2, fun a ha b hb => ?_⟩
    rw [List.eq_of_mem_replicate ha]
    obtain ⟨x, hx, rfl⟩ := List.mem_map.mp (mem_exp hb)
    have := h1 x hx
    unfold gtP at this
    show x.1 ≤ e.1
    omega
theorem srt_eq : ∀ {l m : List Int}, l.Pairwise (· ≥ ·) → m.Pairwise (· ≥ ·) → l.Perm m → l = m
  | [], m, _, _, h => by rw [List.nil_perm.mp h]
  | x :: l, [], _, _, h => by simpa using h.length_eq
  | x :: l, y :: m, h1, h2, h => by
    obtain ⟨a1, a2⟩ := List.pairwise_cons.mp h1
    obtain ⟨b1, b2⟩ := List.pairwise_cons.mp h2
    have e : x = y := by
      have k1 : x ≤ y := by
        rcases List.mem_cons.mp (h.mem_iff.mp List.mem_cons_self) with e | e
        · omega
        · exact b1 x e
      have k2 : y ≤ x := by
        rcases List.mem_cons.mp (h.mem_iff.mpr List.mem_cons_self) with e | e
        · omega
        · exact a1 y e
      omega
    subst e
    rw [srt_eq a2 b2 h.cons_inv]
structure NearP (P : List Int) (e : Int × Int) : Prop where
  all : ∀ o ∈ P, (e.2 + 1) / 2 ≤ absI (e.1 - o)
  at_ : ∃ o ∈ P, absI (e.1 - o) = (e.2 + 1) / 2
structure LineI (gs : List (Int × Int)) (P0 : List Int) (acc hs : List (Int × Int)) : Prop where
  cnt : ∀ v, 0 < v → ((acc.map (·.2)).count v : Int) + totC hs v = totC gs v
  pos : ∀ h ∈ hs, 0 < h.2
  nd : (hs.map (·.1)).Nodup
  srt : (acc.map (·.2)).Pairwise (· ≥ ·)
  low : ∀ a ∈ acc, ∀ h ∈ hs, h.2 ≤ a.2
  len : (acc.length : Int) + sumW hs = sumW gs
  apos : ∀ a ∈ acc, 0 < a.2
  geo : ∀ h ∈ hs, h.1 - 1 ∈ P0 ++ acc.map (·.1) ∧ h.1 + h.2 ∈ P0 ++ acc.map (·.1) ∧ ∀ o ∈ P0 ++ acc.map (·.1), o < h.1 ∨ h.1 + h.2 ≤ o
  near : ∀ pre e post, acc = pre ++ e :: post → NearP (P0 ++ pre.map (·.1)) e
def parts (b w : Int) : List (Int × Int) := [(b, (w - 1) / 2), (b + (w - 1) / 2 + 1, w / 2)].filter fun h => decide (0 < h.2)
theorem parts_mem {b w : Int} {h : Int × Int} (hm : h ∈ parts b w) : 0 < h.2 ∧ (h = (b, (w - 1) / 2) ∨ h = (b + (w - 1) / 2 + 1, w / 2)) := by
  obtain ⟨h1, h2⟩ := List.mem_filter.mp hm
  exact ⟨by simpa using h2, by simpa using h1⟩
theorem eqs_there2 : True := by
  have _ := @dMPut.eq_1
  have _ := @dGet2.eq_1
  have _ := @dSetM.eq_1
  have _ := @slM.eq_1
  have _ := @doEmp.eq_1
  have _ := @dSortItR.eq_1
  have _ := @diItems.eq_1
  trivial
structure Later (s : Int) (ts : List Int) (ls : Tab) : Prop where
  ok : TabOk ls
  srt : ls.Pairwise gtP
  cnt : ∀ v, 0 < v → cntE ls v = totC (gapsF 0 (ts ++ [s])) v
end DL

namespace DL
open PySem PySem.Spec PyProof.Rows L2
section
variable {X : Cx} {W : WX} {a b : Expr} {da db : DE} {pos : Pos}
end
def dRgL2 (a b : DE) : DE := fun ρ μ Q X => a ρ μ (fun d μ1 => b ρ μ1 (fun e μ2 => ∃ i j, d = .int i ∧ e = .int j ∧ 0 ≤ i ∧ i ≤ j ∧ j ≤ 1000000 ∧ Q (.lst (rangeD i (j - i).toNat)) μ2) X) X
section
variable {X : Cx} {W : WX} {a b : Expr} {da db : DE} {p q pos pos2 : Pos}
end
def doDisp1 (a e : DE) : DId := fun ρ μ Q X => a ρ μ (fun dk μ1 => e ρ μ1 (fun dx μ2 => kyP dk fun k => Q [(k, dx)] μ2) X) X
section
variable {X : Cx} {W : WX} {ke ve : Expr} {dk dv : DE} {pos : Pos}
end
def dListItO (i : Nat) : DE := fun ρ μ Q _ => mdP ρ[i]? fun ks => Q (.lst (itemsD ks)) μ
section
variable {X : Cx} {W : WX} {x : Str} {p q apos cpos pos : Pos}
end
theorem eqs_there3 : True := by
  have _ := @doDisp1.eq_1
  have _ := @dListItO.eq_1
  have _ := @dRgL2.eq_1
  trivial
end DL

namespace DL
open PySem PySem.Spec PyProof.Rows L2
def wl (w : Nat) : List Nat := if h : w = 0 then [] else w :: (wl ((w - 1) / 2) ++ wl (w / 2))
termination_by w
decreasing_by all_goals omega
theorem wl_z : wl 0 = [] := by rw [wl]; rfl
theorem wl_s {w : Nat} (h : w ≠ 0) : wl w = w :: (wl ((w - 1) / 2) ++ wl (w / 2)) := by rw [wl, dif_neg h]
theorem wl_len : ∀ w : Nat, (wl w).length = w := fun w => by
  induction w using Nat.strongRecOn with
  | _ w ih =>
    by_cases h : w = 0
    · subst h
      rw [wl_z]
      rfl
    · rw [wl_s h, List.length_cons, List.length_append, ih _ (by omega), ih _ (by omega)]
      omega
theorem wl_cnt {v : Nat} : ∀ w : Nat, (wl w).count v = cntW w v := fun w => by
  induction w using Nat.strongRecOn with
  | _ w ih =>
    by_cases h : w = 0
    · subst h
      rw [wl_z, cntW]
      rfl
    · rw [wl_s h, cntW, dif_neg h, List.count_cons, List.count_append, ih _ (by omega), ih _ (by omega)]
      by_cases c : w = v
      · rw [if_pos c, if_pos (by simpa using c)]
        omega
      · rw [if_neg c, if_neg (by simpa using c)]
        omega
theorem wl_pos : ∀ w : Nat, ∀ x ∈ wl w, 0 < x := fun w => by
  induction w using Nat.strongRecOn with
  | _ w ih =>
    intro x hx
    by_cases h : w = 0
    · subst h
      rw [wl_z] at hx
      cases hx
    · rw [wl_s h] at hx
      rcases List.mem_cons.mp hx with rfl | hx
      · omega
      · rcases List.mem_append.mp hx with hx | hx
        · exact ih _ (by omega) x hx
        · exact ih _ (by omega) x hx
theorem count_ofNat {n : Nat} : ∀ l : List Nat, (l.map Int.ofNat).count (Int.ofNat n) = l.count n
  | [] => rfl
  | a :: l => by
    rw [List.map_cons, List.count_cons, List.count_cons, count_ofNat l]
    by_cases c : a = n
    · subst c
      simp
    · rw [if_neg (by simp; omega), if_neg (by simpa using c)]
def wlI (w : Int) : List Int := (wl w.toNat).map Int.ofNat
def flatW (gs : List (Int × Int)) : List Int := gs.flatMap fun g => wlI g.2
theorem flatW_cons {g : Int × Int} {gs : List (Int × Int)} : flatW (g :: gs) = wlI g.2 ++ flatW gs := rfl
theorem wlI_cnt {w v : Int} (hv : 0 < v) : ((wlI w).count v : Int) = cntI w v := by
  unfold wlI cntI
  have e : v = Int.ofNat v.toNat := by simp; omega
  rw [← wl_cnt]
  conv => lhs; rw [e]
  rw [count_ofNat]
theorem flatW_cnt {v : Int} (hv : 0 < v) : ∀ gs : List (Int × Int), ((flatW gs).count v : Int) = totC gs v
  | [] => rfl
  | g :: gs => by
    have e : totC (g :: gs) v = cntI g.2 v + totC gs v := by simp [totC]
    rw [flatW_cons, List.count_append, e, ← flatW_cnt hv gs, ← wlI_cnt hv]
    push_cast
    rfl
theorem flatW_len : ∀ {gs : List (Int × Int)}, (∀ g ∈ gs, 0 < g.2) → ((flatW gs).length : Int) = sumW gs
  | [], _ => rfl
  | g :: gs, h => by
    have e : sumW (g :: gs) = g.2 + sumW gs := by simp [sumW]
    have := h g List.mem_cons_self
    rw [flatW_cons, List.length_append, e, ← flatW_len fun x hx => h x (List.mem_cons_of_mem _ hx)]
    unfold wlI
    rw [List.length_map, wl_len]
    push_cast
    omega
theorem flatW_pos {gs : List (Int × Int)} : ∀ x ∈ flatW gs, 0 < x := fun x hx => by
  obtain ⟨g, _, hg⟩ := List.mem_flatMap.mp hx
  unfold wlI at hg
  obtain ⟨n, hn, rfl⟩ := List.mem_map.mp hg
  have := wl_pos _ n hn
  simp
  omega
structure TabIs (s : Int) (ts : List Int) (tab : Tab) : Prop where
  pos : ∀ e ∈ tab, 0 < e.1 ∧ 0 < e.2
  cnt : ∀ v, 0 < v → ((exp tab).count v : Int) = totC (gapsF 0 (ts ++ [s])) v
theorem exp_pos {tab : Tab} (h : ∀ e ∈ tab, 0 < e.1 ∧ 0 < e.2) : ∀ x ∈ exp tab, 0 < x := fun x hx => by
  obtain ⟨e, he, rfl⟩ := List.mem_map.mp (mem_exp hx)
  exact (h e he).1
theorem TabIs.perm {s : Int} {ts : List Int} {tab : Tab} (T : TabIs s ts tab) : (exp tab).Perm (flatW (gapsF 0 (ts ++ [s]))) := List.perm_iff_count.mpr fun v => by
  by_cases h : 0 < v
  · have h1 := T.cnt v h
    have h2 := flatW_cnt h (gapsF 0 (ts ++ [s]))
    omega
  · rw [List.count_eq_zero.mpr fun z => h (exp_pos T.pos v z), List.count_eq_zero.mpr fun z => h (flatW_pos v z)]
theorem sumW_row {s : Int} {ts : List Int} (R : RowOk s ts) : sumW (gapsF 0 (ts ++ [s])) = s - ts.length := by
  obtain ⟨u, p⟩ := row_up R
  have := sum_gaps ts 0 u p
  unfold sumW
  omega
theorem TabIs.len {s : Int} {ts : List Int} {tab : Tab} (R : RowOk s ts) (T : TabIs s ts tab) : ((exp tab).length : Int) = s - ts.length := by
  rw [T.perm.length_eq, flatW_len fun g hg => gapsF_pos _ _ g hg, sumW_row R]
theorem Later.tab {s : Int} {ts : List Int} {ls : Tab} (L : Later s ts ls) : TabIs s ts ls :=
  ⟨L.ok.pos, fun v hv => by rw [count_exp L.ok.nd (fun e he => (L.ok.pos e he).2), L.cnt v hv]⟩
end DL

namespace DL
open PySem PySem.Spec PyProof.Rows L2
section
variable {P : Program} {w : World} {K : PySem.W.Frag} {mg : Str → Option Value} {base : Heap}
def FnK (P : Program) (w : World) (K : PySem.W.Frag) (mg : Str → Option Value) (base : Heap) (k : Nat) (f : Addr) (ky : Str) (sp : Sp) : Prop :=
  ∀ (A : Around) (outer : List Env) (s : Shared) (H : Hp) (us ws : List Value) (vs zs : List V) (Q : VK) (E : XK), Room k A → A.guards = some [] → Env0 P w K mg base A outer s H → Vals vs us → Vals zs ws → zs.length = 1 → sp (vs ++ zs) H Q E →
    codeAny (model P w) A (.call (.ref f) ⟨us, [ky].zip ws⟩) (CR (L2.CX P w) outer P w H s Q E) s
structure CalK (P : Program) (w : World) (K : PySem.W.Frag) (mg : Str → Option Value) (base : Heap) (k : Nat) (x ky : Str) (sp : DSp) : Prop where
  ex : ∃ (f : Addr), FnK P w K mg base k f ky (spOf sp) ∧ mg x = some (.ref f) ∧ PySem.W.keepIn K (.ref f) = true
end
def dCallK (sp : DSp) (a : DA) (e : DE) : DE := fun ρ μ Q Z => a ρ μ (fun ds μ1 => e ρ μ1 (fun d μ2 => sp (ds ++ [d]) μ2 Q Z) Z) Z
section
variable {X : Cx} {W : WX} {k j : Nat} {x ky : Str} {p pos kpos : Pos} {e v : Expr} {es : List Expr} {a : DA} {dv : DE} {sp : DSp}
end
theorem eqs_there4 : True := by
  have _ := @dCallK.eq_1
  trivial
end DL

namespace DL
open PySem PySem.Spec PyProof.Rows L2
structure TabEx (s : Int) (ts : List Int) (tab : Tab) : Prop where
  is : TabIs s ts tab
  srt : (exp tab).Pairwise (· ≥ ·)
theorem Later.ex {s : Int} {ts : List Int} {ls : Tab} (L : Later s ts ls) : TabEx s ts ls := ⟨L.tab, exp_srt L.srt L.ok.nd⟩
theorem TabEx.eq {s : Int} {ts : List Int} {a b : Tab} (A : TabEx s ts a) (B : TabEx s ts b) : exp a = exp b := srt_eq A.srt B.srt (A.is.perm.trans B.is.perm.symm)
end DL

namespace DL
open PySem PySem.Spec PyProof.Rows L2
def inoN (b : Int) (w : Nat) : List (Int × Int) :=
  if h : w = 0 then [] else inoN b ((w - 1) / 2) ++ (b, (w : Int)) :: inoN (b + ((w - 1) / 2 : Nat) + 1) (w / 2)
termination_by w
decreasing_by all_goals omega
def inoI (b w : Int) : List (Int × Int) := inoN b w.toNat
theorem inoI_z {b w : Int} (h : w ≤ 0) : inoI b w = [] := by
  unfold inoI
  rw [inoN, dif_pos (by omega)]
theorem inoI_s {b w : Int} (h : 0 < w) : inoI b w = inoI b ((w - 1) / 2) ++ (b, w) :: inoI (b + (w - 1) / 2 + 1) (w / 2) := by
  unfold inoI
  rw [inoN, dif_neg (by omega)]
  rw [show ((w - 1) / 2).toNat = (w.toNat - 1) / 2 from by omega, show (w / 2).toNat = w.toNat / 2 from by omega, show ((w.toNat : Nat) : Int) = w from by omega, show (((w.toNat - 1) / 2 : Nat) : Int) = (w - 1) / 2 from by omega]
theorem ino_ind {P : Int → Int → Prop} (hz : ∀ b w, w ≤ 0 → P b w) (hs : ∀ b w, 0 < w → P b ((w - 1) / 2) → P (b + (w - 1) / 2 + 1) (w / 2) → P b w) : ∀ b w, P b w := by
  have key : ∀ n : Nat, ∀ b w : Int, w.toNat ≤ n → P b w := by
    intro n
    induction n with
    | zero => exact fun b w h => hz b w (by omega)
    | succ n ih =>
      intro b w h
      by_cases c : w ≤ 0
      · exact hz b w c
      · exact hs b w (by omega) (ih _ _ (by omega)) (ih _ _ (by omega))
  exact fun b w => key _ b w (Nat.le_refl _)
def mid (g : Int × Int) : Int := g.1 + (g.2 - 1) / 2
theorem ino_mem : ∀ b w : Int, ∀ g ∈ inoI b w, 0 < g.2 ∧ g.2 ≤ w ∧ b ≤ g.1 ∧ g.1 + g.2 ≤ b + w := by
  refine ino_ind (fun b w h g hg => by rw [inoI_z h] at hg; cases hg) fun b w h h1 h2 g hg => ?_
  rw [inoI_s h] at hg
  rcases List.mem_append.mp hg with hg | hg
  · have := h1 g hg
    omega
  · rcases List.mem_cons.mp hg with rfl | hg
    · dsimp only
      omega
    · have := h2 g hg
      omega
theorem ino_mids : ∀ b w : Int, (inoI b w).map mid = (List.range w.toNat).map fun i : Nat => b + (i : Int) := by
  refine ino_ind (fun b w h => by rw [inoI_z h, show w.toNat = 0 from by omega]; rfl) fun b w h h1 h2 => ?_
  rw [inoI_s h, List.map_append, List.map_cons, h1, h2]
  have e : w.toNat = ((w - 1) / 2).toNat + (1 + (w / 2).toNat) := by omega
  rw [e, List.range_add, List.map_append, List.map_map, List.range_add, List.map_append]
  congr 1
  have hm : mid (b, w) = b + (w - 1) / 2 := rfl
  rw [hm]
  simp only [List.range_one, List.map_cons, List.map_nil, List.cons_append, List.nil_append, List.map_map]
  congr 1
  · simp only [Function.comp]
    omega
  · refine List.map_congr_left fun i _ => ?_
    simp only [Function.comp]
    omega
def inoG (gs : List (Int × Int)) : List (Int × Int) := gs.flatMap fun g => inoI g.1 g.2
theorem inoG_cons {g : Int × Int} {gs : List (Int × Int)} : inoG (g :: gs) = inoI g.1 g.2 ++ inoG gs := rfl
theorem inoG_app {gs hs : List (Int × Int)} : inoG (gs ++ hs) = inoG gs ++ inoG hs := List.flatMap_append
theorem inoG_mem {gs : List (Int × Int)} {h : Int × Int} : h ∈ inoG gs ↔ ∃ g ∈ gs, h ∈ inoI g.1 g.2 := List.mem_flatMap
def Apart (gs : List (Int × Int)) : Prop := gs.Pairwise fun g h => g.1 + g.2 ≤ h.1
theorem ino_asc (b w : Int) : (inoI b w).Pairwise fun g h => mid g < mid h := by
  have e := ino_mids b w
  have : ((inoI b w).map mid).Pairwise (· < ·) := by
    rw [e]
    refine List.pairwise_map.mpr ?_
    refine List.pairwise_lt_range.imp fun h => ?_
    omega
  exact List.pairwise_map.mp this
theorem ino_midin {b w : Int} {g : Int × Int} (h : g ∈ inoI b w) : b ≤ mid g ∧ mid g < b + w := by
  have := ino_mem b w g h
  unfold mid
  omega
theorem inoG_asc : ∀ {gs : List (Int × Int)}, Apart gs → (inoG gs).Pairwise fun g h => mid g < mid h
  | [], _ => List.Pairwise.nil
  | g :: gs, h => by
    obtain ⟨h1, h2⟩ := List.pairwise_cons.mp h
    rw [inoG_cons]
    refine List.pairwise_append.mpr ⟨ino_asc _ _, inoG_asc h2, fun x hx y hy => ?_⟩
    obtain ⟨g', hg', hy⟩ := inoG_mem.mp hy
    have := ino_midin hx
    have := ino_midin hy
    have := h1 g' hg'
    omega
theorem inoG_nd {gs : List (Int × Int)} (A : Apart gs) : (inoG gs).Nodup := (inoG_asc A).imp fun h e => by rw [e] at h; omega
def ltG (a b : Int × Int) : Prop := b.2 < a.2 ∨ (a.2 = b.2 ∧ a.1 < b.1)
instance (a b : Int × Int) : Decidable (ltG a b) := inferInstanceAs (Decidable (_ ∨ _))
theorem ltG_asymm {a b : Int × Int} (h : ltG a b) (h2 : ltG b a) : False := by
  unfold ltG at h h2
  omega
theorem ltG_tri {a b : Int × Int} (h : a ≠ b) : ltG a b ∨ ltG b a := by
  obtain ⟨a1, a2⟩ := a
  obtain ⟨b1, b2⟩ := b
  unfold ltG
  dsimp only
  have : ¬ (a1 = b1 ∧ a2 = b2) := fun e => h (by rw [e.1, e.2])
  omega
theorem ltG_uniq {l m : List (Int × Int)} (h1 : l.Pairwise ltG) (h2 : m.Pairwise ltG) (p : l.Perm m) : l = m :=
  p.eq_of_pairwise (fun a b _ _ x y => (ltG_asymm x y).elim) h1 h2
def leG (a b : Int × Int) : Bool := decide (b.2 < a.2 ∨ (a.2 = b.2 ∧ a.1 ≤ b.1))
def ordG (gs : List (Int × Int)) : List (Int × Int) := (inoG gs).mergeSort leG
theorem ordG_perm (gs : List (Int × Int)) : (ordG gs).Perm (inoG gs) := List.mergeSort_perm _ _
theorem ordG_srt {gs : List (Int × Int)} (A : Apart gs) : (ordG gs).Pairwise ltG := by
  have h1 : (ordG gs).Pairwise fun a b => leG a b = true := List.pairwise_mergeSort (le := leG) (fun a b c h1 h2 => by
    simp only [leG, decide_eq_true_eq] at h1 h2 ⊢
    omega) (fun a b => by
    simp only [leG, Bool.or_eq_true, decide_eq_true_eq]
    omega) _
  have h2 : (ordG gs).Nodup := (ordG_perm gs).nodup_iff.mpr (inoG_nd A)
  refine (h1.and h2).imp fun {a b} ⟨h1, h2⟩ => ?_
  simp only [leG, decide_eq_true_eq] at h1
  rcases ltG_tri h2 with h | h
  · exact h
  · unfold ltG at h
    unfold ltG
    have : ¬ (a.1 = b.1 ∧ a.2 = b.2) := fun e => h2 (Prod.ext e.1 e.2)
    omega
theorem ordG_eq {gs L : List (Int × Int)} (A : Apart gs) (p : L.Perm (inoG gs)) (h : L.Pairwise ltG) : L = ordG gs := ltG_uniq h (ordG_srt A) (p.trans (ordG_perm gs).symm)
structure LineO (gs acc hs : List (Int × Int)) : Prop where
  perm : (acc ++ inoG hs).Perm (inoG gs)
  pos : ∀ h ∈ hs, 0 < h.2
  srt : acc.Pairwise ltG
  low : ∀ a ∈ acc, ∀ h ∈ inoG hs, ltG a h
theorem LineO.start {gs : List (Int × Int)} (h : ∀ g ∈ gs, 0 < g.2) : LineO gs [] gs := ⟨by simp, h, List.Pairwise.nil, fun a ha => by cases ha⟩
theorem inoG_perm {gs hs : List (Int × Int)} (p : gs.Perm hs) : (inoG gs).Perm (inoG hs) := p.flatMap_right _
theorem inoG_parts {b w : Int} (hw : 0 < w) : inoG (parts b w) = inoI b ((w - 1) / 2) ++ inoI (b + (w - 1) / 2 + 1) (w / 2) := by
  unfold parts
  by_cases c1 : 0 < (w - 1) / 2
  · have c2 : 0 < w / 2 := by omega
    simp [c1, c2, inoG]
  · by_cases c2 : 0 < w / 2
    · simp [c1, c2, inoG, inoI_z (b := b) (w := (w - 1) / 2) (by omega)]
    · simp [c1, c2, inoG, inoI_z (b := b) (w := (w - 1) / 2) (by omega), inoI_z (b := b + (w - 1) / 2 + 1) (w := w / 2) (by omega)]
theorem inoI_parts {b w : Int} (hw : 0 < w) : (inoI b w).Perm ((b, w) :: inoG (parts b w)) := by
  rw [inoI_s hw, inoG_parts hw]
  exact List.perm_middle
theorem ino_narrow {b w : Int} (hw : 0 < w) {h : Int × Int} (hh : h ∈ inoG (parts b w)) : h.2 < w := by
  rw [inoG_parts hw] at hh
  rcases List.mem_append.mp hh with hh | hh
  · have := ino_mem _ _ h hh
    omega
  · have := ino_mem _ _ h hh
    omega
theorem LineO.step {gs acc hs rest hs' : List (Int × Int)} {b w : Int} (I : LineO gs acc hs) (p : hs.Perm ((b, w) :: rest)) (p2 : hs'.Perm (rest ++ parts b w)) (top : ∀ h ∈ rest, ltG (b, w) h) : LineO gs (acc ++ [(b, w)]) hs' := by
  have w0 : 0 < w := I.pos (b, w) (p.mem_iff.mpr List.mem_cons_self)
  have q1 : (inoG hs).Perm ((b, w) :: (inoG rest ++ inoG (parts b w))) := by
    refine (inoG_perm p).trans ?_
    rw [inoG_cons]
    refine (List.Perm.append_right _ (inoI_parts w0)).trans ?_
    rw [List.cons_append]
    exact List.Perm.cons _ List.perm_append_comm
  have q2 : (inoG hs').Perm (inoG rest ++ inoG (parts b w)) := by
    refine (inoG_perm p2).trans ?_
    rw [inoG_app]
  have hb : (b, w) ∈ inoG hs := q1.mem_iff.mpr List.mem_cons_self
  have topG : ∀ h ∈ inoG hs', ltG (b, w) h := fun h hh => by
    rcases List.mem_append.mp (q2.mem_iff.mp hh) with hh | hh
    · obtain ⟨g, hg, hh⟩ := inoG_mem.mp hh
      have t := top g hg
      have g0 : 0 < g.2 := I.pos g (p.mem_iff.mpr (List.mem_cons_of_mem _ hg))
      have hi := (inoI_parts (b := g.1) g0).mem_iff.mp hh
      rcases List.mem_cons.mp hi with rfl | hi
      · exact t
      · have := ino_narrow g0 hi
        unfold ltG at t ⊢
        dsimp only at t ⊢
        omega
    · have := ino_narrow w0 hh
      exact .inl this
  refine ⟨?_, fun h hh => ?_, ?_, fun a ha h hh => ?_⟩
  · rw [List.append_assoc]
    refine List.Perm.trans (List.Perm.append_left acc ?_) I.perm
    exact ((List.Perm.cons _ q2)).trans q1.symm
  · rcases List.mem_append.mp (p2.mem_iff.mp hh) with h' | h'
    · exact I.pos h (p.mem_iff.mpr (List.mem_cons_of_mem _ h'))
    · exact (parts_mem h').1
  · refine List.pairwise_append.mpr ⟨I.srt, List.pairwise_singleton _ _, fun a ha c hc => ?_⟩
    rw [List.mem_singleton.mp hc]
    exact I.low a ha _ hb
  · rcases List.mem_append.mp ha with ha | ha
    · refine I.low a ha h (q1.mem_iff.mpr (List.mem_cons_of_mem _ (q2.mem_iff.mp hh)))
    · rw [List.mem_singleton.mp ha]
      exact topG h hh
theorem LineO.done {gs acc : List (Int × Int)} (A : Apart gs) (I : LineO gs acc []) : acc = ordG gs := ordG_eq A (by simpa [inoG] using I.perm) I.srt
end DL

namespace DL
open PySem PySem.Spec PyProof.Rows L2
end DL

namespace DL
open PySem PySem.Spec PyProof.Rows L2
def keysD (ks : List (Key × D)) : List D := ks.map fun p => keyD p.1
def diKeys (a : DE) : DI := fun ρ μ Q X => a ρ μ (fun d μ1 => dcP d fun ks => Q (keysD ks) μ1) X
section
variable {X : Cx} {W : WX} {tg e : Expr} {de : DE}
end
theorem eqs_there9 : True := by
  have _ := @diKeys.eq_1
  trivial
end DL

namespace DL
open PySem PySem.Spec PyProof.Rows L2
end DL

namespace DL
open PySem PySem.Spec PyProof.Rows L2
open LamX (CodeO TabB LamS lamEnv lamCx lamSB lamS_by)
abbrev LR := Mu → DQ → DXQ → Prop
abbrev LSp := LR → Mu → DQ → Prop
def dAct (f c : Addr) (q : Str) (B : Anchor) (L : LR) : DE := fun ρ μ Q Z => ρ[0]? = some (.fn f c q B) ∧ L μ Q Z
section
variable {X : Cx} {pins : List (Addr × Obj)} {σ : L2.St} {H : Hp} {s : Shared}
end
def startF (N : List Str) (sl : Slot) : List Slot := sl :: List.replicate (N.length - 1) .no
section
variable {P : Program} {w : World} {K : PySem.W.Frag} {mg : Str → Option Value} {base : Heap}
structure TellD (P : Program) (w : World) (K : PySem.W.Frag) (mg : Str → Option Value) (base : Heap) (k : Nat) (x a : Str) (sp : LSp) : Prop where
  ex : ∃ (g : Addr) (fd : FuncData) (st : Stmt) (N : List Str), Fun K x x st g fd ∧ mg x = some (.ref g) ∧ Binds K fd [a] [] ∧ FnScope N [a] (defScope st) ∧ N[0]? = some a ∧ Vis (defScope st) a ∧
    ∀ (cdv : Value) (A : Around) (outer : List Env) (s : Shared) (H : Hp) (f c : Addr) (q : Str) (B : Anchor) (L : LR), Room k (A.deeper (envOfC x (defScope st) s.heap.objs.size g cdv)) → A.guards = some [] →
      (∀ (W : WX) (pn : List (Addr × Obj)) (xe : Value → Shared → Prop) (p1 p2 : Pos), Takes ((bodyX P w K mg base N x st g cdv A outer s H (fun _ _ _ => False)).tr pn xe) W → PD ((bodyX P w K mg base N x st g cdv A outer s H (fun _ _ _ => False)).tr pn xe) W (.Call (.Name a p1) [] [] p2) (dAct f c q B L)) →
      ∃ t, PSsD (bodyX P w K mg base N x st g cdv A outer s H (fun _ _ _ => False)) (fun _ _ _ _ => False) (defBody st) t ∧ ∀ μ Q, sp L μ Q → t { nx := fun _ μ' => Q .non μ', rt := Q, xc := fun _ _ _ => False } (startF N (.fn f c q B)) μ
end
end DL

namespace DL
open PySem PySem.Spec PyProof.Rows L2
open LamX (TabB)
section
variable {P : Program} {w : World} {K : PySem.W.Frag} {mg : Str → Option Value} {base : Heap}
end
end DL

namespace DL
open PySem PySem.Spec PyProof.Rows L2
section
variable {X : Cx} {W : WX} {p pos : Pos} {e : Expr} {a : DA}
end
section
variable {X : Cx} {W : WX} {p pos : Pos} {e : Expr} {a : DA} {kp : Pos}
end
end DL

namespace DL
open PySem PySem.Spec PyProof.Rows L2
theorem FzK.is {F : Hp} {k : Key} : ∀ {ks : List (Key × D)} {vs : List (Key × V)}, FzK F ks vs → (valV vs k).isSome = (lookD ks k).isSome
  | [], _, h => by rw [fzk_inv0 h]; rfl
  | (k', d') :: ks, _, h => by
    obtain ⟨v, r, rfl, h2, h3⟩ := fzk_inv h
    by_cases hk : k' = k
    · have : lookD ((k', d') :: ks) k = some d' := by simp [lookD, List.find?_cons, hk]
      rw [this, valV_pos hk]
      rfl
    · have : lookD ((k', d') :: ks) k = lookD ks k := by simp [lookD, List.find?_cons, hk]
      rw [this, valV_neg hk, FzK.is h3]
section
variable {X : Cx}
end
section
variable {X : Cx} {W : WX} {a b e : Expr} {da db : DE} {pa : DA} {p pos : Pos}
end
def cntIP (ds : List D) (x : D) (Q : Int → Prop) : Prop := ∃ (ns : List Int) (i : Int), ds = ns.map D.int ∧ x = .int i ∧ Q (ns.count i)
def dCntI (o e : DE) : DE := fun ρ μ Q X => o ρ μ (fun d μ1 => liP d fun ds => e ρ μ1 (fun x μ2 => cntIP ds x fun n => Q (.int n) μ2) X) X
section
variable {X : Cx} {W : WX} {o e : Expr} {de dx : DE} {apos cpos : Pos}
end
theorem eqs_there10 : True := by
  have _ := @dCntI.eq_1
  trivial
end DL

namespace DL
open PySem PySem.Spec PyProof.Rows L2
section
variable {P : Program} {w : World} {K : PySem.W.Frag} {mg : Str → Option Value} {base : Heap}
end

def putFD (f : Str) (v : D) : List (Str × D) → List (Str × D)
  | [] => [(f, v)]
  | (g, x) :: r => if g = f then (g, v) :: r else (g, x) :: putFD f v r
theorem fzs_inv {F : Hp} {k : Str} {d : D} {fs : List (Str × D)} {vs : List (Str × V)} (h : FzS F ((k, d) :: fs) vs) : ∃ v r, vs = (k, v) :: r ∧ Fz F d v ∧ FzS F fs r := by
  unfold FzS at h
  exact h
theorem fzs_inv0 {F : Hp} {vs : List (Str × V)} (h : FzS F [] vs) : vs = [] := by
  unfold FzS at h
  exact h
theorem fzs_nil {F : Hp} : FzS F [] [] := by unfold FzS; rfl
theorem fzs_cons {F : Hp} {k : Str} {d : D} {v : V} {fs : List (Str × D)} {vs : List (Str × V)} (h : Fz F d v) (hs : FzS F fs vs) : FzS F ((k, d) :: fs) ((k, v) :: vs) := by
  unfold FzS
  exact ⟨v, vs, rfl, h, hs⟩
theorem FzS.put {F : Hp} {f : Str} {d : D} {v : V} (h : Fz F d v) : ∀ {fs : List (Str × D)} {vs : List (Str × V)}, FzS F fs vs → FzS F (putFD f d fs) (putF f v vs)
  | [], _, hs => by
    rw [fzs_inv0 hs]
    exact fzs_cons h fzs_nil
  | (g, x) :: fs, _, hs => by
    obtain ⟨u, r, rfl, h1, h2⟩ := fzs_inv hs
    unfold putFD putF
    by_cases hg : g = f
    · rw [if_pos hg, if_pos hg]
      exact fzs_cons h h2
    · rw [if_neg hg, if_neg hg]
      exact fzs_cons h1 (FzS.put h h2)
theorem FzS.length {F : Hp} : ∀ {fs : List (Str × D)} {vs : List (Str × V)}, FzS F fs vs → vs.length = fs.length
  | [], _, hs => by
    rw [fzs_inv0 hs]
    rfl
  | (g, x) :: fs, _, hs => by
    obtain ⟨u, r, rfl, h1, h2⟩ := fzs_inv hs
    rw [List.length_cons, List.length_cons, FzS.length h2]
section
variable {X : Cx} {W : WX} {e o v : Expr} {es : List Expr} {da dO dv : DE} {a : DA} {f m : Str} {C : Addr} {pos pos' apos : Pos}
end

structure CalM (P : Program) (w : World) (K : PySem.W.Frag) (mg : Str → Option Value) (base : Heap) (k : Nat) (C : Addr) (m : Str) (sp : DSp) : Prop where
  ex : ∃ f : Addr, FnW P w K mg base k f (spOf sp) ∧ Meth K C m f ∧ Cls K C
section
variable {X : Cx} {W : WX} {e o : Expr} {es : List Expr} {dO : DE} {a : DA} {m : Str} {C f : Addr} {pos apos : Pos} {k j : Nat} {sp : DSp} {ta : TE} {t : TA} {sv : Sp}
end

structure CalI (P : Program) (w : World) (K : PySem.W.Frag) (mg : Str → Option Value) (base : Heap) (k : Nat) (x : Str) (C : Addr) (sp : DSp) : Prop where
  ex : ∃ f : Addr, FnW P w K mg base k f (spOf sp) ∧ Mk K C f ∧ mg x = some (.ref C)
section
variable {X : Cx} {W : WX} {e : Expr} {es : List Expr} {a : DA} {x : Str} {C f : Addr} {p pos : Pos} {k j : Nat} {sp : DSp} {t : TA} {sv : Sp}
end

end DL

namespace Tri
open PySem PySem.Spec PyProof.Rows L2 SrtO Srt
abbrev T3 := Int × Int × Int
def IsTri (h : Heap) (v : Value) (g : T3) : Prop := ∃ a o t u r n, v = .ref a ∧ h.get? a = some o ∧ o.cls = .type "tuple" ∧ o.data = .seq #[.int g.1 t, .int g.2.1 u, .int g.2.2 r] n
theorem IsTri.keeps {h g : Heap} {v : Value} {x : T3} (p : IsTri h v x) (k : ∀ b o, h.get? b = some o → o.cls = .type "tuple" → g.get? b = some o) : IsTri g v x := by
  obtain ⟨a, o, t, u, r, n, e, e1, e2, e3⟩ := p
  exact ⟨a, o, t, u, r, n, e, k _ _ e1 e2, e2, e3⟩
def lex3 (p q : T3) : Bool := decide (p.1 < q.1 ∨ (p.1 = q.1 ∧ (p.2.1 < q.2.1 ∨ (p.2.1 = q.2.1 ∧ p.2.2 < q.2.2))))
theorem lex3_no {p q : T3} : lex3 p q = false ↔ ¬ (p.1 < q.1 ∨ (p.1 = q.1 ∧ (p.2.1 < q.2.1 ∨ (p.2.1 = q.2.1 ∧ p.2.2 < q.2.2)))) := by
  unfold lex3
  rw [decide_eq_false_iff_not]
theorem swo3 (k : Value → T3) : Swo fun v u => lex3 (k v) (k u) := by
  refine ⟨fun x y h => ?_, fun x y z h1 h2 => ?_⟩
  · have a := of_decide_eq_true h
    refine lex3_no.mpr ?_
    omega
  · have a := lex3_no.mp h1
    have b := lex3_no.mp h2
    refine lex3_no.mpr ?_
    omega
section
variable {prog : Program} {w : World} {A : Around} {E : Value → Shared → Prop} {s : Shared}
theorem tri_cmp {vs : List Value} {k : Value → T3} (hp : ∀ v ∈ vs, IsTri s.heap v (k v)) : Cmp prog w A s (tuples' true) (fun p => p.1 ∈ vs) (lt2 fun v u => lex3 (k v) (k u)) := by
  intro p q hm hm'
  have h1 := hp _ hm
  have h2 := hp _ hm'
  show wpAny (model prog w) A (keyLt' (tuples' true) p.1 q.1) (fun r t => t = s ∧ r = lex3 (k p.1) (k q.1)) (fun _ _ => False) s
  generalize k p.1 = x at h1 ⊢
  generalize k q.1 = y at h2 ⊢
  obtain ⟨x1, x2, x3⟩ := x
  obtain ⟨y1, y2, y3⟩ := y
  obtain ⟨a, o, t, u, r, n, e, ho, hc, hd⟩ := h1
  obtain ⟨a', o', t', u', r', n', e', ho', hc', hd'⟩ := h2
  rw [e, e']
  dsimp only at hd hd'
  have res : ∀ b : Bool, (b = decide (x1 < y1 ∨ (x1 = y1 ∧ (x2 < y2 ∨ (x2 = y2 ∧ x3 < y3))))) → (s = s ∧ b = lex3 (x1, x2, x3) (y1, y2, y3)) := fun b hb => ⟨rfl, hb⟩
  refine PySem.W.kat_lt ho hd ho' hd' ?_
  show PySem.W.KatLex prog w A true (decide (3 < 3)) _ [(.int x1 t, .int y1 t'), (.int x2 u, .int y2 u'), (.int x3 r, .int y3 r')] 0 s
  refine PySem.W.kat_cons (SeqAt.EqAt.int_int x1 t y1 t' prog w _ _ (PySem.W.kat_go (fun c1 => ?_) (fun c1 => ?_)))
  · have c1 : x1 = y1 := by simpa using c1
    refine PySem.W.kat_yes (PySem.W.kat_cons (SeqAt.EqAt.int_int x2 u y2 u' prog w _ _ (PySem.W.kat_go (fun c2 => ?_) (fun c2 => ?_))))
    · have c2 : x2 = y2 := by simpa using c2
      refine PySem.W.kat_yes (PySem.W.kat_cons (SeqAt.EqAt.int_int x3 r y3 r' prog w _ _ (PySem.W.kat_go (fun c3 => ?_) (fun c3 => ?_))))
      · have c3 : x3 = y3 := by simpa using c3
        exact PySem.W.kat_yes (PySem.W.kat_nil (res _ (show false = decide _ from (decide_eq_false (by omega)).symm)))
      · exact PySem.W.kat_no (PySem.W.kat_one _ _ (PyProof.Rows.lt_int (res _ (decide_eq_decide.mpr ⟨fun z => .inr ⟨c1, .inr ⟨c2, z⟩⟩, fun z => by omega⟩))))
    · have c2 : ¬ x2 = y2 := by simpa using c2
      exact PySem.W.kat_no (PySem.W.kat_one _ _ (PyProof.Rows.lt_int (res _ (decide_eq_decide.mpr ⟨fun z => .inr ⟨c1, .inl z⟩, fun z => by omega⟩))))
  · have c1 : ¬ x1 = y1 := by simpa using c1
    exact PySem.W.kat_no (oneLt_int (res _ (decide_eq_decide.mpr ⟨fun z => .inl z, fun z => by omega⟩)))
theorem firsts {h : Heap} : ∀ {vs : List Value}, (∀ v ∈ vs, ∃ x, IsTri h v x) → ∃ fs : List Value, PySem.W.KatTups h vs fs ∧ fs.length = vs.length ∧ ∀ f ∈ fs, ∃ x t, f = Value.int x t
  | [], _ => ⟨[], .nil, rfl, fun _ z => nomatch z⟩
  | v :: vs, hp => by
    obtain ⟨fs, z1, z2, z3⟩ := firsts (vs := vs) fun u hm => hp u (List.mem_cons_of_mem _ hm)
    obtain ⟨x, a, o, t, u, r, n, rfl, ho, hc, hd⟩ := hp v List.mem_cons_self
    refine ⟨.int x.1 t :: fs, .cons ho hc hd rfl z1, by simp [z2], fun f hm => ?_⟩
    rcases List.mem_cons.mp hm with rfl | hm
    · exact ⟨_, t, rfl⟩
    · exact z3 f hm
theorem sorted_tris {l : Addr} {vs : List Value} {k : Value → T3} {Q : Value → Shared → Prop} (hl : s.heap.IsList l vs.toArray) (hz : vs.length ≤ sizeLine) (hp : ∀ v ∈ vs, IsTri s.heap v (k v))
    (q : ∀ (g : Heap) (d : Addr) (out : List Value), Srtd (fun v u => lex3 (k v) (k u)) out → Stb (fun v u => lex3 (k v) (k u)) out vs → (∀ b o, s.heap.get? b = some o → g.get? b = some o) → s.heap.objs.size ≤ d → (∃ n, g.get? d = some (seqObj "list" out.toArray n)) → Q (.ref d) { s with heap := g }) :
    wpAny (model prog w) A (call (.builtin "sorted") [.ref l]) Q E s := by
  refine sorted_ord (swo3 k) hl hz (fun two g a ha kk => ?_) fun out z1 z2 => q _ _ out z1 z2 (fun b o e => sortedAll_old e) (Nat.le_succ _) (sortedAll_at s.heap vs out.toArray)
  intro g2 keep
  have hp' : ∀ v ∈ vs, IsTri g2 v (k v) := fun v hm => (hp v hm).keeps fun b o e c => keep b o (kk b o e).1 (kk b o e).2
  obtain ⟨fs, z1, z2, z3⟩ := firsts fun v hm => ⟨_, hp' v hm⟩
  refine ⟨tuples' true, fun Q' E' hq => ?_, tri_cmp hp'⟩
  refine PySem.W.kat_kind (T := .type "int") z1 (by omega) (fun f hm => ?_) (by rfl) ?_
  · obtain ⟨x, t, rfl⟩ := z3 f hm
    exact PySem.W.Looks.now
  · rw [show (Value.type "int" != Value.type "tuple") = true by first | decide +kernel | rfl | decide]
    exact hq
end
def rSorted3 (K : PySem.W.Frag) : List V → Hp → VK → Prop := fun vs H Q => ∃ (a : Addr) (xs : List V) (k : V → T3), vs = [V.ref a] ∧ SqL K H a xs ∧ (∀ x ∈ xs, ∃ t, x = V.ref t ∧ H t = some (.tup [.int (k x).1, .int (k x).2.1, .int (k x).2.2])) ∧
  ∀ ys p, ys.Perm xs → (ys.Pairwise fun x y => lex3 (k y) (k x) = false) → H p = none → Q (.ref p) (upd H p (.lst ys))
section
variable {X : Cx}
theorem cr_sorted3 : CallR X (.builtin "sorted") (rSorted3 X.K) := by
  intro pins s σ H vs us Q I r h
  obtain ⟨a, xs, k, rfl, hs, hx, q⟩ := h
  obtain ⟨its, rv, hl, hz⟩ := I.list hs
  obtain ⟨u0, rfl, ru⟩ := vals1 r
  obtain rfl : u0 = Value.ref a := ru
  obtain ⟨e1, e2⟩ := refs_back rv fun x m => (hx x m).imp fun t e => e.1
  refine sorted_tris (k := fun u => k (backV u)) hl.isList (by rw [← rv.length]; exact hz) (fun v hv => ?_) fun g d out z1 z2 kp hd ⟨n, hn⟩ => ?_
  · obtain ⟨t, rfl⟩ := e2 v hv
    obtain ⟨t', e, ht⟩ := hx (V.ref t) (by rw [e1]; exact List.mem_map.mpr ⟨_, hv, rfl⟩)
    cases e
    obtain ⟨_, its2, r2, o, ho, hc, n, hd⟩ := I.hok _ _ ht
    cases r2 with
    | cons ri r3 =>
    obtain ⟨u2, u3, rfl, rj, rk⟩ := vals2 r3
    obtain ⟨t1, rfl⟩ := ri
    obtain ⟨t2, rfl⟩ := rj
    obtain ⟨t3, rfl⟩ := rk
    exact ⟨t, o, t1, t2, t3, n, rfl, ho, hc, hd⟩
  · have back : ∀ u ∈ out, ∃ b, u = Value.ref b := fun u hu => e2 u (z2.perm.mem_iff.mp hu)
    have pm : (out.map backV).Perm xs := by
      rw [e1]
      exact z2.perm.map backV
    refine ⟨.ref d, upd H d (.lst (out.map backV)), I.laid (t' := s.toks) kp hd ⟨by rw [pm.length_eq]; exact hz, out, n, vals_back back, hn⟩, rfl, q _ d pm ?_ (I.hok.fresh hd)⟩
    rw [List.pairwise_map]
    exact z1
end
end Tri
namespace DL
open PySem PySem.Spec PyProof.Rows L2
open Tri (T3 lex3 lex3_no rSorted3 cr_sorted3)
section
variable {X : Cx} {W : WX} {p pos : Pos} {e : Expr}
end
end DL

namespace DL
open PySem PySem.Spec PyProof.Rows L2
open Tri (T3 lex3 lex3_no swo3 IsTri tri_cmp firsts)
def lookT (ks : List (List Key × D)) (k : List Key) : Option D := (ks.find? fun kv => decide (kv.1 = k)).map (·.2)
def putT (ks : List (List Key × D)) (k : List Key) (d : D) : List (List Key × D) :=
  if (ks.any fun kv => decide (kv.1 = k)) = true then ks.map (fun kv => if kv.1 = k then (kv.1, d) else kv) else ks ++ [(k, d)]
theorem fzt_inv {F : Hp} {k : List Key} {d : D} {ks : List (List Key × D)} {vs : List (List Key × V)} (h : FzT F ((k, d) :: ks) vs) : ∃ v r, vs = (k, v) :: r ∧ Fz F d v ∧ FzT F ks r := by
  unfold FzT at h
  exact h
theorem fzt_nil {F : Hp} : FzT F [] [] := by unfold FzT; rfl
theorem fzt_inv0 {F : Hp} {vs : List (List Key × V)} (h : FzT F [] vs) : vs = [] := by
  unfold FzT at h
  exact h
theorem fzt_cons {F : Hp} {k : List Key} {d : D} {ks : List (List Key × D)} {v : V} {vs : List (List Key × V)} (h : Fz F d v) (hs : FzT F ks vs) : FzT F ((k, d) :: ks) ((k, v) :: vs) := by
  unfold FzT
  exact ⟨v, vs, rfl, h, hs⟩
theorem FzT.length {F : Hp} : ∀ {ks : List (List Key × D)} {vs : List (List Key × V)}, FzT F ks vs → vs.length = ks.length
  | [], _, h => by rw [fzt_inv0 h]; rfl
  | (k, d) :: ks, _, h => by
    obtain ⟨v, r, rfl, _, h3⟩ := fzt_inv h
    simp [FzT.length h3]
theorem FzT.look {F : Hp} {k : List Key} : ∀ {ks : List (List Key × D)} {vs : List (List Key × V)} {d : D}, FzT F ks vs → lookT ks k = some d → ∃ v, valV vs k = some v ∧ Fz F d v
  | [], _, d, h, e => by cases e
  | (k', d') :: ks, _, d, h, e => by
    obtain ⟨v, r, rfl, h2, h3⟩ := fzt_inv h
    by_cases hk : k' = k
    · have : lookT ((k', d') :: ks) k = some d' := by simp [lookT, List.find?_cons, hk]
      rw [this] at e
      cases e
      exact ⟨v, valV_pos hk, h2⟩
    · have : lookT ((k', d') :: ks) k = lookT ks k := by simp [lookT, List.find?_cons, hk]
      rw [this] at e
      obtain ⟨w, e1, e2⟩ := FzT.look h3 e
      exact ⟨w, by rw [valV_neg hk]; exact e1, e2⟩
theorem FzT.any {F : Hp} {k : List Key} : ∀ {ks : List (List Key × D)} {vs : List (List Key × V)}, FzT F ks vs → (vs.any fun kv => decide (kv.1 = k)) = ks.any fun kv => decide (kv.1 = k)
  | [], _, h => by rw [fzt_inv0 h]; rfl
  | (k', d) :: ks, _, h => by
    obtain ⟨v, r, rfl, _, h3⟩ := fzt_inv h
    simp [FzT.any h3]
theorem FzT.mapPut {F : Hp} {k : List Key} {d : D} {v : V} (z : Fz F d v) : ∀ {ks : List (List Key × D)} {vs : List (List Key × V)}, FzT F ks vs →
    FzT F (ks.map fun kv => if kv.1 = k then (kv.1, d) else kv) (vs.map fun kv => if kv.1 = k then (kv.1, v) else kv)
  | [], _, h => by
    rw [fzt_inv0 h]
    exact fzt_nil
  | (k', d') :: ks, _, h => by
    obtain ⟨v', r, rfl, h2, h3⟩ := fzt_inv h
    simp only [List.map_cons]
    by_cases hk : k' = k
    · rw [if_pos hk, if_pos hk]
      exact fzt_cons z (FzT.mapPut z h3)
    · rw [if_neg hk, if_neg hk]
      exact fzt_cons h2 (FzT.mapPut z h3)
theorem FzT.append {F : Hp} {es : List (List Key × D)} {ws : List (List Key × V)} (h2 : FzT F es ws) : ∀ {ks : List (List Key × D)} {vs : List (List Key × V)}, FzT F ks vs → FzT F (ks ++ es) (vs ++ ws)
  | [], _, h => by
    rw [fzt_inv0 h]
    exact h2
  | (k, d) :: ks, _, h => by
    obtain ⟨v, r, rfl, h1, h3⟩ := fzt_inv h
    exact fzt_cons h1 (FzT.append h2 h3)
theorem FzT.put {F : Hp} {k : List Key} {d : D} {v : V} (z : Fz F d v) {ks : List (List Key × D)} {vs : List (List Key × V)} (h : FzT F ks vs) : FzT F (putT ks k d) (putK vs k v) := by
  unfold putT putK
  rw [h.any]
  split
  · exact FzT.mapPut z h
  · exact FzT.append (fzt_cons z fzt_nil) h
theorem Wd.newMu {F : Hp} {μ : Mu} {H : Hp} (W : Wd F μ H) {p : Addr} {o : HO} {mo : MO} (hp : H p = none) (h : MOk F (L2.upd H p o) p mo) : Wd F (mset μ p mo) (L2.upd H p o) ∧ Grow F μ H F (mset μ p mo) (L2.upd H p o) := by
  obtain ⟨f1, m1⟩ := W.free hp
  obtain ⟨W1, g1⟩ := W.own (o := o) hp (fun vs e => by
    subst e
    exact h.notup upd_same)
  refine ⟨⟨W1.ext, fun b u e => ?_, W1.tup⟩, ⟨g1.fz, fun b u e m => ?_⟩⟩
  · by_cases hb : b = p
    · subst hb
      rw [mset_same] at e
      cases e
      exact ⟨h, f1⟩
    · rw [mset_ne hb] at e
      exact W1.mu b u e
  · obtain ⟨k1, k2, k3⟩ := g1.keep b u e m
    exact ⟨k1, (mset_ne (ne_of_none e hp)).trans k2, k3⟩
section
variable {X : Cx} {W : WX} {o i e : Expr} {dO di dv : DE} {pos tpos : Pos}
end
section
variable {X : Cx} {W : WX} {p pos : Pos} {e : Expr} {de : DE}
end
end DL

namespace DL
open PySem PySem.Spec PyProof.Rows L2
def ExV (C : Addr) (d : Option Addr) (a : Addr) : Heap → Prop := fun h => ∃ (oe : Obj) (vs : Array Value), h.get? a = some oe ∧ Zc (.ref C) d oe ∧ oe.data = .fields vs
theorem exV_ok {P : Program} {w : World} {H : Hp} {h : Heap} {a C : Addr} {d : Option Addr} {oe : Obj} {vs : Array Value} (e : h.get? a = some oe) (z : Zc (.ref C) d oe) (hd : oe.data = .fields vs) : ObjOk P w H h a (.ext (ExV C d a)) :=
  ⟨⟨oe, vs, e, z, hd⟩, ⟨oe, e⟩, fun _ _ ⟨o, v, q, r⟩ k => ⟨o, v, k o q, r⟩⟩
abbrev exM (C : Addr) (d : Option Addr) (a : Addr) : MO := .ex (ExV C d a) []
theorem exM_ok {F H : Hp} {a C : Addr} {d : Option Addr} (h : H a = some (.ext (ExV C d a))) : MOk F H a (exM C d a) := ⟨h, fun _ q => nomatch q⟩
section
variable {X : Cx} {W : WX} {C : Addr} {x fn : Str} {p pos : Pos}
def tNewX (fn : Str) (C : Addr) (ta : TA) : TE := fun σ H Q => ta σ H fun vs H1 => ∃ v, vs = [v] ∧ ∀ e d, H1 e = none → H1 d = none → d ≠ e → Q (.ref e) (upd (upd H1 d (.xd [(fn, v)])) e (.ext (ExV C (some d) e)))
theorem pe_newX {a : Expr} {ta : TA} {k : Nat} (M : MadeR X.K X.mg x fn C) (T : ExI X.K X.mg x fn C) (hr : Room (k + 1) X.A) (ha : PA X [a] ta) (hg : Gl X x) (hdb : (x == ("__debug__" : Str)) = false)
    (he : starEach (a :: []) X.env = (false, eval a X.env) :: starEach [] X.env := by rfl) (hpl : (backTo pos (starEach [] X.env)).any (·.1) = false := by rfl) :
    PE X (.Call (.Name x p) [a] [] pos) (tNewX fn C ta) := by
  refine ⟨fun pins s σ H Q I h => ?_⟩
  refine wpAny_Call_Name_kw (ld_glob I hg T.gC ?_ hdb)
  refine PySem.W.callWith_K (h₀ := X.base) I.ok.mod.kin T.kC (thn (ha.run pos pins s σ H _ I h) fun us s1 hh => ?_) he hpl
  obtain ⟨vs, H1, I1, r1, v, ev, q1⟩ := hh
  subst ev
  refine ⟨I1.kIn, ?_⟩
  cases r1 with
  | cons rv rn =>
    rename_i v' us'
    cases rn
    show wpAny _ _ (call (.ref C) [v']) _ _ _
    have hlim := I1.nolimit
    obtain ⟨hp, g, dr, tk, os⟩ := s1
    refine wpAny_call (M I1.kIn hlim (by have := hr.dp; omega) fun h' tk' e d M => ?_)
    obtain ⟨oe, fv, hoe, hc, hd, hdat, h1, h2, h5⟩ := M.obj
    have hns := M.ns
    obtain ⟨G', g1, g2⟩ := restrict h' fun b => decide (b ≠ e)
    have gk : ∀ b, b ≠ e → G'.get? b = h'.get? b := fun b hb => g1 b (decide_eq_true hb)
    have ge : G'.get? e = none := g2 e (by simp)
    have old : ∀ b o, hp.get? b = some o → G'.get? b = some o := fun b o q => (gk b (Nat.ne_of_lt (Nat.lt_of_lt_of_le (Heap.lt_size q) M.new))).trans (M.keep b o q)
    have ob : ObjOk X.prog X.w (upd H1 d (.xd [(fn, v)])) G' d (.xd [(fn, v)]) :=
      ⟨_, hns.at (fun o q => (gk d M.dne).trans q), fun f => relO_x rv f⟩
    have J : Inv X pins σ (upd H1 d (.xd [(fn, v)])) ⟨G', g, dr, tk', os⟩ := I1.laid (t' := tk') old M.dbig ob
    have hn : H1 e = none := I1.hok.fresh M.new
    have J2 := J.laidN (a := e) (o := .ext (ExV C (some d) e)) (h' := h') (t' := tk') (fun b u q => by
      by_cases hb : b = e
      · have q' : G'.get? b = some u := q
        rw [hb, ge] at q'; cases q'
      · exact (gk b hb).symm.trans q) ge (by rw [upd_ne (Ne.symm M.dne)]; exact hn) (exV_ok hoe ⟨hc, hd⟩ hdat)
    exact ⟨.ref e, _, J2, rfl, q1 e d hn (I1.hok.fresh M.dbig) M.dne⟩
theorem pe_newX0 (T : Ex0 X.K X.mg x C) (hg : Gl X x := by rfl) (hdb : (x == ("__debug__" : Str)) = false := by decide) : PE X (.Call (.Name x p) [] [] pos) (fun _ H Q => ∀ e, H e = none → Q (.ref e) (upd H e (.ext (ExV C none e)))) := by
  refine ⟨fun pins s σ H Q I h => ?_⟩
  refine wpAny_Call_Name_kw (ld_glob I hg T.g ?_ hdb)
  refine PySem.W.callWith_K0 I.kIn T.k ?_
  obtain ⟨bm, N, nm, qn, bs, hdct, sn, sub, ab, col, dd, k0, k1, k2, k3, k5, mN, hC, hN, hni, T'⟩ := exc_obj I.kIn T.q
  refine wpAny_call_exc_subT PySem.F.excBase_ValueError T' hC hN hni (fun h' e hm => ?_) (Nat.zero_le _)
  have hn : H e = none := I.hok.gone hm.new
  obtain ⟨t, ht, _, _⟩ := hm.there
  exact ⟨.ref e, _, I.laidN hm.keeps hm.new hn (exV_ok ht ⟨rfl, rfl⟩ rfl), rfl, h e hn⟩
def dNewX (C : Addr) (fn : Str) (de : DE) : DE := fun ρ μ Q Z => de ρ μ (fun v μ1 => ∀ e d, μ1 e = none → Q (.xcp e C (some d) [(fn, v)]) (mset μ1 e (exM C (some d) e))) Z
def dNewX0 (C : Addr) : DE := fun _ μ Q _ => ∀ e, μ e = none → Q (.xcp e C none []) (mset μ e (exM C none e))
theorem d_newX {a : Expr} {de : DE} {k : Nat} (M : MadeR X.K X.mg x fn C) (T : ExI X.K X.mg x fn C) (hr : Room (k + 1) X.A) (ha : PD X W a de) (hg : Gl X x := by rfl) (hdb : (x == ("__debug__" : Str)) = false := by decide)
    (he : starEach (a :: []) X.env = (false, eval a X.env) :: starEach [] X.env := by rfl) (hpl : (backTo pos (starEach [] X.env)).any (·.1) = false := by rfl) :
    PD X W (.Call (.Name x p) [a] [] pos) (dNewX C fn de) := by
  obtain ⟨te, a1, a2⟩ := ha.ex
  refine ⟨_, pe_newX M T hr (pa_cons a1 pa_nil (hs := he)) hg hdb he hpl, fun {B F σ H ρ μ Qd Xd Q} S q gx k => a2 S q gx fun v F1 H1 d1 μ1 g1 S1 z1 q1 => ⟨v, rfl, fun e d he hd hne => ?_⟩⟩
  obtain ⟨W2, g2⟩ := S1.wd.new (o := .xd [(fn, v)]) hd
  have he2 : upd H1 d (.xd [(fn, v)]) e = none := by rw [upd_ne (Ne.symm hne)]; exact he
  obtain ⟨W3, g3⟩ := W2.newMu (o := .ext (ExV C (some d) e)) (mo := exM C (some d) e) he2 (exM_ok upd_same)
  refine k (.ref e) _ _ (.xcp e C (some d) [(fn, d1)]) _ ((g1.trans g2).trans g3) ((S1.go g2 W2).go g3 W3) ?_ (q1 e d (S1.wd.free he).2)
  unfold Fz
  refine ⟨rfl, .inr ⟨d, [(fn, v)], rfl, upd_same, ?_⟩⟩
  unfold FzS
  refine ⟨v, [], rfl, z1.mono g2.fz, ?_⟩
  unfold FzS
  rfl
theorem d_newX0 (T : Ex0 X.K X.mg x C) (hg : Gl X x := by rfl) (hdb : (x == ("__debug__" : Str)) = false := by decide) : PD X W (.Call (.Name x p) [] [] pos) (dNewX0 C) := by
  refine ⟨_, pe_newX0 T hg hdb, fun {B F σ H ρ μ Qd Xd Q} S q gx k e he => ?_⟩
  obtain ⟨W3, g3⟩ := S.wd.newMu (o := .ext (ExV C none e)) (mo := exM C none e) he (exM_ok upd_same)
  refine k (.ref e) _ _ (.xcp e C none []) _ g3 (S.go g3 W3) ?_ (q e (S.wd.free he).2)
  unfold Fz
  exact ⟨rfl, .inl ⟨rfl, rfl⟩⟩
theorem inst_ex {pins : List (Addr × Obj)} {σ : L2.St} {H : Hp} {s : Shared} {a : Addr} {d : Option Addr} (I : Inv X pins σ H s) (h : H a = some (.ext (ExV C d a))) (hd : d = none ∨ ∃ dd vs, d = some dd ∧ H dd = some (.xd vs)) : ∃ oe od, PySem.W.InstAt s.heap a oe C od := by
  obtain ⟨⟨oe, vs, hget, hz, hv⟩, _, _⟩ := I.hok a _ h
  rcases hd with rfl | ⟨dd, ws, rfl, hH⟩
  · refine ⟨oe, none, hget, hz.1, ?_, ?_⟩
    · unfold PySem.W.notCls
      rw [hv] <;> rfl
    · rw [hz.2]
      trivial
  · obtain ⟨mA, hns, hr⟩ := (show ObjOk X.prog X.w H s.heap dd (.xd ws) from I.hok dd _ hH)
    obtain ⟨od, ho, hl⟩ := lookIn_ns hns
    refine ⟨oe, some od, hget, hz.1, ?_, ?_⟩
    · unfold PySem.W.notCls
      rw [hv] <;> rfl
    · rw [hz.2]
      exact ho
def rIsV (K : PySem.W.Frag) : List V → Hp → VK → Prop := fun xs H Q => ∃ a C d c u b, xs = [.ref a, c] ∧ H a = some (.ext (ExV C d a)) ∧ (d = none ∨ ∃ dd vs, d = some dd ∧ H dd = some (.xd vs)) ∧ ExK K C ∧ ClsV c u ∧ PySem.W.kitOne K (.ref C) u = some b ∧ Q (.bl b) H
theorem call_isV : CallR X (.builtin "isinstance") (rIsV X.K) := by
  intro pins s σ H xs us Q I r h
  obtain ⟨a, C, d, c, u, b, rfl, ha, hd, T, k, e, q⟩ := h
  obtain ⟨oe, od, J⟩ := inst_ex I ha hd
  have Z := PySem.W.kitx_exc (x := a) (od := od) (ox := oe) T.hcl T.hga T.hgt T.hsub T.ha T.hn T.htk T.hm
  obtain ⟨u1, u2, rfl, r1, r2⟩ := vals2 r
  have e2 := k.eq r2
  subst e2
  cases (show u1 = Value.ref a from r1)
  exact PySem.W.kia_one Z I.kIn J e (fun z => nomatch z) fun tk => ⟨.bl b, H, I.tok tk, rfl, q⟩
def isvP (K : PySem.W.Frag) (μ : Mu) (ds : List D) (Q : Bool → Prop) : Prop := match ds with
  | [.xcp a C d _, x] => μ a = some (exM C d a) ∧ ExK K C ∧ ∃ u b, clsU x = some u ∧ PySem.W.kitOne K (.ref C) u = some b ∧ Q b
  | _ => False
def dIsV (K : PySem.W.Frag) (a : DA) : DE := fun ρ μ Q Z => a ρ μ (fun ds μ1 => isvP K μ1 ds fun b => Q (.bl b) μ1) Z
theorem d_isV {e f : Expr} {da : DA} (hm : X.mg "isinstance" = none) (ha : PAB X W [e, f] da) (hg : Gl X "isinstance" := by rfl)
    (he : starEach [e, f] X.env = (false, eval e X.env) :: starEach [f] X.env := by rfl) (hpl : (backTo pos (starEach [f] X.env)).any (·.1) = false := by rfl) :
    PD X W (.Call (.Name "isinstance" p) [e, f] [] pos) (dIsV X.K da) := by
  obtain ⟨ta, a1, a2⟩ := ha.ex
  refine ⟨_, pe_callB call_isV hg hm (by decide +kernel) a1 (by decide) (by decide) he hpl, fun {B F σ H ρ μ Qd Xd Q} S q gx k => a2 S q gx fun vs F1 H1 ds μ1 g1 S1 z1 q1 => ?_⟩
  unfold isvP at q1
  split at q1
  · rename_i a C d fs x
    obtain ⟨hm1, T, u, b, e1, e2, q2⟩ := q1
    obtain ⟨v, r, rfl, za, z2⟩ := bzl_inv z1
    obtain ⟨c, r2, rfl, z3, z4⟩ := bzl_inv z2
    rw [bzl_inv0 z4]
    have z1' : Fz F1 (.xcp a C d fs) v := za
    unfold Fz at z1'
    obtain ⟨rfl, hx⟩ := z1'
    obtain ⟨⟨hH, _⟩, _⟩ := S1.wd.mu a _ hm1
    refine ⟨a, C, d, c, u, b, rfl, hH, ?_, T, ?_, e2, k _ F1 H1 (.bl b) μ1 g1 S1 fz_bl q2⟩
    · rcases hx with ⟨h, _⟩ | ⟨dd, ws, h1, h2, _⟩
      · exact .inl h
      · exact .inr ⟨dd, ws, h1, S1.wd.ext _ _ h2⟩
    · cases x with
      | ty T' => cases e1; exact cls_v (F := F1) (d := .ty T') (show Fz F1 (.ty T') c from z3) rfl
      | obj c' => cases e1; exact cls_v (F := F1) (d := .obj c') (show Fz F1 (.obj c') c from z3) rfl
      | non => cases e1
      | bl _ => cases e1
      | int _ => cases e1
      | str _ => cases e1
      | tup _ => cases e1
      | lst _ => cases e1
      | dic _ => cases e1
      | ins _ _ => cases e1
      | scr _ _ => cases e1
      | xcp _ _ _ _ => cases e1
  · exact q1.elim
theorem pe_xv {e : Expr} {te : TE} {n : Str} (he : PE X e te) (hb : attributeBase e n X.env (eval e X.env) = eval e X.env := by rfl) :
    PE X (.Attribute e n pos) (fun σ H Q => te σ H fun x H1 => ∃ a C dd fs v, x = .ref a ∧ XfC X.K C ∧ PySem.W.findIn X.K (.ref C) n = some none ∧ H1 a = some (.ext (ExV C (some dd) a)) ∧ H1 dd = some (.xd fs) ∧ fs.lookup n = some v ∧ Q v H1) := by
  refine ⟨fun pins s σ H Q I h => ?_⟩
  refine attr_of hb (thn (he.run pins s σ H _ I h) fun u s1 hh => ?_)
  obtain ⟨x, H1, I1, rx, a, C, dd, fs, v, ex, T, hno, ea, ed, l, q⟩ := hh
  subst ex
  obtain rfl : u = Value.ref a := rx
  obtain ⟨⟨oe, vs, ha, hz, hd⟩, _, _⟩ := I1.hok a _ ea
  have hx : ObjOk X.prog X.w H1 s1.heap dd (.xd fs) := I1.hok dd _ ed
  obtain ⟨mA, hns, hr⟩ := hx
  obtain ⟨od, ho, hl⟩ := lookIn_ns hns
  obtain ⟨u, hu, ru⟩ := RelO.some_of (v := v) (o := mA n) (by rw [← l]; exact hr n)
  have J : PySem.W.InstAt s1.heap a oe C (some od) := ⟨ha, hz.1, by unfold PySem.W.notCls; rw [hd] <;> rfl, by rw [hz.2]; exact ho⟩
  exact HandSPX.exc_get I1.kIn J T.ga T.gg T.exC (PySem.W.findObj_own T.hdC hno rfl (by rw [hl, hu])) (handed_of ru) ⟨v, H1, I1.tok _, ru, q⟩
def xvP (K : PySem.W.Frag) (μ : Mu) (f : Str) (x : D) (Q : D → Prop) : Prop := match x with
  | .xcp a C d fs => d ≠ none ∧ μ a = some (exM C d a) ∧ XfC K C ∧ PySem.W.findIn K (.ref C) f = some none ∧ ∃ y, fs.lookup f = some y ∧ Q y
  | _ => False
def dXV (K : PySem.W.Frag) (f : Str) (o : DE) : DE := fun ρ μ Q X => o ρ μ (fun x μ1 => xvP K μ1 f x fun y => Q y μ1) X
theorem d_xv {e : Expr} {de : DE} {n : Str} (he : PD X W e de) (hb : attributeBase e n X.env (eval e X.env) = eval e X.env := by rfl) : PD X W (.Attribute e n pos) (dXV X.K n de) := by
  obtain ⟨te, a1, a2⟩ := he.ex
  refine ⟨_, pe_xv a1 hb, fun {B F σ H ρ μ Qd Xd Q} S q gx k => a2 S q gx fun v F1 H1 x μ1 g1 S1 z1 q1 => ?_⟩
  unfold xvP at q1
  split at q1
  · rename_i a C d fs
    obtain ⟨hd, hm, T, hno, y, hy, q2⟩ := q1
    unfold Fz at z1
    obtain ⟨rfl, hx⟩ := z1
    rcases hx with ⟨h, _⟩ | ⟨dd, ws, rfl, h2, h3⟩
    · exact absurd h hd
    · obtain ⟨u, hu, zu⟩ := h3.look hy
      obtain ⟨⟨hH, _⟩, _⟩ := S1.wd.mu a _ hm
      exact ⟨a, C, dd, ws, u, rfl, T, hno, hH, S1.wd.ext _ _ h2, hu, k u F1 H1 y μ1 g1 S1 zu q2⟩
  · exact q1.elim
theorem u_isV {K : PySem.W.Frag} {a : DA} {ρ : List Slot} {μ : Mu} {Q : DQ} {Z : DXQ} : dIsV K a ρ μ Q Z = a ρ μ (fun ds μ1 => isvP K μ1 ds fun b => Q (.bl b) μ1) Z := rfl
theorem u_xv {K : PySem.W.Frag} {f : Str} {o : DE} {ρ : List Slot} {μ : Mu} {Q : DQ} {Z : DXQ} : dXV K f o ρ μ Q Z = o ρ μ (fun x μ1 => xvP K μ1 f x fun y => Q y μ1) Z := rfl
theorem u_newX {C : Addr} {fn : Str} {de : DE} {ρ : List Slot} {μ : Mu} {Q : DQ} {Z : DXQ} : dNewX C fn de ρ μ Q Z = de ρ μ (fun v μ1 => ∀ e d, μ1 e = none → Q (.xcp e C (some d) [(fn, v)]) (mset μ1 e (exM C (some d) e))) Z := rfl
theorem u_newX0 {C : Addr} {ρ : List Slot} {μ : Mu} {Q : DQ} {Z : DXQ} : dNewX0 C ρ μ Q Z = ∀ e, μ e = none → Q (.xcp e C none []) (mset μ e (exM C none e)) := rfl
theorem eqs_thereTE : True := by
  have _ := @dNewX.eq_1
  have _ := @dNewX0.eq_1
  have _ := @dIsV.eq_1
  have _ := @dXV.eq_1
  have _ := @isvP.eq_1
  have _ := @xvP.eq_1
  trivial
end
end DL

namespace DL
open PySem PySem.W PySem.Calls PyProof.Rows PySem.HandSPX
section
variable {K : Frag} {mg : Str → Option Value} {x : Str} {C : Addr}
theorem init_version {prog : Program} {w : World} {A : Around} {E : Value → Shared → Prop} {R : Result → Shared → Prop} {s : Shared} (T : ExI K mg x "version" C) {x0 t0 fI : Addr} {v : Value} (hfI : ∃ (oc : Value) (od : Option Addr) (doc pm : Value) (an : Option Addr) (cdv ct : Value) (osl : Array (Option Value)) (qual : Str) (p1 p2 q1 q2 q3 q4 : Pos),
    K.lookup fI = some ⟨oc, od, .func (fnOf "__init__" qual (iA "version" p1 p2) (iB "version" q1 q2 q3 q4) (iS "version") .none .none doc pm an cdv ct), osl⟩ ∧ codeIn K cdv qual = true) (X : K.In s.heap) (hlim : s.heap.NoLimit) (hx : s.heap.get? x0 = some (excO C t0)) (hnx : K.lookup x0 = none) (hroom : A.depth < recursionLimit)
    (hq : ∀ h' tk dx, InitEnd "version" s.heap h' x0 C dx t0 v → R (.ok (.ret .none)) { s with heap := h', toks := tk }) :
    codeAny (model prog w) A (.call (.ref fI) ⟨[.ref x0, v], []⟩) R s := by
  obtain ⟨oc, od, doc, pm, an, cdv, ct, osl, qual, p1, p2, q1, q2, q3, q4, ho, hcd⟩ := hfI
  obtain ⟨nm, q, N, bs, bm, sn, sub, ab, col, dd, k0, k1, k2, k3, k5, hC, hbm⟩ := T.cls
  have hcl : clsIn K C = some { name := nm, bases := bs, mro := .ref C :: bm, ns := N, qualname := q, hasDict := true, slotNames := sn, subclasses := sub, abstract := ab, collection := col, hasDel := false } := by unfold clsIn; rw [hC] <;> rfl
  refine Att.call_fn (binds := [("self", .ref x0), ("version", v)]) X hlim ho hcd hroom (BindsTo.of_eq (by first | rfl | with_unfolding_all rfl)) (by first | rfl | decide | with_unfolding_all rfl) (fun s₁ IC => ?_) rfl rfl rfl
  obtain ⟨h₁, tk₁, rfl⟩ := IC.toInCall.same
  have k : ∀ b o, s.heap.get? b = some o → h₁.get? b = some o := IC.toInCall.keep
  have hn := IC.toInCall.ns
  have hxL : s.heap.objs.size ≠ x0 := Nat.ne_of_gt (Heap.lt_size hx)
  have X₁ : K.In h₁ := X.keeps k
  have hx₁ := k _ _ hx
  show wpAny _ _ (execs _ _) _ _ _
  refine wpAny_execs_cons (plainObj_wpAny_Assign_Attribute ?_)
  refine xldC (v := v) hn (by first | rfl | with_unfolding_all rfl | kernel_rfl) (xldC (v := .ref x0) hn (by first | rfl | with_unfolding_all rfl | kernel_rfl) ?_)
  refine set_plain X₁ (ox := excO C t0) (od := none) ⟨hx₁, rfl, rfl, trivial⟩ T.sa ?_
  refine exc_osa X₁ hx₁ hcl (show refsVE (.ref C :: bm) = true from hbm) rfl T.noN (fun h₃ tk₃ dx k₃ dn dne hx₃ hn₃ => ?_)
  show wpAny _ _ (execs _ _) _ _ _
  have z : s.heap.objs.size < h₁.objs.size := hn.lt
  exact wpAny_execs_nil (hq h₃ tk₃ dx ⟨fun b o hb e => k₃ b o hb (k b o e), hx₃, Nat.le_of_lt (Nat.lt_of_lt_of_le z dn), dne, hn₃⟩)
theorem made_version (T : ExI K mg x "version" C) : MadeR K mg x "version" C := fun {prog w A R s v} X hlim hroom hq => by
  obtain ⟨nm, q, N, bs, bm, sn, sub, ab, col, dd, k0, k1, k2, k3, k5, hC, hbm⟩ := T.cls
  obtain ⟨fI, iC, tC, hfI⟩ := T.fI
  obtain ⟨hp, g, dr, tk, os⟩ := s
  have k : ∀ b o, hp.get? b = some o → ((hp.push (kdv_tup [v])).push (excO C hp.objs.size)).get? b = some o := fun b o e => Heap.get?_push_of_some _ (Heap.get?_push_of_some _ e)
  have hget : ((hp.push (kdv_tup [v])).push (excO C hp.objs.size)).get? (hp.objs.size + 1) = some (excO C hp.objs.size) := by heap_get
  have hnx : K.lookup (hp.objs.size + 1) = none := by
    cases e : K.lookup (hp.objs.size + 1) with
    | none => rfl
    | some o =>
      have z : hp.get? (hp.objs.size + 1) = some o := X _ _ e
      exact absurd (Nat.lt_of_succ_lt (Heap.lt_size z)) (Nat.lt_irrefl _)
  refine call_own F.excBase_ValueError (fun X => refsVE_contains X bm hbm) (X _ _ hC) (looks_findIn X iC) (fun self => bind_fn X self tC) (x_one_size v) ?_
  refine init_version (s := ⟨(hp.push (kdv_tup [v])).push (excO C hp.objs.size), g, dr, tk, os⟩) (E := fun _ _ => True) T hfI (X.keeps k) (hlim.keeps k) hget hnx ?_ fun h' tk' dx ⟨k', hx, dn, dne, hns⟩ => ?_
  · show A.depth + 1 < recursionLimit
    exact hroom
  · have old : ∀ b o, hp.get? b = some o → h'.get? b = some o := fun b o e => k' b o (Nat.ne_of_lt (Nat.lt_succ_of_lt (Heap.lt_size e))) (k b o e)
    have z : hp.objs.size + 1 + 1 ≤ dx := by
      first
        | (simpa only [Heap.size_push] using dn)
        | exact dn
        | (have q := dn; rw [Heap.size_push, Heap.size_push] at q; exact q)
    exact ⟨rfl, hq h' tk' (hp.objs.size + 1) dx ⟨old, Nat.le_succ _, ⟨_, _, hx, rfl, rfl, rfl, rfl, rfl, (by decide : 4 < 6)⟩, Nat.le_trans (Nat.le_trans (Nat.le_succ _) (Nat.le_succ _)) z, dne, hns⟩⟩
end
end DL

namespace DL
open PySem PySem.W PySem.Calls PyProof.Rows PySem.HandSPX
section
variable {K : Frag} {mg : Str → Option Value} {x : Str} {C : Addr}
theorem init_error {prog : Program} {w : World} {A : Around} {E : Value → Shared → Prop} {R : Result → Shared → Prop} {s : Shared} (T : ExI K mg x "error" C) {x0 t0 fI : Addr} {v : Value} (hfI : ∃ (oc : Value) (od : Option Addr) (doc pm : Value) (an : Option Addr) (cdv ct : Value) (osl : Array (Option Value)) (qual : Str) (p1 p2 q1 q2 q3 q4 : Pos),
    K.lookup fI = some ⟨oc, od, .func (fnOf "__init__" qual (iA "error" p1 p2) (iB "error" q1 q2 q3 q4) (iS "error") .none .none doc pm an cdv ct), osl⟩ ∧ codeIn K cdv qual = true) (X : K.In s.heap) (hlim : s.heap.NoLimit) (hx : s.heap.get? x0 = some (excO C t0)) (hnx : K.lookup x0 = none) (hroom : A.depth < recursionLimit)
    (hq : ∀ h' tk dx, InitEnd "error" s.heap h' x0 C dx t0 v → R (.ok (.ret .none)) { s with heap := h', toks := tk }) :
    codeAny (model prog w) A (.call (.ref fI) ⟨[.ref x0, v], []⟩) R s := by
  obtain ⟨oc, od, doc, pm, an, cdv, ct, osl, qual, p1, p2, q1, q2, q3, q4, ho, hcd⟩ := hfI
  obtain ⟨nm, q, N, bs, bm, sn, sub, ab, col, dd, k0, k1, k2, k3, k5, hC, hbm⟩ := T.cls
  have hcl : clsIn K C = some { name := nm, bases := bs, mro := .ref C :: bm, ns := N, qualname := q, hasDict := true, slotNames := sn, subclasses := sub, abstract := ab, collection := col, hasDel := false } := by unfold clsIn; rw [hC] <;> rfl
  refine Att.call_fn (binds := [("self", .ref x0), ("error", v)]) X hlim ho hcd hroom (BindsTo.of_eq (by first | rfl | with_unfolding_all rfl)) (by first | rfl | decide | with_unfolding_all rfl) (fun s₁ IC => ?_) rfl rfl rfl
  obtain ⟨h₁, tk₁, rfl⟩ := IC.toInCall.same
  have k : ∀ b o, s.heap.get? b = some o → h₁.get? b = some o := IC.toInCall.keep
  have hn := IC.toInCall.ns
  have hxL : s.heap.objs.size ≠ x0 := Nat.ne_of_gt (Heap.lt_size hx)
  have X₁ : K.In h₁ := X.keeps k
  have hx₁ := k _ _ hx
  show wpAny _ _ (execs _ _) _ _ _
  refine wpAny_execs_cons (plainObj_wpAny_Assign_Attribute ?_)
  refine xldC (v := v) hn (by first | rfl | with_unfolding_all rfl | kernel_rfl) (xldC (v := .ref x0) hn (by first | rfl | with_unfolding_all rfl | kernel_rfl) ?_)
  refine set_plain X₁ (ox := excO C t0) (od := none) ⟨hx₁, rfl, rfl, trivial⟩ T.sa ?_
  refine exc_osa X₁ hx₁ hcl (show refsVE (.ref C :: bm) = true from hbm) rfl T.noN (fun h₃ tk₃ dx k₃ dn dne hx₃ hn₃ => ?_)
  show wpAny _ _ (execs _ _) _ _ _
  have z : s.heap.objs.size < h₁.objs.size := hn.lt
  exact wpAny_execs_nil (hq h₃ tk₃ dx ⟨fun b o hb e => k₃ b o hb (k b o e), hx₃, Nat.le_of_lt (Nat.lt_of_lt_of_le z dn), dne, hn₃⟩)
theorem made_error (T : ExI K mg x "error" C) : MadeR K mg x "error" C := fun {prog w A R s v} X hlim hroom hq => by
  obtain ⟨nm, q, N, bs, bm, sn, sub, ab, col, dd, k0, k1, k2, k3, k5, hC, hbm⟩ := T.cls
  obtain ⟨fI, iC, tC, hfI⟩ := T.fI
  obtain ⟨hp, g, dr, tk, os⟩ := s
  have k : ∀ b o, hp.get? b = some o → ((hp.push (kdv_tup [v])).push (excO C hp.objs.size)).get? b = some o := fun b o e => Heap.get?_push_of_some _ (Heap.get?_push_of_some _ e)
  have hget : ((hp.push (kdv_tup [v])).push (excO C hp.objs.size)).get? (hp.objs.size + 1) = some (excO C hp.objs.size) := by heap_get
  have hnx : K.lookup (hp.objs.size + 1) = none := by
    cases e : K.lookup (hp.objs.size + 1) with
    | none => rfl
    | some o =>
      have z : hp.get? (hp.objs.size + 1) = some o := X _ _ e
      exact absurd (Nat.lt_of_succ_lt (Heap.lt_size z)) (Nat.lt_irrefl _)
  refine call_own F.excBase_ValueError (fun X => refsVE_contains X bm hbm) (X _ _ hC) (looks_findIn X iC) (fun self => bind_fn X self tC) (x_one_size v) ?_
  refine init_error (s := ⟨(hp.push (kdv_tup [v])).push (excO C hp.objs.size), g, dr, tk, os⟩) (E := fun _ _ => True) T hfI (X.keeps k) (hlim.keeps k) hget hnx ?_ fun h' tk' dx ⟨k', hx, dn, dne, hns⟩ => ?_
  · show A.depth + 1 < recursionLimit
    exact hroom
  · have old : ∀ b o, hp.get? b = some o → h'.get? b = some o := fun b o e => k' b o (Nat.ne_of_lt (Nat.lt_succ_of_lt (Heap.lt_size e))) (k b o e)
    have z : hp.objs.size + 1 + 1 ≤ dx := by
      first
        | (simpa only [Heap.size_push] using dn)
        | exact dn
        | (have q := dn; rw [Heap.size_push, Heap.size_push] at q; exact q)
    exact ⟨rfl, hq h' tk' (hp.objs.size + 1) dx ⟨old, Nat.le_succ _, ⟨_, _, hx, rfl, rfl, rfl, rfl, rfl, (by decide : 4 < 6)⟩, Nat.le_trans (Nat.le_trans (Nat.le_succ _) (Nat.le_succ _)) z, dne, hns⟩⟩
end
end DL

namespace DL
open PySem PySem.Spec PyProof.Rows L2
section
variable {s : Int}
end
section
variable {s : Int} {us : List Int} {c : Int}
end
end DL

namespace DL
open PySem PySem.Spec PyProof.Rows L2
theorem _root_.L2H.RoomH.units {k : Nat} {A : Around} (r : L2H.RoomH k A) : A.units + 64 < cLine := by have := r.un; omega
section
variable {P : Program} {w : World} {K : PySem.W.Frag} {mg : Str → Option Value} {base : Heap}
abbrev ESp := Addr → Addr → Option Addr → DSp
structure FnE (P : Program) (w : World) (K : PySem.W.Frag) (mg : Str → Option Value) (base : Heap) (k : Nat) (f : Addr) (fd : FuncData) (ps : List Str) (sp : ESp) : Prop where
  len : ∀ a C d ds μ Q Z, sp a C d ds μ Q Z → ds.length = ps.length
  run : ∀ (A : Around) (outer : List Env) (s : Shared) (H : Hp) (args : Args) (us : List Value) (vs : List V) (Q : VK) (a : Addr) (oe : Obj) (C : Addr) (d : Option Addr), L2H.RoomH k A → A.guards = some [] → Zc (.ref C) d oe → (∃ fs, oe.data = .fields fs) → L2H.PinOk outer H s (a, oe) →
    Env0 P w K mg base (A.mark (some (.ref a))) outer s H → BindsTo s fd args (ps.zip us) → Vals vs us → spOf (sp a C d) vs H Q (fun _ _ _ => False) → codeAny (model P w) (A.mark (some (.ref a))) (.call (.ref f) args) (CR (L2.CX P w) outer P w H s Q (fun _ _ _ => False)) s
structure CalE (P : Program) (w : World) (K : PySem.W.Frag) (mg : Str → Option Value) (base : Heap) (k : Nat) (x : Str) (sp : ESp) : Prop where
  ex : ∃ (f : Addr) (fd : FuncData) (ps : List Str), FnE P w K mg base k f fd ps sp ∧ mg x = some (.ref f) ∧ PySem.W.keepIn K (.ref f) = true ∧ Binds K fd ps []
end
section
variable {X : Cx} {k j : Nat} {x : Str} {p pos : Pos} {e : Expr} {es : List Expr} {da : DA} {sp : ESp} {a C : Addr} {oe : Obj} {d : Option Addr} {pn : List (Addr × Obj)}
end
end DL
namespace DL
open PySem PySem.Spec PyProof.Rows L2
section
variable {X : Cx} {W : WX} {p q pos pos2 : Pos} {e : Expr} {a : DA} {de : DE}
end
end DL
namespace DL
open PySem PySem.W PySem.Calls PyProof.Rows PySem.HandSPX
section
variable {K : Frag} {mg : Str → Option Value} {x : Str} {C : Addr}
theorem init_seats {prog : Program} {w : World} {A : Around} {E : Value → Shared → Prop} {R : Result → Shared → Prop} {s : Shared} (T : ExI K mg x "seats" C) {x0 t0 fI : Addr} {v : Value} (hfI : ∃ (oc : Value) (od : Option Addr) (doc pm : Value) (an : Option Addr) (cdv ct : Value) (osl : Array (Option Value)) (qual : Str) (p1 p2 q1 q2 q3 q4 : Pos),
    K.lookup fI = some ⟨oc, od, .func (fnOf "__init__" qual (iA "seats" p1 p2) (iB "seats" q1 q2 q3 q4) (iS "seats") .none .none doc pm an cdv ct), osl⟩ ∧ codeIn K cdv qual = true) (X : K.In s.heap) (hlim : s.heap.NoLimit) (hx : s.heap.get? x0 = some (excO C t0)) (hnx : K.lookup x0 = none) (hroom : A.depth < recursionLimit)
    (hq : ∀ h' tk dx, InitEnd "seats" s.heap h' x0 C dx t0 v → R (.ok (.ret .none)) { s with heap := h', toks := tk }) :
    codeAny (model prog w) A (.call (.ref fI) ⟨[.ref x0, v], []⟩) R s := by
  obtain ⟨oc, od, doc, pm, an, cdv, ct, osl, qual, p1, p2, q1, q2, q3, q4, ho, hcd⟩ := hfI
  obtain ⟨nm, q, N, bs, bm, sn, sub, ab, col, dd, k0, k1, k2, k3, k5, hC, hbm⟩ := T.cls
  have hcl : clsIn K C = some { name := nm, bases := bs, mro := .ref C :: bm, ns := N, qualname := q, hasDict := true, slotNames := sn, subclasses := sub, abstract := ab, collection := col, hasDel := false } := by unfold clsIn; rw [hC] <;> rfl
  refine Att.call_fn (binds := [("self", .ref x0), ("seats", v)]) X hlim ho hcd hroom (BindsTo.of_eq (by first | rfl | with_unfolding_all rfl)) (by first | rfl | decide | with_unfolding_all rfl) (fun s₁ IC => ?_) rfl rfl rfl
  obtain ⟨h₁, tk₁, rfl⟩ := IC.toInCall.same
  have k : ∀ b o, s.heap.get? b = some o → h₁.get? b = some o := IC.toInCall.keep
  have hn := IC.toInCall.ns
  have hxL : s.heap.objs.size ≠ x0 := Nat.ne_of_gt (Heap.lt_size hx)
  have X₁ : K.In h₁ := X.keeps k
  have hx₁ := k _ _ hx
  show wpAny _ _ (execs _ _) _ _ _
  refine wpAny_execs_cons (plainObj_wpAny_Assign_Attribute ?_)
  refine xldC (v := v) hn (by first | rfl | with_unfolding_all rfl | kernel_rfl) (xldC (v := .ref x0) hn (by first | rfl | with_unfolding_all rfl | kernel_rfl) ?_)
  refine set_plain X₁ (ox := excO C t0) (od := none) ⟨hx₁, rfl, rfl, trivial⟩ T.sa ?_
  refine exc_osa X₁ hx₁ hcl (show refsVE (.ref C :: bm) = true from hbm) rfl T.noN (fun h₃ tk₃ dx k₃ dn dne hx₃ hn₃ => ?_)
  show wpAny _ _ (execs _ _) _ _ _
  have z : s.heap.objs.size < h₁.objs.size := hn.lt
  exact wpAny_execs_nil (hq h₃ tk₃ dx ⟨fun b o hb e => k₃ b o hb (k b o e), hx₃, Nat.le_of_lt (Nat.lt_of_lt_of_le z dn), dne, hn₃⟩)
theorem made_seats (T : ExI K mg x "seats" C) : MadeR K mg x "seats" C := fun {prog w A R s v} X hlim hroom hq => by
  obtain ⟨nm, q, N, bs, bm, sn, sub, ab, col, dd, k0, k1, k2, k3, k5, hC, hbm⟩ := T.cls
  obtain ⟨fI, iC, tC, hfI⟩ := T.fI
  obtain ⟨hp, g, dr, tk, os⟩ := s
  have k : ∀ b o, hp.get? b = some o → ((hp.push (kdv_tup [v])).push (excO C hp.objs.size)).get? b = some o := fun b o e => Heap.get?_push_of_some _ (Heap.get?_push_of_some _ e)
  have hget : ((hp.push (kdv_tup [v])).push (excO C hp.objs.size)).get? (hp.objs.size + 1) = some (excO C hp.objs.size) := by heap_get
  have hnx : K.lookup (hp.objs.size + 1) = none := by
    cases e : K.lookup (hp.objs.size + 1) with
    | none => rfl
    | some o =>
      have z : hp.get? (hp.objs.size + 1) = some o := X _ _ e
      exact absurd (Nat.lt_of_succ_lt (Heap.lt_size z)) (Nat.lt_irrefl _)
  refine call_own F.excBase_ValueError (fun X => refsVE_contains X bm hbm) (X _ _ hC) (looks_findIn X iC) (fun self => bind_fn X self tC) (x_one_size v) ?_
  refine init_seats (s := ⟨(hp.push (kdv_tup [v])).push (excO C hp.objs.size), g, dr, tk, os⟩) (E := fun _ _ => True) T hfI (X.keeps k) (hlim.keeps k) hget hnx ?_ fun h' tk' dx ⟨k', hx, dn, dne, hns⟩ => ?_
  · show A.depth + 1 < recursionLimit
    exact hroom
  · have old : ∀ b o, hp.get? b = some o → h'.get? b = some o := fun b o e => k' b o (Nat.ne_of_lt (Nat.lt_succ_of_lt (Heap.lt_size e))) (k b o e)
    have z : hp.objs.size + 1 + 1 ≤ dx := by
      first
        | (simpa only [Heap.size_push] using dn)
        | exact dn
        | (have q := dn; rw [Heap.size_push, Heap.size_push] at q; exact q)
    exact ⟨rfl, hq h' tk' (hp.objs.size + 1) dx ⟨old, Nat.le_succ _, ⟨_, _, hx, rfl, rfl, rfl, rfl, rfl, (by decide : 4 < 6)⟩, Nat.le_trans (Nat.le_trans (Nat.le_succ _) (Nat.le_succ _)) z, dne, hns⟩⟩
end

end DL

namespace DL
open PySem PySem.Spec PyProof.Rows L2 TL
abbrev tx (s : Str) : List Nat := s.cps.toList
theorem tx_app (a b : Str) : tx (a ++ b) = tx a ++ tx b := by
  show (a.cps ++ b.cps).toList = _
  simp
theorem tx_lit (s : String) : tx (Str.ofString s) = s.toList.map Char.toNat := by
  rw [Str.ofString_eq_toList]
def tail' : List Str → List Nat
  | [] => []
  | t :: r => 44 :: 32 :: (tx t ++ tail' r)
theorem tx_sep : tx (Str.ofString ", ") = [44, 32] := by decide +kernel
theorem tx_from : ∀ (ts : List Str) (k : Nat) (acc : Str), tx (PySem.textFrom (k + 1) acc ts) = tx acc ++ tail' ts
  | [], k, acc => by simp [PySem.textFrom, tail']
  | t :: r, k, acc => by
    show tx (PySem.textFrom (k + 1 + 1) (acc ++ ((if k + 1 > 0 then ", " else "" : String) : Str) ++ t) r) = _
    rw [tx_from, tx_app, tx_app, if_pos (by omega), tx_sep]
    simp [tail']
theorem tx_join : ∀ (t : Str) (r : List Str), tx (Str.join ", " (t :: r)) = tx t ++ tail' r
  | t, [] => by simp [Str.join, tail']
  | t, u :: r => by
    show tx (t ++ ", " ++ Str.join ", " (u :: r)) = _
    rw [tx_app, tx_app, tx_join u r, tx_sep]
    simp [tail']
theorem tx_list0 : tx (PySem.listText []) = [91, 93] := by decide +kernel
theorem tx_list (t : Str) (r : List Str) : tx (PySem.listText (t :: r)) = 91 :: (tx t ++ (tail' r ++ [93])) := by
  show tx (PySem.textFrom 1 (("[" : Str) ++ ((if 0 > 0 then ", " else "" : String) : Str) ++ t) r ++ "]") = _
  rw [tx_app, tx_from, tx_app, tx_app, show tx (Str.ofString "[") = [91] from by decide +kernel, show tx (Str.ofString "]") = [93] from by decide +kernel, show tx ((if 0 > 0 then ", " else "" : String) : Str) = [] from by decide +kernel]
  simp
theorem tx_tup0 : tx (PySem.tupleText []) = [40, 41] := by decide +kernel
theorem tx_tup1 (t : Str) : tx (PySem.tupleText [t]) = 40 :: (tx t ++ [44, 41]) := by
  show tx (("(" : Str) ++ Str.join ", " [t] ++ ((if 1 == 1 then ",)" else ")" : String) : Str)) = _
  rw [tx_app, tx_app, tx_join, show tx (Str.ofString "(") = [40] from by decide +kernel, show tx ((if 1 == 1 then ",)" else ")" : String) : Str) = [44, 41] from by decide +kernel]
  simp [tail']
theorem tx_tup2 (t u : Str) (r : List Str) : tx (PySem.tupleText (t :: u :: r)) = 40 :: (tx t ++ (tail' (u :: r) ++ [41])) := by
  show tx (("(" : Str) ++ Str.join ", " (t :: u :: r) ++ ((if (r.length + 1 + 1) == 1 then ",)" else ")" : String) : Str)) = _
  rw [tx_app, tx_app, tx_join, show tx (Str.ofString "(") = [40] from by decide +kernel, if_neg (by simp), show tx (Str.ofString ")") = [41] from by decide +kernel]
  simp
theorem tx_int (i : Int) : (∃ n : Nat, i = n ∧ tx (Str.ofString (toString i)) = numL n) ∨ (∃ n : Nat, i = Int.negSucc n ∧ tx (Str.ofString (toString i)) = 45 :: numL (n + 1)) := by
  cases i with
  | ofNat n => exact .inl ⟨n, rfl, tl_num n⟩
  | negSucc n =>
    refine .inr ⟨n, rfl, ?_⟩
    have e : toString (Int.negSucc n) = "-" ++ toString (((n + 1 : Nat) : Nat) : Int) := rfl
    rw [e, tx_lit, String.toList_append, List.map_append, ← tx_lit (toString (((n + 1 : Nat)) : Int))]
    have := tl_num (n + 1)
    rw [show tx (Str.ofString (toString (((n + 1 : Nat)) : Int))) = numL (n + 1) from this]
    rfl
def numC (c : Nat) : Bool := c == 45 || (decide (48 ≤ c) && decide (c ≤ 57))
theorem numL_C {n : Nat} : ∀ c ∈ numL n, numC c = true := fun c hc => by
  have a : ¬ c < 48 := fun h => numL_free (n := n) (s := c) (.inl h) hc
  have b : ¬ 57 < c := fun h => numL_free (n := n) (s := c) (.inr h) hc
  simp [numC]
  omega
theorem int_C {i : Int} : ∀ c ∈ tx (Str.ofString (toString i)), numC c = true := fun c hc => by
  rcases tx_int i with ⟨n, _, e⟩ | ⟨n, _, e⟩ <;> rw [e] at hc
  · exact numL_C c hc
  · rcases List.mem_cons.mp hc with rfl | hc
    · rfl
    · exact numL_C c hc
theorem int_ne {i : Int} : tx (Str.ofString (toString i)) ≠ [] := by
  rcases tx_int i with ⟨n, _, e⟩ | ⟨n, _, e⟩ <;> rw [e]
  · exact numL_ne n
  · simp
theorem int_inj {i j : Int} (h : tx (Str.ofString (toString i)) = tx (Str.ofString (toString j))) : i = j := by
  have no : ∀ (m n : Nat), numL m ≠ 45 :: numL n := fun m n h => numL_free (n := m) (s := 45) (.inl (by omega)) (by rw [h]; simp)
  rcases tx_int i with ⟨m, e1, e2⟩ | ⟨m, e1, e2⟩ <;> rcases tx_int j with ⟨n, e3, e4⟩ | ⟨n, e3, e4⟩ <;> rw [e2, e4] at h
  · rw [e1, e3, numL_inj h]
  · exact (no _ _ h).elim
  · exact (no _ _ h.symm).elim
  · have := numL_inj (List.cons.inj h).2
    rw [e1, e3, show m = n from by omega]
theorem munch {p : Nat → Bool} : ∀ {l1 l2 r1 r2 : List Nat}, (∀ c ∈ l1, p c = true) → (∀ c ∈ l2, p c = true) → (∀ c t, r1 = c :: t → p c = false) → (∀ c t, r2 = c :: t → p c = false) → l1 ++ r1 = l2 ++ r2 → l1 = l2 ∧ r1 = r2
  | [], [], r1, r2, _, _, _, _, h => ⟨rfl, h⟩
  | [], c :: l2, r1, r2, _, h2, h3, _, h => by
    have := h3 c (l2 ++ r2) h
    rw [h2 c List.mem_cons_self] at this
    cases this
  | c :: l1, [], r1, r2, h1, _, _, h4, h => by
    have := h4 c (l1 ++ r1) h.symm
    rw [h1 c List.mem_cons_self] at this
    cases this
  | c :: l1, d :: l2, r1, r2, h1, h2, h3, h4, h => by
    obtain ⟨rfl, h0⟩ := List.cons.inj h
    obtain ⟨rfl, e⟩ := munch (fun x hx => h1 x (List.mem_cons_of_mem _ hx)) (fun x hx => h2 x (List.mem_cons_of_mem _ hx)) h3 h4 h0
    exact ⟨rfl, e⟩
def Stop (r : List Nat) : Prop := ∀ c t, r = c :: t → c = 44 ∨ c = 41 ∨ c = 93
mutual
def plT : PyData → Bool
  | .none | .bool _ | .int _ => true
  | .str x => decide (tx (reprText x) = 39 :: (tx x ++ [39])) && !(tx x).contains 39
  | .list xs | .tuple xs => plTL xs
  | .dict [] => true
  | .dict _ => false
def plTL : List PyData → Bool
  | [] => true
  | x :: xs => plT x && plTL xs
end
def kd : PyData → Nat
  | .none => 0
  | .bool true => 1
  | .bool false => 2
  | .int _ => 3
  | .str _ => 4
  | .list _ => 5
  | .tuple _ => 6
  | .dict _ => 7
def kc (c : Nat) : Nat := if numC c = true then 3 else if c = 78 then 0 else if c = 84 then 1 else if c = 70 then 2 else if c = 39 then 4 else if c = 91 then 5 else if c = 40 then 6 else if c = 123 then 7 else 9
theorem kc_num {c : Nat} (h : numC c = true) : kc c = 3 := by
  unfold kc
  rw [if_pos h]
theorem kd_le : ∀ (a : PyData), kd a ≤ 7
  | .none => by simp [kd]
  | .bool true => by simp [kd]
  | .bool false => by simp [kd]
  | .int _ => by simp [kd]
  | .str _ => by simp [kd]
  | .list _ => by simp [kd]
  | .tuple _ => by simp [kd]
  | .dict _ => by simp [kd]
theorem kd_hd : ∀ {a : PyData}, plT a = true → ∃ c t, tx a.shown = c :: t ∧ kc c = kd a
  | .none, _ => ⟨78, _, rfl, rfl⟩
  | .bool true, _ => ⟨84, _, rfl, rfl⟩
  | .bool false, _ => ⟨70, _, rfl, rfl⟩
  | .int i, _ => by
    cases e : tx (Str.ofString (toString i)) with
    | nil => exact (int_ne e).elim
    | cons c t => exact ⟨c, t, e, kc_num (int_C c (by rw [e]; simp))⟩
  | .str x, h => by
    simp only [plT, Bool.and_eq_true, decide_eq_true_eq] at h
    exact ⟨39, _, h.1, rfl⟩
  | .list [], _ => ⟨91, _, tx_list0, rfl⟩
  | .list (x :: xs), _ => ⟨91, _, tx_list _ _, rfl⟩
  | .tuple [], _ => ⟨40, _, tx_tup0, rfl⟩
  | .tuple [x], _ => ⟨40, _, tx_tup1 _, rfl⟩
  | .tuple (x :: y :: xs), _ => ⟨40, _, tx_tup2 _ _ _, rfl⟩
  | .dict [], _ => ⟨123, [125], by decide +kernel, rfl⟩
  | .dict (_ :: _), h => by simp [plT] at h
theorem kd_eq {a b : PyData} {r1 r2 : List Nat} (ha : plT a = true) (hb : plT b = true) (h : tx a.shown ++ r1 = tx b.shown ++ r2) : kd a = kd b := by
  obtain ⟨c, t, e1, e2⟩ := kd_hd ha
  obtain ⟨d, u, e3, e4⟩ := kd_hd hb
  rw [e1, e3] at h
  rw [← e2, ← e4, (List.cons.inj h).1]
theorem stop_tail {ts : List Str} {c : Nat} {r : List Nat} (hc : c = 41 ∨ c = 93) : Stop (tail' ts ++ c :: r) := by
  intro d t h
  cases ts with
  | nil => rw [← (List.cons.inj h).1]; omega
  | cons x xs =>
    have h' : 44 :: 32 :: (tx x ++ tail' xs) ++ c :: r = d :: t := h
    rw [← (List.cons.inj h').1]
    omega
theorem stop_c {c : Nat} {r : List Nat} (hc : c = 44 ∨ c = 41 ∨ c = 93) : Stop (c :: r) := fun d t h => by
  rw [← (List.cons.inj h).1]
  exact hc
theorem no_close {y : PyData} {c : Nat} {r u t : List Nat} (hy : plT y = true) (hc : c = 41 ∨ c = 93) (h : c :: r = (tx y.shown ++ u) ++ t) : False := by
  obtain ⟨d, v, e1, e2⟩ := kd_hd hy
  rw [e1] at h
  have := (List.cons.inj h).1
  have k := kd_le y
  rw [← this] at e2
  have k9 : kc c = 9 := by rcases hc with rfl | rfl <;> rfl
  omega
mutual
theorem inj1 : ∀ (a b : PyData) (r1 r2 : List Nat), plT a = true → plT b = true → Stop r1 → Stop r2 → tx a.shown ++ r1 = tx b.shown ++ r2 → a = b ∧ r1 = r2
  | .none, b, r1, r2, ha, hb, s1, s2, h => by
    have k := kd_eq ha hb h
    match b, k with
    | .none, _ => exact ⟨rfl, List.append_cancel_left h⟩
  | .bool true, b, r1, r2, ha, hb, s1, s2, h => by
    have k := kd_eq ha hb h
    match b, k with
    | .bool true, _ => exact ⟨rfl, List.append_cancel_left h⟩
  | .bool false, b, r1, r2, ha, hb, s1, s2, h => by
    have k := kd_eq ha hb h
    match b, k with
    | .bool false, _ => exact ⟨rfl, List.append_cancel_left h⟩
  | .int i, b, r1, r2, ha, hb, s1, s2, h => by
    have k := kd_eq ha hb h
    match b, k with
    | .int j, _ =>
      have st : ∀ {r : List Nat}, Stop r → ∀ c t, r = c :: t → numC c = false := fun s c t e => by
        rcases s c t e with rfl | rfl | rfl <;> rfl
      obtain ⟨e1, e2⟩ := munch int_C int_C (st s1) (st s2) h
      exact ⟨by rw [int_inj e1], e2⟩
  | .str x, b, r1, r2, ha, hb, s1, s2, h => by
    have k := kd_eq ha hb h
    match b, k with
    | .str y, _ =>
      simp only [plT, Bool.and_eq_true, decide_eq_true_eq, Bool.not_eq_true'] at ha hb
      have h' : tx (reprText x) ++ r1 = tx (reprText y) ++ r2 := h
      rw [ha.1, hb.1] at h'
      have h2 : tx x ++ (39 :: r1) = tx y ++ (39 :: r2) := by simpa using h'
      have no : ∀ {z : Str}, (tx z).contains 39 = false → ∀ c ∈ tx z, (!(c == 39)) = true := fun hz c hc => by
        cases e : c == 39 with
        | false => rfl
        | true =>
          rw [beq_iff_eq.mp e] at hc
          rw [List.contains_iff_mem.mpr hc] at hz
          cases hz
      obtain ⟨e1, e2⟩ := munch (p := fun c => !(c == 39)) (no ha.2) (no hb.2) (fun c t e => by cases e; rfl) (fun c t e => by cases e; rfl) h2
      have : x = y := by
        cases x; cases y
        exact congrArg Str.mk (Array.toList_inj.mp e1)
      exact ⟨by rw [this], (List.cons.inj e2).2⟩
  | .list [], b, r1, r2, ha, hb, s1, s2, h => by
    have k := kd_eq ha hb h
    match b, k with
    | .list [], _ => exact ⟨rfl, List.append_cancel_left h⟩
    | .list (y :: ys), _ =>
      have h' : tx (PySem.listText []) ++ r1 = tx (PySem.listText (y.shown :: PyData.shownAll ys)) ++ r2 := h
      rw [tx_list, tx_list0] at h'
      simp only [plT, plTL, Bool.and_eq_true] at hb
      exact (no_close hb.1 (.inr rfl) (List.cons.inj h').2).elim
  | .list (x :: xs), b, r1, r2, ha, hb, s1, s2, h => by
    have k := kd_eq ha hb h
    match b, k with
    | .list [], _ =>
      have h' : tx (PySem.listText (x.shown :: PyData.shownAll xs)) ++ r1 = tx (PySem.listText []) ++ r2 := h
      rw [tx_list, tx_list0] at h'
      simp only [plT, plTL, Bool.and_eq_true] at ha
      exact (no_close ha.1 (.inr rfl) (List.cons.inj h').2.symm).elim
    | .list (y :: ys), _ =>
      have h' : tx (PySem.listText (x.shown :: PyData.shownAll xs)) ++ r1 = tx (PySem.listText (y.shown :: PyData.shownAll ys)) ++ r2 := h
      rw [tx_list, tx_list] at h'
      simp only [List.cons_append, List.append_assoc, List.cons.injEq, true_and, List.nil_append] at h'
      simp only [plT, plTL, Bool.and_eq_true] at ha hb
      obtain ⟨rfl, e⟩ := inj1 x y _ _ ha.1 hb.1 (stop_tail (.inr rfl)) (stop_tail (.inr rfl)) h'
      obtain ⟨rfl, e2⟩ := injT xs ys 93 r1 r2 ha.2 hb.2 (.inr rfl) e
      exact ⟨rfl, e2⟩
  | .tuple [], b, r1, r2, ha, hb, s1, s2, h => by
    have k := kd_eq ha hb h
    match b, k with
    | .tuple [], _ => exact ⟨rfl, List.append_cancel_left h⟩
    | .tuple [y], _ =>
      have h' : tx (PySem.tupleText []) ++ r1 = tx (PySem.tupleText [y.shown]) ++ r2 := h
      rw [tx_tup1, tx_tup0] at h'
      simp only [plT, plTL, Bool.and_eq_true] at hb
      exact (no_close hb.1 (.inl rfl) (List.cons.inj h').2).elim
    | .tuple (y :: z :: ys), _ =>
      have h' : tx (PySem.tupleText []) ++ r1 = tx (PySem.tupleText (y.shown :: z.shown :: PyData.shownAll ys)) ++ r2 := h
      rw [tx_tup2, tx_tup0] at h'
      simp only [plT, plTL, Bool.and_eq_true] at hb
      exact (no_close hb.1 (.inl rfl) (List.cons.inj h').2).elim
  | .tuple [x], b, r1, r2, ha, hb, s1, s2, h => by
    have k := kd_eq ha hb h
    match b, k with
    | .tuple [], _ =>
      have h' : tx (PySem.tupleText [x.shown]) ++ r1 = tx (PySem.tupleText []) ++ r2 := h
      rw [tx_tup1, tx_tup0] at h'
      simp only [plT, plTL, Bool.and_eq_true] at ha
      exact (no_close ha.1 (.inl rfl) (List.cons.inj h').2.symm).elim
    | .tuple [y], _ =>
      have h' : tx (PySem.tupleText [x.shown]) ++ r1 = tx (PySem.tupleText [y.shown]) ++ r2 := h
      rw [tx_tup1, tx_tup1] at h'
      simp only [List.cons_append, List.append_assoc, List.cons.injEq, true_and, List.nil_append] at h'
      simp only [plT, plTL, Bool.and_eq_true] at ha hb
      obtain ⟨rfl, e⟩ := inj1 x y _ _ ha.1 hb.1 (stop_c (.inl rfl)) (stop_c (.inl rfl)) h'
      exact ⟨rfl, (List.cons.inj (List.cons.inj e).2).2⟩
    | .tuple (y :: z :: ys), _ =>
      have h' : tx (PySem.tupleText [x.shown]) ++ r1 = tx (PySem.tupleText (y.shown :: z.shown :: PyData.shownAll ys)) ++ r2 := h
      rw [tx_tup1, tx_tup2] at h'
      simp only [List.cons_append, List.append_assoc, List.cons.injEq, true_and, List.nil_append] at h'
      simp only [plT, plTL, Bool.and_eq_true] at ha hb
      obtain ⟨rfl, e⟩ := inj1 x y _ _ ha.1 hb.1 (stop_c (.inl rfl)) (stop_tail (.inl rfl)) h'
      have e' : 44 :: 41 :: r1 = 44 :: 32 :: (tx z.shown ++ tail' (PyData.shownAll ys)) ++ 41 :: r2 := e
      have := (List.cons.inj (List.cons.inj e').2).1
      omega
  | .tuple (x :: u :: xs), b, r1, r2, ha, hb, s1, s2, h => by
    have k := kd_eq ha hb h
    match b, k with
    | .tuple [], _ =>
      have h' : tx (PySem.tupleText (x.shown :: u.shown :: PyData.shownAll xs)) ++ r1 = tx (PySem.tupleText []) ++ r2 := h
      rw [tx_tup2, tx_tup0] at h'
      simp only [plT, plTL, Bool.and_eq_true] at ha
      exact (no_close ha.1 (.inl rfl) (List.cons.inj h').2.symm).elim
    | .tuple [y], _ =>
      have h' : tx (PySem.tupleText (x.shown :: u.shown :: PyData.shownAll xs)) ++ r1 = tx (PySem.tupleText [y.shown]) ++ r2 := h
      rw [tx_tup1, tx_tup2] at h'
      simp only [List.cons_append, List.append_assoc, List.cons.injEq, true_and, List.nil_append] at h'
      simp only [plT, plTL, Bool.and_eq_true] at ha hb
      obtain ⟨rfl, e⟩ := inj1 x y _ _ ha.1 hb.1 (stop_tail (.inl rfl)) (stop_c (.inl rfl)) h'
      have e' : 44 :: 32 :: (tx u.shown ++ tail' (PyData.shownAll xs)) ++ 41 :: r1 = 44 :: 41 :: r2 := e
      have := (List.cons.inj (List.cons.inj e').2).1
      omega
    | .tuple (y :: z :: ys), _ =>
      have h' : tx (PySem.tupleText (x.shown :: u.shown :: PyData.shownAll xs)) ++ r1 = tx (PySem.tupleText (y.shown :: z.shown :: PyData.shownAll ys)) ++ r2 := h
      rw [tx_tup2, tx_tup2] at h'
      simp only [List.cons_append, List.append_assoc, List.cons.injEq, true_and, List.nil_append] at h'
      have ha2 : plT x = true ∧ plTL (u :: xs) = true := by simpa [plT, plTL] using ha
      have hb2 : plT y = true ∧ plTL (z :: ys) = true := by simpa [plT, plTL] using hb
      obtain ⟨rfl, e⟩ := inj1 x y _ _ ha2.1 hb2.1 (stop_tail (.inl rfl)) (stop_tail (.inl rfl)) h'
      obtain ⟨e1, e2⟩ := injT (u :: xs) (z :: ys) 41 r1 r2 ha2.2 hb2.2 (.inl rfl) e
      exact ⟨by rw [e1], e2⟩
  | .dict [], b, r1, r2, ha, hb, s1, s2, h => by
    have k := kd_eq ha hb h
    match b, k, hb with
    | .dict [], _, _ => exact ⟨rfl, List.append_cancel_left h⟩
    | .dict (_ :: _), _, hb => simp [plT] at hb
  | .dict (_ :: _), b, r1, r2, ha, hb, s1, s2, h => by simp [plT] at ha
theorem injT : ∀ (xs ys : List PyData) (c : Nat) (r1 r2 : List Nat), plTL xs = true → plTL ys = true → c = 41 ∨ c = 93 → tail' (PyData.shownAll xs) ++ c :: r1 = tail' (PyData.shownAll ys) ++ c :: r2 → xs = ys ∧ r1 = r2
  | [], [], c, r1, r2, _, _, _, h => ⟨rfl, (List.cons.inj h).2⟩
  | [], y :: ys, c, r1, r2, _, _, hc, h => by
    have h' : c :: r1 = 44 :: 32 :: (tx y.shown ++ tail' (PyData.shownAll ys)) ++ c :: r2 := h
    have := (List.cons.inj h').1
    omega
  | x :: xs, [], c, r1, r2, _, _, hc, h => by
    have h' : 44 :: 32 :: (tx x.shown ++ tail' (PyData.shownAll xs)) ++ c :: r1 = c :: r2 := h
    have := (List.cons.inj h').1
    omega
  | x :: xs, y :: ys, c, r1, r2, hx, hy, hc, h => by
    simp only [plTL, Bool.and_eq_true] at hx hy
    have h' : 44 :: 32 :: (tx x.shown ++ tail' (PyData.shownAll xs)) ++ c :: r1 = 44 :: 32 :: (tx y.shown ++ tail' (PyData.shownAll ys)) ++ c :: r2 := h
    simp only [List.cons_append, List.append_assoc, List.cons.injEq, true_and] at h'
    obtain ⟨rfl, e⟩ := inj1 x y _ _ hx.1 hy.1 (stop_tail hc) (stop_tail hc) h'
    obtain ⟨rfl, e2⟩ := injT xs ys c r1 r2 hx.2 hy.2 hc e
    exact ⟨rfl, e2⟩
end
mutual
def plD : D → Bool
  | .non | .bl _ | .int _ => true
  | .str x => plT (.str x)
  | .tup xs | .lst xs => plDL xs
  | .dic [] => true
  | _ => false
def plDL : List D → Bool
  | [] => true
  | x :: xs => plD x && plDL xs
end
mutual
theorem plD_T : ∀ {d : D}, plD d = true → plT (toPy d) = true
  | .non, _ => by simp [toPy, plT]
  | .bl _, _ => by simp [toPy, plT]
  | .int _, _ => by simp [toPy, plT]
  | .str x, h => by simpa [toPy, plD] using h
  | .tup xs, h => by
    have := plDL_T (ds := xs) (by simpa [plD] using h)
    simpa [toPy, plT] using this
  | .lst xs, h => by
    have := plDL_T (ds := xs) (by simpa [plD] using h)
    simpa [toPy, plT] using this
  | .dic [], _ => by simp [toPy, toPyK, plT]
  | .dic (_ :: _), h => by simp [plD] at h
  | .ty _, h => by simp [plD] at h
  | .obj _, h => by simp [plD] at h
  | .scr _ _, h => by simp [plD] at h
  | .xcp _ _ _ _, h => by simp [plD] at h
  | .ins _ _, h => by simp [plD] at h
theorem plDL_T : ∀ {ds : List D}, plDL ds = true → plTL (toPyL ds) = true
  | [], _ => by simp [toPyL, plTL]
  | x :: xs, h => by
    simp only [plDL, Bool.and_eq_true] at h
    simp only [toPyL, plTL, Bool.and_eq_true]
    exact ⟨plD_T h.1, plDL_T h.2⟩
end
theorem plD_dic {ks : List (Key × D)} (h : plD (.dic ks) = true) : ks = [] := by
  cases ks with
  | nil => rfl
  | cons k ks => simp [plD] at h
theorem dic_inj {ks : List (Key × D)} {b : D} (ha : plD (.dic ks) = true) (hb : plD b = true) (h : toPy (.dic ks) = toPy b) : D.dic ks = b := by
  rw [plD_dic ha] at h ⊢
  cases b <;> simp [toPy, toPyK] at h
  case dic ks2 => rw [plD_dic hb]
  all_goals simp [plD] at hb
mutual
theorem toPy_inj : ∀ (a b : D), plD a = true → plD b = true → toPy a = toPy b → a = b
  | .non, b, _, hb, h => by cases b <;> simp [toPy, plD] at h hb ⊢
  | .bl _, b, _, hb, h => by cases b <;> simp [toPy, plD] at h hb ⊢; exact h
  | .int _, b, _, hb, h => by cases b <;> simp [toPy, plD] at h hb ⊢; exact h
  | .str _, b, _, hb, h => by cases b <;> simp [toPy, plD] at h hb ⊢; exact h
  | .tup xs, b, ha, hb, h => by
    cases b <;> simp [toPy, plD] at h hb ⊢
    exact toPyL_inj xs _ (by simpa [plD] using ha) hb h
  | .lst xs, b, ha, hb, h => by
    cases b <;> simp [toPy, plD] at h hb ⊢
    exact toPyL_inj xs _ (by simpa [plD] using ha) hb h
  | .dic ks, b, ha, hb, h => dic_inj ha hb h
  | .ty _, b, ha, _, _ => by simp [plD] at ha
  | .obj _, b, ha, _, _ => by simp [plD] at ha
  | .scr _ _, b, ha, _, _ => by simp [plD] at ha
  | .xcp _ _ _ _, b, ha, _, _ => by simp [plD] at ha
  | .ins _ _, b, ha, _, _ => by simp [plD] at ha
theorem toPyL_inj : ∀ (xs ys : List D), plDL xs = true → plDL ys = true → toPyL xs = toPyL ys → xs = ys
  | [], [], _, _, _ => rfl
  | [], _ :: _, _, _, h => by simp [toPyL] at h
  | _ :: _, [], _, _, h => by simp [toPyL] at h
  | x :: xs, y :: ys, hx, hy, h => by
    simp only [plDL, Bool.and_eq_true] at hx hy
    simp only [toPyL, List.cons.injEq] at h
    rw [toPy_inj x y hx.1 hy.1 h.1, toPyL_inj xs ys hx.2 hy.2 h.2]
end
end DL

namespace HT
open PySem PySem.Spec PyProof.Rows
section
variable {prog : Program} {w : World} {A : Around} {E : Value → Shared → Prop} {s : Shared}
end
end HT
namespace DL
open PySem PySem.Spec PyProof.Rows L2
section
variable {X : Cx} {W : WX} {p pos : Pos}
def dRevT (a : DE) : DE := fun ρ μ Q X => a ρ μ (fun d μ1 => tuP (rdD μ1 d) fun xs => Q (.tup xs.reverse) μ1) X
end
end DL

namespace DL
open PySem PySem.Spec PyProof.Rows L2
section
variable {X : Cx} {W : WX} {p pos : Pos} {e : Expr} {a : DA}
end
theorem eqs_there5 : True := by
  have _ := @dRevT.eq_1
  trivial
end DL

namespace DL
open PySem PySem.Spec PyProof.Rows L2
def zmP (ds : List D) (Q : List D → Prop) : Prop := match ds with
  | [.tup xs, .lst ys] => Q (zipD xs ys)
  | _ => False
def diZM (a : DA) : DI := fun ρ μ Q X => a ρ μ (fun ds μ1 => zmP ds fun l => Q l μ1) X
section
variable {X : Cx} {W : WX} {e e2 : Expr} {da : DA} {p pos : Pos} {elts : List Expr} {kk : Nat} {tpos : Pos}
end
theorem eqs_there6 : True := by
  have _ := @diZM.eq_1
  trivial
end DL

namespace PySem
open Sem (wp)
end PySem

namespace DL
open PySem PySem.Spec PyProof.Rows L2
def etP (ds : List D) (Q : List D → Prop) : Prop := match ds with
  | [.tup xs] => Q (enumD xs)
  | _ => False
theorem etP_t {xs : List D} {Q : List D → Prop} : etP [.tup xs] Q = Q (enumD xs) := rfl
def diET (a : DA) : DI := fun ρ μ Q X => a ρ μ (fun ds μ1 => etP ds fun l => Q l μ1) X
section
variable {X : Cx} {W : WX} {e : Expr} {da : DA} {p pos : Pos} {elts : List Expr} {kk : Nat} {tpos : Pos}
end
theorem eqs_there7 : True := by
  have _ := @diET.eq_1
  trivial
end DL

namespace DL
open PySem PySem.Spec PyProof.Rows L2
mutual
theorem okR_up : ∀ {k : Nat} {d : D}, okR k d = true → okR (k + 1) d = true
  | 0, d, h => by cases d <;> simp_all [okR]
  | k + 1, .tup xs, h => by
    simp only [okR] at h ⊢
    exact okRL_up h
  | k + 1, .lst xs, h => by
    simp only [okR] at h ⊢
    exact okRL_up h
  | k + 1, .dic xs, h => by
    simp only [okR] at h ⊢
    exact okRK_up h
  | k + 1, .non, h => by simp [okR]
  | k + 1, .bl _, h => by simp [okR]
  | k + 1, .int _, h => by simp [okR]
  | k + 1, .str _, h => by simpa [okR] using h
  | k + 1, .ty _, h => by simp [okR] at h
  | k + 1, .obj _, h => by simp [okR] at h
  | k + 1, .scr _ _, h => by simp [okR] at h
  | k + 1, .xcp _ _ _ _, h => by simp [okR] at h
  | k + 1, .ins _ _, h => by simp [okR] at h
theorem okRL_up : ∀ {k : Nat} {ds : List D}, okRL k ds = true → okRL (k + 1) ds = true
  | k, [], h => by simp [okRL]
  | k, x :: xs, h => by
    simp only [okRL, Bool.and_eq_true] at h ⊢
    exact ⟨okR_up h.1, okRL_up h.2⟩
theorem okRK_up : ∀ {k : Nat} {ks : List (Key × D)}, okRK k ks = true → okRK (k + 1) ks = true
  | k, [], h => by simp [okRK]
  | k, (.inl _, x) :: xs, h => by
    simp only [okRK, Bool.and_eq_true] at h ⊢
    exact ⟨okR_up h.1, okRK_up h.2⟩
  | k, (.inr _, x) :: xs, h => by
    simp only [okRK, Bool.and_eq_true] at h ⊢
    exact ⟨h.1, okR_up h.2.1, okRK_up h.2.2⟩
end
theorem okR_le {k m : Nat} {d : D} (h : k ≤ m) (e : okR k d = true) : okR m d = true := by
  induction h with
  | refl => exact e
  | step _ ih => exact okR_up ih
end DL

namespace DL
open PySem PySem.Spec PyProof.Rows L2
def dStrD : DC := fun ds Q => match ds with
  | [.int i] => i.natAbs.log2 < 1920 ∧ Q (.str (toString i))
  | [.tup ds] => shD (.tup ds) ∧ (toPy (.tup ds)).canLay0 = true ∧ Q (.str (shown (.tup ds)))
  | _ => False
theorem strD_i {i : Int} {Q : D → Prop} : dStrD [.int i] Q = (i.natAbs.log2 < 1920 ∧ Q (.str (toString i))) := rfl
theorem strD_t {ds : List D} {Q : D → Prop} : dStrD [.tup ds] Q = (shD (.tup ds) ∧ (toPy (.tup ds)).canLay0 = true ∧ Q (.str (shown (.tup ds)))) := rfl
theorem eqs_there8 : True := by
  have _ := @dStrD.eq_1
  trivial
end DL

namespace DL
open PySem PySem.Spec PyProof.Rows L2
abbrev poolK (G : Int) (cs : List Int) (t : Int) : List (Key × D) := [(.inr "great", .int G), (.inr "cells", .lst (cs.map .int)), (.inr "turn", .int t)]
def IsPl (p : Addr) (μ : Mu) : Prop := ∃ (G : Int) (cs : List Int) (t : Int), μ p = some (.dK (poolK G cs t)) ∧ 0 ≤ G ∧ cs ≠ [] ∧ cs.length ≤ 1000 ∧ 0 ≤ t
def sp_l_opened (K : PySem.W.Frag) : DSp := fun ds μ Q _ => ∃ ns, ds = [.scr K ns] ∧ ns.length ≤ 1000 ∧ (∀ z ∈ ns, z.natAbs.log2 ≤ 1048576) ∧ ∀ p μ', IsPl p μ' → Q (.obj p) μ'
def sp_l_ask : DSp := fun ds μ Q _ => ∃ p m, ds = [.obj p, .int m] ∧ 0 < m ∧ m < 2 ^ 64 ∧ IsPl p μ ∧ ∀ r μ', IsPl p μ' → 0 ≤ r → r < m → Q (.int r) μ'
def sp_l_pick : DSp := fun ds μ Q _ => ∃ p xs, ds = [.obj p, .lst xs] ∧ xs ≠ [] ∧ xs.length ≤ 1000 ∧ IsPl p μ ∧ ∀ x μ', IsPl p μ' → x ∈ xs → Q x μ'
theorem ask {p : Addr} {m : Int} {μ : Mu} {Q : DQ} {Z : DXQ} (hP : IsPl p μ) (h0 : 0 < m) (h1 : m < 2 ^ 64) (h : ∀ r μ', IsPl p μ' → 0 ≤ r → r < m → Q (.int r) μ') : sp_l_ask [.obj p, .int m] μ Q Z := ⟨p, m, rfl, h0, h1, hP, h⟩
theorem pick {p : Addr} {xs : List D} {μ : Mu} {Q : DQ} {Z : DXQ} (hP : IsPl p μ) (h0 : xs ≠ []) (h1 : xs.length ≤ 1000) (h : ∀ x μ', IsPl p μ' → x ∈ xs → Q x μ') : sp_l_pick [.obj p, .lst xs] μ Q Z := ⟨p, xs, rfl, h0, h1, hP, h⟩
theorem look_g {a b c : D} : lookD [(.inr "great", a), (.inr "cells", b), (.inr "turn", c)] (.inr "great") = some a := rfl
theorem look_c {a b c : D} : lookD [(.inr "great", a), (.inr "cells", b), (.inr "turn", c)] (.inr "cells") = some b := rfl
theorem look_t {a b c : D} : lookD [(.inr "great", a), (.inr "cells", b), (.inr "turn", c)] (.inr "turn") = some c := rfl
theorem put_t {a b c d : D} : putD [(.inr "great", a), (.inr "cells", b), (.inr "turn", c)] (.inr "turn") d = [(.inr "great", a), (.inr "cells", b), (.inr "turn", d)] := rfl
structure Bv (k w : Nat) (x : D) : Prop where
  ok : okR k x = true
  sh : shortR x
  w : wR x ≤ w
def sp_l_odd : DSp := fun ds μ Q _ => ∃ p, ds = [.obj p] ∧ IsPl p μ ∧ ∀ x μ', IsPl p μ' → Bv 2 1000 x → Q x μ'
theorem oddp {p : Addr} {μ : Mu} {Q : DQ} {Z : DXQ} (hP : IsPl p μ) (q : ∀ x μ', IsPl p μ' → Bv 2 1000 x → Q x μ') : sp_l_odd [.obj p] μ Q Z := ⟨p, rfl, hP, q⟩
def plainN : List Str := ["BadBatch", "Busy", "Full", "NoOrigin", "NothingToUndo", "TooManyEdits"]
def fillN : List Str := ["BadRow", "BadText", "Free", "NoCount", "NoIndex", "NoSeat", "NoStretch", "NoVersion", "NoWidth", "OtherSize", "Rejected", "Taken", "TooClose", "TooLarge", "TooMany"]
def fldN : List (Str × Str) := [("BadRow", "error"), ("BadText", "index"), ("Free", "seat"), ("NoCount", "value"), ("NoIndex", "index"), ("NoSeat", "value"), ("NoStretch", "value"), ("NoVersion", "version"), ("NoWidth", "value"), ("OtherSize", "seats"), ("Rejected", "index"), ("Taken", "seat"), ("TooClose", "seat"), ("TooLarge", "limit"), ("TooMany", "limit")]
def kb (K : PySem.W.Frag) (x : Str) (us : List Value) (b : Bool) : Bool := decide (PySem.W.kitAny K (.ref (cAt K x)) us = some b)
def exOne (K : PySem.W.Frag) (x : Str) : Bool := exkB K (cAt K x) && (kb K x [.ref (cAt K "SeatError")] true && (kb K x [.type "ValueError"] true && (plainN ++ fillN).all fun y => kb K x [.ref (cAt K y)] (x == y)))
def exB (K : PySem.W.Frag) : Bool := (plainN ++ fillN).all (fun x => exOne K x) && fldN.all fun p => xfB K (cAt K p.1) && decide (PySem.W.findIn K (.ref (cAt K p.1)) p.2 = some none)
structure ExOne (K : PySem.W.Frag) (x : Str) : Prop where
  k : ExK K (cAt K x)
  s : PySem.W.kitOne K (.ref (cAt K x)) (.ref (cAt K "SeatError")) = some true
  v : PySem.W.kitOne K (.ref (cAt K x)) (.type "ValueError") = some true
  i : ∀ y ∈ plainN ++ fillN, PySem.W.kitOne K (.ref (cAt K x)) (.ref (cAt K y)) = some (x == y)
theorem exB_ok {K : PySem.W.Frag} (h : exB K = true) : (∀ x ∈ plainN ++ fillN, ExOne K x) ∧ ∀ p ∈ fldN, XfC K (cAt K p.1) ∧ PySem.W.findIn K (.ref (cAt K p.1)) p.2 = some none := by
  unfold exB at h
  simp only [Bool.and_eq_true] at h
  refine ⟨fun x hx => ?_, fun p hp => ?_⟩
  · have h1 := List.all_eq_true.mp h.1 x hx
    unfold exOne kb at h1
    simp only [Bool.and_eq_true, decide_eq_true_eq, List.all_eq_true] at h1
    exact ⟨exkB_ok h1.1, kit_one h1.2.1, kit_one h1.2.2.1, fun y hy => kit_one (h1.2.2.2 y hy)⟩
  · have h2 := List.all_eq_true.mp h.2 p hp
    simp only [Bool.and_eq_true, decide_eq_true_eq] at h2
    exact ⟨xfB_ok h2.1, h2.2⟩
def IsE (K : PySem.W.Frag) (μ : Mu) (x : D) (n : Str) : Prop := ∃ a d fs, x = .xcp a (cAt K n) d fs ∧ μ a = some (exM (cAt K n) d a)
def AllE (K : PySem.W.Frag) (μ : Mu) : List D → List Str → Prop
  | [], [] => True
  | x :: xs, n :: ns => IsE K μ x n ∧ AllE K μ xs ns
  | _, _ => False
def numsF (ns : List Str) (n : Str) : D := .lst (((List.range ns.length).filter fun k => ns.getD k "" == n).map fun k : Nat => .int (k : Int))
def sp_l_plain (K : PySem.W.Frag) : DSp := fun ds μ Q _ => ∃ x n, ds = [x] ∧ n ∈ plainN ++ fillN ∧ IsE K μ x n ∧ Q (numsF plainN n) μ
def sp_l_filled (K : PySem.W.Frag) : DSp := fun ds μ Q _ => ∃ x n, ds = [x] ∧ n ∈ plainN ++ fillN ∧ IsE K μ x n ∧ Q (numsF fillN n) μ
def sp_l_alone (K : PySem.W.Frag) : DSp := fun ds μ Q _ => ∃ xs ys, ds = [.lst xs, .lst ys] ∧ AllE K μ xs plainN ∧ AllE K μ ys fillN ∧ Q (.bl true) μ
def KeepA (μ μ' : Mu) : Prop := ∀ a o, μ a = some o → μ' a = some o
def sp_l_made (K : PySem.W.Frag) : DSp := fun ds μ Q _ => ∃ vs, ds = [.lst vs] ∧ vs.length = 15 ∧ ∀ xs μ', KeepA μ μ' → AllE K μ' xs fillN → Q (.lst [.lst xs, .lst vs]) μ'
def sp_law (K : PySem.W.Frag) : DSp := fun ds _ Q _ => ∃ ns, ds = [.scr K ns] ∧ ns.length ≤ 1000 ∧ (∀ z ∈ ns, z.natAbs.log2 ≤ 1048576) ∧ ∀ μ', Q (.bl true) μ'
def top (i : Nat) : Stmt := PySem.Challenge.pw_widestgap_k01_limits_and_errors.main.body.getD i (.Pass ⟨0, 0, 0, 0⟩)
abbrev s_l_opened : Stmt := top 29
abbrev N_l_opened : List Str := ["_law_script", "_law_cell", "_law_small", "_law_great", "_law_cells"]
theorem sc_l_opened : FnScope N_l_opened ["_law_script"] (defScope s_l_opened) := ⟨rfl, rfl, rfl, by decide +kernel, rfl, by decide +kernel, by decide +kernel⟩
def t_l_opened_1 (K : PySem.W.Frag) : DS := (dAsg (dOp dAdd (dOp dMul (dBor 3) (dOp dAdd (dBor 1) (dC (.int 1)))) (dBor 1)) (dgName 3))
def t_l_opened_a5 (K : PySem.W.Frag) : DS := (dRet (dObjD (doDisp ["great", "cells", "turn"] (dCons (dVar 3) (dCons (dOp dAdd (dBor 2) (dOp dMul (dLst (dCons (dC (.int 47)) dNil)) (dCB dIntOf (dCons (dOp dEq (dBor 2) (dLst dNil)) dNil)))) (dCons (dC (.int 0)) dNil))))))
def t_l_opened_a4 (K : PySem.W.Frag) : DS := (dSeq (dSeq (dSetO 2 (dLc (diL (dVar 4)) (dgName 1) (dTest (dOp dLt (dBor 1) (dOp dPow (dC (.int 10)) (dC (.int 18))))) (dVar 1) [1])) (dFreeze 2 dNext))
  (t_l_opened_a5 K))
def t_l_opened_a2 (K : PySem.W.Frag) : DS := (dSeq (dFor (diL (dSlice (dFl (dLc (diL (dVar 4)) (dgName 1) (dTest (dOp dGe (dBor 1) (dOp dPow (dC (.int 10)) (dC (.int 18))))) (dVar 1) [1])) lNone (lSome (dC (.int 8))))) (dgName 1) (t_l_opened_1 K))
  (t_l_opened_a4 K))
def t_l_opened (K : PySem.W.Frag) : DS := (dSeq (dParS 3 4 (slD (dC (.int 0)) (slD (dFl (dLc (diL (dSliceS K 0 lNone (lSome (dC (.int 64))))) (dgName 1) dYes (dCB dAbs (dCons (dBor 1) dNil)) [1])) slNil)))
  (t_l_opened_a2 K))
theorem b_l_opened {P : Program} {w : World} {K : PySem.W.Frag} {mg : Str → Option Value} {base : Heap} {f : Addr} {cdv : Value} {A : Around} {outer : List Env} {s : Shared} {H : Hp} {E : XK} (m_abs : mg "abs" = none) (m_int : mg "int" = none) 
    (hr : Room 0 (A.deeper (envOfC "_law_opened" (defScope s_l_opened) s.heap.objs.size f cdv))) (hG : A.guards = some []) :
    PSsD (bodyX P w K mg base N_l_opened "_law_opened" s_l_opened f cdv A outer s H E) (fun cls d _ H => E cls d H) (defBody s_l_opened) (t_l_opened K) :=
  have tk := takes_of (X := bodyX P w K mg base N_l_opened "_law_opened" s_l_opened f cdv A outer s H E) (E := E) rfl rfl rfl rfl
  (ss_cons (s_parS (i := 3) (j := 4) rfl sc_l_opened.nd rfl rfl (by decide) rfl rfl (sl_d d_int (sl_d (PO.d (o_lc (own := [("_law_cell", 1)]) rfl sc_l_opened.nd (i_list (d_sliceS 0 l_none (l_some d_int))) (blkOk_by (own := [("_law_cell", 1)]) (N := N_l_opened) (sc := defScope s_l_opened) (by decide +kernel)) (fun _ => (v_name (i := 1) (by decide) sc_l_opened.nd rfl (by first | exact Or.inl rfl | exact Or.inr rfl))) (fun _ => ts_nil) (fun _ => (d_abs m_abs (b_cons (d_bor 1) b_nil))))) sl_nil)) rfl)
  (ss_cons (s_for (passes_of rfl) rfl (i_list (d_slice (PD.b (PO.d (o_lc (own := [("_law_cell", 1)]) rfl sc_l_opened.nd (i_list (d_var 4)) (blkOk_by (own := [("_law_cell", 1)]) (N := N_l_opened) (sc := defScope s_l_opened) (by decide +kernel)) (fun _ => (v_name (i := 1) (by decide) sc_l_opened.nd rfl (by first | exact Or.inl rfl | exact Or.inr rfl))) (fun _ => (ts_one (t_ge (d_bor 1) (PD.b (d_pow (PD.b d_int) (PD.b d_int)))))) (fun _ => (d_var 1))))) l_none (l_some d_int))) (g_name (i := 1) sc_l_opened.nd rfl (by first | exact Or.inl rfl | exact Or.inr rfl))
  (ss_one (s_set (i := 3) sc_l_opened.nd rfl (by first | exact Or.inl rfl | exact Or.inr rfl) (d_add (PD.b (d_mul (d_bor 3) (PD.b (d_add (d_bor 1) (PD.b d_int))))) (d_bor 1)))))
  (ss_cons (s_then 2 (s_setLcO (own := [("_law_cell", 1)]) (i := 2) rfl sc_l_opened.nd rfl rfl (sw_true rfl rfl rfl (by decide +kernel)) (i_list (d_var 4)) (blkOk_by (own := [("_law_cell", 1)]) (N := N_l_opened) (sc := defScope s_l_opened) (by decide +kernel)) (fun _ => (v_name (i := 1) (by decide) sc_l_opened.nd rfl (by first | exact Or.inl rfl | exact Or.inr rfl))) (fun _ => (ts_one (t_lt (d_bor 1) (PD.b (d_pow (PD.b d_int) (PD.b d_int)))))) (fun _ => (d_var 1))))
  (ss_one (s_ret (POd.obj (od_disp (names := ["great", "cells", "turn"]) (pr_cons (d_var 3) (pr_cons (d_add (d_bor 2) (PD.b (d_mul (PD.b (d_lst (a_cons d_int a_nil))) (PD.b (d_int_ m_int (b_cons (PD.b (d_eq hr.units (d_bor 2) (PD.b (d_lst a_nil)))) b_nil)))))) (pr_cons d_int pr_nil))) (by decide) (by decide) rfl rfl rfl (by simp))))))))

abbrev s_l_ask : Stmt := top 30
abbrev N_l_ask : List Str := ["_law_pool", "_law_many", "_law_seed", "_law_digit", "_law_turn", "_law_cells"]
theorem sc_l_ask : FnScope N_l_ask ["_law_pool", "_law_many"] (defScope s_l_ask) := ⟨rfl, rfl, rfl, by decide +kernel, rfl, by decide +kernel, by decide +kernel⟩
def t_l_ask_y1 : DS := (dSeq (dAsg (dOp dMod (dDGet (dBor 0) (dC (.str "great"))) (dBor 1)) (dgName 3))
  (dSeq (dHPut (dVar 0) (dC (.str "great")) (dOp dDiv (dDGet (dBor 0) (dC (.str "great"))) (dBor 1)))
  (dRet (dVar 3))))
def t_l_ask_a5 : DS := (dSeq (dParS 4 5 (slD (dDGet (dBor 0) (dC (.str "turn"))) (slD (dDGet (dBor 0) (dC (.str "cells"))) slNil)))
  (dSeq (dHPut (dVar 0) (dC (.str "turn")) (dOp dAdd (dBor 4) (dC (.int 1))))
  (dSeq (dAsg (dOp dAdd (dOp dAdd (dOp dIx (dBor 5) (dOp dMod (dBor 4) (dCB dLen (dCons (dBor 5) dNil)))) (dOp dMul (dC (.int 3)) (dCB dLen (dCons (dBor 5) dNil)))) (dOp dMul (dC (.int 2246822507)) (dOp dAdd (dBor 4) (dC (.int 1))))) (dgName 2))
  (dSeq (dAsg (dOp dMod (dOp dMul (dOp dMod (dBor 2) (dC (.int 3221225473))) (dOp dAdd (dOp dMod (dBor 2) (dC (.int 40961))) (dC (.int 1)))) (dC (.int 3221225473))) (dgName 2))
  (dSeq (dAsg (dOp dMod (dOp dMul (dOp dMod (dOp dAdd (dOp dMul (dBor 2) (dBor 2)) (dOp dMul (dC (.int 1013904223)) (dBor 4))) (dC (.int 3221225473))) (dC (.int 1664525))) (dC (.int 3221225473))) (dgName 2))
  (dRet (dOp dMod (dOp dDiv (dBor 2) (dC (.int 16))) (dBor 1))))))))
def t_l_ask : DS := (dSeq (dIfS (dTest (dOp dGt (dDGet (dBor 0) (dC (.str "great"))) (dC (.int 0))))
  t_l_ask_y1
  dNext)
  t_l_ask_a5)
theorem b_l_ask {P : Program} {w : World} {K : PySem.W.Frag} {mg : Str → Option Value} {base : Heap} {f : Addr} {cdv : Value} {A : Around} {outer : List Env} {s : Shared} {H : Hp} {E : XK} (m_len : mg "len" = none) 
    (hr : Room 0 (A.deeper (envOfC "_law_ask" (defScope s_l_ask) s.heap.objs.size f cdv))) (hG : A.guards = some []) :
    PSsD (bodyX P w K mg base N_l_ask "_law_ask" s_l_ask f cdv A outer s H E) (fun cls d _ H => E cls d H) (defBody s_l_ask) t_l_ask :=
  have tk := takes_of (X := bodyX P w K mg base N_l_ask "_law_ask" s_l_ask f cdv A outer s H E) (E := E) rfl rfl rfl rfl
  (ss_cons (s_if (t_gt (PD.b (d_dget (hu_of hr) (d_bor 0) d_str)) (PD.b d_int))
  (ss_cons (s_set (i := 3) sc_l_ask.nd rfl (by first | exact Or.inl rfl | exact Or.inr rfl) (d_mod (PD.b (d_dget (hu_of hr) (d_bor 0) d_str)) (d_bor 1)))
  (ss_cons (s_hput (hu_of hr) (d_div (PD.b (d_dget (hu_of hr) (d_bor 0) d_str)) (d_bor 1)) (d_var 0) d_str)
  (ss_one (s_ret (d_var 3)))))
  ss_nil)
  (ss_cons (s_parS (i := 4) (j := 5) rfl sc_l_ask.nd rfl rfl (by decide) rfl rfl (sl_d (d_dget (hu_of hr) (d_bor 0) d_str) (sl_d (d_dget (hu_of hr) (d_bor 0) d_str) sl_nil)) rfl)
  (ss_cons (s_hput (hu_of hr) (d_add (d_bor 4) (PD.b d_int)) (d_var 0) d_str)
  (ss_cons (s_set (i := 2) sc_l_ask.nd rfl (by first | exact Or.inl rfl | exact Or.inr rfl) (d_add (PD.b (d_add (PD.b (d_ix (d_bor 5) (PD.b (d_mod (d_bor 4) (PD.b (d_len m_len (b_cons (d_bor 5) b_nil))))))) (PD.b (d_mul (PD.b d_int) (PD.b (d_len m_len (b_cons (d_bor 5) b_nil))))))) (PD.b (d_mul (PD.b d_int) (PD.b (d_add (d_bor 4) (PD.b d_int)))))))
  (ss_cons (s_set (i := 2) sc_l_ask.nd rfl (by first | exact Or.inl rfl | exact Or.inr rfl) (d_mod (PD.b (d_mul (PD.b (d_mod (d_bor 2) (PD.b d_int))) (PD.b (d_add (PD.b (d_mod (d_bor 2) (PD.b d_int))) (PD.b d_int))))) (PD.b d_int)))
  (ss_cons (s_set (i := 2) sc_l_ask.nd rfl (by first | exact Or.inl rfl | exact Or.inr rfl) (d_mod (PD.b (d_mul (PD.b (d_mod (PD.b (d_add (PD.b (d_mul (d_bor 2) (d_bor 2))) (PD.b (d_mul (PD.b d_int) (d_bor 4))))) (PD.b d_int))) (PD.b d_int))) (PD.b d_int)))
  (ss_one (s_ret (d_mod (PD.b (d_div (d_bor 2) (PD.b d_int))) (d_bor 1))))))))))

abbrev s_l_pick : Stmt := top 31
abbrev N_l_pick : List Str := ["_law_pool", "_law_items"]
theorem sc_l_pick : FnScope N_l_pick ["_law_pool", "_law_items"] (defScope s_l_pick) := ⟨rfl, rfl, rfl, by decide +kernel, rfl, by decide +kernel, by decide +kernel⟩
def t_l_pick : DS := (dRet (dOp dIx (dBor 1) (dCall sp_l_ask (dCons (dVar 0) (dCons (dCB dLen (dCons (dBor 1) dNil)) dNil)))))
theorem b_l_pick {P : Program} {w : World} {K : PySem.W.Frag} {mg : Str → Option Value} {base : Heap} {f : Addr} {cdv : Value} {A : Around} {outer : List Env} {s : Shared} {H : Hp} {E : XK} (m_len : mg "len" = none) (c_l_ask : CalG P w K mg base 1 "_law_ask" sp_l_ask)
    (hr : Room 1 (A.deeper (envOfC "_law_pick" (defScope s_l_pick) s.heap.objs.size f cdv))) (hG : A.guards = some []) :
    PSsD (bodyX P w K mg base N_l_pick "_law_pick" s_l_pick f cdv A outer s H E) (fun cls d _ H => E cls d H) (defBody s_l_pick) t_l_pick :=
  have tk := takes_of (X := bodyX P w K mg base N_l_pick "_law_pick" s_l_pick f cdv A outer s H E) (E := E) rfl rfl rfl rfl
  (ss_one (s_ret (d_ix (d_bor 1) (PD.b (d_call c_l_ask hr (by decide) hG tk (a_cons (d_var 0) (a_cons (d_len m_len (b_cons (d_bor 1) b_nil)) a_nil)))))))

abbrev s_l_odd : Stmt := top 32
abbrev N_l_odd : List Str := ["_law_pool", "_law_items"]
theorem sc_l_odd : FnScope N_l_odd ["_law_pool"] (defScope s_l_odd) := ⟨rfl, rfl, rfl, by decide +kernel, rfl, by decide +kernel, by decide +kernel⟩
def t_l_odd_a2 : DS := (dRet (dCall sp_l_pick (dCons (dVar 0) (dCons (dOp dAdd (dBor 1) (dLst (dCons (dTup (dCons (dC (.int 1)) (dCons (dTup dNil) dNil))) (dCons (dTup (dCons (dC (.int 0)) (dCons (dC (.int 1)) dNil))) (dCons (dFlD (doDisp ["a"] (dCons (dC (.int 0)) dNil))) (dCons (dTup (dCons (dTup dNil) (dCons (dC (.int 1)) dNil))) (dCons (dTup (dCons (dC (.int 5)) (dCons (dLst (dCons (dC (.int 1)) dNil)) dNil))) (dCons (dC (.str "come")) dNil)))))))) dNil))))
def t_l_odd : DS := (dSeq (dAsg (dLst (dCons (dC .non) (dCons (dC (.bl true)) (dCons (dC (.bl false)) (dCons (dNeg (dC (.int 1))) (dCons (dC (.int 0)) (dCons (dC (.int 1)) (dCons (dOp dPow (dC (.int 10)) (dC (.int 12))) (dCons (dOp dPow (dC (.int 10)) (dC (.int 39))) (dCons (dC (.str "")) (dCons (dC (.str "0")) (dCons (dC (.str "10:")) (dCons (dC (.str "none")) (dCons (dTup dNil) (dCons (dLst dNil) (dCons (dFlD doEmp) (dCons (dTup (dCons (dC (.int 0)) dNil)) (dCons (dLst (dCons (dC (.int 0)) dNil)) (dCons (dTup (dCons (dC (.bl true)) dNil)) dNil))))))))))))))))))) (dgName 1))
  t_l_odd_a2)
theorem b_l_odd {P : Program} {w : World} {K : PySem.W.Frag} {mg : Str → Option Value} {base : Heap} {f : Addr} {cdv : Value} {A : Around} {outer : List Env} {s : Shared} {H : Hp} {E : XK}  (c_l_pick : CalG P w K mg base 2 "_law_pick" sp_l_pick)
    (hr : Room 2 (A.deeper (envOfC "_law_odd" (defScope s_l_odd) s.heap.objs.size f cdv))) (hG : A.guards = some []) :
    PSsD (bodyX P w K mg base N_l_odd "_law_odd" s_l_odd f cdv A outer s H E) (fun cls d _ H => E cls d H) (defBody s_l_odd) t_l_odd :=
  have tk := takes_of (X := bodyX P w K mg base N_l_odd "_law_odd" s_l_odd f cdv A outer s H E) (E := E) rfl rfl rfl rfl
  (ss_cons (s_set (i := 1) sc_l_odd.nd rfl (by first | exact Or.inl rfl | exact Or.inr rfl) (d_lst (a_cons d_non (a_cons d_bl (a_cons d_bl (a_cons (d_neg d_int) (a_cons d_int (a_cons d_int (a_cons (d_pow (PD.b d_int) (PD.b d_int)) (a_cons (d_pow (PD.b d_int) (PD.b d_int)) (a_cons d_str (a_cons d_str (a_cons d_str (a_cons d_str (a_cons (d_tup a_nil) (a_cons (d_lst a_nil) (a_cons (POd.d od_emp) (a_cons (d_tup (a_cons d_int a_nil)) (a_cons (d_lst (a_cons d_int a_nil)) (a_cons (d_tup (a_cons d_bl a_nil)) a_nil))))))))))))))))))))
  (ss_one (s_ret (d_call c_l_pick hr (by decide) hG tk (a_cons (d_var 0) (a_cons (d_add (d_bor 1) (PD.b (d_lst (a_cons (d_tup (a_cons d_int (a_cons (d_tup a_nil) a_nil))) (a_cons (d_tup (a_cons d_int (a_cons d_int a_nil))) (a_cons (POd.d (od_disp (names := ["a"]) (pr_cons d_int pr_nil) (by decide) (by decide) rfl rfl rfl (by simp))) (a_cons (d_tup (a_cons (d_tup a_nil) (a_cons d_int a_nil))) (a_cons (d_tup (a_cons d_int (a_cons (d_lst (a_cons d_int a_nil)) a_nil))) (a_cons d_str a_nil))))))))) a_nil))))))

abbrev s_l_plain : Stmt := top 33
abbrev N_l_plain : List Str := ["_law_error", "_law_kinds", "_law_k"]
theorem sc_l_plain : FnScope N_l_plain ["_law_error"] (defScope s_l_plain) := ⟨rfl, rfl, rfl, by decide +kernel, rfl, by decide +kernel, by decide +kernel⟩
def t_l_plain_a3 (K : PySem.W.Frag) : DS := (dRet (dFl (dLc (diR1 (dCons (dC (.int 6)) dNil)) (dgName 2) (dTest (dOp dIx (dBor 1) (dBor 2))) (dVar 2) [2])))
def t_l_plain_a2 (K : PySem.W.Frag) : DS := (dSeq (dAsg (dOp dAdd (dBor 1) (dLst (dCons (dIsV K (dCons (dBor 0) (dCons (dC (.obj (cAt K "NoOrigin"))) dNil))) (dCons (dIsV K (dCons (dBor 0) (dCons (dC (.obj (cAt K "NothingToUndo"))) dNil))) (dCons (dIsV K (dCons (dBor 0) (dCons (dC (.obj (cAt K "TooManyEdits"))) dNil))) dNil))))) (dgName 1))
  (t_l_plain_a3 K))
def t_l_plain (K : PySem.W.Frag) : DS := (dSeq (dAsg (dLst (dCons (dIsV K (dCons (dBor 0) (dCons (dC (.obj (cAt K "BadBatch"))) dNil))) (dCons (dIsV K (dCons (dBor 0) (dCons (dC (.obj (cAt K "Busy"))) dNil))) (dCons (dIsV K (dCons (dBor 0) (dCons (dC (.obj (cAt K "Full"))) dNil))) dNil)))) (dgName 1))
  (t_l_plain_a2 K))
theorem b_l_plain {P : Program} {w : World} {K : PySem.W.Frag} {mg : Str → Option Value} {base : Heap} {f : Addr} {cdv : Value} {A : Around} {outer : List Env} {s : Shared} {H : Hp} {E : XK} (m_isinstance : mg "isinstance" = none) (m_range : mg "range" = none)  (e_BadBatch : mg "BadBatch" = some (.ref (cAt K "BadBatch"))) (e_Busy : mg "Busy" = some (.ref (cAt K "Busy"))) (e_Full : mg "Full" = some (.ref (cAt K "Full"))) (e_NoOrigin : mg "NoOrigin" = some (.ref (cAt K "NoOrigin"))) (e_NothingToUndo : mg "NothingToUndo" = some (.ref (cAt K "NothingToUndo"))) (e_TooManyEdits : mg "TooManyEdits" = some (.ref (cAt K "TooManyEdits")))
    (hr : Room 0 (A.deeper (envOfC "_law_plain" (defScope s_l_plain) s.heap.objs.size f cdv))) (hG : A.guards = some []) :
    PSsD (bodyX P w K mg base N_l_plain "_law_plain" s_l_plain f cdv A outer s H E) (fun cls d _ H => E cls d H) (defBody s_l_plain) (t_l_plain K) :=
  have tk := takes_of (X := bodyX P w K mg base N_l_plain "_law_plain" s_l_plain f cdv A outer s H E) (E := E) rfl rfl rfl rfl
  (ss_cons (s_set (i := 1) sc_l_plain.nd rfl (by first | exact Or.inl rfl | exact Or.inr rfl) (d_lst (a_cons (d_isV m_isinstance (b_cons (d_bor 0) (b_cons (PD.b (d_gcls e_BadBatch)) b_nil))) (a_cons (d_isV m_isinstance (b_cons (d_bor 0) (b_cons (PD.b (d_gcls e_Busy)) b_nil))) (a_cons (d_isV m_isinstance (b_cons (d_bor 0) (b_cons (PD.b (d_gcls e_Full)) b_nil))) a_nil)))))
  (ss_cons (s_set (i := 1) sc_l_plain.nd rfl (by first | exact Or.inl rfl | exact Or.inr rfl) (d_add (d_bor 1) (PD.b (d_lst (a_cons (d_isV m_isinstance (b_cons (d_bor 0) (b_cons (PD.b (d_gcls e_NoOrigin)) b_nil))) (a_cons (d_isV m_isinstance (b_cons (d_bor 0) (b_cons (PD.b (d_gcls e_NothingToUndo)) b_nil))) (a_cons (d_isV m_isinstance (b_cons (d_bor 0) (b_cons (PD.b (d_gcls e_TooManyEdits)) b_nil))) a_nil)))))))
  (ss_one (s_ret (PO.d (o_lc (own := [("_law_k", 2)]) rfl sc_l_plain.nd (i_range1 m_range (a_cons d_int a_nil)) (blkOk_by (own := [("_law_k", 2)]) (N := N_l_plain) (sc := defScope s_l_plain) (by decide +kernel)) (fun _ => (v_name (i := 2) (by decide) sc_l_plain.nd rfl (by first | exact Or.inl rfl | exact Or.inr rfl))) (fun _ => (ts_one (t_val (d_ix (d_bor 1) (d_bor 2))))) (fun _ => (d_var 2))))))))

abbrev s_l_filled : Stmt := top 34
abbrev N_l_filled : List Str := ["_law_error", "_law_kinds", "_law_k"]
theorem sc_l_filled : FnScope N_l_filled ["_law_error"] (defScope s_l_filled) := ⟨rfl, rfl, rfl, by decide +kernel, rfl, by decide +kernel, by decide +kernel⟩
def t_l_filled_a6 (K : PySem.W.Frag) : DS := (dRet (dFl (dLc (diR1 (dCons (dC (.int 15)) dNil)) (dgName 2) (dTest (dOp dIx (dBor 1) (dBor 2))) (dVar 2) [2])))
def t_l_filled_a5 (K : PySem.W.Frag) : DS := (dSeq (dAsg (dOp dAdd (dBor 1) (dLst (dCons (dIsV K (dCons (dBor 0) (dCons (dC (.obj (cAt K "TooClose"))) dNil))) (dCons (dIsV K (dCons (dBor 0) (dCons (dC (.obj (cAt K "TooLarge"))) dNil))) (dCons (dIsV K (dCons (dBor 0) (dCons (dC (.obj (cAt K "TooMany"))) dNil))) dNil))))) (dgName 1))
  (t_l_filled_a6 K))
def t_l_filled_a4 (K : PySem.W.Frag) : DS := (dSeq (dAsg (dOp dAdd (dBor 1) (dLst (dCons (dIsV K (dCons (dBor 0) (dCons (dC (.obj (cAt K "OtherSize"))) dNil))) (dCons (dIsV K (dCons (dBor 0) (dCons (dC (.obj (cAt K "Rejected"))) dNil))) (dCons (dIsV K (dCons (dBor 0) (dCons (dC (.obj (cAt K "Taken"))) dNil))) dNil))))) (dgName 1))
  (t_l_filled_a5 K))
def t_l_filled_a3 (K : PySem.W.Frag) : DS := (dSeq (dAsg (dOp dAdd (dBor 1) (dLst (dCons (dIsV K (dCons (dBor 0) (dCons (dC (.obj (cAt K "NoStretch"))) dNil))) (dCons (dIsV K (dCons (dBor 0) (dCons (dC (.obj (cAt K "NoVersion"))) dNil))) (dCons (dIsV K (dCons (dBor 0) (dCons (dC (.obj (cAt K "NoWidth"))) dNil))) dNil))))) (dgName 1))
  (t_l_filled_a4 K))
def t_l_filled_a2 (K : PySem.W.Frag) : DS := (dSeq (dAsg (dOp dAdd (dBor 1) (dLst (dCons (dIsV K (dCons (dBor 0) (dCons (dC (.obj (cAt K "NoCount"))) dNil))) (dCons (dIsV K (dCons (dBor 0) (dCons (dC (.obj (cAt K "NoIndex"))) dNil))) (dCons (dIsV K (dCons (dBor 0) (dCons (dC (.obj (cAt K "NoSeat"))) dNil))) dNil))))) (dgName 1))
  (t_l_filled_a3 K))
def t_l_filled (K : PySem.W.Frag) : DS := (dSeq (dAsg (dLst (dCons (dIsV K (dCons (dBor 0) (dCons (dC (.obj (cAt K "BadRow"))) dNil))) (dCons (dIsV K (dCons (dBor 0) (dCons (dC (.obj (cAt K "BadText"))) dNil))) (dCons (dIsV K (dCons (dBor 0) (dCons (dC (.obj (cAt K "Free"))) dNil))) dNil)))) (dgName 1))
  (t_l_filled_a2 K))
theorem b_l_filled {P : Program} {w : World} {K : PySem.W.Frag} {mg : Str → Option Value} {base : Heap} {f : Addr} {cdv : Value} {A : Around} {outer : List Env} {s : Shared} {H : Hp} {E : XK} (m_isinstance : mg "isinstance" = none) (m_range : mg "range" = none)  (e_BadRow : mg "BadRow" = some (.ref (cAt K "BadRow"))) (e_BadText : mg "BadText" = some (.ref (cAt K "BadText"))) (e_Free : mg "Free" = some (.ref (cAt K "Free"))) (e_NoCount : mg "NoCount" = some (.ref (cAt K "NoCount"))) (e_NoIndex : mg "NoIndex" = some (.ref (cAt K "NoIndex"))) (e_NoSeat : mg "NoSeat" = some (.ref (cAt K "NoSeat"))) (e_NoStretch : mg "NoStretch" = some (.ref (cAt K "NoStretch"))) (e_NoVersion : mg "NoVersion" = some (.ref (cAt K "NoVersion"))) (e_NoWidth : mg "NoWidth" = some (.ref (cAt K "NoWidth"))) (e_OtherSize : mg "OtherSize" = some (.ref (cAt K "OtherSize"))) (e_Rejected : mg "Rejected" = some (.ref (cAt K "Rejected"))) (e_Taken : mg "Taken" = some (.ref (cAt K "Taken"))) (e_TooClose : mg "TooClose" = some (.ref (cAt K "TooClose"))) (e_TooLarge : mg "TooLarge" = some (.ref (cAt K "TooLarge"))) (e_TooMany : mg "TooMany" = some (.ref (cAt K "TooMany")))
    (hr : Room 0 (A.deeper (envOfC "_law_filled" (defScope s_l_filled) s.heap.objs.size f cdv))) (hG : A.guards = some []) :
    PSsD (bodyX P w K mg base N_l_filled "_law_filled" s_l_filled f cdv A outer s H E) (fun cls d _ H => E cls d H) (defBody s_l_filled) (t_l_filled K) :=
  have tk := takes_of (X := bodyX P w K mg base N_l_filled "_law_filled" s_l_filled f cdv A outer s H E) (E := E) rfl rfl rfl rfl
  (ss_cons (s_set (i := 1) sc_l_filled.nd rfl (by first | exact Or.inl rfl | exact Or.inr rfl) (d_lst (a_cons (d_isV m_isinstance (b_cons (d_bor 0) (b_cons (PD.b (d_gcls e_BadRow)) b_nil))) (a_cons (d_isV m_isinstance (b_cons (d_bor 0) (b_cons (PD.b (d_gcls e_BadText)) b_nil))) (a_cons (d_isV m_isinstance (b_cons (d_bor 0) (b_cons (PD.b (d_gcls e_Free)) b_nil))) a_nil)))))
  (ss_cons (s_set (i := 1) sc_l_filled.nd rfl (by first | exact Or.inl rfl | exact Or.inr rfl) (d_add (d_bor 1) (PD.b (d_lst (a_cons (d_isV m_isinstance (b_cons (d_bor 0) (b_cons (PD.b (d_gcls e_NoCount)) b_nil))) (a_cons (d_isV m_isinstance (b_cons (d_bor 0) (b_cons (PD.b (d_gcls e_NoIndex)) b_nil))) (a_cons (d_isV m_isinstance (b_cons (d_bor 0) (b_cons (PD.b (d_gcls e_NoSeat)) b_nil))) a_nil)))))))
  (ss_cons (s_set (i := 1) sc_l_filled.nd rfl (by first | exact Or.inl rfl | exact Or.inr rfl) (d_add (d_bor 1) (PD.b (d_lst (a_cons (d_isV m_isinstance (b_cons (d_bor 0) (b_cons (PD.b (d_gcls e_NoStretch)) b_nil))) (a_cons (d_isV m_isinstance (b_cons (d_bor 0) (b_cons (PD.b (d_gcls e_NoVersion)) b_nil))) (a_cons (d_isV m_isinstance (b_cons (d_bor 0) (b_cons (PD.b (d_gcls e_NoWidth)) b_nil))) a_nil)))))))
  (ss_cons (s_set (i := 1) sc_l_filled.nd rfl (by first | exact Or.inl rfl | exact Or.inr rfl) (d_add (d_bor 1) (PD.b (d_lst (a_cons (d_isV m_isinstance (b_cons (d_bor 0) (b_cons (PD.b (d_gcls e_OtherSize)) b_nil))) (a_cons (d_isV m_isinstance (b_cons (d_bor 0) (b_cons (PD.b (d_gcls e_Rejected)) b_nil))) (a_cons (d_isV m_isinstance (b_cons (d_bor 0) (b_cons (PD.b (d_gcls e_Taken)) b_nil))) a_nil)))))))
  (ss_cons (s_set (i := 1) sc_l_filled.nd rfl (by first | exact Or.inl rfl | exact Or.inr rfl) (d_add (d_bor 1) (PD.b (d_lst (a_cons (d_isV m_isinstance (b_cons (d_bor 0) (b_cons (PD.b (d_gcls e_TooClose)) b_nil))) (a_cons (d_isV m_isinstance (b_cons (d_bor 0) (b_cons (PD.b (d_gcls e_TooLarge)) b_nil))) (a_cons (d_isV m_isinstance (b_cons (d_bor 0) (b_cons (PD.b (d_gcls e_TooMany)) b_nil))) a_nil)))))))
  (ss_one (s_ret (PO.d (o_lc (own := [("_law_k", 2)]) rfl sc_l_filled.nd (i_range1 m_range (a_cons d_int a_nil)) (blkOk_by (own := [("_law_k", 2)]) (N := N_l_filled) (sc := defScope s_l_filled) (by decide +kernel)) (fun _ => (v_name (i := 2) (by decide) sc_l_filled.nd rfl (by first | exact Or.inl rfl | exact Or.inr rfl))) (fun _ => (ts_one (t_val (d_ix (d_bor 1) (d_bor 2))))) (fun _ => (d_var 2)))))))))))

abbrev s_l_alone : Stmt := top 35
abbrev N_l_alone : List Str := ["_law_errors", "_law_others", "_law_every", "_law_strange", "_law_k", "_law_error"]
theorem sc_l_alone : FnScope N_l_alone ["_law_errors", "_law_others"] (defScope s_l_alone) := ⟨rfl, rfl, rfl, by decide +kernel, rfl, by decide +kernel, by decide +kernel⟩
def t_l_alone_1 (K : PySem.W.Frag) : DS := (dIfS (dOrT (dTest (dOp dNe (dCall (sp_l_plain K) (dCons (dVar 5) dNil)) (dLst (dCons (dVar 4) dNil)))) (dTest (dOp dNe (dCall (sp_l_filled K) (dCons (dVar 5) dNil)) (dLst dNil))))
  (dRet (dC (.bl false)))
  dNext)
def t_l_alone_2 (K : PySem.W.Frag) : DS := (dIfS (dOrT (dTest (dOp dNe (dCall (sp_l_filled K) (dCons (dVar 5) dNil)) (dLst (dCons (dVar 4) dNil)))) (dTest (dOp dNe (dCall (sp_l_plain K) (dCons (dVar 5) dNil)) (dLst dNil))))
  (dRet (dC (.bl false)))
  dNext)
def t_l_alone_a9 (K : PySem.W.Frag) : DS := (dRet (dAndV (dOp dEq (dBor 3) (dLst dNil)) (dOp dEq (dFl (dLc (diL (dVar 2)) (dgName 5) (dNotT (dTest (dIsV K (dCons (dBor 5) (dCons (dC (.ty "ValueError")) dNil))))) (dVar 5) [5])) (dLst dNil))))
def t_l_alone_a8 (K : PySem.W.Frag) : DS := (dSeq (dSeq (dSetO 3 (dLc (diL (dVar 2)) (dgName 5) (dNotT (dTest (dIsV K (dCons (dBor 5) (dCons (dC (.obj (cAt K "SeatError"))) dNil))))) (dVar 5) [5])) (dFreeze 3 dNext))
  (t_l_alone_a9 K))
def t_l_alone_a7 (K : PySem.W.Frag) : DS := (dSeq (dAsg (dOp dAdd (dBor 0) (dBor 1)) (dgName 2))
  (t_l_alone_a8 K))
def t_l_alone_a4 (K : PySem.W.Frag) : DS := (dSeq (dFor (diE (dCons (dVar 1) dNil)) (dgTup 2 (dgCons (dgName 4) (dgCons (dgName 5) dgNil))) (t_l_alone_2 K))
  (t_l_alone_a7 K))
def t_l_alone (K : PySem.W.Frag) : DS := (dSeq (dFor (diE (dCons (dVar 0) dNil)) (dgTup 2 (dgCons (dgName 4) (dgCons (dgName 5) dgNil))) (t_l_alone_1 K))
  (t_l_alone_a4 K))
theorem b_l_alone {P : Program} {w : World} {K : PySem.W.Frag} {mg : Str → Option Value} {base : Heap} {f : Addr} {cdv : Value} {A : Around} {outer : List Env} {s : Shared} {H : Hp} {E : XK} (m_ValueError : mg "ValueError" = none) (m_enumerate : mg "enumerate" = none) (m_isinstance : mg "isinstance" = none) (c_l_filled : CalG P w K mg base 1 "_law_filled" (sp_l_filled K)) (c_l_plain : CalG P w K mg base 1 "_law_plain" (sp_l_plain K)) (e_SeatError : mg "SeatError" = some (.ref (cAt K "SeatError")))
    (hr : Room 1 (A.deeper (envOfC "_law_alone" (defScope s_l_alone) s.heap.objs.size f cdv))) (hG : A.guards = some []) :
    PSsD (bodyX P w K mg base N_l_alone "_law_alone" s_l_alone f cdv A outer s H E) (fun cls d _ H => E cls d H) (defBody s_l_alone) (t_l_alone K) :=
  have tk := takes_of (X := bodyX P w K mg base N_l_alone "_law_alone" s_l_alone f cdv A outer s H E) (E := E) rfl rfl rfl rfl
  (ss_cons (s_for (passes_of rfl) rfl (i_enum m_enumerate (a_cons (d_var 0) a_nil)) (g_tup (n := 2) rfl (g_cons (g_name (i := 4) sc_l_alone.nd rfl (by first | exact Or.inl rfl | exact Or.inr rfl)) (g_cons (g_name (i := 5) sc_l_alone.nd rfl (by first | exact Or.inl rfl | exact Or.inr rfl)) g_nil)))
  (ss_one (s_if (PWD.t (w_or (t_ne hr.units (PD.b (d_call c_l_plain hr (by decide) hG tk (a_cons (d_var 5) a_nil))) (PD.b (d_lst (a_cons (d_var 4) a_nil)))) (w_or1 (t_ne hr.units (PD.b (d_call c_l_filled hr (by decide) hG tk (a_cons (d_var 5) a_nil))) (PD.b (d_lst a_nil))))))
  (ss_one (s_ret d_bl))
  ss_nil)))
  (ss_cons (s_for (passes_of rfl) rfl (i_enum m_enumerate (a_cons (d_var 1) a_nil)) (g_tup (n := 2) rfl (g_cons (g_name (i := 4) sc_l_alone.nd rfl (by first | exact Or.inl rfl | exact Or.inr rfl)) (g_cons (g_name (i := 5) sc_l_alone.nd rfl (by first | exact Or.inl rfl | exact Or.inr rfl)) g_nil)))
  (ss_one (s_if (PWD.t (w_or (t_ne hr.units (PD.b (d_call c_l_filled hr (by decide) hG tk (a_cons (d_var 5) a_nil))) (PD.b (d_lst (a_cons (d_var 4) a_nil)))) (w_or1 (t_ne hr.units (PD.b (d_call c_l_plain hr (by decide) hG tk (a_cons (d_var 5) a_nil))) (PD.b (d_lst a_nil))))))
  (ss_one (s_ret d_bl))
  ss_nil)))
  (ss_cons (s_set (i := 2) sc_l_alone.nd rfl (by first | exact Or.inl rfl | exact Or.inr rfl) (d_add (d_bor 0) (d_bor 1)))
  (ss_cons (s_then 3 (s_setLcO (own := [("_law_error", 5)]) (i := 3) rfl sc_l_alone.nd rfl rfl (sw_true rfl rfl rfl (by decide +kernel)) (i_list (d_var 2)) (blkOk_by (own := [("_law_error", 5)]) (N := N_l_alone) (sc := defScope s_l_alone) (by decide +kernel)) (fun _ => (v_name (i := 5) (by decide) sc_l_alone.nd rfl (by first | exact Or.inl rfl | exact Or.inr rfl))) (fun _ => (ts_one (t_not (t_val (d_isV m_isinstance (b_cons (d_bor 5) (b_cons (PD.b (d_gcls e_SeatError)) b_nil))))))) (fun _ => (d_var 5))))
  (ss_one (s_ret (d_and (d_eq hr.units (d_bor 3) (PD.b (d_lst a_nil))) (d_one (d_eq hr.units (PD.b (PO.d (o_lc (own := [("_law_error", 5)]) rfl sc_l_alone.nd (i_list (d_var 2)) (blkOk_by (own := [("_law_error", 5)]) (N := N_l_alone) (sc := defScope s_l_alone) (by decide +kernel)) (fun _ => (v_name (i := 5) (by decide) sc_l_alone.nd rfl (by first | exact Or.inl rfl | exact Or.inr rfl))) (fun _ => (ts_one (t_not (t_val (d_isV m_isinstance (b_cons (d_bor 5) (b_cons (PD.b (d_bty m_ValueError (by decide +kernel))) b_nil))))))) (fun _ => (d_var 5))))) (PD.b (d_lst a_nil)))))))))))

abbrev s_l_made : Stmt := top 36
abbrev N_l_made : List Str := ["_law_values", "_law_fields", "_law_line", "_law_text", "_law_gone", "_law_many", "_law_item", "_law_spot", "_law_part", "_law_state", "_law_wide", "_law_size", "_law_batch", "_law_held", "_law_close", "_law_large", "_law_rich"]
theorem sc_l_made : FnScope N_l_made ["_law_values"] (defScope s_l_made) := ⟨rfl, rfl, rfl, by decide +kernel, rfl, by decide +kernel, by decide +kernel⟩
def t_l_made_a6 (K : PySem.W.Frag) : DS := (dSeq (dAsg (dLst (dCons (dXV K "error" (dVar 2)) (dCons (dXV K "index" (dVar 3)) (dCons (dXV K "seat" (dVar 4)) (dCons (dXV K "value" (dVar 5)) (dCons (dXV K "index" (dVar 6)) (dCons (dXV K "value" (dVar 7)) (dCons (dXV K "value" (dVar 8)) (dCons (dXV K "version" (dVar 9)) dNil))))))))) (dgName 1))
  (dSeq (dAsg (dOp dAdd (dBor 1) (dLst (dCons (dXV K "value" (dVar 10)) (dCons (dXV K "seats" (dVar 11)) (dCons (dXV K "index" (dVar 12)) (dCons (dXV K "seat" (dVar 13)) (dCons (dXV K "seat" (dVar 14)) (dCons (dXV K "limit" (dVar 15)) (dCons (dXV K "limit" (dVar 16)) dNil))))))))) (dgName 1))
  (dRet (dLst (dCons (dLst (dCons (dVar 2) (dCons (dVar 3) (dCons (dVar 4) (dCons (dVar 5) (dCons (dVar 6) (dCons (dVar 7) (dCons (dVar 8) (dCons (dVar 9) (dCons (dVar 10) (dCons (dVar 11) (dCons (dVar 12) (dCons (dVar 13) (dCons (dVar 14) (dCons (dVar 15) (dCons (dVar 16) dNil)))))))))))))))) (dCons (dVar 1) dNil))))))
def t_l_made_a5 (K : PySem.W.Frag) : DS := (dSeq (dParS3 14 15 16 (slD (dNewX (cAt K "TooClose") "seat" (dOp dIx (dBor 0) (dC (.int 12)))) (slD (dNewX (cAt K "TooLarge") "limit" (dOp dIx (dBor 0) (dC (.int 13)))) (slD (dNewX (cAt K "TooMany") "limit" (dOp dIx (dBor 0) (dC (.int 14)))) slNil))))
  (t_l_made_a6 K))
def t_l_made_a4 (K : PySem.W.Frag) : DS := (dSeq (dParS3 11 12 13 (slD (dNewX (cAt K "OtherSize") "seats" (dOp dIx (dBor 0) (dC (.int 9)))) (slD (dNewX (cAt K "Rejected") "index" (dOp dIx (dBor 0) (dC (.int 10)))) (slD (dNewX (cAt K "Taken") "seat" (dOp dIx (dBor 0) (dC (.int 11)))) slNil))))
  (t_l_made_a5 K))
def t_l_made_a3 (K : PySem.W.Frag) : DS := (dSeq (dParS3 8 9 10 (slD (dNewX (cAt K "NoStretch") "value" (dOp dIx (dBor 0) (dC (.int 6)))) (slD (dNewX (cAt K "NoVersion") "version" (dOp dIx (dBor 0) (dC (.int 7)))) (slD (dNewX (cAt K "NoWidth") "value" (dOp dIx (dBor 0) (dC (.int 8)))) slNil))))
  (t_l_made_a4 K))
def t_l_made_a2 (K : PySem.W.Frag) : DS := (dSeq (dParS3 5 6 7 (slD (dNewX (cAt K "NoCount") "value" (dOp dIx (dBor 0) (dC (.int 3)))) (slD (dNewX (cAt K "NoIndex") "index" (dOp dIx (dBor 0) (dC (.int 4)))) (slD (dNewX (cAt K "NoSeat") "value" (dOp dIx (dBor 0) (dC (.int 5)))) slNil))))
  (t_l_made_a3 K))
def t_l_made (K : PySem.W.Frag) : DS := (dSeq (dParS3 2 3 4 (slD (dNewX (cAt K "BadRow") "error" (dOp dIx (dBor 0) (dC (.int 0)))) (slD (dNewX (cAt K "BadText") "index" (dOp dIx (dBor 0) (dC (.int 1)))) (slD (dNewX (cAt K "Free") "seat" (dOp dIx (dBor 0) (dC (.int 2)))) slNil))))
  (t_l_made_a2 K))
theorem b_l_made {P : Program} {w : World} {K : PySem.W.Frag} {mg : Str → Option Value} {base : Heap} {f : Addr} {cdv : Value} {A : Around} {outer : List Env} {s : Shared} {H : Hp} {E : XK}   (T_BadRow : ExI K mg "BadRow" "error" (cAt K "BadRow")) (T_BadText : ExI K mg "BadText" "index" (cAt K "BadText")) (T_Free : ExI K mg "Free" "seat" (cAt K "Free")) (T_NoCount : ExI K mg "NoCount" "value" (cAt K "NoCount")) (T_NoIndex : ExI K mg "NoIndex" "index" (cAt K "NoIndex")) (T_NoSeat : ExI K mg "NoSeat" "value" (cAt K "NoSeat")) (T_NoStretch : ExI K mg "NoStretch" "value" (cAt K "NoStretch")) (T_NoVersion : ExI K mg "NoVersion" "version" (cAt K "NoVersion")) (T_NoWidth : ExI K mg "NoWidth" "value" (cAt K "NoWidth")) (T_OtherSize : ExI K mg "OtherSize" "seats" (cAt K "OtherSize")) (T_Rejected : ExI K mg "Rejected" "index" (cAt K "Rejected")) (T_Taken : ExI K mg "Taken" "seat" (cAt K "Taken")) (T_TooClose : ExI K mg "TooClose" "seat" (cAt K "TooClose")) (T_TooLarge : ExI K mg "TooLarge" "limit" (cAt K "TooLarge")) (T_TooMany : ExI K mg "TooMany" "limit" (cAt K "TooMany"))
    (hr : Room 1 (A.deeper (envOfC "_law_made" (defScope s_l_made) s.heap.objs.size f cdv))) (hG : A.guards = some []) :
    PSsD (bodyX P w K mg base N_l_made "_law_made" s_l_made f cdv A outer s H E) (fun cls d _ H => E cls d H) (defBody s_l_made) (t_l_made K) :=
  have tk := takes_of (X := bodyX P w K mg base N_l_made "_law_made" s_l_made f cdv A outer s H E) (E := E) rfl rfl rfl rfl
  (ss_cons (s_parS3 (i := 2) (j := 3) (l := 4) rfl sc_l_made.nd rfl rfl rfl (by decide) (by decide) (by decide) rfl rfl rfl (sl_d (d_newX (made_error T_BadRow) T_BadRow hr (d_ix (d_bor 0) (PD.b d_int))) (sl_d (d_newX (made_index T_BadText) T_BadText hr (d_ix (d_bor 0) (PD.b d_int))) (sl_d (d_newX (made_seat T_Free) T_Free hr (d_ix (d_bor 0) (PD.b d_int))) sl_nil))) rfl)
  (ss_cons (s_parS3 (i := 5) (j := 6) (l := 7) rfl sc_l_made.nd rfl rfl rfl (by decide) (by decide) (by decide) rfl rfl rfl (sl_d (d_newX (made_value T_NoCount) T_NoCount hr (d_ix (d_bor 0) (PD.b d_int))) (sl_d (d_newX (made_index T_NoIndex) T_NoIndex hr (d_ix (d_bor 0) (PD.b d_int))) (sl_d (d_newX (made_value T_NoSeat) T_NoSeat hr (d_ix (d_bor 0) (PD.b d_int))) sl_nil))) rfl)
  (ss_cons (s_parS3 (i := 8) (j := 9) (l := 10) rfl sc_l_made.nd rfl rfl rfl (by decide) (by decide) (by decide) rfl rfl rfl (sl_d (d_newX (made_value T_NoStretch) T_NoStretch hr (d_ix (d_bor 0) (PD.b d_int))) (sl_d (d_newX (made_version T_NoVersion) T_NoVersion hr (d_ix (d_bor 0) (PD.b d_int))) (sl_d (d_newX (made_value T_NoWidth) T_NoWidth hr (d_ix (d_bor 0) (PD.b d_int))) sl_nil))) rfl)
  (ss_cons (s_parS3 (i := 11) (j := 12) (l := 13) rfl sc_l_made.nd rfl rfl rfl (by decide) (by decide) (by decide) rfl rfl rfl (sl_d (d_newX (made_seats T_OtherSize) T_OtherSize hr (d_ix (d_bor 0) (PD.b d_int))) (sl_d (d_newX (made_index T_Rejected) T_Rejected hr (d_ix (d_bor 0) (PD.b d_int))) (sl_d (d_newX (made_seat T_Taken) T_Taken hr (d_ix (d_bor 0) (PD.b d_int))) sl_nil))) rfl)
  (ss_cons (s_parS3 (i := 14) (j := 15) (l := 16) rfl sc_l_made.nd rfl rfl rfl (by decide) (by decide) (by decide) rfl rfl rfl (sl_d (d_newX (made_seat T_TooClose) T_TooClose hr (d_ix (d_bor 0) (PD.b d_int))) (sl_d (d_newX (made_limit T_TooLarge) T_TooLarge hr (d_ix (d_bor 0) (PD.b d_int))) (sl_d (d_newX (made_limit T_TooMany) T_TooMany hr (d_ix (d_bor 0) (PD.b d_int))) sl_nil))) rfl)
  (ss_cons (s_set (i := 1) sc_l_made.nd rfl (by first | exact Or.inl rfl | exact Or.inr rfl) (d_lst (a_cons (d_xv (d_var 2)) (a_cons (d_xv (d_var 3)) (a_cons (d_xv (d_var 4)) (a_cons (d_xv (d_var 5)) (a_cons (d_xv (d_var 6)) (a_cons (d_xv (d_var 7)) (a_cons (d_xv (d_var 8)) (a_cons (d_xv (d_var 9)) a_nil))))))))))
  (ss_cons (s_set (i := 1) sc_l_made.nd rfl (by first | exact Or.inl rfl | exact Or.inr rfl) (d_add (d_bor 1) (PD.b (d_lst (a_cons (d_xv (d_var 10)) (a_cons (d_xv (d_var 11)) (a_cons (d_xv (d_var 12)) (a_cons (d_xv (d_var 13)) (a_cons (d_xv (d_var 14)) (a_cons (d_xv (d_var 15)) (a_cons (d_xv (d_var 16)) a_nil)))))))))))
  (ss_one (s_ret (d_lst (a_cons (d_lst (a_cons (d_var 2) (a_cons (d_var 3) (a_cons (d_var 4) (a_cons (d_var 5) (a_cons (d_var 6) (a_cons (d_var 7) (a_cons (d_var 8) (a_cons (d_var 9) (a_cons (d_var 10) (a_cons (d_var 11) (a_cons (d_var 12) (a_cons (d_var 13) (a_cons (d_var 14) (a_cons (d_var 15) (a_cons (d_var 16) a_nil)))))))))))))))) (a_cons (d_var 1) a_nil))))))))))))

abbrev s_law : Stmt := top 37
abbrev N_law : List Str := ["_law_script", "_law_pool", "_law_values", "_law_errors", "_law_limits", "_law_others", "_law_fields", "_law_k"]
theorem sc_law : FnScope N_law ["_law_script"] (defScope s_law) := ⟨rfl, rfl, rfl, by decide +kernel, rfl, by decide +kernel, by decide +kernel⟩
def t_law_a7 (K : PySem.W.Frag) : DS := (dSeq (dAsg (dLst (dCons (dC (.int 1000000000000)) (dCons (dC (.int 40)) (dCons (dC (.int 2000)) (dCons (dC (.int 20)) (dCons (dC (.int 30)) dNil)))))) (dgName 4))
  (dRet (dOp dEq (dCB dRepr (dCons (dBor 4) dNil)) (dCB dRepr (dCons (dLst (dCons (dOp dPow (dC (.int 10)) (dC (.int 12))) (dCons (dC (.int 40)) (dCons (dC (.int 2000)) (dCons (dC (.int 20)) (dCons (dC (.int 30)) dNil)))))) dNil)))))
def t_law_a5 (K : PySem.W.Frag) : DS := (dSeq (dIfS (dOrT (dTest (dOp dNe (dCB dRepr (dCons (dBor 6) dNil)) (dCB dRepr (dCons (dBor 2) dNil)))) (dNotT (dTest (dCall (sp_l_alone K) (dCons (dVar 3) (dCons (dVar 5) dNil))))))
  (dRet (dC (.bl false)))
  dNext)
  (t_law_a7 K))
def t_law_a4 (K : PySem.W.Frag) : DS := (dSeq (dAsg (dLst (dCons (dNewX0 (cAt K "BadBatch")) (dCons (dNewX0 (cAt K "Busy")) (dCons (dNewX0 (cAt K "Full")) (dCons (dNewX0 (cAt K "NoOrigin")) (dCons (dNewX0 (cAt K "NothingToUndo")) (dCons (dNewX0 (cAt K "TooManyEdits")) dNil))))))) (dgName 3))
  (t_law_a5 K))
def t_law_a3 (K : PySem.W.Frag) : DS := (dSeq (dAsg (dCall (sp_l_made K) (dCons (dVar 2) dNil)) (dgTup 2 (dgCons (dgName 5) (dgCons (dgName 6) dgNil))))
  (t_law_a4 K))
def t_law_a2 (K : PySem.W.Frag) : DS := (dSeq (dSeq (dSetO 2 (dLc (diR1 (dCons (dC (.int 15)) dNil)) (dgName 7) dYes (dCall sp_l_odd (dCons (dVar 1) dNil)) [7])) (dFreeze 2 dNext))
  (t_law_a3 K))
def t_law (K : PySem.W.Frag) : DS := (dSeq (dAsg (dCall (sp_l_opened K) (dCons (dVar 0) dNil)) (dgName 1))
  (t_law_a2 K))
theorem b_law {P : Program} {w : World} {K : PySem.W.Frag} {mg : Str → Option Value} {base : Heap} {f : Addr} {cdv : Value} {A : Around} {outer : List Env} {s : Shared} {H : Hp} {E : XK} (m_range : mg "range" = none) (m_repr : mg "repr" = none) (c_l_alone : CalG P w K mg base 2 "_law_alone" (sp_l_alone K)) (c_l_made : CalG P w K mg base 2 "_law_made" (sp_l_made K)) (c_l_odd : CalG P w K mg base 3 "_law_odd" sp_l_odd) (c_l_opened : CalG P w K mg base 1 "_law_opened" (sp_l_opened K)) {tk_BATCH : Tok} (g_BATCH : mg "BATCH" = some (.int 20 tk_BATCH)) {tk_HISTORY : Tok} (g_HISTORY : mg "HISTORY" = some (.int 30 tk_HISTORY)) {tk_LISTED : Tok} (g_LISTED : mg "LISTED" = some (.int 2000 tk_LISTED)) {tk_MAX_SEATS : Tok} (g_MAX_SEATS : mg "MAX_SEATS" = some (.int 1000000000000 tk_MAX_SEATS)) {tk_MAX_TAKEN : Tok} (g_MAX_TAKEN : mg "MAX_TAKEN" = some (.int 40 tk_MAX_TAKEN)) (T_BadBatch : Ex0 K mg "BadBatch"  (cAt K "BadBatch")) (T_Busy : Ex0 K mg "Busy"  (cAt K "Busy")) (T_Full : Ex0 K mg "Full"  (cAt K "Full")) (T_NoOrigin : Ex0 K mg "NoOrigin"  (cAt K "NoOrigin")) (T_NothingToUndo : Ex0 K mg "NothingToUndo"  (cAt K "NothingToUndo")) (T_TooManyEdits : Ex0 K mg "TooManyEdits"  (cAt K "TooManyEdits"))
    (hr : Room 3 (A.deeper (envOfC "law" (defScope s_law) s.heap.objs.size f cdv))) (hG : A.guards = some []) :
    PSsD (bodyX P w K mg base N_law "law" s_law f cdv A outer s H E) (fun cls d _ H => E cls d H) (defBody s_law) (t_law K) :=
  have tk := takes_of (X := bodyX P w K mg base N_law "law" s_law f cdv A outer s H E) (E := E) rfl rfl rfl rfl
  (ss_cons (s_set (i := 1) sc_law.nd rfl (by first | exact Or.inl rfl | exact Or.inr rfl) (d_call c_l_opened hr (by decide) hG tk (a_cons (d_var 0) a_nil)))
  (ss_cons (s_then 2 (s_setLcO (own := [("_law_k", 7)]) (i := 2) rfl sc_law.nd rfl rfl (sw_true rfl rfl rfl (by decide +kernel)) (i_range1 m_range (a_cons d_int a_nil)) (blkOk_by (own := [("_law_k", 7)]) (N := N_law) (sc := defScope s_law) (by decide +kernel)) (fun _ => (v_name (i := 7) (by decide) sc_law.nd rfl (by first | exact Or.inl rfl | exact Or.inr rfl))) (fun _ => ts_nil) (fun _ => (d_call c_l_odd hr (by decide) hG takes0 (a_cons (d_var 1) a_nil)))))
  (ss_cons (s_asg (d_call c_l_made hr (by decide) hG tk (a_cons (d_var 2) a_nil)) (g_tup (n := 2) rfl (g_cons (g_name (i := 5) sc_law.nd rfl (by first | exact Or.inl rfl | exact Or.inr rfl)) (g_cons (g_name (i := 6) sc_law.nd rfl (by first | exact Or.inl rfl | exact Or.inr rfl)) g_nil))))
  (ss_cons (s_set (i := 3) sc_law.nd rfl (by first | exact Or.inl rfl | exact Or.inr rfl) (d_lst (a_cons (d_newX0 T_BadBatch) (a_cons (d_newX0 T_Busy) (a_cons (d_newX0 T_Full) (a_cons (d_newX0 T_NoOrigin) (a_cons (d_newX0 T_NothingToUndo) (a_cons (d_newX0 T_TooManyEdits) a_nil))))))))
  (ss_cons (s_if (PWD.t (w_or (t_ne hr.units (PD.b (d_repr hG hr m_repr (b_cons (d_bor 6) b_nil))) (PD.b (d_repr hG hr m_repr (b_cons (d_bor 2) b_nil)))) (w_or1 (t_not (t_val (d_call c_l_alone hr (by decide) hG tk (a_cons (d_var 3) (a_cons (d_var 5) a_nil))))))))
  (ss_one (s_ret d_bl))
  ss_nil)
  (ss_cons (s_set (i := 4) sc_law.nd rfl (by first | exact Or.inl rfl | exact Or.inr rfl) (d_lst (a_cons (d_gint g_MAX_SEATS) (a_cons (d_gint g_MAX_TAKEN) (a_cons (d_gint g_LISTED) (a_cons (d_gint g_BATCH) (a_cons (d_gint g_HISTORY) a_nil)))))))
  (ss_one (s_ret (d_eq hr.units (PD.b (d_repr hG hr m_repr (b_cons (d_bor 4) b_nil))) (PD.b (d_repr hG hr m_repr (b_cons (PD.b (d_lst (a_cons (d_pow (PD.b d_int) (PD.b d_int)) (a_cons d_int (a_cons d_int (a_cons d_int (a_cons d_int a_nil))))))) b_nil))))))))))))

end DL

namespace DL
open PySem PySem.Spec PyProof.Rows L2
local macro_rules | `(tactic| trivial) => `(tactic| first | simp (config := { maxSteps := 3000000, implicitDefEqProofs := false }) (disch := first | omega | (refine id ?_; simp only [okN, okNL, okNL_ints, okNL_nats, okNL_bls, okNL_gaps, okNL_gapsL, okNL_append, Bool.and_self, Bool.and_true, Bool.true_and]; done) | assumption) only [u_isV, u_xv, u_newX, u_newX0, diET.eq_1, etP_t, dRevT.eq_1, dStrD.eq_1, strD_i, strD_t, rowD, gapD, gapLD, u_seq, nxt_nx, nxt_rt, nxt_xc, nxt_bk, nxt_ct, dAsg.eq_1, dgTup_t, dgTup_l, dgCons_c, dgNil_n, dgName.eq_1, u_var, u_bor, dC.eq_1, slP_d, boP_d, boP_l, boP_m, mlP_l, frP_d, frP_l, frP_m, frS_some, frS_none, dIfS.eq_1, u_test, dOrT.eq_1, dAndT.eq_1, dNotT.eq_1, dOp.eq_1, rd_int, rd_bl, rd_str, rd_non, rd_tup, rd_lst, rd_ty, rd_scr, rd_dic, rd_mL, rd_mD, rd_xcp, isX_ty, isX_obj, isX_tup, dCX.eq_1, isB_b, notB_b, dCntB.eq_1, cntP_l, cBl_n, cBl_c, isBl_b,  u_diZ, zpP_l, zpP_t, u_diE, enP_l, leP_p, dXF.eq_1, xfP_1, dRaise0.eq_1, dRaise1.eq_1, dTryAs.eq_1, dTryOnly.eq_1, blP_bl, inP_int, sqP_t, sqP_l, liP_l, tuP_t, cutP_l, cutP_t, catP_l, rgP_int, itP_some, r1P_i, r2P_i,
  u_andV, u_orV, u_notV, u_neg, u_star, u_diL, u_diT, u_some, u_slice, u_doOf, u_doCat, u_doRg, u_rgT, u_rgL, u_r1, u_r2, u_oset, ix_l, ix_t, add_ii, add_ss, add_ll, add_tt, sub_ii, mul_ii, mul_li, mod_ii, div_ii, pow_ii, lt_ii, le_ii, gt_ii, ge_ii, isN_n, notN_n, in_l, in_t, len_l, len_t, len_s, abs_i, max_ii, min_ii, int_i, int_b, tupOf_l, tupOf_t, lstOf_l, lstOf_t, is_l, bs_l, sortedT_t, repr_d, lenS_s, isi_non_int, isi_non_bool, isi_non_str, isi_non_tuple, isi_non_list, isi_non_dict, isi_bl_int, isi_bl_bool, isi_bl_str, isi_bl_tuple, isi_bl_list, isi_bl_dict, isi_int_int, isi_int_bool, isi_int_str, isi_int_tuple, isi_int_list, isi_int_dict, isi_str_int, isi_str_bool, isi_str_str, isi_str_tuple, isi_str_list, isi_str_dict, isi_tup_int, isi_tup_bool, isi_tup_str, isi_tup_tuple, isi_tup_list, isi_tup_dict, isi_lst_int, isi_lst_bool, isi_lst_str, isi_lst_tuple, isi_lst_list, isi_lst_dict, isi_dic_int, isi_dic_bool, isi_dic_str, isi_dic_tuple, isi_dic_list, isi_dic_dict, tyName,
  u_app, u_sext, dSIx, u_aug, dTup.eq_1, dLst.eq_1, dCons.eq_1, dNil.eq_1, u_parS, ssP2_2, u_parS3, ssP3_3, slO.eq_1, slD.eq_1, slNil.eq_1, doLst.eq_1, dFor.eq_1, diScr.eq_1, dRet.eq_1, dRetN.eq_1, dNext.eq_1, dCB.eq_1, dCall.eq_1, dFl.eq_1, dSum.eq_1, dAll.eq_1, dAny.eq_1, dMaxL.eq_1, dMinL.eq_1, isNon, u_frz, dDrop.eq_1, dLc.eq_1, dYes.eq_1, wipeS, dEq.eq_1, dNe.eq_1, dObj.eq_1, dSetO.eq_1, dIf.eq_1, dChain.eq_1, dSliceS.eq_1, lNone.eq_1, mset_same, mset_mset, dSortedS.eq_1, dSorted.eq_1, dBrk.eq_1, dCnt.eq_1,
  flatD, flat_ints, in_ints, take_map, drop_map, cmul_true, cdiv_true, cpow_true, gt_iff_lt, ge_iff_le, Int.reduceToNat, Int.reducePow, Int.reduceAdd, Int.reduceSub, Int.reduceLT, Int.reduceLE, Nat.reduceAdd, Nat.reduceMul, Nat.reduceLT, Nat.reduceLeDiff, Int.reduceMod, Int.reduceDiv, Int.reduceNeg, Int.reduceMul, Int.reduceEq, Int.reduceBEq, nc0, nc1, nc2, nc3, nc4, nc5, nc6, nc7, nc8, nc9, ex_some, ex_ints, ex_bls, le_line, lt_line, at0, at1, at2, at3, at4, at5, atI_map, atI_last, Option.map_some, cut_to, cut_from, cut_neg1, dDGet.eq_1, dHPut.eq_1, dObjD.eq_1, doDisp.eq_1, doEmp.eq_1, dFlD.eq_1, dRevL.eq_1, dgP_s, spStar.eq_1, eqOk_cn, eqOk_of, eqOk_str, eqv_tup, eqv_lst, eqv_tl, eqv_lt, eqv_nn, eqv_nt, eqv_tn, eqv_in, eqv_it, eqv_ti, eqv_bb, eqv_int, eqv_non_int, eqv_str, eqvL_nil, eqvL_cn, eqvL_nc, eqvL_cc, eqvL_ints, eqvL_snoc, eqvL_gaps, eqv_self, eqvL_self,
  List.getElem?_cons_succ, List.getElem?_cons_zero, List.set_cons_succ, List.set_cons_zero, List.map_cons, List.map_nil, List.length_cons, List.length_nil, List.length_map, List.length_append, List.length_take, List.length_drop, List.take_zero, List.drop_zero, List.take_succ_cons, List.drop_succ_cons, Nat.zero_le, Nat.zero_add, List.append_nil, List.nil_append, List.cons_append, decide_eq_true_eq, Bool.not_true, Bool.not_false, Bool.not_eq_true', decide_eq_false_iff_not, Bool.false_eq_true, Option.some.injEq, reduceCtorEq, if_true, if_false, ite_true, ite_false, true_and, and_true, and_self, exists_eq_left', exists_eq', Slot.ml.injEq, Slot.dat.injEq, D.scr.injEq, not_true_eq_false, not_false_eq_true, beq_self_eq_true, bne_self_eq_false, Bool.true_eq_false, decide_true, decide_false, Bool.and_true, Bool.true_and, Bool.and_false, Bool.false_and, Bool.or_true, Bool.true_or, Bool.or_false, Bool.false_or, ne_eq] | skip)
theorem r_l_ask : Keeps1 sp_l_ask N_l_ask t_l_ask := by
  rintro _ μ Q Z ⟨p, M, rfl, M0, M1, ⟨G, cs, t, e, G0, cn, cl, t0⟩, h⟩
  show t_l_ask _ [.dat (.obj p), .dat (.int M), .no, .no, .no, .no] μ
  have e1 : rdD μ (.obj p) = .dic (poolK G cs t) := rd_objD e
  have lp : 0 < (cs.length : Int) := by
    have := List.length_pos_iff.mpr cn
    omega
  unfold t_l_ask
  trivial
  simp only [e1, dgP_s, look_g]
  trivial
  by_cases g0 : 0 < G
  · rw [if_pos g0]
    unfold t_l_ask_y1
    trivial
    simp only [e1, dgP_s, look_g]
    trivial
    refine ⟨M0, ?_⟩
    rw [hpP_s e (by simp)]
    exact h _ _ ⟨G / M, cs, t, by rw [mset_same]; rfl, Int.ediv_nonneg G0 (by omega), cn, cl, t0⟩ (Int.emod_nonneg _ (by omega)) (Int.emod_lt_of_pos _ M0)
  · rw [if_neg g0]
    unfold t_l_ask_a5
    trivial
    simp only [e1, dgP_s, look_c, look_t]
    trivial
    rw [hpP_s e (by simp), put_t]
    obtain ⟨c, hc, -, -⟩ := atI_mem (l := cs) (i := t % (cs.length : Int)) (Int.emod_nonneg _ (by omega)) (Int.emod_lt_of_pos _ lp)
    trivial
    refine ⟨lp, ?_⟩
    simp only [hc]
    trivial
    generalize c + 3 * (cs.length : Int) + 2246822507 * (t + 1) = x1
    generalize hx2 : x1 % 3221225473 * (x1 % 40961 + 1) % 3221225473 = x2
    have b2 : 0 ≤ x2 ∧ x2 < 3221225473 := by
      rw [← hx2]
      exact ⟨Int.emod_nonneg _ (by decide), Int.emod_lt_of_pos _ (by decide)⟩
    trivial
    refine ⟨M0, h _ _ ⟨G, cs, t + 1, by rw [mset_same], G0, cn, cl, by omega⟩ (Int.emod_nonneg _ (by omega)) (Int.emod_lt_of_pos _ M0)⟩
theorem great_bits {c G : Int} {b n : Nat} (hc : c.natAbs.log2 ≤ b) (h0 : 0 ≤ c) (g0 : 0 ≤ G) (hG : G.natAbs < 2 ^ (n * (b + 3))) : (G * (c + 1) + c).natAbs < 2 ^ ((n + 1) * (b + 3)) := by
  have h1 := log2_lt hc
  obtain ⟨C, rfl⟩ := Int.eq_ofNat_of_zero_le h0
  obtain ⟨g, rfl⟩ := Int.eq_ofNat_of_zero_le g0
  have e : ((g : Int) * ((C : Int) + 1) + (C : Int)).natAbs = g * (C + 1) + C := by
    have : ((g : Int) * ((C : Int) + 1) + (C : Int)) = ((g * (C + 1) + C : Nat) : Int) := by push_cast; rfl
    rw [this]
    rfl
  rw [e]
  simp only [Int.natAbs_natCast] at h1 hG
  have e2 : (n + 1) * (b + 3) = n * (b + 3) + (b + 3) := Nat.succ_mul n (b + 3)
  rw [e2, Nat.pow_add]
  have h2 : C + 1 ≤ 2 ^ (b + 1) := h1
  have h3 : g * (C + 1) + C ≤ (g + 1) * 2 ^ (b + 1) := by
    have := Nat.mul_le_mul_left g h2
    rw [Nat.add_mul]
    omega
  have h4 : 2 ^ (b + 3) = 4 * 2 ^ (b + 1) := by
    rw [show b + 3 = (b + 1) + 2 from rfl, Nat.pow_add]
    omega
  have h5 : (g + 1) * 2 ^ (b + 1) ≤ 2 ^ (n * (b + 3)) * 2 ^ (b + 1) := Nat.mul_le_mul_right _ hG
  have h6 : 0 < 2 ^ (n * (b + 3)) * 2 ^ (b + 1) := Nat.mul_pos (Nat.two_pow_pos _) (Nat.two_pow_pos _)
  have h7 : 2 ^ (n * (b + 3)) * 2 ^ (b + 3) = 4 * (2 ^ (n * (b + 3)) * 2 ^ (b + 1)) := by
    rw [h4]
    exact Nat.mul_left_comm _ _ _
  rw [h7]
  omega
theorem opened_step {K : PySem.W.Frag} {D1 : DEnds} {r0 r1 r2 r4 : Slot} {μ : Mu} {c G : Int} (hm : CMulD G (c + 1)) (h : D1.nx [r0, .dat (.int c), r2, .dat (.int (G * (c + 1) + c)), r4] μ) :
    dgName 1 (.int c) [r0, r1, r2, .dat (.int G), r4] μ fun ρ1 μ1 => t_l_opened_1 K D1 ρ1 μ1 := by
  trivial
  unfold t_l_opened_1
  trivial
  exact ⟨hm, h⟩
theorem r_l_opened (K : PySem.W.Frag) : Keeps1 (sp_l_opened K) N_l_opened (t_l_opened K) := by
  rintro _ μ Q Z ⟨ns, rfl, hl, hb, q⟩
  show t_l_opened K _ [.dat (.scr K ns), .no, .no, .no, .no] μ
  unfold t_l_opened
  trivial
  refine lc_ints (fun _ => true) absI (ns.take 64) (by simp; omega) (fun x _ Kk acc ha hT hF => ?_) ?_
  · trivial
    exact ⟨ha, hT rfl⟩
  · rw [List.filter_eq_self.mpr (fun _ _ => rfl)]
    have cb : ∀ c ∈ (ns.take 64).map absI, 0 ≤ c ∧ c.natAbs.log2 ≤ 1048576 := fun c hc => by
      obtain ⟨x, hx, rfl⟩ := List.mem_map.mp hc
      have := hb x (List.mem_of_mem_take hx)
      rw [absI_nat]
      exact ⟨by omega, by simpa using this⟩
    have cl : ((ns.take 64).map absI).length ≤ 64 := by simp; omega
    generalize (ns.take 64).map absI = cells at cb cl
    unfold t_l_opened_a2
    trivial
    refine lc_ints (fun c => decide (1000000000000000000 ≤ c)) (fun c => c) cells (by omega) (fun x _ Kk acc ha hT hF => ?_) ?_
    · trivial
      split
      · exact ⟨ha, hT (decide_eq_true ‹_›)⟩
      · exact hF (decide_eq_false ‹_›)
    · rw [List.map_id']
      trivial
      have mem8 : ∀ c ∈ ((cells.filter fun c => decide (1000000000000000000 ≤ c)).take 8), c ∈ cells := fun c hc => (List.mem_filter.mp (List.mem_of_mem_take hc)).1
      have len8 : ((cells.filter fun c => decide (1000000000000000000 ≤ c)).take 8).length ≤ 8 := by simp; omega
      generalize (cells.filter fun c => decide (1000000000000000000 ≤ c)).take 8 = bigs at mem8 len8
      refine for_rest (fun r ρ μ' => ∃ (s1 : Slot) (G : Int) (n : Nat), ρ = [.dat (.scr K ns), s1, .no, .dat (.int G), .dat (.lst (cells.map .int))] ∧ μ' = μ ∧ 0 ≤ G ∧ n + r.length = 8 ∧ G.natAbs < 2 ^ (n * (1048576 + 3))) bigs ?_ ?_ ?_
      · refine ⟨.no, 0, 8 - bigs.length, rfl, rfl, Int.le_refl _, by omega, ?_⟩
        exact Nat.two_pow_pos _
      · rintro c r _ _ N ⟨l, el⟩ ⟨s1, G, n, rfl, rfl, G0, hn, hG⟩ k
        have hc := cb c (mem8 c (by rw [el]; simp))
        have hn' : n + (r.length + 1) = 8 := hn
        refine opened_step ?_ (k _ _ ⟨_, _, n + 1, rfl, rfl, ?_, by omega, great_bits hc.2 hc.1 G0 hG⟩)
        · by_cases gz : n = 0
          · subst gz
            refine cmul_l ⟨?_, ?_⟩
            · omega
            · simp only [Nat.zero_mul, Nat.pow_zero] at hG
              omega
          · left
            have h1 := PySem.Flt.log2_lt_of (Nat.mul_pos (by omega) (by decide)) hG
            have h2 : (c + 1).natAbs < 2 ^ (1048576 + 2) := by
              have := log2_lt hc.2
              rw [Nat.pow_succ]
              omega
            have h3 := PySem.Flt.log2_lt_of (by decide) h2
            have : n * (1048576 + 3) ≤ 8 * (1048576 + 3) := Nat.mul_le_mul_right _ (by omega)
            omega
        · exact Int.add_nonneg (Int.mul_nonneg G0 (by omega)) hc.1
      · rintro _ _ ⟨s1, G, n, rfl, rfl, G0, -, -⟩
        unfold t_l_opened_a4
        trivial
        refine lc_ints (fun c => decide (c < 1000000000000000000)) (fun c => c) cells (by omega) (fun x _ Kk acc ha hT hF => ?_) ?_
        · trivial
          split
          · exact ⟨ha, hT (decide_eq_true ‹_›)⟩
          · exact hF (decide_eq_false ‹_›)
        · rw [List.map_id']
          have lf := List.length_filter_le (fun c : Int => decide (c < 1000000000000000000)) cells
          generalize cells.filter (fun c => decide (c < 1000000000000000000)) = sm at lf
          unfold t_l_opened_a5
          cases sm with
          | nil =>
            trivial
            refine ⟨small (by decide), ?_⟩
            intro p hp
            exact q p _ ⟨G, [47], 0, by rw [mset_same]; rfl, G0, by simp, by simp, Int.le_refl _⟩
          | cons x sm =>
            have := lf
            simp only [List.length_cons] at this
            trivial
            refine ⟨small ?_, ?_⟩
            · simp
              omega
            intro p hp
            exact q p _ ⟨G, x :: sm, 0, by rw [mset_same]; simp [poolK], G0, by simp, by simp; omega, Int.le_refl _⟩
theorem r_l_pick : Keeps1 sp_l_pick N_l_pick t_l_pick := by
  rintro _ μ Q Z ⟨p, xs, rfl, x0, xl, hP, h⟩
  show t_l_pick _ [.dat (.obj p), .dat (.lst xs)] μ
  unfold t_l_pick
  have lp := List.length_pos_iff.mpr x0
  trivial
  refine ask hP (by omega) (by omega) fun a μ1 hP1 a0 a1 => ?_
  obtain ⟨d, hd, -, hm⟩ := atI_mem (l := xs) (i := a) a0 a1
  trivial
  rw [hd]
  trivial
  exact h _ _ hP1 hm
theorem r_l_odd : Keeps1 sp_l_odd N_l_odd t_l_odd := by
  rintro _ μ Q Z ⟨p, rfl, hP, q⟩
  show t_l_odd _ [.dat (.obj p), .no] μ
  unfold t_l_odd
  trivial
  unfold t_l_odd_a2
  trivial
  refine pick hP (by simp) (by simp) fun x μ' hP' hm => ?_
  refine q x μ' hP' ?_
  clear q
  revert x
  simp only [List.forall_mem_cons, List.not_mem_nil, false_implies, implies_true, and_true]
  refine ⟨?_, ?_, ?_, ?_, ?_, ?_, ?_, ?_, ?_, ?_, ?_, ?_, ?_, ?_, ?_, ?_, ?_, ?_, ?_, ?_, ?_, ?_, ?_, ?_⟩ <;> exact ⟨by decide +kernel, by simp [shortR, shortRL, shortRK, shI], by decide +kernel⟩
theorem isV {K : PySem.W.Frag} (hX : exB K = true) {μ : Mu} {x : D} {n y : Str} {Q : Bool → Prop} (h : IsE K μ x n) (hn : n ∈ plainN ++ fillN) (hy : y ∈ plainN ++ fillN) (q : Q (n == y)) : isvP K μ [x, .obj (cAt K y)] Q := by
  obtain ⟨a, d, fs, rfl, hm⟩ := h
  have E := (exB_ok hX).1 n hn
  exact ⟨hm, E.k, _, _, rfl, E.i y hy, q⟩
theorem nums_lc {x : D} {n : Str} {ns : List Str} {μ : Mu} {Q : DQ} {Z : DXQ} (hl : ns.length ≤ 100) (q : Q (numsF ns n) μ) :
    dLcGo (dgName 2) (dTest (dOp dIx (dBor 1) (dBor 2))) (dVar 2) [.dat x, .dat (.lst (ns.map fun y => .bl (n == y))), .no] (fun ds μ1 => Q (.lst ds) μ1) Z ((List.range ns.length).map fun k : Nat => .int (k : Int)) [] μ := by
  refine lc_if (fun k : Nat => ns.getD k "" == n) (fun k : Nat => .int (k : Int)) _ (by simp; omega) (fun k hk K acc ha k1 k2 => ?_) q
  have hk : k < ns.length := List.mem_range.mp hk
  trivial
  rw [atI_nat, List.getElem?_eq_getElem hk]
  have e : ns.getD k "" = ns[k] := by simp [List.getD, List.getElem?_eq_getElem hk]
  rw [e] at k1 k2
  have e2 : (n == ns[k]) = (ns[k] == n) := BEq.comm
  trivial
  rw [e2]
  cases h : (ns[k] == n) with
  | true => exact ⟨ha, k1 h⟩
  | false => exact k2 h
theorem r_l_plain (K : PySem.W.Frag) (hX : exB K = true) : Keeps1 (sp_l_plain K) N_l_plain (t_l_plain K) := by
  rintro _ μ Q Z ⟨x, n, rfl, hn, hx, q⟩
  show t_l_plain K _ [.dat x, .no, .no] μ
  unfold t_l_plain
  refine seq_gen fun N k => ?_
  trivial
  refine isV hX hx hn (by decide) (isV hX hx hn (by decide) (isV hX hx hn (by decide) (k _ _ ?_)))
  unfold t_l_plain_a2
  refine seq_gen fun N k => ?_
  trivial
  refine isV hX hx hn (by decide) (isV hX hx hn (by decide) (isV hX hx hn (by decide) ?_))
  trivial
  refine k _ _ ?_
  unfold t_l_plain_a3
  trivial
  exact nums_lc (ns := plainN) (by decide) q
theorem r_l_filled (K : PySem.W.Frag) (hX : exB K = true) : Keeps1 (sp_l_filled K) N_l_filled (t_l_filled K) := by
  rintro _ μ Q Z ⟨x, n, rfl, hn, hx, q⟩
  show t_l_filled K _ [.dat x, .no, .no] μ
  unfold t_l_filled
  refine seq_gen fun N k => ?_
  trivial
  refine isV hX hx hn (by decide) (isV hX hx hn (by decide) (isV hX hx hn (by decide) (k _ _ ?_)))
  unfold t_l_filled_a2
  refine seq_gen fun N k => ?_
  trivial
  refine isV hX hx hn (by decide) (isV hX hx hn (by decide) (isV hX hx hn (by decide) ?_))
  trivial
  refine k _ _ ?_
  unfold t_l_filled_a3
  refine seq_gen fun N k => ?_
  trivial
  refine isV hX hx hn (by decide) (isV hX hx hn (by decide) (isV hX hx hn (by decide) ?_))
  trivial
  refine k _ _ ?_
  unfold t_l_filled_a4
  refine seq_gen fun N k => ?_
  trivial
  refine isV hX hx hn (by decide) (isV hX hx hn (by decide) (isV hX hx hn (by decide) ?_))
  trivial
  refine k _ _ ?_
  unfold t_l_filled_a5
  refine seq_gen fun N k => ?_
  trivial
  refine isV hX hx hn (by decide) (isV hX hx hn (by decide) (isV hX hx hn (by decide) ?_))
  trivial
  refine k _ _ ?_
  unfold t_l_filled_a6
  trivial
  exact nums_lc (ns := fillN) (by decide) q
def prN : Nat → List D → List (Nat × D)
  | _, [] => []
  | i, x :: xs => (i, x) :: prN (i + 1) xs
theorem zip_prN : ∀ (xs : List D) (i : Nat), List.zipWith (fun x y => D.tup [x, y]) ((List.range' i xs.length).map fun i : Nat => D.int (i : Int)) xs = (prN i xs).map fun p => D.tup [.int (p.1 : Int), p.2]
  | [], i => by simp [prN]
  | x :: xs, i => by
    simp only [List.length_cons, List.range'_succ, List.map_cons, List.zipWith_cons_cons, prN]
    rw [zip_prN xs (i + 1)]
theorem enum_prN (xs : List D) : enumD xs = (prN 0 xs).map fun p => D.tup [.int (p.1 : Int), p.2] := by
  unfold enumD zipD
  rw [List.range_eq_range', zip_prN]
theorem AllE.len {K : PySem.W.Frag} {μ : Mu} : ∀ {xs : List D} {ns : List Str}, AllE K μ xs ns → xs.length = ns.length
  | [], [], _ => rfl
  | x :: xs, n :: ns, h => by simp [AllE.len h.2]
  | [], _ :: _, h => h.elim
  | _ :: _, [], h => h.elim
theorem AllE.get {K : PySem.W.Frag} {μ : Mu} : ∀ {xs : List D} {ns : List Str} {i : Nat} {n : Str}, AllE K μ xs ns → ns[i]? = some n → ∃ x, xs[i]? = some x ∧ IsE K μ x n
  | x :: xs, m :: ns, 0, n, h, e => by
    cases e
    exact ⟨x, rfl, h.1⟩
  | x :: xs, m :: ns, i + 1, n, h, e => by
    obtain ⟨y, h1, h2⟩ := AllE.get (xs := xs) (ns := ns) (i := i) (n := n) h.2 (by simpa using e)
    exact ⟨y, by simpa using h1, h2⟩
  | [], [], _, _, _, e => by simp at e
  | [], _ :: _, _, _, h, _ => h.elim
  | _ :: _, [], _, _, h, _ => h.elim
theorem prN_at : ∀ {ys : List D} {i : Nat} {p : Nat × D}, p ∈ prN i ys → ∃ j, ys[j]? = some p.2 ∧ p.1 = i + j
  | [], _, _, h => by cases h
  | y :: ys, i, p, h => by
    rcases List.mem_cons.mp h with rfl | h
    · exact ⟨0, rfl, rfl⟩
    · obtain ⟨j, h1, h2⟩ := prN_at h
      exact ⟨j + 1, by simpa using h1, by omega⟩
theorem AllE.at {K : PySem.W.Frag} {μ : Mu} {xs : List D} {ns : List Str} {l r : List (Nat × D)} {p : Nat × D} (h : AllE K μ xs ns) (e : prN 0 xs = l ++ p :: r) : p.1 < ns.length ∧ IsE K μ p.2 (ns.getD p.1 "") := by
  obtain ⟨j, h1, h2⟩ := prN_at (p := p) (by rw [e]; simp)
  have hj : j < xs.length := (List.getElem?_eq_some_iff.mp h1).1
  rw [h.len] at hj
  obtain ⟨x, h3, h4⟩ := h.get (List.getElem?_eq_getElem hj)
  rw [h1] at h3
  cases h3
  have e1 : p.1 = j := by omega
  rw [e1]
  refine ⟨hj, ?_⟩
  have e2 : ns.getD j "" = ns[j] := by simp [List.getD, List.getElem?_eq_getElem hj]
  rw [e2]
  exact h4
theorem pp_nums : ∀ i < 6, ((List.range 6).filter fun k => plainN.getD k "" == plainN.getD i "") = [i] := by decide +kernel
theorem pf_nums : ∀ i < 6, ((List.range 15).filter fun k => fillN.getD k "" == plainN.getD i "") = [] := by decide +kernel
theorem ff_nums : ∀ i < 15, ((List.range 15).filter fun k => fillN.getD k "" == fillN.getD i "") = [i] := by decide +kernel
theorem fp_nums : ∀ i < 15, ((List.range 6).filter fun k => plainN.getD k "" == fillN.getD i "") = [] := by decide +kernel
theorem mem_p : ∀ i < 6, plainN.getD i "" ∈ plainN ++ fillN := by decide +kernel
theorem mem_f : ∀ i < 15, fillN.getD i "" ∈ plainN ++ fillN := by decide +kernel
theorem nPP {i : Nat} (h : i < 6) : numsF plainN (plainN.getD i "") = .lst [.int i] := by
  unfold numsF
  rw [show plainN.length = 6 from rfl, pp_nums i h]
  rfl
theorem nPF {i : Nat} (h : i < 6) : numsF fillN (plainN.getD i "") = .lst [] := by
  unfold numsF
  rw [show fillN.length = 15 from rfl, pf_nums i h]
  rfl
theorem nFF {i : Nat} (h : i < 15) : numsF fillN (fillN.getD i "") = .lst [.int i] := by
  unfold numsF
  rw [show fillN.length = 15 from rfl, ff_nums i h]
  rfl
theorem nFP {i : Nat} (h : i < 15) : numsF plainN (fillN.getD i "") = .lst [] := by
  unfold numsF
  rw [show plainN.length = 6 from rfl, fp_nums i h]
  rfl
theorem AllE.mem {K : PySem.W.Frag} {μ : Mu} : ∀ {xs : List D} {ns : List Str}, AllE K μ xs ns → ∀ x ∈ xs, ∃ n ∈ ns, IsE K μ x n
  | [], _, _, x, hx => by cases hx
  | y :: xs, n :: ns, h, x, hx => by
    rcases List.mem_cons.mp hx with rfl | hx
    · exact ⟨n, .head _, h.1⟩
    · obtain ⟨m, h1, h2⟩ := AllE.mem (xs := xs) (ns := ns) h.2 x hx
      exact ⟨m, .tail _ h1, h2⟩
  | _ :: _, [], h, _, _ => h.elim
theorem lc_none {g : DG} {tt : DT} {te : DE} {ρ : List Slot} {Q : List D → Mu → Prop} {Z : DXQ} {μ : Mu} (zs : List D) (hl : zs.length ≤ 100000)
    (h : ∀ x ∈ zs, ∀ K : List D → Mu → Prop, ∀ acc : List D, acc.length < sizeLine → K acc μ → g x ρ μ fun ρ1 μ1 => tt ρ1 μ1 (fun b μ2 => if b = true then te ρ1 μ2 (fun d μ3 => acc.length < sizeLine ∧ K (acc ++ [d]) μ3) (fun _ _ => False) else K acc μ2) (fun _ _ => False))
    (q : Q [] μ) : dLcGo g tt te ρ Q Z zs [] μ := by
  have z := lc_if (g := g) (tt := tt) (te := te) (ρ := ρ) (Q := Q) (Z := Z) (μ := μ) (e := id) (fun _ => false) id zs hl (fun x hx K acc ha _ k2 => h x hx K acc ha (k2 rfl)) (by rw [List.filter_eq_nil_iff.mpr (by simp)]; simpa using q)
  simpa using z
theorem xvE {K : PySem.W.Frag} (hX : exB K = true) {μ : Mu} {a d : Addr} {n f : Str} {y : D} {Q : D → Prop} (hp : (n, f) ∈ fldN) (hm : μ a = some (exM (cAt K n) (some d) a)) (q : Q y) : xvP K μ f (.xcp a (cAt K n) (some d) [(f, y)]) Q := by
  obtain ⟨h1, h2⟩ := (exB_ok hX).2 _ hp
  exact ⟨by simp, hm, h1, h2, y, by simp [List.lookup], q⟩
theorem r_l_alone (K : PySem.W.Frag) (hX : exB K = true) : Keeps1 (sp_l_alone K) N_l_alone (t_l_alone K) := by
  rintro _ μ Q Z ⟨xs, ys, rfl, hx, hy, q⟩
  have lx := hx.len
  have ly := hy.len
  show t_l_alone K _ [.dat (.lst xs), .dat (.lst ys), .no, .no, .no, .no] μ
  unfold t_l_alone
  refine seq_gen fun N k => ?_
  trivial
  rw [enum_prN]
  refine for_rest (fun r ρ μ' => ∃ r4 r5, ρ = [.dat (.lst xs), .dat (.lst ys), .no, .no, r4, r5] ∧ μ' = μ) (prN 0 xs) ⟨_, _, rfl, rfl⟩ ?_ ?_
  · rintro ⟨i, x⟩ r _ _ N2 ⟨l, el⟩ ⟨r4, r5, rfl, rfl⟩ k2
    obtain ⟨hi, hE⟩ := hx.at el
    have hi : i < 6 := hi
    trivial
    unfold t_l_alone_1
    trivial
    refine ⟨x, _, rfl, mem_p i hi, hE, ?_⟩
    rw [nPP hi]
    trivial
    refine ⟨x, _, rfl, mem_p i hi, hE, ?_⟩
    rw [nPF hi]
    trivial
    exact k2 _ _ ⟨_, _, rfl, rfl⟩
  · rintro _ μ2 ⟨r4, r5, rfl, rfl⟩
    refine k _ _ ?_
    unfold t_l_alone_a4
    refine seq_gen fun N k => ?_
    trivial
    rw [enum_prN]
    refine for_rest (fun r ρ μ' => ∃ r4 r5, ρ = [.dat (.lst xs), .dat (.lst ys), .no, .no, r4, r5] ∧ μ' = μ2) (prN 0 ys) ⟨_, _, rfl, rfl⟩ ?_ ?_
    · rintro ⟨i, x⟩ r _ _ N2 ⟨l, el⟩ ⟨r4, r5, rfl, rfl⟩ k2
      obtain ⟨hi, hE⟩ := hy.at el
      have hi : i < 15 := hi
      trivial
      unfold t_l_alone_2
      trivial
      refine ⟨x, _, rfl, mem_f i hi, hE, ?_⟩
      rw [nFF hi]
      trivial
      refine ⟨x, _, rfl, mem_f i hi, hE, ?_⟩
      rw [nFP hi]
      trivial
      exact k2 _ _ ⟨_, _, rfl, rfl⟩
    · rintro _ μ3 ⟨r4, r5, rfl, rfl⟩
      have all : ∀ x ∈ xs ++ ys, ∃ n ∈ plainN ++ fillN, IsE K μ3 x n := fun x h => by
        rcases List.mem_append.mp h with h | h
        · obtain ⟨n, h1, h2⟩ := hx.mem x h
          exact ⟨n, List.mem_append_left _ h1, h2⟩
        · obtain ⟨n, h1, h2⟩ := hy.mem x h
          exact ⟨n, List.mem_append_right _ h1, h2⟩
      have l6 : xs.length = 6 := lx
      have l15 : ys.length = 15 := ly
      have lz : (xs ++ ys).length ≤ 100 := by simp; omega
      refine k _ _ ?_
      unfold t_l_alone_a7
      refine seq_gen fun N k => ?_
      trivial
      refine k _ _ ?_
      clear k
      generalize xs ++ ys = zs at all lz
      unfold t_l_alone_a8
      refine seq_gen fun N k => ?_
      trivial
      refine lc_none zs (by omega) (fun x hx K2 acc ha k2 => ?_) ?_
      · obtain ⟨n, hn, a, d, fs, e, hm⟩ := all x hx
        have E := (exB_ok hX).1 n hn
        show dgName 5 x _ _ _
        trivial
        subst e
        exact ⟨hm, E.k, _, _, rfl, E.s, k2⟩
      · refine k _ _ ?_
        clear k
        unfold t_l_alone_a9
        trivial
        refine lc_none zs (by omega) (fun x hx K2 acc ha k2 => ?_) ?_
        · obtain ⟨n, hn, a, d, fs, e, hm⟩ := all x hx
          have E := (exB_ok hX).1 n hn
          show dgName 5 x _ _ _
          trivial
          subst e
          exact ⟨hm, E.k, _, _, rfl, E.v, k2⟩
        · trivial
          exact q
theorem newE {μ : Mu} {e : Addr} {o : MO} (h : μ e = none) : ∃ μ', mset μ e o = μ' ∧ KeepA μ μ' ∧ μ' e = some o :=
  ⟨_, rfl, fun a u ha => by rw [mset_ne (fun z => by rw [z, h] at ha; cases ha)]; exact ha, mset_same⟩
theorem r_l_made (K : PySem.W.Frag) (hX : exB K = true) : Keeps1 (sp_l_made K) N_l_made (t_l_made K) := by
  rintro _ μ Q Z ⟨vs, rfl, hl, q⟩
  match vs, hl with
  | [v0, v1, v2, v3, v4, v5, v6, v7, v8, v9, v10, v11, v12, v13, v14], _ =>
  show t_l_made K _ [.dat (.lst _), .no, .no, .no, .no, .no, .no, .no, .no, .no, .no, .no, .no, .no, .no, .no, .no] μ
  unfold t_l_made
  refine seq_gen fun N k => ?_
  trivial
  intro e0 d0 h0
  obtain ⟨μ1, E1, k1, m1⟩ := newE (o := exM (cAt K "BadRow") (some d0) e0) h0
  rw [E1]
  clear h0 E1
  intro e1 d1 h1
  obtain ⟨μ2, E2, k2, m2⟩ := newE (o := exM (cAt K "BadText") (some d1) e1) h1
  rw [E2]
  clear h1 E2
  intro e2 d2 h2
  obtain ⟨μ3, E3, k3, m3⟩ := newE (o := exM (cAt K "Free") (some d2) e2) h2
  rw [E3]
  clear h2 E3
  refine k _ _ ?_
  clear k
  unfold t_l_made_a2
  refine seq_gen fun N k => ?_
  trivial
  intro e3 d3 h3
  obtain ⟨μ4, E4, k4, m4⟩ := newE (o := exM (cAt K "NoCount") (some d3) e3) h3
  rw [E4]
  clear h3 E4
  intro e4 d4 h4
  obtain ⟨μ5, E5, k5, m5⟩ := newE (o := exM (cAt K "NoIndex") (some d4) e4) h4
  rw [E5]
  clear h4 E5
  intro e5 d5 h5
  obtain ⟨μ6, E6, k6, m6⟩ := newE (o := exM (cAt K "NoSeat") (some d5) e5) h5
  rw [E6]
  clear h5 E6
  refine k _ _ ?_
  clear k
  unfold t_l_made_a3
  refine seq_gen fun N k => ?_
  trivial
  intro e6 d6 h6
  obtain ⟨μ7, E7, k7, m7⟩ := newE (o := exM (cAt K "NoStretch") (some d6) e6) h6
  rw [E7]
  clear h6 E7
  intro e7 d7 h7
  obtain ⟨μ8, E8, k8, m8⟩ := newE (o := exM (cAt K "NoVersion") (some d7) e7) h7
  rw [E8]
  clear h7 E8
  intro e8 d8 h8
  obtain ⟨μ9, E9, k9, m9⟩ := newE (o := exM (cAt K "NoWidth") (some d8) e8) h8
  rw [E9]
  clear h8 E9
  refine k _ _ ?_
  clear k
  unfold t_l_made_a4
  refine seq_gen fun N k => ?_
  trivial
  intro e9 d9 h9
  obtain ⟨μ10, E10, k10, m10⟩ := newE (o := exM (cAt K "OtherSize") (some d9) e9) h9
  rw [E10]
  clear h9 E10
  intro e10 d10 h10
  obtain ⟨μ11, E11, k11, m11⟩ := newE (o := exM (cAt K "Rejected") (some d10) e10) h10
  rw [E11]
  clear h10 E11
  intro e11 d11 h11
  obtain ⟨μ12, E12, k12, m12⟩ := newE (o := exM (cAt K "Taken") (some d11) e11) h11
  rw [E12]
  clear h11 E12
  refine k _ _ ?_
  clear k
  unfold t_l_made_a5
  refine seq_gen fun N k => ?_
  trivial
  intro e12 d12 h12
  obtain ⟨μ13, E13, k13, m13⟩ := newE (o := exM (cAt K "TooClose") (some d12) e12) h12
  rw [E13]
  clear h12 E13
  intro e13 d13 h13
  obtain ⟨μ14, E14, k14, m14⟩ := newE (o := exM (cAt K "TooLarge") (some d13) e13) h13
  rw [E14]
  clear h13 E14
  intro e14 d14 h14
  obtain ⟨μ15, E15, k15, m15⟩ := newE (o := exM (cAt K "TooMany") (some d14) e14) h14
  rw [E15]
  clear h14 E15
  refine k _ _ ?_
  clear k
  have w0 : μ15 e0 = some (exM (cAt K "BadRow") (some d0) e0) := k15 _ _ (k14 _ _ (k13 _ _ (k12 _ _ (k11 _ _ (k10 _ _ (k9 _ _ (k8 _ _ (k7 _ _ (k6 _ _ (k5 _ _ (k4 _ _ (k3 _ _ (k2 _ _ (m1))))))))))))))
  have w1 : μ15 e1 = some (exM (cAt K "BadText") (some d1) e1) := k15 _ _ (k14 _ _ (k13 _ _ (k12 _ _ (k11 _ _ (k10 _ _ (k9 _ _ (k8 _ _ (k7 _ _ (k6 _ _ (k5 _ _ (k4 _ _ (k3 _ _ (m2)))))))))))))
  have w2 : μ15 e2 = some (exM (cAt K "Free") (some d2) e2) := k15 _ _ (k14 _ _ (k13 _ _ (k12 _ _ (k11 _ _ (k10 _ _ (k9 _ _ (k8 _ _ (k7 _ _ (k6 _ _ (k5 _ _ (k4 _ _ (m3))))))))))))
  have w3 : μ15 e3 = some (exM (cAt K "NoCount") (some d3) e3) := k15 _ _ (k14 _ _ (k13 _ _ (k12 _ _ (k11 _ _ (k10 _ _ (k9 _ _ (k8 _ _ (k7 _ _ (k6 _ _ (k5 _ _ (m4)))))))))))
  have w4 : μ15 e4 = some (exM (cAt K "NoIndex") (some d4) e4) := k15 _ _ (k14 _ _ (k13 _ _ (k12 _ _ (k11 _ _ (k10 _ _ (k9 _ _ (k8 _ _ (k7 _ _ (k6 _ _ (m5))))))))))
  have w5 : μ15 e5 = some (exM (cAt K "NoSeat") (some d5) e5) := k15 _ _ (k14 _ _ (k13 _ _ (k12 _ _ (k11 _ _ (k10 _ _ (k9 _ _ (k8 _ _ (k7 _ _ (m6)))))))))
  have w6 : μ15 e6 = some (exM (cAt K "NoStretch") (some d6) e6) := k15 _ _ (k14 _ _ (k13 _ _ (k12 _ _ (k11 _ _ (k10 _ _ (k9 _ _ (k8 _ _ (m7))))))))
  have w7 : μ15 e7 = some (exM (cAt K "NoVersion") (some d7) e7) := k15 _ _ (k14 _ _ (k13 _ _ (k12 _ _ (k11 _ _ (k10 _ _ (k9 _ _ (m8)))))))
  have w8 : μ15 e8 = some (exM (cAt K "NoWidth") (some d8) e8) := k15 _ _ (k14 _ _ (k13 _ _ (k12 _ _ (k11 _ _ (k10 _ _ (m9))))))
  have w9 : μ15 e9 = some (exM (cAt K "OtherSize") (some d9) e9) := k15 _ _ (k14 _ _ (k13 _ _ (k12 _ _ (k11 _ _ (m10)))))
  have w10 : μ15 e10 = some (exM (cAt K "Rejected") (some d10) e10) := k15 _ _ (k14 _ _ (k13 _ _ (k12 _ _ (m11))))
  have w11 : μ15 e11 = some (exM (cAt K "Taken") (some d11) e11) := k15 _ _ (k14 _ _ (k13 _ _ (m12)))
  have w12 : μ15 e12 = some (exM (cAt K "TooClose") (some d12) e12) := k15 _ _ (k14 _ _ (m13))
  have w13 : μ15 e13 = some (exM (cAt K "TooLarge") (some d13) e13) := k15 _ _ (m14)
  have w14 : μ15 e14 = some (exM (cAt K "TooMany") (some d14) e14) := m15
  have kk : KeepA μ μ15 := fun a o h => k15 _ _ (k14 _ _ (k13 _ _ (k12 _ _ (k11 _ _ (k10 _ _ (k9 _ _ (k8 _ _ (k7 _ _ (k6 _ _ (k5 _ _ (k4 _ _ (k3 _ _ (k2 _ _ (k1 _ _ (h)))))))))))))))
  clear k1 m1 k2 m2 k3 m3 k4 m4 k5 m5 k6 m6 k7 m7 k8 m8 k9 m9 k10 m10 k11 m11 k12 m12 k13 m13 k14 m14 k15 m15
  unfold t_l_made_a6
  refine seq_gen fun N k => ?_
  trivial
  refine xvE hX (by decide) w0 (xvE hX (by decide) w1 (xvE hX (by decide) w2 (xvE hX (by decide) w3 (xvE hX (by decide) w4 (xvE hX (by decide) w5 (xvE hX (by decide) w6 (xvE hX (by decide) w7 (k _ _ ?_))))))))
  trivial
  refine xvE hX (by decide) w8 (xvE hX (by decide) w9 (xvE hX (by decide) w10 (xvE hX (by decide) w11 (xvE hX (by decide) w12 (xvE hX (by decide) w13 (xvE hX (by decide) w14 (q _ μ15 kk ⟨⟨e0, some d0, _, rfl, w0⟩, ⟨e1, some d1, _, rfl, w1⟩, ⟨e2, some d2, _, rfl, w2⟩, ⟨e3, some d3, _, rfl, w3⟩, ⟨e4, some d4, _, rfl, w4⟩, ⟨e5, some d5, _, rfl, w5⟩, ⟨e6, some d6, _, rfl, w6⟩, ⟨e7, some d7, _, rfl, w7⟩, ⟨e8, some d8, _, rfl, w8⟩, ⟨e9, some d9, _, rfl, w9⟩, ⟨e10, some d10, _, rfl, w10⟩, ⟨e11, some d11, _, rfl, w11⟩, ⟨e12, some d12, _, rfl, w12⟩, ⟨e13, some d13, _, rfl, w13⟩, ⟨e14, some d14, _, rfl, w14⟩, True.intro⟩)))))))
end DL

namespace DL
open PySem PySem.Spec PyProof.Rows L2
local macro_rules | `(tactic| trivial) => `(tactic| first | simp (config := { maxSteps := 3000000, implicitDefEqProofs := false }) (disch := first | omega | (refine id ?_; simp only [okN, okNL, okNL_ints, okNL_nats, okNL_bls, okNL_gaps, okNL_gapsL, okNL_append, Bool.and_self, Bool.and_true, Bool.true_and]; done) | assumption) only [u_isV, u_xv, u_newX, u_newX0, diET.eq_1, etP_t, dRevT.eq_1, dStrD.eq_1, strD_i, strD_t, rowD, gapD, gapLD, u_seq, nxt_nx, nxt_rt, nxt_xc, nxt_bk, nxt_ct, dAsg.eq_1, dgTup_t, dgTup_l, dgCons_c, dgNil_n, dgName.eq_1, u_var, u_bor, dC.eq_1, slP_d, boP_d, boP_l, boP_m, mlP_l, frP_d, frP_l, frP_m, frS_some, frS_none, dIfS.eq_1, u_test, dOrT.eq_1, dAndT.eq_1, dNotT.eq_1, dOp.eq_1, rd_int, rd_bl, rd_str, rd_non, rd_tup, rd_lst, rd_ty, rd_scr, rd_dic, rd_mL, rd_mD, rd_xcp, isX_ty, isX_obj, isX_tup, dCX.eq_1, isB_b, notB_b, dCntB.eq_1, cntP_l, cBl_n, cBl_c, isBl_b,  u_diZ, zpP_l, zpP_t, u_diE, enP_l, leP_p, dXF.eq_1, xfP_1, dRaise0.eq_1, dRaise1.eq_1, dTryAs.eq_1, dTryOnly.eq_1, blP_bl, inP_int, sqP_t, sqP_l, liP_l, tuP_t, cutP_l, cutP_t, catP_l, rgP_int, itP_some, r1P_i, r2P_i,
  u_andV, u_orV, u_notV, u_neg, u_star, u_diL, u_diT, u_some, u_slice, u_doOf, u_doCat, u_doRg, u_rgT, u_rgL, u_r1, u_r2, u_oset, ix_l, ix_t, add_ii, add_ss, add_ll, add_tt, sub_ii, mul_ii, mul_li, mod_ii, div_ii, pow_ii, lt_ii, le_ii, gt_ii, ge_ii, isN_n, notN_n, in_l, in_t, len_l, len_t, len_s, abs_i, max_ii, min_ii, int_i, int_b, tupOf_l, tupOf_t, lstOf_l, lstOf_t, is_l, bs_l, sortedT_t, repr_d, lenS_s, isi_non_int, isi_non_bool, isi_non_str, isi_non_tuple, isi_non_list, isi_non_dict, isi_bl_int, isi_bl_bool, isi_bl_str, isi_bl_tuple, isi_bl_list, isi_bl_dict, isi_int_int, isi_int_bool, isi_int_str, isi_int_tuple, isi_int_list, isi_int_dict, isi_str_int, isi_str_bool, isi_str_str, isi_str_tuple, isi_str_list, isi_str_dict, isi_tup_int, isi_tup_bool, isi_tup_str, isi_tup_tuple, isi_tup_list, isi_tup_dict, isi_lst_int, isi_lst_bool, isi_lst_str, isi_lst_tuple, isi_lst_list, isi_lst_dict, isi_dic_int, isi_dic_bool, isi_dic_str, isi_dic_tuple, isi_dic_list, isi_dic_dict, tyName,
  u_app, u_sext, dSIx, u_aug, dTup.eq_1, dLst.eq_1, dCons.eq_1, dNil.eq_1, u_parS, ssP2_2, u_parS3, ssP3_3, slO.eq_1, slD.eq_1, slNil.eq_1, doLst.eq_1, dFor.eq_1, diScr.eq_1, dRet.eq_1, dRetN.eq_1, dNext.eq_1, dCB.eq_1, dCall.eq_1, dFl.eq_1, dSum.eq_1, dAll.eq_1, dAny.eq_1, dMaxL.eq_1, dMinL.eq_1, isNon, u_frz, dDrop.eq_1, dLc.eq_1, dYes.eq_1, wipeS, dEq.eq_1, dNe.eq_1, dObj.eq_1, dSetO.eq_1, dIf.eq_1, dChain.eq_1, dSliceS.eq_1, lNone.eq_1, mset_same, mset_mset, dSortedS.eq_1, dSorted.eq_1, dBrk.eq_1, dCnt.eq_1,
  flatD, flat_ints, in_ints, take_map, drop_map, cmul_true, cdiv_true, cpow_true, gt_iff_lt, ge_iff_le, Int.reduceToNat, Int.reducePow, Int.reduceAdd, Int.reduceSub, Int.reduceLT, Int.reduceLE, Nat.reduceAdd, Nat.reduceMul, Nat.reduceLT, Nat.reduceLeDiff, Int.reduceMod, Int.reduceDiv, Int.reduceNeg, Int.reduceMul, Int.reduceEq, Int.reduceBEq, nc0, nc1, nc2, nc3, nc4, nc5, nc6, nc7, nc8, nc9, ex_some, ex_ints, ex_bls, le_line, lt_line, at0, at1, at2, at3, at4, at5, atI_map, atI_last, Option.map_some, cut_to, cut_from, cut_neg1, dDGet.eq_1, dHPut.eq_1, dObjD.eq_1, doDisp.eq_1, doEmp.eq_1, dFlD.eq_1, dRevL.eq_1, dgP_s, spStar.eq_1, eqOk_cn, eqOk_of, eqOk_str, eqv_tup, eqv_lst, eqv_tl, eqv_lt, eqv_nn, eqv_nt, eqv_tn, eqv_in, eqv_it, eqv_ti, eqv_bb, eqv_int, eqv_non_int, eqv_str, eqvL_nil, eqvL_cn, eqvL_nc, eqvL_cc, eqvL_ints, eqvL_snoc, eqvL_gaps, eqv_self, eqvL_self,
  List.getElem?_cons_succ, List.getElem?_cons_zero, List.set_cons_succ, List.set_cons_zero, List.map_cons, List.map_nil, List.length_cons, List.length_nil, List.length_map, List.length_append, List.length_take, List.length_drop, List.take_zero, List.drop_zero, List.take_succ_cons, List.drop_succ_cons, Nat.zero_le, Nat.zero_add, List.append_nil, List.nil_append, List.cons_append, decide_eq_true_eq, Bool.not_true, Bool.not_false, Bool.not_eq_true', decide_eq_false_iff_not, Bool.false_eq_true, Option.some.injEq, reduceCtorEq, if_true, if_false, ite_true, ite_false, true_and, and_true, and_self, exists_eq_left', exists_eq', Slot.ml.injEq, Slot.dat.injEq, D.scr.injEq, not_true_eq_false, not_false_eq_true, beq_self_eq_true, bne_self_eq_false, Bool.true_eq_false, decide_true, decide_false, Bool.and_true, Bool.true_and, Bool.and_false, Bool.false_and, Bool.or_true, Bool.true_or, Bool.or_false, Bool.false_or, ne_eq] | skip)
theorem AllE.keep {K : PySem.W.Frag} {μ μ' : Mu} (k : KeepA μ μ') : ∀ {xs : List D} {ns : List Str}, AllE K μ xs ns → AllE K μ' xs ns
  | [], [], _ => True.intro
  | x :: xs, n :: ns, h => by
    obtain ⟨⟨a, d, fs, e, hm⟩, h2⟩ := h
    exact ⟨⟨a, d, fs, e, k _ _ hm⟩, AllE.keep k h2⟩
  | [], _ :: _, h => h.elim
  | _ :: _, [], h => h.elim
theorem sh_vals {vs : List D} (h : ∀ x ∈ vs, Bv 2 1000 x) (hl : vs.length ≤ 15) : shD (.lst vs) = True := by
  have key : ∀ ws : List D, (∀ x ∈ ws, Bv 2 1000 x) → okRL 2 ws = true ∧ shortRL ws ∧ wRL ws ≤ 1100 * ws.length := by
    intro ws
    induction ws with
    | nil => exact fun _ => ⟨rfl, True.intro, by simp [wRL]⟩
    | cons w ws ih =>
      intro h
      obtain ⟨a, b, c⟩ := ih fun x hx => h x (.tail _ hx)
      have w1 := h w (.head _)
      refine ⟨by simp [okRL, w1.ok, a], ⟨w1.sh, b⟩, ?_⟩
      simp only [wRL, List.length_cons]
      have := w1.w
      omega
  obtain ⟨a, b, c⟩ := key vs h
  refine shR_of (okR_le (k := 3) (by decide) (by simpa [okR] using a)) (by simpa [shortR] using b) ?_
  simp only [wR]
  have : 1100 * vs.length ≤ 1100 * 15 := Nat.mul_le_mul_left _ hl
  omega
theorem r_law (K : PySem.W.Frag) (hX : exB K = true) : Keeps1 (sp_law K) N_law (t_law K) := by
  rintro _ μ Q Z ⟨ns, rfl, hl, hb, q⟩
  show t_law K _ [.dat (.scr K ns), .no, .no, .no, .no, .no, .no, .no] μ
  unfold t_law
  refine seq_gen fun N k => ?_
  trivial
  refine ⟨ns, rfl, hl, hb, fun p μ1 hP => k _ _ ?_⟩
  clear k
  unfold t_law_a2
  refine seq_gen fun N k => ?_
  trivial
  refine lc_made id (IsPl p) (Bv 2 1000) _ [] μ1 hP (by simp [rangeD]) (by simp) (fun d hd μ2 hP2 K2 h => ?_) (fun zs μ2 hP2 hz hlen => ?_) ?_
  · trivial
    exact oddp hP2 fun x μ3 hP3 hx => h x μ3 hP3 hx
  · rw [List.map_id]
    refine k _ _ ?_
    clear k
    have h15 : zs.length = 15 := by simpa [rangeD] using hlen
    unfold t_law_a3
    refine seq_gen fun N k => ?_
    trivial
    refine ⟨zs, rfl, h15, fun xs μ3 hk hA => ?_⟩
    trivial
    refine k _ _ ?_
    clear k
    unfold t_law_a4
    refine seq_gen fun N k => ?_
    trivial
    intro e0 h0
    obtain ⟨ν1, E1, k1, m1⟩ := newE (o := exM (cAt K "BadBatch") none e0) h0
    rw [E1]
    clear h0 E1
    intro e1 h1
    obtain ⟨ν2, E2, k2, m2⟩ := newE (o := exM (cAt K "Busy") none e1) h1
    rw [E2]
    clear h1 E2
    intro e2 h2
    obtain ⟨ν3, E3, k3, m3⟩ := newE (o := exM (cAt K "Full") none e2) h2
    rw [E3]
    clear h2 E3
    intro e3 h3
    obtain ⟨ν4, E4, k4, m4⟩ := newE (o := exM (cAt K "NoOrigin") none e3) h3
    rw [E4]
    clear h3 E4
    intro e4 h4
    obtain ⟨ν5, E5, k5, m5⟩ := newE (o := exM (cAt K "NothingToUndo") none e4) h4
    rw [E5]
    clear h4 E5
    intro e5 h5
    obtain ⟨ν6, E6, k6, m6⟩ := newE (o := exM (cAt K "TooManyEdits") none e5) h5
    rw [E6]
    clear h5 E6
    refine k _ _ ?_
    clear k
    have w0 : ν6 e0 = some (exM (cAt K "BadBatch") none e0) := k6 _ _ (k5 _ _ (k4 _ _ (k3 _ _ (k2 _ _ (m1)))))
    have w1 : ν6 e1 = some (exM (cAt K "Busy") none e1) := k6 _ _ (k5 _ _ (k4 _ _ (k3 _ _ (m2))))
    have w2 : ν6 e2 = some (exM (cAt K "Full") none e2) := k6 _ _ (k5 _ _ (k4 _ _ (m3)))
    have w3 : ν6 e3 = some (exM (cAt K "NoOrigin") none e3) := k6 _ _ (k5 _ _ (m4))
    have w4 : ν6 e4 = some (exM (cAt K "NothingToUndo") none e4) := k6 _ _ (m5)
    have w5 : ν6 e5 = some (exM (cAt K "TooManyEdits") none e5) := m6
    have hA := AllE.keep (μ := μ3) (μ' := ν6) (fun a o h => k6 _ _ (k5 _ _ (k4 _ _ (k3 _ _ (k2 _ _ (k1 _ _ (h))))))) hA
    clear k1 m1 k2 m2 k3 m3 k4 m4 k5 m5 k6 m6
    have sh := sh_vals hz (by omega)
    unfold t_law_a5
    refine seq_gen fun N k => ?_
    trivial
    rw [sh]
    refine ⟨True.intro, True.intro, _, _, rfl, ⟨⟨e0, none, _, rfl, w0⟩, ⟨e1, none, _, rfl, w1⟩, ⟨e2, none, _, rfl, w2⟩, ⟨e3, none, _, rfl, w3⟩, ⟨e4, none, _, rfl, w4⟩, ⟨e5, none, _, rfl, w5⟩, True.intro⟩, hA, ?_⟩
    trivial
    refine k _ _ ?_
    clear k
    unfold t_law_a7
    refine seq_gen fun N k => ?_
    trivial
    refine k _ _ ?_
    trivial
    have s5 : shD (.lst [.int 1000000000000, .int 40, .int 2000, .int 20, .int 30]) = True := by
      refine shR_of (by decide +kernel) ?_ (by decide +kernel)
      simp only [shortR, shortRL, and_true]
      exact ⟨shI_of (by decide), shI_of (by decide), shI_of (by decide), shI_of (by decide), shI_of (by decide)⟩
    rw [s5]
    exact ⟨True.intro, True.intro, q _⟩
  · exact fun d K1 K2 μ h g => h _ _ g
end DL

namespace DL
open PySem PySem.Spec PyProof.Rows L2
theorem l_l_opened (K : PySem.W.Frag) : ∀ ds μ Q Z, (sp_l_opened K) ds μ Q Z → ds.length = 1 := by
  intro ds μ Q Z h
  unfold sp_l_opened at h
  first
  | (obtain ⟨rfl, _⟩ := h; rfl)
  | (rcases h with ⟨_, h⟩; (repeat (first | (obtain ⟨rfl, _⟩ := h; rfl) | (rcases h with ⟨_, h⟩))); done)
  | (rcases h with h | h <;> (repeat (first | (obtain ⟨rfl, _⟩ := h; rfl) | (rcases h with ⟨_, h⟩))); done)
  | (repeat' (first | (obtain ⟨rfl, _⟩ := h; rfl) | (refine Or.elim h (fun h => ?_) (fun h => ?_)) | (rcases h with ⟨_, h⟩)))
theorem l_l_ask : ∀ ds μ Q Z, sp_l_ask ds μ Q Z → ds.length = 2 := by
  intro ds μ Q Z h
  unfold sp_l_ask at h
  first
  | (obtain ⟨rfl, _⟩ := h; rfl)
  | (rcases h with ⟨_, h⟩; (repeat (first | (obtain ⟨rfl, _⟩ := h; rfl) | (rcases h with ⟨_, h⟩))); done)
  | (rcases h with h | h <;> (repeat (first | (obtain ⟨rfl, _⟩ := h; rfl) | (rcases h with ⟨_, h⟩))); done)
  | (repeat' (first | (obtain ⟨rfl, _⟩ := h; rfl) | (refine Or.elim h (fun h => ?_) (fun h => ?_)) | (rcases h with ⟨_, h⟩)))
theorem l_l_pick : ∀ ds μ Q Z, sp_l_pick ds μ Q Z → ds.length = 2 := by
  intro ds μ Q Z h
  unfold sp_l_pick at h
  first
  | (obtain ⟨rfl, _⟩ := h; rfl)
  | (rcases h with ⟨_, h⟩; (repeat (first | (obtain ⟨rfl, _⟩ := h; rfl) | (rcases h with ⟨_, h⟩))); done)
  | (rcases h with h | h <;> (repeat (first | (obtain ⟨rfl, _⟩ := h; rfl) | (rcases h with ⟨_, h⟩))); done)
  | (repeat' (first | (obtain ⟨rfl, _⟩ := h; rfl) | (refine Or.elim h (fun h => ?_) (fun h => ?_)) | (rcases h with ⟨_, h⟩)))
theorem l_l_odd : ∀ ds μ Q Z, sp_l_odd ds μ Q Z → ds.length = 1 := by
  intro ds μ Q Z h
  unfold sp_l_odd at h
  first
  | (obtain ⟨rfl, _⟩ := h; rfl)
  | (rcases h with ⟨_, h⟩; (repeat (first | (obtain ⟨rfl, _⟩ := h; rfl) | (rcases h with ⟨_, h⟩))); done)
  | (rcases h with h | h <;> (repeat (first | (obtain ⟨rfl, _⟩ := h; rfl) | (rcases h with ⟨_, h⟩))); done)
  | (repeat' (first | (obtain ⟨rfl, _⟩ := h; rfl) | (refine Or.elim h (fun h => ?_) (fun h => ?_)) | (rcases h with ⟨_, h⟩)))
theorem l_l_plain (K : PySem.W.Frag) : ∀ ds μ Q Z, (sp_l_plain K) ds μ Q Z → ds.length = 1 := by
  intro ds μ Q Z h
  unfold sp_l_plain at h
  first
  | (obtain ⟨rfl, _⟩ := h; rfl)
  | (rcases h with ⟨_, h⟩; (repeat (first | (obtain ⟨rfl, _⟩ := h; rfl) | (rcases h with ⟨_, h⟩))); done)
  | (rcases h with h | h <;> (repeat (first | (obtain ⟨rfl, _⟩ := h; rfl) | (rcases h with ⟨_, h⟩))); done)
  | (repeat' (first | (obtain ⟨rfl, _⟩ := h; rfl) | (refine Or.elim h (fun h => ?_) (fun h => ?_)) | (rcases h with ⟨_, h⟩)))
theorem l_l_filled (K : PySem.W.Frag) : ∀ ds μ Q Z, (sp_l_filled K) ds μ Q Z → ds.length = 1 := by
  intro ds μ Q Z h
  unfold sp_l_filled at h
  first
  | (obtain ⟨rfl, _⟩ := h; rfl)
  | (rcases h with ⟨_, h⟩; (repeat (first | (obtain ⟨rfl, _⟩ := h; rfl) | (rcases h with ⟨_, h⟩))); done)
  | (rcases h with h | h <;> (repeat (first | (obtain ⟨rfl, _⟩ := h; rfl) | (rcases h with ⟨_, h⟩))); done)
  | (repeat' (first | (obtain ⟨rfl, _⟩ := h; rfl) | (refine Or.elim h (fun h => ?_) (fun h => ?_)) | (rcases h with ⟨_, h⟩)))
theorem l_l_alone (K : PySem.W.Frag) : ∀ ds μ Q Z, (sp_l_alone K) ds μ Q Z → ds.length = 2 := by
  intro ds μ Q Z h
  unfold sp_l_alone at h
  first
  | (obtain ⟨rfl, _⟩ := h; rfl)
  | (rcases h with ⟨_, h⟩; (repeat (first | (obtain ⟨rfl, _⟩ := h; rfl) | (rcases h with ⟨_, h⟩))); done)
  | (rcases h with h | h <;> (repeat (first | (obtain ⟨rfl, _⟩ := h; rfl) | (rcases h with ⟨_, h⟩))); done)
  | (repeat' (first | (obtain ⟨rfl, _⟩ := h; rfl) | (refine Or.elim h (fun h => ?_) (fun h => ?_)) | (rcases h with ⟨_, h⟩)))
theorem l_l_made (K : PySem.W.Frag) : ∀ ds μ Q Z, (sp_l_made K) ds μ Q Z → ds.length = 1 := by
  intro ds μ Q Z h
  unfold sp_l_made at h
  first
  | (obtain ⟨rfl, _⟩ := h; rfl)
  | (rcases h with ⟨_, h⟩; (repeat (first | (obtain ⟨rfl, _⟩ := h; rfl) | (rcases h with ⟨_, h⟩))); done)
  | (rcases h with h | h <;> (repeat (first | (obtain ⟨rfl, _⟩ := h; rfl) | (rcases h with ⟨_, h⟩))); done)
  | (repeat' (first | (obtain ⟨rfl, _⟩ := h; rfl) | (refine Or.elim h (fun h => ?_) (fun h => ?_)) | (rcases h with ⟨_, h⟩)))
theorem l_law (K : PySem.W.Frag) : ∀ ds μ Q Z, (sp_law K) ds μ Q Z → ds.length = 1 := by
  intro ds μ Q Z h
  unfold sp_law at h
  first
  | (obtain ⟨rfl, _⟩ := h; rfl)
  | (rcases h with ⟨_, h⟩; (repeat (first | (obtain ⟨rfl, _⟩ := h; rfl) | (rcases h with ⟨_, h⟩))); done)
  | (rcases h with h | h <;> (repeat (first | (obtain ⟨rfl, _⟩ := h; rfl) | (rcases h with ⟨_, h⟩))); done)
  | (repeat' (first | (obtain ⟨rfl, _⟩ := h; rfl) | (refine Or.elim h (fun h => ?_) (fun h => ?_)) | (rcases h with ⟨_, h⟩)))
theorem ok_l_opened {P : Program} {w : World} {K : PySem.W.Frag} {mg : Str → Option Value} {base : Heap} {f : Addr} {fd : FuncData} (F : Fun K "_law_opened" "_law_opened" s_l_opened f fd) (m_abs : mg "abs" = none) (m_int : mg "int" = none)  : FnV P w K mg base 1 f fd ["_law_script"] (spOf (sp_l_opened K)) :=
  fn_body F sc_l_opened (fun ds μ Q Z h => l_l_opened K ds μ Q Z h) fun cdv A outer s H E hr hG => ⟨_, b_l_opened m_abs m_int hr hG, r_l_opened K⟩
theorem ok_l_ask {P : Program} {w : World} {K : PySem.W.Frag} {mg : Str → Option Value} {base : Heap} {f : Addr} {fd : FuncData} (F : Fun K "_law_ask" "_law_ask" s_l_ask f fd) (m_len : mg "len" = none)  : FnV P w K mg base 1 f fd ["_law_pool", "_law_many"] (spOf sp_l_ask) :=
  fn_body F sc_l_ask (fun ds μ Q Z h => l_l_ask ds μ Q Z h) fun cdv A outer s H E hr hG => ⟨_, b_l_ask m_len hr hG, r_l_ask⟩
theorem ok_l_pick {P : Program} {w : World} {K : PySem.W.Frag} {mg : Str → Option Value} {base : Heap} {f : Addr} {fd : FuncData} (F : Fun K "_law_pick" "_law_pick" s_l_pick f fd) (m_len : mg "len" = none) (c_l_ask : CalG P w K mg base 1 "_law_ask" sp_l_ask) : FnV P w K mg base 2 f fd ["_law_pool", "_law_items"] (spOf sp_l_pick) :=
  fn_body F sc_l_pick (fun ds μ Q Z h => l_l_pick ds μ Q Z h) fun cdv A outer s H E hr hG => ⟨_, b_l_pick m_len c_l_ask hr hG, r_l_pick⟩
theorem ok_l_odd {P : Program} {w : World} {K : PySem.W.Frag} {mg : Str → Option Value} {base : Heap} {f : Addr} {fd : FuncData} (F : Fun K "_law_odd" "_law_odd" s_l_odd f fd)  (c_l_pick : CalG P w K mg base 2 "_law_pick" sp_l_pick) : FnV P w K mg base 3 f fd ["_law_pool"] (spOf sp_l_odd) :=
  fn_body F sc_l_odd (fun ds μ Q Z h => l_l_odd ds μ Q Z h) fun cdv A outer s H E hr hG => ⟨_, b_l_odd c_l_pick hr hG, r_l_odd⟩
theorem ok_l_plain {P : Program} {w : World} {K : PySem.W.Frag} {mg : Str → Option Value} {base : Heap} {f : Addr} {fd : FuncData} (F : Fun K "_law_plain" "_law_plain" s_l_plain f fd) (m_isinstance : mg "isinstance" = none) (m_range : mg "range" = none)  (e_BadBatch : mg "BadBatch" = some (.ref (cAt K "BadBatch"))) (e_Busy : mg "Busy" = some (.ref (cAt K "Busy"))) (e_Full : mg "Full" = some (.ref (cAt K "Full"))) (e_NoOrigin : mg "NoOrigin" = some (.ref (cAt K "NoOrigin"))) (e_NothingToUndo : mg "NothingToUndo" = some (.ref (cAt K "NothingToUndo"))) (e_TooManyEdits : mg "TooManyEdits" = some (.ref (cAt K "TooManyEdits"))) (hX : exB K = true) : FnV P w K mg base 1 f fd ["_law_error"] (spOf (sp_l_plain K)) :=
  fn_body F sc_l_plain (fun ds μ Q Z h => l_l_plain K ds μ Q Z h) fun cdv A outer s H E hr hG => ⟨_, b_l_plain m_isinstance m_range e_BadBatch e_Busy e_Full e_NoOrigin e_NothingToUndo e_TooManyEdits hr hG, r_l_plain K hX⟩
theorem ok_l_filled {P : Program} {w : World} {K : PySem.W.Frag} {mg : Str → Option Value} {base : Heap} {f : Addr} {fd : FuncData} (F : Fun K "_law_filled" "_law_filled" s_l_filled f fd) (m_isinstance : mg "isinstance" = none) (m_range : mg "range" = none)  (e_BadRow : mg "BadRow" = some (.ref (cAt K "BadRow"))) (e_BadText : mg "BadText" = some (.ref (cAt K "BadText"))) (e_Free : mg "Free" = some (.ref (cAt K "Free"))) (e_NoCount : mg "NoCount" = some (.ref (cAt K "NoCount"))) (e_NoIndex : mg "NoIndex" = some (.ref (cAt K "NoIndex"))) (e_NoSeat : mg "NoSeat" = some (.ref (cAt K "NoSeat"))) (e_NoStretch : mg "NoStretch" = some (.ref (cAt K "NoStretch"))) (e_NoVersion : mg "NoVersion" = some (.ref (cAt K "NoVersion"))) (e_NoWidth : mg "NoWidth" = some (.ref (cAt K "NoWidth"))) (e_OtherSize : mg "OtherSize" = some (.ref (cAt K "OtherSize"))) (e_Rejected : mg "Rejected" = some (.ref (cAt K "Rejected"))) (e_Taken : mg "Taken" = some (.ref (cAt K "Taken"))) (e_TooClose : mg "TooClose" = some (.ref (cAt K "TooClose"))) (e_TooLarge : mg "TooLarge" = some (.ref (cAt K "TooLarge"))) (e_TooMany : mg "TooMany" = some (.ref (cAt K "TooMany"))) (hX : exB K = true) : FnV P w K mg base 1 f fd ["_law_error"] (spOf (sp_l_filled K)) :=
  fn_body F sc_l_filled (fun ds μ Q Z h => l_l_filled K ds μ Q Z h) fun cdv A outer s H E hr hG => ⟨_, b_l_filled m_isinstance m_range e_BadRow e_BadText e_Free e_NoCount e_NoIndex e_NoSeat e_NoStretch e_NoVersion e_NoWidth e_OtherSize e_Rejected e_Taken e_TooClose e_TooLarge e_TooMany hr hG, r_l_filled K hX⟩
theorem ok_l_alone {P : Program} {w : World} {K : PySem.W.Frag} {mg : Str → Option Value} {base : Heap} {f : Addr} {fd : FuncData} (F : Fun K "_law_alone" "_law_alone" s_l_alone f fd) (m_ValueError : mg "ValueError" = none) (m_enumerate : mg "enumerate" = none) (m_isinstance : mg "isinstance" = none) (c_l_filled : CalG P w K mg base 1 "_law_filled" (sp_l_filled K)) (c_l_plain : CalG P w K mg base 1 "_law_plain" (sp_l_plain K)) (e_SeatError : mg "SeatError" = some (.ref (cAt K "SeatError"))) (hX : exB K = true) : FnV P w K mg base 2 f fd ["_law_errors", "_law_others"] (spOf (sp_l_alone K)) :=
  fn_body F sc_l_alone (fun ds μ Q Z h => l_l_alone K ds μ Q Z h) fun cdv A outer s H E hr hG => ⟨_, b_l_alone m_ValueError m_enumerate m_isinstance c_l_filled c_l_plain e_SeatError hr hG, r_l_alone K hX⟩
theorem ok_l_made {P : Program} {w : World} {K : PySem.W.Frag} {mg : Str → Option Value} {base : Heap} {f : Addr} {fd : FuncData} (F : Fun K "_law_made" "_law_made" s_l_made f fd)   (T_BadRow : ExI K mg "BadRow" "error" (cAt K "BadRow")) (T_BadText : ExI K mg "BadText" "index" (cAt K "BadText")) (T_Free : ExI K mg "Free" "seat" (cAt K "Free")) (T_NoCount : ExI K mg "NoCount" "value" (cAt K "NoCount")) (T_NoIndex : ExI K mg "NoIndex" "index" (cAt K "NoIndex")) (T_NoSeat : ExI K mg "NoSeat" "value" (cAt K "NoSeat")) (T_NoStretch : ExI K mg "NoStretch" "value" (cAt K "NoStretch")) (T_NoVersion : ExI K mg "NoVersion" "version" (cAt K "NoVersion")) (T_NoWidth : ExI K mg "NoWidth" "value" (cAt K "NoWidth")) (T_OtherSize : ExI K mg "OtherSize" "seats" (cAt K "OtherSize")) (T_Rejected : ExI K mg "Rejected" "index" (cAt K "Rejected")) (T_Taken : ExI K mg "Taken" "seat" (cAt K "Taken")) (T_TooClose : ExI K mg "TooClose" "seat" (cAt K "TooClose")) (T_TooLarge : ExI K mg "TooLarge" "limit" (cAt K "TooLarge")) (T_TooMany : ExI K mg "TooMany" "limit" (cAt K "TooMany")) (hX : exB K = true) : FnV P w K mg base 2 f fd ["_law_values"] (spOf (sp_l_made K)) :=
  fn_body F sc_l_made (fun ds μ Q Z h => l_l_made K ds μ Q Z h) fun cdv A outer s H E hr hG => ⟨_, b_l_made T_BadRow T_BadText T_Free T_NoCount T_NoIndex T_NoSeat T_NoStretch T_NoVersion T_NoWidth T_OtherSize T_Rejected T_Taken T_TooClose T_TooLarge T_TooMany hr hG, r_l_made K hX⟩
theorem ok_law {P : Program} {w : World} {K : PySem.W.Frag} {mg : Str → Option Value} {base : Heap} {f : Addr} {fd : FuncData} (F : Fun K "law" "law" s_law f fd) (m_range : mg "range" = none) (m_repr : mg "repr" = none) (c_l_alone : CalG P w K mg base 2 "_law_alone" (sp_l_alone K)) (c_l_made : CalG P w K mg base 2 "_law_made" (sp_l_made K)) (c_l_odd : CalG P w K mg base 3 "_law_odd" sp_l_odd) (c_l_opened : CalG P w K mg base 1 "_law_opened" (sp_l_opened K)) {tk_BATCH : Tok} (g_BATCH : mg "BATCH" = some (.int 20 tk_BATCH)) {tk_HISTORY : Tok} (g_HISTORY : mg "HISTORY" = some (.int 30 tk_HISTORY)) {tk_LISTED : Tok} (g_LISTED : mg "LISTED" = some (.int 2000 tk_LISTED)) {tk_MAX_SEATS : Tok} (g_MAX_SEATS : mg "MAX_SEATS" = some (.int 1000000000000 tk_MAX_SEATS)) {tk_MAX_TAKEN : Tok} (g_MAX_TAKEN : mg "MAX_TAKEN" = some (.int 40 tk_MAX_TAKEN)) (T_BadBatch : Ex0 K mg "BadBatch"  (cAt K "BadBatch")) (T_Busy : Ex0 K mg "Busy"  (cAt K "Busy")) (T_Full : Ex0 K mg "Full"  (cAt K "Full")) (T_NoOrigin : Ex0 K mg "NoOrigin"  (cAt K "NoOrigin")) (T_NothingToUndo : Ex0 K mg "NothingToUndo"  (cAt K "NothingToUndo")) (T_TooManyEdits : Ex0 K mg "TooManyEdits"  (cAt K "TooManyEdits")) (hX : exB K = true) : FnV P w K mg base 4 f fd ["_law_script"] (spOf (sp_law K)) :=
  fn_body F sc_law (fun ds μ Q Z h => l_law K ds μ Q Z h) fun cdv A outer s H E hr hG => ⟨_, b_law m_range m_repr c_l_alone c_l_made c_l_odd c_l_opened g_BATCH g_HISTORY g_LISTED g_MAX_SEATS g_MAX_TAKEN T_BadBatch T_Busy T_Full T_NoOrigin T_NothingToUndo T_TooManyEdits hr hG, r_law K hX⟩
theorem all_mk {l : PySem.W.OpenLaw} {w : World} {K : PySem.W.Frag} {h : Heap} {mg : Str → Option Value} {fa f0 f1 f2 f3 f4 f5 f6 f7 f8 : Addr} (X : K.In h) (G : h.Ns mainGlobals mg) (hfa : mg "law" = some (.ref fa))
    {od0 an0 od1 an1 od2 an2 od3 an3 od4 an4 od5 an5 od6 an6 od7 an7 od8 an8 : Option Addr} {sl0 sl1 sl2 sl3 sl4 sl5 sl6 sl7 sl8 : Array (Option Value)} {oc0 kV0 dc0 pm0 cd0 ct0 oc1 kV1 dc1 pm1 cd1 ct1 oc2 kV2 dc2 pm2 cd2 ct2 oc3 kV3 dc3 pm3 cd3 ct3 oc4 kV4 dc4 pm4 cd4 ct4 oc5 kV5 dc5 pm5 cd5 ct5 oc6 kV6 dc6 pm6 cd6 ct6 oc7 kV7 dc7 pm7 cd7 ct7 oc8 kV8 dc8 pm8 cd8 ct8 : Value}
    (a0 : PySem.W.nsIn K mainGlobals "_law_opened" = some (some (.ref f0))) (l0 : K.lookup f0 = some ⟨oc0, od0, .func (PySem.W.fnOf "_law_opened" "_law_opened" (defArgs s_l_opened) (defBody s_l_opened) (defScope s_l_opened) .none kV0 dc0 pm0 an0 cd0 ct0), sl0⟩) (c0 : PySem.W.codeIn K cd0 "_law_opened" = true) (k0 : PySem.W.keepIn K (.ref f0) = true)
    (a1 : PySem.W.nsIn K mainGlobals "_law_ask" = some (some (.ref f1))) (l1 : K.lookup f1 = some ⟨oc1, od1, .func (PySem.W.fnOf "_law_ask" "_law_ask" (defArgs s_l_ask) (defBody s_l_ask) (defScope s_l_ask) .none kV1 dc1 pm1 an1 cd1 ct1), sl1⟩) (c1 : PySem.W.codeIn K cd1 "_law_ask" = true) (k1 : PySem.W.keepIn K (.ref f1) = true)
    (a2 : PySem.W.nsIn K mainGlobals "_law_pick" = some (some (.ref f2))) (l2 : K.lookup f2 = some ⟨oc2, od2, .func (PySem.W.fnOf "_law_pick" "_law_pick" (defArgs s_l_pick) (defBody s_l_pick) (defScope s_l_pick) .none kV2 dc2 pm2 an2 cd2 ct2), sl2⟩) (c2 : PySem.W.codeIn K cd2 "_law_pick" = true) (k2 : PySem.W.keepIn K (.ref f2) = true)
    (a3 : PySem.W.nsIn K mainGlobals "_law_odd" = some (some (.ref f3))) (l3 : K.lookup f3 = some ⟨oc3, od3, .func (PySem.W.fnOf "_law_odd" "_law_odd" (defArgs s_l_odd) (defBody s_l_odd) (defScope s_l_odd) .none kV3 dc3 pm3 an3 cd3 ct3), sl3⟩) (c3 : PySem.W.codeIn K cd3 "_law_odd" = true) (k3 : PySem.W.keepIn K (.ref f3) = true)
    (a4 : PySem.W.nsIn K mainGlobals "_law_plain" = some (some (.ref f4))) (l4 : K.lookup f4 = some ⟨oc4, od4, .func (PySem.W.fnOf "_law_plain" "_law_plain" (defArgs s_l_plain) (defBody s_l_plain) (defScope s_l_plain) .none kV4 dc4 pm4 an4 cd4 ct4), sl4⟩) (c4 : PySem.W.codeIn K cd4 "_law_plain" = true) (k4 : PySem.W.keepIn K (.ref f4) = true)
    (a5 : PySem.W.nsIn K mainGlobals "_law_filled" = some (some (.ref f5))) (l5 : K.lookup f5 = some ⟨oc5, od5, .func (PySem.W.fnOf "_law_filled" "_law_filled" (defArgs s_l_filled) (defBody s_l_filled) (defScope s_l_filled) .none kV5 dc5 pm5 an5 cd5 ct5), sl5⟩) (c5 : PySem.W.codeIn K cd5 "_law_filled" = true) (k5 : PySem.W.keepIn K (.ref f5) = true)
    (a6 : PySem.W.nsIn K mainGlobals "_law_alone" = some (some (.ref f6))) (l6 : K.lookup f6 = some ⟨oc6, od6, .func (PySem.W.fnOf "_law_alone" "_law_alone" (defArgs s_l_alone) (defBody s_l_alone) (defScope s_l_alone) .none kV6 dc6 pm6 an6 cd6 ct6), sl6⟩) (c6 : PySem.W.codeIn K cd6 "_law_alone" = true) (k6 : PySem.W.keepIn K (.ref f6) = true)
    (a7 : PySem.W.nsIn K mainGlobals "_law_made" = some (some (.ref f7))) (l7 : K.lookup f7 = some ⟨oc7, od7, .func (PySem.W.fnOf "_law_made" "_law_made" (defArgs s_l_made) (defBody s_l_made) (defScope s_l_made) .none kV7 dc7 pm7 an7 cd7 ct7), sl7⟩) (c7 : PySem.W.codeIn K cd7 "_law_made" = true) (k7 : PySem.W.keepIn K (.ref f7) = true)
    (a8 : PySem.W.nsIn K mainGlobals "law" = some (some (.ref f8))) (l8 : K.lookup f8 = some ⟨oc8, od8, .func (PySem.W.fnOf "law" "law" (defArgs s_law) (defBody s_law) (defScope s_law) .none kV8 dc8 pm8 an8 cd8 ct8), sl8⟩) (c8 : PySem.W.codeIn K cd8 "law" = true) (k8 : PySem.W.keepIn K (.ref f8) = true)
    (n_ValueError : PySem.W.nsIn K mainGlobals "ValueError" = some none)
    (n_abs : PySem.W.nsIn K mainGlobals "abs" = some none)
    (n_enumerate : PySem.W.nsIn K mainGlobals "enumerate" = some none)
    (n_int : PySem.W.nsIn K mainGlobals "int" = some none)
    (n_isinstance : PySem.W.nsIn K mainGlobals "isinstance" = some none)
    (n_len : PySem.W.nsIn K mainGlobals "len" = some none)
    (n_range : PySem.W.nsIn K mainGlobals "range" = some none)
    (n_repr : PySem.W.nsIn K mainGlobals "repr" = some none)
    {tk_BATCH : Tok} (v_BATCH : PySem.W.nsIn K mainGlobals "BATCH" = some (some (.int 20 tk_BATCH)))
    {tk_HISTORY : Tok} (v_HISTORY : PySem.W.nsIn K mainGlobals "HISTORY" = some (some (.int 30 tk_HISTORY)))
    {tk_LISTED : Tok} (v_LISTED : PySem.W.nsIn K mainGlobals "LISTED" = some (some (.int 2000 tk_LISTED)))
    {tk_MAX_SEATS : Tok} (v_MAX_SEATS : PySem.W.nsIn K mainGlobals "MAX_SEATS" = some (some (.int 1000000000000 tk_MAX_SEATS)))
    {tk_MAX_TAKEN : Tok} (v_MAX_TAKEN : PySem.W.nsIn K mainGlobals "MAX_TAKEN" = some (some (.int 40 tk_MAX_TAKEN)))
    {C_BadBatch : Addr} (aa_BadBatch : PySem.W.nsIn K mainGlobals "BadBatch" = some (some (.ref C_BadBatch)))
    {C_BadRow : Addr} (aa_BadRow : PySem.W.nsIn K mainGlobals "BadRow" = some (some (.ref C_BadRow)))
    {C_BadText : Addr} (aa_BadText : PySem.W.nsIn K mainGlobals "BadText" = some (some (.ref C_BadText)))
    {C_Busy : Addr} (aa_Busy : PySem.W.nsIn K mainGlobals "Busy" = some (some (.ref C_Busy)))
    {C_Free : Addr} (aa_Free : PySem.W.nsIn K mainGlobals "Free" = some (some (.ref C_Free)))
    {C_Full : Addr} (aa_Full : PySem.W.nsIn K mainGlobals "Full" = some (some (.ref C_Full)))
    {C_NoCount : Addr} (aa_NoCount : PySem.W.nsIn K mainGlobals "NoCount" = some (some (.ref C_NoCount)))
    {C_NoIndex : Addr} (aa_NoIndex : PySem.W.nsIn K mainGlobals "NoIndex" = some (some (.ref C_NoIndex)))
    {C_NoOrigin : Addr} (aa_NoOrigin : PySem.W.nsIn K mainGlobals "NoOrigin" = some (some (.ref C_NoOrigin)))
    {C_NoSeat : Addr} (aa_NoSeat : PySem.W.nsIn K mainGlobals "NoSeat" = some (some (.ref C_NoSeat)))
    {C_NoStretch : Addr} (aa_NoStretch : PySem.W.nsIn K mainGlobals "NoStretch" = some (some (.ref C_NoStretch)))
    {C_NoVersion : Addr} (aa_NoVersion : PySem.W.nsIn K mainGlobals "NoVersion" = some (some (.ref C_NoVersion)))
    {C_NoWidth : Addr} (aa_NoWidth : PySem.W.nsIn K mainGlobals "NoWidth" = some (some (.ref C_NoWidth)))
    {C_NothingToUndo : Addr} (aa_NothingToUndo : PySem.W.nsIn K mainGlobals "NothingToUndo" = some (some (.ref C_NothingToUndo)))
    {C_OtherSize : Addr} (aa_OtherSize : PySem.W.nsIn K mainGlobals "OtherSize" = some (some (.ref C_OtherSize)))
    {C_Rejected : Addr} (aa_Rejected : PySem.W.nsIn K mainGlobals "Rejected" = some (some (.ref C_Rejected)))
    {C_SeatError : Addr} (aa_SeatError : PySem.W.nsIn K mainGlobals "SeatError" = some (some (.ref C_SeatError)))
    {C_Taken : Addr} (aa_Taken : PySem.W.nsIn K mainGlobals "Taken" = some (some (.ref C_Taken)))
    {C_TooClose : Addr} (aa_TooClose : PySem.W.nsIn K mainGlobals "TooClose" = some (some (.ref C_TooClose)))
    {C_TooLarge : Addr} (aa_TooLarge : PySem.W.nsIn K mainGlobals "TooLarge" = some (some (.ref C_TooLarge)))
    {C_TooMany : Addr} (aa_TooMany : PySem.W.nsIn K mainGlobals "TooMany" = some (some (.ref C_TooMany)))
    {C_TooManyEdits : Addr} (aa_TooManyEdits : PySem.W.nsIn K mainGlobals "TooManyEdits" = some (some (.ref C_TooManyEdits)))
    (xq_BadBatch : PySem.W.excIn K C_BadBatch [.type "ValueError", .type "Exception", .type "BaseException", .type "object"] "ValueError.__new__" = true) (kk_BadBatch : PySem.W.keepIn K (.ref C_BadBatch) = true) (eb_BadBatch : PySem.W.subIn K (.ref C_BadBatch) (.type "BaseException") = some true) (ty_BadBatch : PySem.W.typeIn K (.ref C_BadBatch) = some (.type "type"))
    {fI_BadRow N_BadRow : Addr} {nm_BadRow qn_BadRow ql_BadRow : Str} {bs_BadRow bm_BadRow sb_BadRow : List Value} {sn_BadRow : List Str} {ab_BadRow : Bool} {cl_BadRow : Option Bool} {dd_BadRow od_BadRow an_BadRow : Option Addr} {ma_BadRow mb_BadRow mc_BadRow md_BadRow me_BadRow : Option Value} {oc_BadRow do_BadRow pm_BadRow cd_BadRow ct_BadRow : Value} {os_BadRow : Array (Option Value)} {pa_BadRow pb_BadRow qa_BadRow qb_BadRow qc_BadRow qd_BadRow : Pos}
    (xl_BadRow : K.lookup C_BadRow = some (PySem.excClassObj nm_BadRow qn_BadRow C_BadRow N_BadRow bs_BadRow bm_BadRow true sn_BadRow sb_BadRow ab_BadRow cl_BadRow dd_BadRow ma_BadRow mb_BadRow mc_BadRow md_BadRow me_BadRow "ValueError.__new__")) (rf_BadRow : PySem.HandSPX.refsVE bm_BadRow = true) (sa_BadRow : PySem.W.findIn K (.ref C_BadRow) "__setattr__" = some (some (.builtin "object.__setattr__"))) (nb_BadRow : PySem.W.findIn K (.ref C_BadRow) "error" = some none) (ii_BadRow : PySem.W.findIn K (.ref C_BadRow) "__init__" = some (some (.ref fI_BadRow))) (ti_BadRow : PySem.W.typeIn K (.ref fI_BadRow) = some (.type "function"))
    (li_BadRow : K.lookup fI_BadRow = some ⟨oc_BadRow, od_BadRow, .func (PySem.W.fnOf "__init__" ql_BadRow (iA "error" pa_BadRow pb_BadRow) (iB "error" qa_BadRow qb_BadRow qc_BadRow qd_BadRow) (iS "error") .none .none do_BadRow pm_BadRow an_BadRow cd_BadRow ct_BadRow), os_BadRow⟩) (ci_BadRow : PySem.W.codeIn K cd_BadRow ql_BadRow = true) (kk_BadRow : PySem.W.keepIn K (.ref C_BadRow) = true) (eb_BadRow : PySem.W.subIn K (.ref C_BadRow) (.type "BaseException") = some true) (ty_BadRow : PySem.W.typeIn K (.ref C_BadRow) = some (.type "type"))
    {fI_BadText N_BadText : Addr} {nm_BadText qn_BadText ql_BadText : Str} {bs_BadText bm_BadText sb_BadText : List Value} {sn_BadText : List Str} {ab_BadText : Bool} {cl_BadText : Option Bool} {dd_BadText od_BadText an_BadText : Option Addr} {ma_BadText mb_BadText mc_BadText md_BadText me_BadText : Option Value} {oc_BadText do_BadText pm_BadText cd_BadText ct_BadText : Value} {os_BadText : Array (Option Value)} {pa_BadText pb_BadText qa_BadText qb_BadText qc_BadText qd_BadText : Pos}
    (xl_BadText : K.lookup C_BadText = some (PySem.excClassObj nm_BadText qn_BadText C_BadText N_BadText bs_BadText bm_BadText true sn_BadText sb_BadText ab_BadText cl_BadText dd_BadText ma_BadText mb_BadText mc_BadText md_BadText me_BadText "ValueError.__new__")) (rf_BadText : PySem.HandSPX.refsVE bm_BadText = true) (sa_BadText : PySem.W.findIn K (.ref C_BadText) "__setattr__" = some (some (.builtin "object.__setattr__"))) (nb_BadText : PySem.W.findIn K (.ref C_BadText) "index" = some none) (ii_BadText : PySem.W.findIn K (.ref C_BadText) "__init__" = some (some (.ref fI_BadText))) (ti_BadText : PySem.W.typeIn K (.ref fI_BadText) = some (.type "function"))
    (li_BadText : K.lookup fI_BadText = some ⟨oc_BadText, od_BadText, .func (PySem.W.fnOf "__init__" ql_BadText (iA "index" pa_BadText pb_BadText) (iB "index" qa_BadText qb_BadText qc_BadText qd_BadText) (iS "index") .none .none do_BadText pm_BadText an_BadText cd_BadText ct_BadText), os_BadText⟩) (ci_BadText : PySem.W.codeIn K cd_BadText ql_BadText = true) (kk_BadText : PySem.W.keepIn K (.ref C_BadText) = true) (eb_BadText : PySem.W.subIn K (.ref C_BadText) (.type "BaseException") = some true) (ty_BadText : PySem.W.typeIn K (.ref C_BadText) = some (.type "type"))
    (xq_Busy : PySem.W.excIn K C_Busy [.type "ValueError", .type "Exception", .type "BaseException", .type "object"] "ValueError.__new__" = true) (kk_Busy : PySem.W.keepIn K (.ref C_Busy) = true) (eb_Busy : PySem.W.subIn K (.ref C_Busy) (.type "BaseException") = some true) (ty_Busy : PySem.W.typeIn K (.ref C_Busy) = some (.type "type"))
    {fI_Free N_Free : Addr} {nm_Free qn_Free ql_Free : Str} {bs_Free bm_Free sb_Free : List Value} {sn_Free : List Str} {ab_Free : Bool} {cl_Free : Option Bool} {dd_Free od_Free an_Free : Option Addr} {ma_Free mb_Free mc_Free md_Free me_Free : Option Value} {oc_Free do_Free pm_Free cd_Free ct_Free : Value} {os_Free : Array (Option Value)} {pa_Free pb_Free qa_Free qb_Free qc_Free qd_Free : Pos}
    (xl_Free : K.lookup C_Free = some (PySem.excClassObj nm_Free qn_Free C_Free N_Free bs_Free bm_Free true sn_Free sb_Free ab_Free cl_Free dd_Free ma_Free mb_Free mc_Free md_Free me_Free "ValueError.__new__")) (rf_Free : PySem.HandSPX.refsVE bm_Free = true) (sa_Free : PySem.W.findIn K (.ref C_Free) "__setattr__" = some (some (.builtin "object.__setattr__"))) (nb_Free : PySem.W.findIn K (.ref C_Free) "seat" = some none) (ii_Free : PySem.W.findIn K (.ref C_Free) "__init__" = some (some (.ref fI_Free))) (ti_Free : PySem.W.typeIn K (.ref fI_Free) = some (.type "function"))
    (li_Free : K.lookup fI_Free = some ⟨oc_Free, od_Free, .func (PySem.W.fnOf "__init__" ql_Free (iA "seat" pa_Free pb_Free) (iB "seat" qa_Free qb_Free qc_Free qd_Free) (iS "seat") .none .none do_Free pm_Free an_Free cd_Free ct_Free), os_Free⟩) (ci_Free : PySem.W.codeIn K cd_Free ql_Free = true) (kk_Free : PySem.W.keepIn K (.ref C_Free) = true) (eb_Free : PySem.W.subIn K (.ref C_Free) (.type "BaseException") = some true) (ty_Free : PySem.W.typeIn K (.ref C_Free) = some (.type "type"))
    (xq_Full : PySem.W.excIn K C_Full [.type "ValueError", .type "Exception", .type "BaseException", .type "object"] "ValueError.__new__" = true) (kk_Full : PySem.W.keepIn K (.ref C_Full) = true) (eb_Full : PySem.W.subIn K (.ref C_Full) (.type "BaseException") = some true) (ty_Full : PySem.W.typeIn K (.ref C_Full) = some (.type "type"))
    {fI_NoCount N_NoCount : Addr} {nm_NoCount qn_NoCount ql_NoCount : Str} {bs_NoCount bm_NoCount sb_NoCount : List Value} {sn_NoCount : List Str} {ab_NoCount : Bool} {cl_NoCount : Option Bool} {dd_NoCount od_NoCount an_NoCount : Option Addr} {ma_NoCount mb_NoCount mc_NoCount md_NoCount me_NoCount : Option Value} {oc_NoCount do_NoCount pm_NoCount cd_NoCount ct_NoCount : Value} {os_NoCount : Array (Option Value)} {pa_NoCount pb_NoCount qa_NoCount qb_NoCount qc_NoCount qd_NoCount : Pos}
    (xl_NoCount : K.lookup C_NoCount = some (PySem.excClassObj nm_NoCount qn_NoCount C_NoCount N_NoCount bs_NoCount bm_NoCount true sn_NoCount sb_NoCount ab_NoCount cl_NoCount dd_NoCount ma_NoCount mb_NoCount mc_NoCount md_NoCount me_NoCount "ValueError.__new__")) (rf_NoCount : PySem.HandSPX.refsVE bm_NoCount = true) (sa_NoCount : PySem.W.findIn K (.ref C_NoCount) "__setattr__" = some (some (.builtin "object.__setattr__"))) (nb_NoCount : PySem.W.findIn K (.ref C_NoCount) "value" = some none) (ii_NoCount : PySem.W.findIn K (.ref C_NoCount) "__init__" = some (some (.ref fI_NoCount))) (ti_NoCount : PySem.W.typeIn K (.ref fI_NoCount) = some (.type "function"))
    (li_NoCount : K.lookup fI_NoCount = some ⟨oc_NoCount, od_NoCount, .func (PySem.W.fnOf "__init__" ql_NoCount (iA "value" pa_NoCount pb_NoCount) (iB "value" qa_NoCount qb_NoCount qc_NoCount qd_NoCount) (iS "value") .none .none do_NoCount pm_NoCount an_NoCount cd_NoCount ct_NoCount), os_NoCount⟩) (ci_NoCount : PySem.W.codeIn K cd_NoCount ql_NoCount = true) (kk_NoCount : PySem.W.keepIn K (.ref C_NoCount) = true) (eb_NoCount : PySem.W.subIn K (.ref C_NoCount) (.type "BaseException") = some true) (ty_NoCount : PySem.W.typeIn K (.ref C_NoCount) = some (.type "type"))
    {fI_NoIndex N_NoIndex : Addr} {nm_NoIndex qn_NoIndex ql_NoIndex : Str} {bs_NoIndex bm_NoIndex sb_NoIndex : List Value} {sn_NoIndex : List Str} {ab_NoIndex : Bool} {cl_NoIndex : Option Bool} {dd_NoIndex od_NoIndex an_NoIndex : Option Addr} {ma_NoIndex mb_NoIndex mc_NoIndex md_NoIndex me_NoIndex : Option Value} {oc_NoIndex do_NoIndex pm_NoIndex cd_NoIndex ct_NoIndex : Value} {os_NoIndex : Array (Option Value)} {pa_NoIndex pb_NoIndex qa_NoIndex qb_NoIndex qc_NoIndex qd_NoIndex : Pos}
    (xl_NoIndex : K.lookup C_NoIndex = some (PySem.excClassObj nm_NoIndex qn_NoIndex C_NoIndex N_NoIndex bs_NoIndex bm_NoIndex true sn_NoIndex sb_NoIndex ab_NoIndex cl_NoIndex dd_NoIndex ma_NoIndex mb_NoIndex mc_NoIndex md_NoIndex me_NoIndex "ValueError.__new__")) (rf_NoIndex : PySem.HandSPX.refsVE bm_NoIndex = true) (sa_NoIndex : PySem.W.findIn K (.ref C_NoIndex) "__setattr__" = some (some (.builtin "object.__setattr__"))) (nb_NoIndex : PySem.W.findIn K (.ref C_NoIndex) "index" = some none) (ii_NoIndex : PySem.W.findIn K (.ref C_NoIndex) "__init__" = some (some (.ref fI_NoIndex))) (ti_NoIndex : PySem.W.typeIn K (.ref fI_NoIndex) = some (.type "function"))
    (li_NoIndex : K.lookup fI_NoIndex = some ⟨oc_NoIndex, od_NoIndex, .func (PySem.W.fnOf "__init__" ql_NoIndex (iA "index" pa_NoIndex pb_NoIndex) (iB "index" qa_NoIndex qb_NoIndex qc_NoIndex qd_NoIndex) (iS "index") .none .none do_NoIndex pm_NoIndex an_NoIndex cd_NoIndex ct_NoIndex), os_NoIndex⟩) (ci_NoIndex : PySem.W.codeIn K cd_NoIndex ql_NoIndex = true) (kk_NoIndex : PySem.W.keepIn K (.ref C_NoIndex) = true) (eb_NoIndex : PySem.W.subIn K (.ref C_NoIndex) (.type "BaseException") = some true) (ty_NoIndex : PySem.W.typeIn K (.ref C_NoIndex) = some (.type "type"))
    (xq_NoOrigin : PySem.W.excIn K C_NoOrigin [.type "ValueError", .type "Exception", .type "BaseException", .type "object"] "ValueError.__new__" = true) (kk_NoOrigin : PySem.W.keepIn K (.ref C_NoOrigin) = true) (eb_NoOrigin : PySem.W.subIn K (.ref C_NoOrigin) (.type "BaseException") = some true) (ty_NoOrigin : PySem.W.typeIn K (.ref C_NoOrigin) = some (.type "type"))
    {fI_NoSeat N_NoSeat : Addr} {nm_NoSeat qn_NoSeat ql_NoSeat : Str} {bs_NoSeat bm_NoSeat sb_NoSeat : List Value} {sn_NoSeat : List Str} {ab_NoSeat : Bool} {cl_NoSeat : Option Bool} {dd_NoSeat od_NoSeat an_NoSeat : Option Addr} {ma_NoSeat mb_NoSeat mc_NoSeat md_NoSeat me_NoSeat : Option Value} {oc_NoSeat do_NoSeat pm_NoSeat cd_NoSeat ct_NoSeat : Value} {os_NoSeat : Array (Option Value)} {pa_NoSeat pb_NoSeat qa_NoSeat qb_NoSeat qc_NoSeat qd_NoSeat : Pos}
    (xl_NoSeat : K.lookup C_NoSeat = some (PySem.excClassObj nm_NoSeat qn_NoSeat C_NoSeat N_NoSeat bs_NoSeat bm_NoSeat true sn_NoSeat sb_NoSeat ab_NoSeat cl_NoSeat dd_NoSeat ma_NoSeat mb_NoSeat mc_NoSeat md_NoSeat me_NoSeat "ValueError.__new__")) (rf_NoSeat : PySem.HandSPX.refsVE bm_NoSeat = true) (sa_NoSeat : PySem.W.findIn K (.ref C_NoSeat) "__setattr__" = some (some (.builtin "object.__setattr__"))) (nb_NoSeat : PySem.W.findIn K (.ref C_NoSeat) "value" = some none) (ii_NoSeat : PySem.W.findIn K (.ref C_NoSeat) "__init__" = some (some (.ref fI_NoSeat))) (ti_NoSeat : PySem.W.typeIn K (.ref fI_NoSeat) = some (.type "function"))
    (li_NoSeat : K.lookup fI_NoSeat = some ⟨oc_NoSeat, od_NoSeat, .func (PySem.W.fnOf "__init__" ql_NoSeat (iA "value" pa_NoSeat pb_NoSeat) (iB "value" qa_NoSeat qb_NoSeat qc_NoSeat qd_NoSeat) (iS "value") .none .none do_NoSeat pm_NoSeat an_NoSeat cd_NoSeat ct_NoSeat), os_NoSeat⟩) (ci_NoSeat : PySem.W.codeIn K cd_NoSeat ql_NoSeat = true) (kk_NoSeat : PySem.W.keepIn K (.ref C_NoSeat) = true) (eb_NoSeat : PySem.W.subIn K (.ref C_NoSeat) (.type "BaseException") = some true) (ty_NoSeat : PySem.W.typeIn K (.ref C_NoSeat) = some (.type "type"))
    {fI_NoStretch N_NoStretch : Addr} {nm_NoStretch qn_NoStretch ql_NoStretch : Str} {bs_NoStretch bm_NoStretch sb_NoStretch : List Value} {sn_NoStretch : List Str} {ab_NoStretch : Bool} {cl_NoStretch : Option Bool} {dd_NoStretch od_NoStretch an_NoStretch : Option Addr} {ma_NoStretch mb_NoStretch mc_NoStretch md_NoStretch me_NoStretch : Option Value} {oc_NoStretch do_NoStretch pm_NoStretch cd_NoStretch ct_NoStretch : Value} {os_NoStretch : Array (Option Value)} {pa_NoStretch pb_NoStretch qa_NoStretch qb_NoStretch qc_NoStretch qd_NoStretch : Pos}
    (xl_NoStretch : K.lookup C_NoStretch = some (PySem.excClassObj nm_NoStretch qn_NoStretch C_NoStretch N_NoStretch bs_NoStretch bm_NoStretch true sn_NoStretch sb_NoStretch ab_NoStretch cl_NoStretch dd_NoStretch ma_NoStretch mb_NoStretch mc_NoStretch md_NoStretch me_NoStretch "ValueError.__new__")) (rf_NoStretch : PySem.HandSPX.refsVE bm_NoStretch = true) (sa_NoStretch : PySem.W.findIn K (.ref C_NoStretch) "__setattr__" = some (some (.builtin "object.__setattr__"))) (nb_NoStretch : PySem.W.findIn K (.ref C_NoStretch) "value" = some none) (ii_NoStretch : PySem.W.findIn K (.ref C_NoStretch) "__init__" = some (some (.ref fI_NoStretch))) (ti_NoStretch : PySem.W.typeIn K (.ref fI_NoStretch) = some (.type "function"))
    (li_NoStretch : K.lookup fI_NoStretch = some ⟨oc_NoStretch, od_NoStretch, .func (PySem.W.fnOf "__init__" ql_NoStretch (iA "value" pa_NoStretch pb_NoStretch) (iB "value" qa_NoStretch qb_NoStretch qc_NoStretch qd_NoStretch) (iS "value") .none .none do_NoStretch pm_NoStretch an_NoStretch cd_NoStretch ct_NoStretch), os_NoStretch⟩) (ci_NoStretch : PySem.W.codeIn K cd_NoStretch ql_NoStretch = true) (kk_NoStretch : PySem.W.keepIn K (.ref C_NoStretch) = true) (eb_NoStretch : PySem.W.subIn K (.ref C_NoStretch) (.type "BaseException") = some true) (ty_NoStretch : PySem.W.typeIn K (.ref C_NoStretch) = some (.type "type"))
    {fI_NoVersion N_NoVersion : Addr} {nm_NoVersion qn_NoVersion ql_NoVersion : Str} {bs_NoVersion bm_NoVersion sb_NoVersion : List Value} {sn_NoVersion : List Str} {ab_NoVersion : Bool} {cl_NoVersion : Option Bool} {dd_NoVersion od_NoVersion an_NoVersion : Option Addr} {ma_NoVersion mb_NoVersion mc_NoVersion md_NoVersion me_NoVersion : Option Value} {oc_NoVersion do_NoVersion pm_NoVersion cd_NoVersion ct_NoVersion : Value} {os_NoVersion : Array (Option Value)} {pa_NoVersion pb_NoVersion qa_NoVersion qb_NoVersion qc_NoVersion qd_NoVersion : Pos}
    (xl_NoVersion : K.lookup C_NoVersion = some (PySem.excClassObj nm_NoVersion qn_NoVersion C_NoVersion N_NoVersion bs_NoVersion bm_NoVersion true sn_NoVersion sb_NoVersion ab_NoVersion cl_NoVersion dd_NoVersion ma_NoVersion mb_NoVersion mc_NoVersion md_NoVersion me_NoVersion "ValueError.__new__")) (rf_NoVersion : PySem.HandSPX.refsVE bm_NoVersion = true) (sa_NoVersion : PySem.W.findIn K (.ref C_NoVersion) "__setattr__" = some (some (.builtin "object.__setattr__"))) (nb_NoVersion : PySem.W.findIn K (.ref C_NoVersion) "version" = some none) (ii_NoVersion : PySem.W.findIn K (.ref C_NoVersion) "__init__" = some (some (.ref fI_NoVersion))) (ti_NoVersion : PySem.W.typeIn K (.ref fI_NoVersion) = some (.type "function"))
    (li_NoVersion : K.lookup fI_NoVersion = some ⟨oc_NoVersion, od_NoVersion, .func (PySem.W.fnOf "__init__" ql_NoVersion (iA "version" pa_NoVersion pb_NoVersion) (iB "version" qa_NoVersion qb_NoVersion qc_NoVersion qd_NoVersion) (iS "version") .none .none do_NoVersion pm_NoVersion an_NoVersion cd_NoVersion ct_NoVersion), os_NoVersion⟩) (ci_NoVersion : PySem.W.codeIn K cd_NoVersion ql_NoVersion = true) (kk_NoVersion : PySem.W.keepIn K (.ref C_NoVersion) = true) (eb_NoVersion : PySem.W.subIn K (.ref C_NoVersion) (.type "BaseException") = some true) (ty_NoVersion : PySem.W.typeIn K (.ref C_NoVersion) = some (.type "type"))
    {fI_NoWidth N_NoWidth : Addr} {nm_NoWidth qn_NoWidth ql_NoWidth : Str} {bs_NoWidth bm_NoWidth sb_NoWidth : List Value} {sn_NoWidth : List Str} {ab_NoWidth : Bool} {cl_NoWidth : Option Bool} {dd_NoWidth od_NoWidth an_NoWidth : Option Addr} {ma_NoWidth mb_NoWidth mc_NoWidth md_NoWidth me_NoWidth : Option Value} {oc_NoWidth do_NoWidth pm_NoWidth cd_NoWidth ct_NoWidth : Value} {os_NoWidth : Array (Option Value)} {pa_NoWidth pb_NoWidth qa_NoWidth qb_NoWidth qc_NoWidth qd_NoWidth : Pos}
    (xl_NoWidth : K.lookup C_NoWidth = some (PySem.excClassObj nm_NoWidth qn_NoWidth C_NoWidth N_NoWidth bs_NoWidth bm_NoWidth true sn_NoWidth sb_NoWidth ab_NoWidth cl_NoWidth dd_NoWidth ma_NoWidth mb_NoWidth mc_NoWidth md_NoWidth me_NoWidth "ValueError.__new__")) (rf_NoWidth : PySem.HandSPX.refsVE bm_NoWidth = true) (sa_NoWidth : PySem.W.findIn K (.ref C_NoWidth) "__setattr__" = some (some (.builtin "object.__setattr__"))) (nb_NoWidth : PySem.W.findIn K (.ref C_NoWidth) "value" = some none) (ii_NoWidth : PySem.W.findIn K (.ref C_NoWidth) "__init__" = some (some (.ref fI_NoWidth))) (ti_NoWidth : PySem.W.typeIn K (.ref fI_NoWidth) = some (.type "function"))
    (li_NoWidth : K.lookup fI_NoWidth = some ⟨oc_NoWidth, od_NoWidth, .func (PySem.W.fnOf "__init__" ql_NoWidth (iA "value" pa_NoWidth pb_NoWidth) (iB "value" qa_NoWidth qb_NoWidth qc_NoWidth qd_NoWidth) (iS "value") .none .none do_NoWidth pm_NoWidth an_NoWidth cd_NoWidth ct_NoWidth), os_NoWidth⟩) (ci_NoWidth : PySem.W.codeIn K cd_NoWidth ql_NoWidth = true) (kk_NoWidth : PySem.W.keepIn K (.ref C_NoWidth) = true) (eb_NoWidth : PySem.W.subIn K (.ref C_NoWidth) (.type "BaseException") = some true) (ty_NoWidth : PySem.W.typeIn K (.ref C_NoWidth) = some (.type "type"))
    (xq_NothingToUndo : PySem.W.excIn K C_NothingToUndo [.type "ValueError", .type "Exception", .type "BaseException", .type "object"] "ValueError.__new__" = true) (kk_NothingToUndo : PySem.W.keepIn K (.ref C_NothingToUndo) = true) (eb_NothingToUndo : PySem.W.subIn K (.ref C_NothingToUndo) (.type "BaseException") = some true) (ty_NothingToUndo : PySem.W.typeIn K (.ref C_NothingToUndo) = some (.type "type"))
    {fI_OtherSize N_OtherSize : Addr} {nm_OtherSize qn_OtherSize ql_OtherSize : Str} {bs_OtherSize bm_OtherSize sb_OtherSize : List Value} {sn_OtherSize : List Str} {ab_OtherSize : Bool} {cl_OtherSize : Option Bool} {dd_OtherSize od_OtherSize an_OtherSize : Option Addr} {ma_OtherSize mb_OtherSize mc_OtherSize md_OtherSize me_OtherSize : Option Value} {oc_OtherSize do_OtherSize pm_OtherSize cd_OtherSize ct_OtherSize : Value} {os_OtherSize : Array (Option Value)} {pa_OtherSize pb_OtherSize qa_OtherSize qb_OtherSize qc_OtherSize qd_OtherSize : Pos}
    (xl_OtherSize : K.lookup C_OtherSize = some (PySem.excClassObj nm_OtherSize qn_OtherSize C_OtherSize N_OtherSize bs_OtherSize bm_OtherSize true sn_OtherSize sb_OtherSize ab_OtherSize cl_OtherSize dd_OtherSize ma_OtherSize mb_OtherSize mc_OtherSize md_OtherSize me_OtherSize "ValueError.__new__")) (rf_OtherSize : PySem.HandSPX.refsVE bm_OtherSize = true) (sa_OtherSize : PySem.W.findIn K (.ref C_OtherSize) "__setattr__" = some (some (.builtin "object.__setattr__"))) (nb_OtherSize : PySem.W.findIn K (.ref C_OtherSize) "seats" = some none) (ii_OtherSize : PySem.W.findIn K (.ref C_OtherSize) "__init__" = some (some (.ref fI_OtherSize))) (ti_OtherSize : PySem.W.typeIn K (.ref fI_OtherSize) = some (.type "function"))
    (li_OtherSize : K.lookup fI_OtherSize = some ⟨oc_OtherSize, od_OtherSize, .func (PySem.W.fnOf "__init__" ql_OtherSize (iA "seats" pa_OtherSize pb_OtherSize) (iB "seats" qa_OtherSize qb_OtherSize qc_OtherSize qd_OtherSize) (iS "seats") .none .none do_OtherSize pm_OtherSize an_OtherSize cd_OtherSize ct_OtherSize), os_OtherSize⟩) (ci_OtherSize : PySem.W.codeIn K cd_OtherSize ql_OtherSize = true) (kk_OtherSize : PySem.W.keepIn K (.ref C_OtherSize) = true) (eb_OtherSize : PySem.W.subIn K (.ref C_OtherSize) (.type "BaseException") = some true) (ty_OtherSize : PySem.W.typeIn K (.ref C_OtherSize) = some (.type "type"))
    {fI_Rejected N_Rejected : Addr} {nm_Rejected qn_Rejected ql_Rejected : Str} {bs_Rejected bm_Rejected sb_Rejected : List Value} {sn_Rejected : List Str} {ab_Rejected : Bool} {cl_Rejected : Option Bool} {dd_Rejected od_Rejected an_Rejected : Option Addr} {ma_Rejected mb_Rejected mc_Rejected md_Rejected me_Rejected : Option Value} {oc_Rejected do_Rejected pm_Rejected cd_Rejected ct_Rejected : Value} {os_Rejected : Array (Option Value)} {pa_Rejected pb_Rejected qa_Rejected qb_Rejected qc_Rejected qd_Rejected : Pos}
    (xl_Rejected : K.lookup C_Rejected = some (PySem.excClassObj nm_Rejected qn_Rejected C_Rejected N_Rejected bs_Rejected bm_Rejected true sn_Rejected sb_Rejected ab_Rejected cl_Rejected dd_Rejected ma_Rejected mb_Rejected mc_Rejected md_Rejected me_Rejected "ValueError.__new__")) (rf_Rejected : PySem.HandSPX.refsVE bm_Rejected = true) (sa_Rejected : PySem.W.findIn K (.ref C_Rejected) "__setattr__" = some (some (.builtin "object.__setattr__"))) (nb_Rejected : PySem.W.findIn K (.ref C_Rejected) "index" = some none) (ii_Rejected : PySem.W.findIn K (.ref C_Rejected) "__init__" = some (some (.ref fI_Rejected))) (ti_Rejected : PySem.W.typeIn K (.ref fI_Rejected) = some (.type "function"))
    (li_Rejected : K.lookup fI_Rejected = some ⟨oc_Rejected, od_Rejected, .func (PySem.W.fnOf "__init__" ql_Rejected (iA "index" pa_Rejected pb_Rejected) (iB "index" qa_Rejected qb_Rejected qc_Rejected qd_Rejected) (iS "index") .none .none do_Rejected pm_Rejected an_Rejected cd_Rejected ct_Rejected), os_Rejected⟩) (ci_Rejected : PySem.W.codeIn K cd_Rejected ql_Rejected = true) (kk_Rejected : PySem.W.keepIn K (.ref C_Rejected) = true) (eb_Rejected : PySem.W.subIn K (.ref C_Rejected) (.type "BaseException") = some true) (ty_Rejected : PySem.W.typeIn K (.ref C_Rejected) = some (.type "type"))
    {fI_Taken N_Taken : Addr} {nm_Taken qn_Taken ql_Taken : Str} {bs_Taken bm_Taken sb_Taken : List Value} {sn_Taken : List Str} {ab_Taken : Bool} {cl_Taken : Option Bool} {dd_Taken od_Taken an_Taken : Option Addr} {ma_Taken mb_Taken mc_Taken md_Taken me_Taken : Option Value} {oc_Taken do_Taken pm_Taken cd_Taken ct_Taken : Value} {os_Taken : Array (Option Value)} {pa_Taken pb_Taken qa_Taken qb_Taken qc_Taken qd_Taken : Pos}
    (xl_Taken : K.lookup C_Taken = some (PySem.excClassObj nm_Taken qn_Taken C_Taken N_Taken bs_Taken bm_Taken true sn_Taken sb_Taken ab_Taken cl_Taken dd_Taken ma_Taken mb_Taken mc_Taken md_Taken me_Taken "ValueError.__new__")) (rf_Taken : PySem.HandSPX.refsVE bm_Taken = true) (sa_Taken : PySem.W.findIn K (.ref C_Taken) "__setattr__" = some (some (.builtin "object.__setattr__"))) (nb_Taken : PySem.W.findIn K (.ref C_Taken) "seat" = some none) (ii_Taken : PySem.W.findIn K (.ref C_Taken) "__init__" = some (some (.ref fI_Taken))) (ti_Taken : PySem.W.typeIn K (.ref fI_Taken) = some (.type "function"))
    (li_Taken : K.lookup fI_Taken = some ⟨oc_Taken, od_Taken, .func (PySem.W.fnOf "__init__" ql_Taken (iA "seat" pa_Taken pb_Taken) (iB "seat" qa_Taken qb_Taken qc_Taken qd_Taken) (iS "seat") .none .none do_Taken pm_Taken an_Taken cd_Taken ct_Taken), os_Taken⟩) (ci_Taken : PySem.W.codeIn K cd_Taken ql_Taken = true) (kk_Taken : PySem.W.keepIn K (.ref C_Taken) = true) (eb_Taken : PySem.W.subIn K (.ref C_Taken) (.type "BaseException") = some true) (ty_Taken : PySem.W.typeIn K (.ref C_Taken) = some (.type "type"))
    {fI_TooClose N_TooClose : Addr} {nm_TooClose qn_TooClose ql_TooClose : Str} {bs_TooClose bm_TooClose sb_TooClose : List Value} {sn_TooClose : List Str} {ab_TooClose : Bool} {cl_TooClose : Option Bool} {dd_TooClose od_TooClose an_TooClose : Option Addr} {ma_TooClose mb_TooClose mc_TooClose md_TooClose me_TooClose : Option Value} {oc_TooClose do_TooClose pm_TooClose cd_TooClose ct_TooClose : Value} {os_TooClose : Array (Option Value)} {pa_TooClose pb_TooClose qa_TooClose qb_TooClose qc_TooClose qd_TooClose : Pos}
    (xl_TooClose : K.lookup C_TooClose = some (PySem.excClassObj nm_TooClose qn_TooClose C_TooClose N_TooClose bs_TooClose bm_TooClose true sn_TooClose sb_TooClose ab_TooClose cl_TooClose dd_TooClose ma_TooClose mb_TooClose mc_TooClose md_TooClose me_TooClose "ValueError.__new__")) (rf_TooClose : PySem.HandSPX.refsVE bm_TooClose = true) (sa_TooClose : PySem.W.findIn K (.ref C_TooClose) "__setattr__" = some (some (.builtin "object.__setattr__"))) (nb_TooClose : PySem.W.findIn K (.ref C_TooClose) "seat" = some none) (ii_TooClose : PySem.W.findIn K (.ref C_TooClose) "__init__" = some (some (.ref fI_TooClose))) (ti_TooClose : PySem.W.typeIn K (.ref fI_TooClose) = some (.type "function"))
    (li_TooClose : K.lookup fI_TooClose = some ⟨oc_TooClose, od_TooClose, .func (PySem.W.fnOf "__init__" ql_TooClose (iA "seat" pa_TooClose pb_TooClose) (iB "seat" qa_TooClose qb_TooClose qc_TooClose qd_TooClose) (iS "seat") .none .none do_TooClose pm_TooClose an_TooClose cd_TooClose ct_TooClose), os_TooClose⟩) (ci_TooClose : PySem.W.codeIn K cd_TooClose ql_TooClose = true) (kk_TooClose : PySem.W.keepIn K (.ref C_TooClose) = true) (eb_TooClose : PySem.W.subIn K (.ref C_TooClose) (.type "BaseException") = some true) (ty_TooClose : PySem.W.typeIn K (.ref C_TooClose) = some (.type "type"))
    {fI_TooLarge N_TooLarge : Addr} {nm_TooLarge qn_TooLarge ql_TooLarge : Str} {bs_TooLarge bm_TooLarge sb_TooLarge : List Value} {sn_TooLarge : List Str} {ab_TooLarge : Bool} {cl_TooLarge : Option Bool} {dd_TooLarge od_TooLarge an_TooLarge : Option Addr} {ma_TooLarge mb_TooLarge mc_TooLarge md_TooLarge me_TooLarge : Option Value} {oc_TooLarge do_TooLarge pm_TooLarge cd_TooLarge ct_TooLarge : Value} {os_TooLarge : Array (Option Value)} {pa_TooLarge pb_TooLarge qa_TooLarge qb_TooLarge qc_TooLarge qd_TooLarge : Pos}
    (xl_TooLarge : K.lookup C_TooLarge = some (PySem.excClassObj nm_TooLarge qn_TooLarge C_TooLarge N_TooLarge bs_TooLarge bm_TooLarge true sn_TooLarge sb_TooLarge ab_TooLarge cl_TooLarge dd_TooLarge ma_TooLarge mb_TooLarge mc_TooLarge md_TooLarge me_TooLarge "ValueError.__new__")) (rf_TooLarge : PySem.HandSPX.refsVE bm_TooLarge = true) (sa_TooLarge : PySem.W.findIn K (.ref C_TooLarge) "__setattr__" = some (some (.builtin "object.__setattr__"))) (nb_TooLarge : PySem.W.findIn K (.ref C_TooLarge) "limit" = some none) (ii_TooLarge : PySem.W.findIn K (.ref C_TooLarge) "__init__" = some (some (.ref fI_TooLarge))) (ti_TooLarge : PySem.W.typeIn K (.ref fI_TooLarge) = some (.type "function"))
    (li_TooLarge : K.lookup fI_TooLarge = some ⟨oc_TooLarge, od_TooLarge, .func (PySem.W.fnOf "__init__" ql_TooLarge (iA "limit" pa_TooLarge pb_TooLarge) (iB "limit" qa_TooLarge qb_TooLarge qc_TooLarge qd_TooLarge) (iS "limit") .none .none do_TooLarge pm_TooLarge an_TooLarge cd_TooLarge ct_TooLarge), os_TooLarge⟩) (ci_TooLarge : PySem.W.codeIn K cd_TooLarge ql_TooLarge = true) (kk_TooLarge : PySem.W.keepIn K (.ref C_TooLarge) = true) (eb_TooLarge : PySem.W.subIn K (.ref C_TooLarge) (.type "BaseException") = some true) (ty_TooLarge : PySem.W.typeIn K (.ref C_TooLarge) = some (.type "type"))
    {fI_TooMany N_TooMany : Addr} {nm_TooMany qn_TooMany ql_TooMany : Str} {bs_TooMany bm_TooMany sb_TooMany : List Value} {sn_TooMany : List Str} {ab_TooMany : Bool} {cl_TooMany : Option Bool} {dd_TooMany od_TooMany an_TooMany : Option Addr} {ma_TooMany mb_TooMany mc_TooMany md_TooMany me_TooMany : Option Value} {oc_TooMany do_TooMany pm_TooMany cd_TooMany ct_TooMany : Value} {os_TooMany : Array (Option Value)} {pa_TooMany pb_TooMany qa_TooMany qb_TooMany qc_TooMany qd_TooMany : Pos}
    (xl_TooMany : K.lookup C_TooMany = some (PySem.excClassObj nm_TooMany qn_TooMany C_TooMany N_TooMany bs_TooMany bm_TooMany true sn_TooMany sb_TooMany ab_TooMany cl_TooMany dd_TooMany ma_TooMany mb_TooMany mc_TooMany md_TooMany me_TooMany "ValueError.__new__")) (rf_TooMany : PySem.HandSPX.refsVE bm_TooMany = true) (sa_TooMany : PySem.W.findIn K (.ref C_TooMany) "__setattr__" = some (some (.builtin "object.__setattr__"))) (nb_TooMany : PySem.W.findIn K (.ref C_TooMany) "limit" = some none) (ii_TooMany : PySem.W.findIn K (.ref C_TooMany) "__init__" = some (some (.ref fI_TooMany))) (ti_TooMany : PySem.W.typeIn K (.ref fI_TooMany) = some (.type "function"))
    (li_TooMany : K.lookup fI_TooMany = some ⟨oc_TooMany, od_TooMany, .func (PySem.W.fnOf "__init__" ql_TooMany (iA "limit" pa_TooMany pb_TooMany) (iB "limit" qa_TooMany qb_TooMany qc_TooMany qd_TooMany) (iS "limit") .none .none do_TooMany pm_TooMany an_TooMany cd_TooMany ct_TooMany), os_TooMany⟩) (ci_TooMany : PySem.W.codeIn K cd_TooMany ql_TooMany = true) (kk_TooMany : PySem.W.keepIn K (.ref C_TooMany) = true) (eb_TooMany : PySem.W.subIn K (.ref C_TooMany) (.type "BaseException") = some true) (ty_TooMany : PySem.W.typeIn K (.ref C_TooMany) = some (.type "type"))
    (xq_TooManyEdits : PySem.W.excIn K C_TooManyEdits [.type "ValueError", .type "Exception", .type "BaseException", .type "object"] "ValueError.__new__" = true) (kk_TooManyEdits : PySem.W.keepIn K (.ref C_TooManyEdits) = true) (eb_TooManyEdits : PySem.W.subIn K (.ref C_TooManyEdits) (.type "BaseException") = some true) (ty_TooManyEdits : PySem.W.typeIn K (.ref C_TooManyEdits) = some (.type "type"))
    (hX : exB K = true) :
    ∃ fd : FuncData, (∀ (s : Shared) (v : Value), BindsTo s fd ⟨[v], []⟩ [("_law_script", v)]) ∧ ∀ base : Heap, K.In base → base.Ns mainGlobals mg → FnV l.prog w K mg base 4 fa fd ["_law_script"] (spOf (sp_law K)) := by
  have e := hfa.symm.trans (PySem.W.mg_of X G a8)
  cases e
  have m_ValueError := PySem.W.mg_none_of X G n_ValueError
  have m_abs := PySem.W.mg_none_of X G n_abs
  have m_enumerate := PySem.W.mg_none_of X G n_enumerate
  have m_int := PySem.W.mg_none_of X G n_int
  have m_isinstance := PySem.W.mg_none_of X G n_isinstance
  have m_len := PySem.W.mg_none_of X G n_len
  have m_range := PySem.W.mg_none_of X G n_range
  have m_repr := PySem.W.mg_none_of X G n_repr
  have g_BATCH := PySem.W.mg_of X G v_BATCH
  have g_HISTORY := PySem.W.mg_of X G v_HISTORY
  have g_LISTED := PySem.W.mg_of X G v_LISTED
  have g_MAX_SEATS := PySem.W.mg_of X G v_MAX_SEATS
  have g_MAX_TAKEN := PySem.W.mg_of X G v_MAX_TAKEN
  obtain rfl := cAt_of aa_BadBatch
  have e_BadBatch := PySem.W.mg_of X G aa_BadBatch
  obtain rfl := cAt_of aa_BadRow
  have e_BadRow := PySem.W.mg_of X G aa_BadRow
  obtain rfl := cAt_of aa_BadText
  have e_BadText := PySem.W.mg_of X G aa_BadText
  obtain rfl := cAt_of aa_Busy
  have e_Busy := PySem.W.mg_of X G aa_Busy
  obtain rfl := cAt_of aa_Free
  have e_Free := PySem.W.mg_of X G aa_Free
  obtain rfl := cAt_of aa_Full
  have e_Full := PySem.W.mg_of X G aa_Full
  obtain rfl := cAt_of aa_NoCount
  have e_NoCount := PySem.W.mg_of X G aa_NoCount
  obtain rfl := cAt_of aa_NoIndex
  have e_NoIndex := PySem.W.mg_of X G aa_NoIndex
  obtain rfl := cAt_of aa_NoOrigin
  have e_NoOrigin := PySem.W.mg_of X G aa_NoOrigin
  obtain rfl := cAt_of aa_NoSeat
  have e_NoSeat := PySem.W.mg_of X G aa_NoSeat
  obtain rfl := cAt_of aa_NoStretch
  have e_NoStretch := PySem.W.mg_of X G aa_NoStretch
  obtain rfl := cAt_of aa_NoVersion
  have e_NoVersion := PySem.W.mg_of X G aa_NoVersion
  obtain rfl := cAt_of aa_NoWidth
  have e_NoWidth := PySem.W.mg_of X G aa_NoWidth
  obtain rfl := cAt_of aa_NothingToUndo
  have e_NothingToUndo := PySem.W.mg_of X G aa_NothingToUndo
  obtain rfl := cAt_of aa_OtherSize
  have e_OtherSize := PySem.W.mg_of X G aa_OtherSize
  obtain rfl := cAt_of aa_Rejected
  have e_Rejected := PySem.W.mg_of X G aa_Rejected
  obtain rfl := cAt_of aa_SeatError
  have e_SeatError := PySem.W.mg_of X G aa_SeatError
  obtain rfl := cAt_of aa_Taken
  have e_Taken := PySem.W.mg_of X G aa_Taken
  obtain rfl := cAt_of aa_TooClose
  have e_TooClose := PySem.W.mg_of X G aa_TooClose
  obtain rfl := cAt_of aa_TooLarge
  have e_TooLarge := PySem.W.mg_of X G aa_TooLarge
  obtain rfl := cAt_of aa_TooMany
  have e_TooMany := PySem.W.mg_of X G aa_TooMany
  obtain rfl := cAt_of aa_TooManyEdits
  have e_TooManyEdits := PySem.W.mg_of X G aa_TooManyEdits
  have T_BadBatch : Ex0 K mg "BadBatch" (cAt K "BadBatch") := ⟨xq_BadBatch, e_BadBatch, kk_BadBatch, eb_BadBatch, ty_BadBatch⟩
  have T_BadRow : ExI K mg "BadRow" "error" (cAt K "BadRow") := { gC := e_BadRow, cls := ⟨_, _, _, _, _, _, _, _, _, _, _, _, _, _, _, xl_BadRow, rf_BadRow⟩, sa := sa_BadRow, noN := nb_BadRow, kC := kk_BadRow, exC := eb_BadRow, tyC := ty_BadRow, fI := ⟨_, ii_BadRow, ti_BadRow, _, _, _, _, _, _, _, _, _, _, _, _, _, _, _, li_BadRow, ci_BadRow⟩ }
  have T_BadText : ExI K mg "BadText" "index" (cAt K "BadText") := { gC := e_BadText, cls := ⟨_, _, _, _, _, _, _, _, _, _, _, _, _, _, _, xl_BadText, rf_BadText⟩, sa := sa_BadText, noN := nb_BadText, kC := kk_BadText, exC := eb_BadText, tyC := ty_BadText, fI := ⟨_, ii_BadText, ti_BadText, _, _, _, _, _, _, _, _, _, _, _, _, _, _, _, li_BadText, ci_BadText⟩ }
  have T_Busy : Ex0 K mg "Busy" (cAt K "Busy") := ⟨xq_Busy, e_Busy, kk_Busy, eb_Busy, ty_Busy⟩
  have T_Free : ExI K mg "Free" "seat" (cAt K "Free") := { gC := e_Free, cls := ⟨_, _, _, _, _, _, _, _, _, _, _, _, _, _, _, xl_Free, rf_Free⟩, sa := sa_Free, noN := nb_Free, kC := kk_Free, exC := eb_Free, tyC := ty_Free, fI := ⟨_, ii_Free, ti_Free, _, _, _, _, _, _, _, _, _, _, _, _, _, _, _, li_Free, ci_Free⟩ }
  have T_Full : Ex0 K mg "Full" (cAt K "Full") := ⟨xq_Full, e_Full, kk_Full, eb_Full, ty_Full⟩
  have T_NoCount : ExI K mg "NoCount" "value" (cAt K "NoCount") := { gC := e_NoCount, cls := ⟨_, _, _, _, _, _, _, _, _, _, _, _, _, _, _, xl_NoCount, rf_NoCount⟩, sa := sa_NoCount, noN := nb_NoCount, kC := kk_NoCount, exC := eb_NoCount, tyC := ty_NoCount, fI := ⟨_, ii_NoCount, ti_NoCount, _, _, _, _, _, _, _, _, _, _, _, _, _, _, _, li_NoCount, ci_NoCount⟩ }
  have T_NoIndex : ExI K mg "NoIndex" "index" (cAt K "NoIndex") := { gC := e_NoIndex, cls := ⟨_, _, _, _, _, _, _, _, _, _, _, _, _, _, _, xl_NoIndex, rf_NoIndex⟩, sa := sa_NoIndex, noN := nb_NoIndex, kC := kk_NoIndex, exC := eb_NoIndex, tyC := ty_NoIndex, fI := ⟨_, ii_NoIndex, ti_NoIndex, _, _, _, _, _, _, _, _, _, _, _, _, _, _, _, li_NoIndex, ci_NoIndex⟩ }
  have T_NoOrigin : Ex0 K mg "NoOrigin" (cAt K "NoOrigin") := ⟨xq_NoOrigin, e_NoOrigin, kk_NoOrigin, eb_NoOrigin, ty_NoOrigin⟩
  have T_NoSeat : ExI K mg "NoSeat" "value" (cAt K "NoSeat") := { gC := e_NoSeat, cls := ⟨_, _, _, _, _, _, _, _, _, _, _, _, _, _, _, xl_NoSeat, rf_NoSeat⟩, sa := sa_NoSeat, noN := nb_NoSeat, kC := kk_NoSeat, exC := eb_NoSeat, tyC := ty_NoSeat, fI := ⟨_, ii_NoSeat, ti_NoSeat, _, _, _, _, _, _, _, _, _, _, _, _, _, _, _, li_NoSeat, ci_NoSeat⟩ }
  have T_NoStretch : ExI K mg "NoStretch" "value" (cAt K "NoStretch") := { gC := e_NoStretch, cls := ⟨_, _, _, _, _, _, _, _, _, _, _, _, _, _, _, xl_NoStretch, rf_NoStretch⟩, sa := sa_NoStretch, noN := nb_NoStretch, kC := kk_NoStretch, exC := eb_NoStretch, tyC := ty_NoStretch, fI := ⟨_, ii_NoStretch, ti_NoStretch, _, _, _, _, _, _, _, _, _, _, _, _, _, _, _, li_NoStretch, ci_NoStretch⟩ }
  have T_NoVersion : ExI K mg "NoVersion" "version" (cAt K "NoVersion") := { gC := e_NoVersion, cls := ⟨_, _, _, _, _, _, _, _, _, _, _, _, _, _, _, xl_NoVersion, rf_NoVersion⟩, sa := sa_NoVersion, noN := nb_NoVersion, kC := kk_NoVersion, exC := eb_NoVersion, tyC := ty_NoVersion, fI := ⟨_, ii_NoVersion, ti_NoVersion, _, _, _, _, _, _, _, _, _, _, _, _, _, _, _, li_NoVersion, ci_NoVersion⟩ }
  have T_NoWidth : ExI K mg "NoWidth" "value" (cAt K "NoWidth") := { gC := e_NoWidth, cls := ⟨_, _, _, _, _, _, _, _, _, _, _, _, _, _, _, xl_NoWidth, rf_NoWidth⟩, sa := sa_NoWidth, noN := nb_NoWidth, kC := kk_NoWidth, exC := eb_NoWidth, tyC := ty_NoWidth, fI := ⟨_, ii_NoWidth, ti_NoWidth, _, _, _, _, _, _, _, _, _, _, _, _, _, _, _, li_NoWidth, ci_NoWidth⟩ }
  have T_NothingToUndo : Ex0 K mg "NothingToUndo" (cAt K "NothingToUndo") := ⟨xq_NothingToUndo, e_NothingToUndo, kk_NothingToUndo, eb_NothingToUndo, ty_NothingToUndo⟩
  have T_OtherSize : ExI K mg "OtherSize" "seats" (cAt K "OtherSize") := { gC := e_OtherSize, cls := ⟨_, _, _, _, _, _, _, _, _, _, _, _, _, _, _, xl_OtherSize, rf_OtherSize⟩, sa := sa_OtherSize, noN := nb_OtherSize, kC := kk_OtherSize, exC := eb_OtherSize, tyC := ty_OtherSize, fI := ⟨_, ii_OtherSize, ti_OtherSize, _, _, _, _, _, _, _, _, _, _, _, _, _, _, _, li_OtherSize, ci_OtherSize⟩ }
  have T_Rejected : ExI K mg "Rejected" "index" (cAt K "Rejected") := { gC := e_Rejected, cls := ⟨_, _, _, _, _, _, _, _, _, _, _, _, _, _, _, xl_Rejected, rf_Rejected⟩, sa := sa_Rejected, noN := nb_Rejected, kC := kk_Rejected, exC := eb_Rejected, tyC := ty_Rejected, fI := ⟨_, ii_Rejected, ti_Rejected, _, _, _, _, _, _, _, _, _, _, _, _, _, _, _, li_Rejected, ci_Rejected⟩ }
  have T_Taken : ExI K mg "Taken" "seat" (cAt K "Taken") := { gC := e_Taken, cls := ⟨_, _, _, _, _, _, _, _, _, _, _, _, _, _, _, xl_Taken, rf_Taken⟩, sa := sa_Taken, noN := nb_Taken, kC := kk_Taken, exC := eb_Taken, tyC := ty_Taken, fI := ⟨_, ii_Taken, ti_Taken, _, _, _, _, _, _, _, _, _, _, _, _, _, _, _, li_Taken, ci_Taken⟩ }
  have T_TooClose : ExI K mg "TooClose" "seat" (cAt K "TooClose") := { gC := e_TooClose, cls := ⟨_, _, _, _, _, _, _, _, _, _, _, _, _, _, _, xl_TooClose, rf_TooClose⟩, sa := sa_TooClose, noN := nb_TooClose, kC := kk_TooClose, exC := eb_TooClose, tyC := ty_TooClose, fI := ⟨_, ii_TooClose, ti_TooClose, _, _, _, _, _, _, _, _, _, _, _, _, _, _, _, li_TooClose, ci_TooClose⟩ }
  have T_TooLarge : ExI K mg "TooLarge" "limit" (cAt K "TooLarge") := { gC := e_TooLarge, cls := ⟨_, _, _, _, _, _, _, _, _, _, _, _, _, _, _, xl_TooLarge, rf_TooLarge⟩, sa := sa_TooLarge, noN := nb_TooLarge, kC := kk_TooLarge, exC := eb_TooLarge, tyC := ty_TooLarge, fI := ⟨_, ii_TooLarge, ti_TooLarge, _, _, _, _, _, _, _, _, _, _, _, _, _, _, _, li_TooLarge, ci_TooLarge⟩ }
  have T_TooMany : ExI K mg "TooMany" "limit" (cAt K "TooMany") := { gC := e_TooMany, cls := ⟨_, _, _, _, _, _, _, _, _, _, _, _, _, _, _, xl_TooMany, rf_TooMany⟩, sa := sa_TooMany, noN := nb_TooMany, kC := kk_TooMany, exC := eb_TooMany, tyC := ty_TooMany, fI := ⟨_, ii_TooMany, ti_TooMany, _, _, _, _, _, _, _, _, _, _, _, _, _, _, _, li_TooMany, ci_TooMany⟩ }
  have T_TooManyEdits : Ex0 K mg "TooManyEdits" (cAt K "TooManyEdits") := ⟨xq_TooManyEdits, e_TooManyEdits, kk_TooManyEdits, eb_TooManyEdits, ty_TooManyEdits⟩
  have F0 := fun_mk (st := s_l_opened) l0 c0 k0
  have F1 := fun_mk (st := s_l_ask) l1 c1 k1
  have F2 := fun_mk (st := s_l_pick) l2 c2 k2
  have F3 := fun_mk (st := s_l_odd) l3 c3 k3
  have F4 := fun_mk (st := s_l_plain) l4 c4 k4
  have F5 := fun_mk (st := s_l_filled) l5 c5 k5
  have F6 := fun_mk (st := s_l_alone) l6 c6 k6
  have F7 := fun_mk (st := s_l_made) l7 c7 k7
  have F8 := fun_mk (st := s_law) l8 c8 k8
  have b0 := F0.binds (ps := ["_law_script"]) fun _ _ _ _ _ _ us hl => match us, hl with | [_], _ => rfl
  have b1 := F1.binds (ps := ["_law_pool", "_law_many"]) fun _ _ _ _ _ _ us hl => match us, hl with | [_, _], _ => rfl
  have b2 := F2.binds (ps := ["_law_pool", "_law_items"]) fun _ _ _ _ _ _ us hl => match us, hl with | [_, _], _ => rfl
  have b3 := F3.binds (ps := ["_law_pool"]) fun _ _ _ _ _ _ us hl => match us, hl with | [_], _ => rfl
  have b4 := F4.binds (ps := ["_law_error"]) fun _ _ _ _ _ _ us hl => match us, hl with | [_], _ => rfl
  have b5 := F5.binds (ps := ["_law_error"]) fun _ _ _ _ _ _ us hl => match us, hl with | [_], _ => rfl
  have b6 := F6.binds (ps := ["_law_errors", "_law_others"]) fun _ _ _ _ _ _ us hl => match us, hl with | [_, _], _ => rfl
  have b7 := F7.binds (ps := ["_law_values"]) fun _ _ _ _ _ _ us hl => match us, hl with | [_], _ => rfl
  refine ⟨PySem.W.fnOf "law" "law" (defArgs s_law) (defBody s_law) (defScope s_law) .none kV8 dc8 pm8 an8 cd8 ct8, fun s v => .of_eq rfl, fun base _ _ => ?_⟩
  have c_l_opened : CalG l.prog w K mg base 1 "_law_opened" (sp_l_opened K) := calV_of (ok_l_opened F0 m_abs m_int) (PySem.W.mg_of X G a0) k0 b0
  have c_l_ask : CalG l.prog w K mg base 1 "_law_ask" sp_l_ask := calV_of (ok_l_ask F1 m_len) (PySem.W.mg_of X G a1) k1 b1
  have c_l_plain : CalG l.prog w K mg base 1 "_law_plain" (sp_l_plain K) := calV_of (ok_l_plain F4 m_isinstance m_range e_BadBatch e_Busy e_Full e_NoOrigin e_NothingToUndo e_TooManyEdits hX) (PySem.W.mg_of X G a4) k4 b4
  have c_l_filled : CalG l.prog w K mg base 1 "_law_filled" (sp_l_filled K) := calV_of (ok_l_filled F5 m_isinstance m_range e_BadRow e_BadText e_Free e_NoCount e_NoIndex e_NoSeat e_NoStretch e_NoVersion e_NoWidth e_OtherSize e_Rejected e_Taken e_TooClose e_TooLarge e_TooMany hX) (PySem.W.mg_of X G a5) k5 b5
  have c_l_pick : CalG l.prog w K mg base 2 "_law_pick" sp_l_pick := calV_of (ok_l_pick F2 m_len c_l_ask) (PySem.W.mg_of X G a2) k2 b2
  have c_l_alone : CalG l.prog w K mg base 2 "_law_alone" (sp_l_alone K) := calV_of (ok_l_alone F6 m_ValueError m_enumerate m_isinstance c_l_filled c_l_plain e_SeatError hX) (PySem.W.mg_of X G a6) k6 b6
  have c_l_made : CalG l.prog w K mg base 2 "_law_made" (sp_l_made K) := calV_of (ok_l_made F7 T_BadRow T_BadText T_Free T_NoCount T_NoIndex T_NoSeat T_NoStretch T_NoVersion T_NoWidth T_OtherSize T_Rejected T_Taken T_TooClose T_TooLarge T_TooMany hX) (PySem.W.mg_of X G a7) k7 b7
  have c_l_odd : CalG l.prog w K mg base 3 "_law_odd" sp_l_odd := calV_of (ok_l_odd F3 c_l_pick) (PySem.W.mg_of X G a3) k3 b3
  exact ok_law F8 m_range m_repr c_l_alone c_l_made c_l_odd c_l_opened g_BATCH g_HISTORY g_LISTED g_MAX_SEATS g_MAX_TAKEN T_BadBatch T_Busy T_Full T_NoOrigin T_NothingToUndo T_TooManyEdits hX
theorem walk {l : PySem.W.OpenLaw} {q : Program} {loose : List Str} {XP : (Str → Option Value) → Heap → Prop} {YP : World → Heap → Prop} {d : DefRec} {K : Params → PySem.W.Frag} (hn : l.most = some 63) (hdf : d.params.defaults = [])
    (hY : ∀ (w : World) (h : Heap), YP w h → (K w.params).In h)
    (F : ∀ (w : World) (mg : Str → Option Value) (fa : Addr) (h : Heap), (K w.params).In h → h.Ns mainGlobals mg → mg d.name = some (.ref fa) →
      ∃ fd : FuncData, (∀ (s : Shared) (u : Value), BindsTo s fd ⟨[u], []⟩ [("_law_script", u)]) ∧ ∀ base : Heap, (K w.params).In base → base.Ns mainGlobals mg → FnV l.prog w (K w.params) mg base 4 fa fd ["_law_script"] (spOf (sp_law (K w.params)))) :
    PySem.W.WalkO q loose XP YP l.row.toRowW d [] (fun f vs => PySem.call f vs) :=
  walkVB (n := 63) (k := 4) (x := "_law_script") (sp := fun K => sp_law K) hn (by decide) hdf ⟨rfl, by decide, by decide⟩ hY F fun K ns hl hb => ⟨ns, rfl, by omega, hb, fun _ => rfl⟩
end DL
open PySem PySem.W PyProof.Rows
set_option maxRecDepth 100000 in
set_option maxHeartbeats 0 in
theorem PySem.Challenge.cw_widestgap_k01_limits_and_errors_holds : PySem.Challenge.rw_widestgap_k01_limits_and_errors.Holds := by
  w_on; o_law; k_head; (case hw => w_witness2)
  k_fill
  refine DL.walk (l := PySem.Challenge.rw_widestgap_k01_limits_and_errors) rfl rfl (fun w h Y => PySem.W.kIn_of Y) ?F
  case F =>
    intro w mg fa h KX G hmg
    refine' DL.all_mk KX G hmg ?a0 ?l0 ?c0 ?k0 ?a1 ?l1 ?c1 ?k1 ?a2 ?l2 ?c2 ?k2 ?a3 ?l3 ?c3 ?k3 ?a4 ?l4 ?c4 ?k4 ?a5 ?l5 ?c5 ?k5 ?a6 ?l6 ?c6 ?k6 ?a7 ?l7 ?c7 ?k7 ?a8 ?l8 ?c8 ?k8 ?n_ValueError ?n_abs ?n_enumerate ?n_int ?n_isinstance ?n_len ?n_range ?n_repr ?v_BATCH ?v_HISTORY ?v_LISTED ?v_MAX_SEATS ?v_MAX_TAKEN ?aa_BadBatch ?aa_BadRow ?aa_BadText ?aa_Busy ?aa_Free ?aa_Full ?aa_NoCount ?aa_NoIndex ?aa_NoOrigin ?aa_NoSeat ?aa_NoStretch ?aa_NoVersion ?aa_NoWidth ?aa_NothingToUndo ?aa_OtherSize ?aa_Rejected ?aa_SeatError ?aa_Taken ?aa_TooClose ?aa_TooLarge ?aa_TooMany ?aa_TooManyEdits ?xq_BadBatch ?kk_BadBatch ?eb_BadBatch ?ty_BadBatch ?xl_BadRow ?rf_BadRow ?sa_BadRow ?nb_BadRow ?ii_BadRow ?ti_BadRow ?li_BadRow ?ci_BadRow ?kk_BadRow ?eb_BadRow ?ty_BadRow ?xl_BadText ?rf_BadText ?sa_BadText ?nb_BadText ?ii_BadText ?ti_BadText ?li_BadText ?ci_BadText ?kk_BadText ?eb_BadText ?ty_BadText ?xq_Busy ?kk_Busy ?eb_Busy ?ty_Busy ?xl_Free ?rf_Free ?sa_Free ?nb_Free ?ii_Free ?ti_Free ?li_Free ?ci_Free ?kk_Free ?eb_Free ?ty_Free ?xq_Full ?kk_Full ?eb_Full ?ty_Full ?xl_NoCount ?rf_NoCount ?sa_NoCount ?nb_NoCount ?ii_NoCount ?ti_NoCount ?li_NoCount ?ci_NoCount ?kk_NoCount ?eb_NoCount ?ty_NoCount ?xl_NoIndex ?rf_NoIndex ?sa_NoIndex ?nb_NoIndex ?ii_NoIndex ?ti_NoIndex ?li_NoIndex ?ci_NoIndex ?kk_NoIndex ?eb_NoIndex ?ty_NoIndex ?xq_NoOrigin ?kk_NoOrigin ?eb_NoOrigin ?ty_NoOrigin ?xl_NoSeat ?rf_NoSeat ?sa_NoSeat ?nb_NoSeat ?ii_NoSeat ?ti_NoSeat ?li_NoSeat ?ci_NoSeat ?kk_NoSeat ?eb_NoSeat ?ty_NoSeat ?xl_NoStretch ?rf_NoStretch ?sa_NoStretch ?nb_NoStretch ?ii_NoStretch ?ti_NoStretch ?li_NoStretch ?ci_NoStretch ?kk_NoStretch ?eb_NoStretch ?ty_NoStretch ?xl_NoVersion ?rf_NoVersion ?sa_NoVersion ?nb_NoVersion ?ii_NoVersion ?ti_NoVersion ?li_NoVersion ?ci_NoVersion ?kk_NoVersion ?eb_NoVersion ?ty_NoVersion ?xl_NoWidth ?rf_NoWidth ?sa_NoWidth ?nb_NoWidth ?ii_NoWidth ?ti_NoWidth ?li_NoWidth ?ci_NoWidth ?kk_NoWidth ?eb_NoWidth ?ty_NoWidth ?xq_NothingToUndo ?kk_NothingToUndo ?eb_NothingToUndo ?ty_NothingToUndo ?xl_OtherSize ?rf_OtherSize ?sa_OtherSize ?nb_OtherSize ?ii_OtherSize ?ti_OtherSize ?li_OtherSize ?ci_OtherSize ?kk_OtherSize ?eb_OtherSize ?ty_OtherSize ?xl_Rejected ?rf_Rejected ?sa_Rejected ?nb_Rejected ?ii_Rejected ?ti_Rejected ?li_Rejected ?ci_Rejected ?kk_Rejected ?eb_Rejected ?ty_Rejected ?xl_Taken ?rf_Taken ?sa_Taken ?nb_Taken ?ii_Taken ?ti_Taken ?li_Taken ?ci_Taken ?kk_Taken ?eb_Taken ?ty_Taken ?xl_TooClose ?rf_TooClose ?sa_TooClose ?nb_TooClose ?ii_TooClose ?ti_TooClose ?li_TooClose ?ci_TooClose ?kk_TooClose ?eb_TooClose ?ty_TooClose ?xl_TooLarge ?rf_TooLarge ?sa_TooLarge ?nb_TooLarge ?ii_TooLarge ?ti_TooLarge ?li_TooLarge ?ci_TooLarge ?kk_TooLarge ?eb_TooLarge ?ty_TooLarge ?xl_TooMany ?rf_TooMany ?sa_TooMany ?nb_TooMany ?ii_TooMany ?ti_TooMany ?li_TooMany ?ci_TooMany ?kk_TooMany ?eb_TooMany ?ty_TooMany ?xq_TooManyEdits ?kk_TooManyEdits ?eb_TooManyEdits ?ty_TooManyEdits ?hX
    (case a0 => k_is)
    (case l0 => k_is)
    (case c0 => k_is)
    (case k0 => k_is)
    (case a1 => k_is)
    (case l1 => k_is)
    (case c1 => k_is)
    (case k1 => k_is)
    (case a2 => k_is)
    (case l2 => k_is)
    (case c2 => k_is)
    (case k2 => k_is)
    (case a3 => k_is)
    (case l3 => k_is)
    (case c3 => k_is)
    (case k3 => k_is)
    (case a4 => k_is)
    (case l4 => k_is)
    (case c4 => k_is)
    (case k4 => k_is)
    (case a5 => k_is)
    (case l5 => k_is)
    (case c5 => k_is)
    (case k5 => k_is)
    (case a6 => k_is)
    (case l6 => k_is)
    (case c6 => k_is)
    (case k6 => k_is)
    (case a7 => k_is)
    (case l7 => k_is)
    (case c7 => k_is)
    (case k7 => k_is)
    (case a8 => k_is)
    (case l8 => k_is)
    (case c8 => k_is)
    (case k8 => k_is)
    (case n_ValueError => k_is)
    (case n_abs => k_is)
    (case n_enumerate => k_is)
    (case n_int => k_is)
    (case n_isinstance => k_is)
    (case n_len => k_is)
    (case n_range => k_is)
    (case n_repr => k_is)
    (case v_BATCH => k_is)
    (case v_HISTORY => k_is)
    (case v_LISTED => k_is)
    (case v_MAX_SEATS => k_is)
    (case v_MAX_TAKEN => k_is)
    (case aa_BadBatch => k_is)
    (case aa_BadRow => k_is)
    (case aa_BadText => k_is)
    (case aa_Busy => k_is)
    (case aa_Free => k_is)
    (case aa_Full => k_is)
    (case aa_NoCount => k_is)
    (case aa_NoIndex => k_is)
    (case aa_NoOrigin => k_is)
    (case aa_NoSeat => k_is)
    (case aa_NoStretch => k_is)
    (case aa_NoVersion => k_is)
    (case aa_NoWidth => k_is)
    (case aa_NothingToUndo => k_is)
    (case aa_OtherSize => k_is)
    (case aa_Rejected => k_is)
    (case aa_SeatError => k_is)
    (case aa_Taken => k_is)
    (case aa_TooClose => k_is)
    (case aa_TooLarge => k_is)
    (case aa_TooMany => k_is)
    (case aa_TooManyEdits => k_is)
    (case xq_BadBatch => kernel_rfl)
    (case kk_BadBatch => k_is)
    (case eb_BadBatch => k_is)
    (case ty_BadBatch => k_is)
    (case xl_BadRow => k_is)
    (case rf_BadRow => decide +kernel)
    (case sa_BadRow => k_is)
    (case nb_BadRow => k_is)
    (case ii_BadRow => k_is)
    (case ti_BadRow => k_is)
    (case li_BadRow => k_is)
    (case ci_BadRow => k_is)
    (case kk_BadRow => k_is)
    (case eb_BadRow => k_is)
    (case ty_BadRow => k_is)
    (case xl_BadText => k_is)
    (case rf_BadText => decide +kernel)
    (case sa_BadText => k_is)
    (case nb_BadText => k_is)
    (case ii_BadText => k_is)
    (case ti_BadText => k_is)
    (case li_BadText => k_is)
    (case ci_BadText => k_is)
    (case kk_BadText => k_is)
    (case eb_BadText => k_is)
    (case ty_BadText => k_is)
    (case xq_Busy => kernel_rfl)
    (case kk_Busy => k_is)
    (case eb_Busy => k_is)
    (case ty_Busy => k_is)
    (case xl_Free => k_is)
    (case rf_Free => decide +kernel)
    (case sa_Free => k_is)
    (case nb_Free => k_is)
    (case ii_Free => k_is)
    (case ti_Free => k_is)
    (case li_Free => k_is)
    (case ci_Free => k_is)
    (case kk_Free => k_is)
    (case eb_Free => k_is)
    (case ty_Free => k_is)
    (case xq_Full => kernel_rfl)
    (case kk_Full => k_is)
    (case eb_Full => k_is)
    (case ty_Full => k_is)
    (case xl_NoCount => k_is)
    (case rf_NoCount => decide +kernel)
    (case sa_NoCount => k_is)
    (case nb_NoCount => k_is)
    (case ii_NoCount => k_is)
    (case ti_NoCount => k_is)
    (case li_NoCount => k_is)
    (case ci_NoCount => k_is)
    (case kk_NoCount => k_is)
    (case eb_NoCount => k_is)
    (case ty_NoCount => k_is)
    (case xl_NoIndex => k_is)
    (case rf_NoIndex => decide +kernel)
    (case sa_NoIndex => k_is)
    (case nb_NoIndex => k_is)
    (case ii_NoIndex => k_is)
    (case ti_NoIndex => k_is)
    (case li_NoIndex => k_is)
    (case ci_NoIndex => k_is)
    (case kk_NoIndex => k_is)
    (case eb_NoIndex => k_is)
    (case ty_NoIndex => k_is)
    (case xq_NoOrigin => kernel_rfl)
    (case kk_NoOrigin => k_is)
    (case eb_NoOrigin => k_is)
    (case ty_NoOrigin => k_is)
    (case xl_NoSeat => k_is)
    (case rf_NoSeat => decide +kernel)
    (case sa_NoSeat => k_is)
    (case nb_NoSeat => k_is)
    (case ii_NoSeat => k_is)
    (case ti_NoSeat => k_is)
    (case li_NoSeat => k_is)
    (case ci_NoSeat => k_is)
    (case kk_NoSeat => k_is)
    (case eb_NoSeat => k_is)
    (case ty_NoSeat => k_is)
    (case xl_NoStretch => k_is)
    (case rf_NoStretch => decide +kernel)
    (case sa_NoStretch => k_is)
    (case nb_NoStretch => k_is)
    (case ii_NoStretch => k_is)
    (case ti_NoStretch => k_is)
    (case li_NoStretch => k_is)
    (case ci_NoStretch => k_is)
    (case kk_NoStretch => k_is)
    (case eb_NoStretch => k_is)
    (case ty_NoStretch => k_is)
    (case xl_NoVersion => k_is)
    (case rf_NoVersion => decide +kernel)
    (case sa_NoVersion => k_is)
    (case nb_NoVersion => k_is)
    (case ii_NoVersion => k_is)
    (case ti_NoVersion => k_is)
    (case li_NoVersion => k_is)
    (case ci_NoVersion => k_is)
    (case kk_NoVersion => k_is)
    (case eb_NoVersion => k_is)
    (case ty_NoVersion => k_is)
    (case xl_NoWidth => k_is)
    (case rf_NoWidth => decide +kernel)
    (case sa_NoWidth => k_is)
    (case nb_NoWidth => k_is)
    (case ii_NoWidth => k_is)
    (case ti_NoWidth => k_is)
    (case li_NoWidth => k_is)
    (case ci_NoWidth => k_is)
    (case kk_NoWidth => k_is)
    (case eb_NoWidth => k_is)
    (case ty_NoWidth => k_is)
    (case xq_NothingToUndo => kernel_rfl)
    (case kk_NothingToUndo => k_is)
    (case eb_NothingToUndo => k_is)
    (case ty_NothingToUndo => k_is)
    (case xl_OtherSize => k_is)
    (case rf_OtherSize => decide +kernel)
    (case sa_OtherSize => k_is)
    (case nb_OtherSize => k_is)
    (case ii_OtherSize => k_is)
    (case ti_OtherSize => k_is)
    (case li_OtherSize => k_is)
    (case ci_OtherSize => k_is)
    (case kk_OtherSize => k_is)
    (case eb_OtherSize => k_is)
    (case ty_OtherSize => k_is)
    (case xl_Rejected => k_is)
    (case rf_Rejected => decide +kernel)
    (case sa_Rejected => k_is)
    (case nb_Rejected => k_is)
    (case ii_Rejected => k_is)
    (case ti_Rejected => k_is)
    (case li_Rejected => k_is)
    (case ci_Rejected => k_is)
    (case kk_Rejected => k_is)
    (case eb_Rejected => k_is)
    (case ty_Rejected => k_is)
    (case xl_Taken => k_is)
    (case rf_Taken => decide +kernel)
    (case sa_Taken => k_is)
    (case nb_Taken => k_is)
    (case ii_Taken => k_is)
    (case ti_Taken => k_is)
    (case li_Taken => k_is)
    (case ci_Taken => k_is)
    (case kk_Taken => k_is)
    (case eb_Taken => k_is)
    (case ty_Taken => k_is)
    (case xl_TooClose => k_is)
    (case rf_TooClose => decide +kernel)
    (case sa_TooClose => k_is)
    (case nb_TooClose => k_is)
    (case ii_TooClose => k_is)
    (case ti_TooClose => k_is)
    (case li_TooClose => k_is)
    (case ci_TooClose => k_is)
    (case kk_TooClose => k_is)
    (case eb_TooClose => k_is)
    (case ty_TooClose => k_is)
    (case xl_TooLarge => k_is)
    (case rf_TooLarge => decide +kernel)
    (case sa_TooLarge => k_is)
    (case nb_TooLarge => k_is)
    (case ii_TooLarge => k_is)
    (case ti_TooLarge => k_is)
    (case li_TooLarge => k_is)
    (case ci_TooLarge => k_is)
    (case kk_TooLarge => k_is)
    (case eb_TooLarge => k_is)
    (case ty_TooLarge => k_is)
    (case xl_TooMany => k_is)
    (case rf_TooMany => decide +kernel)
    (case sa_TooMany => k_is)
    (case nb_TooMany => k_is)
    (case ii_TooMany => k_is)
    (case ti_TooMany => k_is)
    (case li_TooMany => k_is)
    (case ci_TooMany => k_is)
    (case kk_TooMany => k_is)
    (case eb_TooMany => k_is)
    (case ty_TooMany => k_is)
    (case xq_TooManyEdits => kernel_rfl)
    (case kk_TooManyEdits => k_is)
    (case eb_TooManyEdits => k_is)
    (case ty_TooManyEdits => k_is)
    (case hX => kernel_rfl)

