import PyProof.Rows.All
import Wide.All
import OpenK.AllK
import Wide.FinOn
import PyProof.ReprRoads
import HandS.ForMost
import HandS.ForExc
import HandS.Conv
import HandS.Evl
import HandS.Flow
import HandS.Style
import HandS.TupAny
import HandS.SortInts
import HandS.Strs
import HandS.IsInst
import HandS.ExcField
import HandS.ExcIs
import HandS.ExcInit
import HandS.Wide
import HandS.SetFor
import HandS.Star
import HandS.Lambda
import HandS.EndTab
import PyProof.NeKinds
import HandS.RaiseMore
import PyProof.ReprLen
import PyProof.Lay0
import HandS.EndBits
import HandS.TryMany
import HandS.TupLe
import KE.KExcIs
import Open.SpecLaws
import KE.OsGo
import HandS.ForSpec
import HandS.Head2
import HandS.Exc
import KE.KSuper
import PyProof.ExcClass
import HandS.HeadHook1
import PySem.Challenge.RW_widestgap_k35_whole_best_distances
import HandS.Zip
import HandS.SortRule
import HandS.DictComp
import HandS.Iter
import HandS.ListItems
import HandS.SortKw
import HandS.DictTup
import HandS.Defaults
import HandS.HotCalls
import HandS.Text
import KE.KRevSl
import KE.KTupSum
import KE.GoesMore
import KE.GoesZip
import KE.GoesEnum
set_option Elab.async false
set_option linter.all false
set_option maxRecDepth 100000
set_option maxHeartbeats 4000000
namespace DL
open PySem PySem.Spec PyProof.Rows L2
abbrev Ex := @Evl.Ex

inductive D where
  | non | bl (b : Bool) | int (i : Int) | str (x : Str) | ty (n : String)
  | tup (xs : List D) | lst (xs : List D) | dic (ks : List (Key × D))
  | ins (C : Addr) (fs : List (Str × D))
  | obj (a : Addr)
  | scr (K : PySem.W.Frag) (ns : List Int)
  | xcp (a : Addr) (C : Addr) (d : Option Addr) (fs : List (Str × D))
  deriving Inhabited

mutual
def Fz (F : Hp) : D → V → Prop
  | .non, v => v = .non
  | .bl b, v => v = .bl b
  | .int i, v => v = .int i
  | .str x, v => v = .str x
  | .ty n, v => v = .ty n
  | .tup ds, v => ∃ a vs, v = .ref a ∧ F a = some (.tup vs) ∧ FzL F ds vs
  | .lst ds, v => ∃ a vs, v = .ref a ∧ F a = some (.lst vs) ∧ FzL F ds vs
  | .dic ks, v => ∃ a od kws, v = .ref a ∧ F a = some (.frz od (.dK kws)) ∧ FzK F ks kws
  | .ins C fs, v => ∃ a dx vs, v = .ref a ∧ F a = some (.ins C dx vs) ∧ FzS F fs vs
  | .obj a, v => v = .ref a
  | .scr K ns, v => ∃ a, v = .ref a ∧ ∀ H', Ex F H' → SqL K H' a (ns.map V.int)
  | .xcp a _ d fs, v => v = .ref a ∧ ((d = none ∧ fs = []) ∨ ∃ dd vs, d = some dd ∧ F dd = some (.xd vs) ∧ FzS F fs vs)
def FzL (F : Hp) : List D → List V → Prop
  | [], vs => vs = []
  | d :: ds, vs => ∃ v r, vs = v :: r ∧ Fz F d v ∧ FzL F ds r
def FzK (F : Hp) : List (Key × D) → List (Key × V) → Prop
  | [], vs => vs = []
  | (k, d) :: ds, vs => ∃ v r, vs = (k, v) :: r ∧ Fz F d v ∧ FzK F ds r
def FzS (F : Hp) : List (Str × D) → List (Str × V) → Prop
  | [], vs => vs = []
  | (k, d) :: ds, vs => ∃ v r, vs = (k, v) :: r ∧ Fz F d v ∧ FzS F ds r
end

mutual
theorem Fz.mono {F F' : Hp} (e : Ex F F') : ∀ {d : D} {v : V}, Fz F d v → Fz F' d v
  | .non, _, h => h
  | .bl _, _, h => h
  | .int _, _, h => h
  | .str _, _, h => h
  | .ty _, _, h => h
  | .obj _, _, h => h
  | .scr K ns, _, h => by
    unfold Fz at h ⊢
    obtain ⟨a, h1, h2⟩ := h
    exact ⟨a, h1, fun H' e' => h2 H' (e.trans e')⟩
  | .xcp a C d fs, _, h => by
    unfold Fz at h ⊢
    obtain ⟨h0, h⟩ := h
    rcases h with h | ⟨dd, vs, h1, h2, h3⟩
    · exact ⟨h0, .inl h⟩
    · exact ⟨h0, .inr ⟨dd, vs, h1, e _ _ h2, FzS.mono e h3⟩⟩
  | .tup ds, _, h => by
    unfold Fz at h ⊢
    obtain ⟨a, vs, h1, h2, h3⟩ := h
    exact ⟨a, vs, h1, e _ _ h2, FzL.mono e h3⟩
  | .lst ds, _, h => by
    unfold Fz at h ⊢
    obtain ⟨a, vs, h1, h2, h3⟩ := h
    exact ⟨a, vs, h1, e _ _ h2, FzL.mono e h3⟩
  | .dic ds, _, h => by
    unfold Fz at h ⊢
    obtain ⟨a, od, vs, h1, h2, h3⟩ := h
    exact ⟨a, od, vs, h1, e _ _ h2, FzK.mono e h3⟩
  | .ins C ds, _, h => by
    unfold Fz at h ⊢
    obtain ⟨a, dx, vs, h1, h2, h3⟩ := h
    exact ⟨a, dx, vs, h1, e _ _ h2, FzS.mono e h3⟩
theorem FzL.mono {F F' : Hp} (e : Ex F F') : ∀ {ds : List D} {vs : List V}, FzL F ds vs → FzL F' ds vs
  | [], _, h => by
    unfold FzL at h ⊢
    exact h
  | d :: ds, _, h => by
    unfold FzL at h ⊢
    obtain ⟨v, r, h1, h2, h3⟩ := h
    exact ⟨v, r, h1, Fz.mono e h2, FzL.mono e h3⟩
theorem FzK.mono {F F' : Hp} (e : Ex F F') : ∀ {ds : List (Key × D)} {vs : List (Key × V)}, FzK F ds vs → FzK F' ds vs
  | [], _, h => by
    unfold FzK at h ⊢
    exact h
  | (k, d) :: ds, _, h => by
    unfold FzK at h ⊢
    obtain ⟨v, r, h1, h2, h3⟩ := h
    exact ⟨v, r, h1, Fz.mono e h2, FzK.mono e h3⟩
theorem FzS.mono {F F' : Hp} (e : Ex F F') : ∀ {ds : List (Str × D)} {vs : List (Str × V)}, FzS F ds vs → FzS F' ds vs
  | [], _, h => by
    unfold FzS at h ⊢
    exact h
  | (k, d) :: ds, _, h => by
    unfold FzS at h ⊢
    obtain ⟨v, r, h1, h2, h3⟩ := h
    exact ⟨v, r, h1, Fz.mono e h2, FzS.mono e h3⟩
end

theorem fzl_nil {F : Hp} : FzL F [] [] := by unfold FzL; rfl
theorem fzl_cons {F : Hp} {d : D} {ds : List D} {v : V} {vs : List V} (h : Fz F d v) (hs : FzL F ds vs) : FzL F (d :: ds) (v :: vs) := by
  unfold FzL
  exact ⟨v, vs, rfl, h, hs⟩
theorem fzl_inv {F : Hp} {d : D} {ds : List D} {vs : List V} (h : FzL F (d :: ds) vs) : ∃ v r, vs = v :: r ∧ Fz F d v ∧ FzL F ds r := by
  unfold FzL at h
  exact h
theorem fzl_inv0 {F : Hp} {vs : List V} (h : FzL F [] vs) : vs = [] := by
  unfold FzL at h
  exact h
theorem FzL.length {F : Hp} : ∀ {ds : List D} {vs : List V}, FzL F ds vs → vs.length = ds.length
  | [], _, h => by
    rw [fzl_inv0 h]
    rfl
  | d :: ds, _, h => by
    obtain ⟨v, r, rfl, _, h3⟩ := fzl_inv h
    simp [FzL.length h3]
theorem FzL.append {F : Hp} {es : List D} {ws : List V} (h2 : FzL F es ws) : ∀ {ds : List D} {vs : List V}, FzL F ds vs → FzL F (ds ++ es) (vs ++ ws)
  | [], _, h => by
    rw [fzl_inv0 h]
    exact h2
  | d :: ds, _, h => by
    obtain ⟨v, r, rfl, h1, h3⟩ := fzl_inv h
    exact fzl_cons h1 (FzL.append h2 h3)
theorem FzL.get {F : Hp} : ∀ {ds : List D} {vs : List V} {i : Nat} {d : D}, FzL F ds vs → ds[i]? = some d → ∃ v, vs[i]? = some v ∧ Fz F d v
  | [], _, i, d, h, e => by simp at e
  | d :: ds, _, 0, d', h, e => by
    obtain ⟨v, r, rfl, h1, h3⟩ := fzl_inv h
    simp at e
    subst e
    exact ⟨v, by simp, h1⟩
  | d :: ds, _, i + 1, d', h, e => by
    obtain ⟨v, r, rfl, h1, h3⟩ := fzl_inv h
    obtain ⟨w, hw1, hw2⟩ := FzL.get (i := i) h3 (by simpa using e)
    exact ⟨w, by simpa using hw1, hw2⟩
theorem FzL.take {F : Hp} : ∀ (n : Nat) {ds : List D} {vs : List V}, FzL F ds vs → FzL F (ds.take n) (vs.take n)
  | 0, _, _, _ => by simpa using fzl_nil
  | n + 1, [], _, h => by
    rw [fzl_inv0 h]
    simpa using fzl_nil
  | n + 1, d :: ds, _, h => by
    obtain ⟨v, r, rfl, h1, h3⟩ := fzl_inv h
    exact fzl_cons h1 (FzL.take n h3)
theorem FzL.drop {F : Hp} : ∀ (n : Nat) {ds : List D} {vs : List V}, FzL F ds vs → FzL F (ds.drop n) (vs.drop n)
  | 0, _, _, h => by simpa using h
  | n + 1, [], _, h => by
    rw [fzl_inv0 h]
    simpa using fzl_nil
  | n + 1, d :: ds, _, h => by
    obtain ⟨v, r, rfl, h1, h3⟩ := fzl_inv h
    simpa using FzL.drop n h3
theorem FzL.ints {F : Hp} : ∀ {ns : List Int} {vs : List V}, FzL F (ns.map D.int) vs → vs = ns.map V.int
  | [], _, h => fzl_inv0 h
  | n :: ns, _, h => by
    obtain ⟨v, r, rfl, h1, h3⟩ := fzl_inv h
    have e : v = V.int n := by unfold Fz at h1; exact h1
    rw [e, FzL.ints h3]
    rfl
theorem fzl_ints {F : Hp} : ∀ ns : List Int, FzL F (ns.map D.int) (ns.map V.int)
  | [] => fzl_nil
  | n :: ns => fzl_cons (by unfold Fz; rfl) (fzl_ints ns)

def FzT (F : Hp) : List (List Key × D) → List (List Key × V) → Prop
  | [], vs => vs = []
  | (k, d) :: ds, vs => ∃ v r, vs = (k, v) :: r ∧ Fz F d v ∧ FzT F ds r
theorem FzT.mono {F F' : Hp} (e : Ex F F') : ∀ {ds : List (List Key × D)} {vs : List (List Key × V)}, FzT F ds vs → FzT F' ds vs
  | [], _, h => by
    unfold FzT at h ⊢
    exact h
  | (k, d) :: ds, _, h => by
    unfold FzT at h ⊢
    obtain ⟨v, r, h1, h2, h3⟩ := h
    exact ⟨v, r, h1, Fz.mono e h2, FzT.mono e h3⟩

inductive MO where
  | lst (ds : List D) | dK (ks : List (Key × D)) | ins (C : Addr) (fs : List (Str × D)) | tab (q : Str) | dT (ks : List (List Key × D))
abbrev Mu := Addr → Option MO
def MOk (F H : Hp) (a : Addr) : MO → Prop
  | .lst ds => ∃ vs, H a = some (.lst vs) ∧ FzL F ds vs
  | .dK ks => ∃ kws, H a = some (.dK kws) ∧ FzK F ks kws
  | .ins C fs => ∃ dx vs, H a = some (.ins C dx vs) ∧ FzS F fs vs
  | .tab q => ∃ ps, H a = some (.tbl ps) ∧ TriplesOk ps.toList ∧ ∀ (pos : Pos) (cv : Value), codeAmong pos ps.toList = some cv → ∃ c, cv = .ref c ∧ F c = some (LamX.CodeO c q)
  | .dT ks => ∃ kws, H a = some (.dT kws) ∧ FzT F ks kws
theorem MOk.there {F H : Hp} {a : Addr} {o : MO} (h : MOk F H a o) : ∃ u, H a = some u := by
  cases o with
  | lst ds => obtain ⟨vs, h, _⟩ := h; exact ⟨_, h⟩
  | dK ds => obtain ⟨vs, h, _⟩ := h; exact ⟨_, h⟩
  | ins C ds => obtain ⟨dx, vs, h, _⟩ := h; exact ⟨_, h⟩
  | tab q => obtain ⟨ps, h, _⟩ := h; exact ⟨_, h⟩
  | dT ks => obtain ⟨vs, h, _⟩ := h; exact ⟨_, h⟩
theorem MOk.mono {F F' H H' : Hp} {a : Addr} {o : MO} (h : MOk F H a o) (e : Ex F F') (he : ∀ u, H a = some u → H' a = some u) : MOk F' H' a o := by
  cases o with
  | lst ds => obtain ⟨vs, h, q⟩ := h; exact ⟨_, he _ h, q.mono e⟩
  | dK ds => obtain ⟨vs, h, q⟩ := h; exact ⟨_, he _ h, q.mono e⟩
  | dT ds => obtain ⟨vs, h, q⟩ := h; exact ⟨_, he _ h, q.mono e⟩
  | ins C ds => obtain ⟨dx, vs, h, q⟩ := h; exact ⟨_, _, he _ h, q.mono e⟩
  | tab q =>
    obtain ⟨ps, h, t, k⟩ := h
    exact ⟨ps, he _ h, t, fun pos cv hc => by
      obtain ⟨c, e1, e2⟩ := k pos cv hc
      exact ⟨c, e1, e _ _ e2⟩⟩

theorem MOk.notup {F H : Hp} {a : Addr} {o : MO} (h : MOk F H a o) {vs : List V} (e : H a = some (.tup vs)) : False := by
  cases o with
  | lst ds => obtain ⟨us, h, _⟩ := h; rw [e] at h; cases h
  | dK ds => obtain ⟨us, h, _⟩ := h; rw [e] at h; cases h
  | ins C ds => obtain ⟨dx, us, h, _⟩ := h; rw [e] at h; cases h
  | tab q => obtain ⟨ps, h, _⟩ := h; rw [e] at h; cases h
  | dT ds => obtain ⟨us, h, _⟩ := h; rw [e] at h; cases h
structure Wd (F : Hp) (μ : Mu) (H : Hp) : Prop where
  ext : Ex F H
  mu : ∀ a o, μ a = some o → MOk F H a o ∧ F a = none
  tup : ∀ a vs, H a = some (.tup vs) → F a = some (.tup vs)
structure Grow (F : Hp) (μ : Mu) (H : Hp) (F' : Hp) (μ' : Mu) (H' : Hp) : Prop where
  fz : Ex F F'
  keep : ∀ b o, H b = some o → μ b = none → H' b = some o ∧ μ' b = none ∧ (F b = none → F' b = none)
theorem Grow.refl {F : Hp} {μ : Mu} {H : Hp} : Grow F μ H F μ H := ⟨Evl.Ex.refl _, fun b o h1 h2 => ⟨h1, h2, fun h => h⟩⟩
theorem Grow.trans {F F1 F2 : Hp} {μ μ1 μ2 : Mu} {H H1 H2 : Hp} (a : Grow F μ H F1 μ1 H1) (b : Grow F1 μ1 H1 F2 μ2 H2) : Grow F μ H F2 μ2 H2 :=
  ⟨a.fz.trans b.fz, fun x o h1 h2 => by
    obtain ⟨k1, k2, k3⟩ := a.keep x o h1 h2
    obtain ⟨j1, j2, j3⟩ := b.keep x o k1 k2
    exact ⟨j1, j2, fun h => j3 (k3 h)⟩⟩
theorem Wd.free {F : Hp} {μ : Mu} {H : Hp} (W : Wd F μ H) {p : Addr} (h : H p = none) : F p = none ∧ μ p = none := by
  refine ⟨Evl.fresh_back W.ext h, ?_⟩
  cases q : μ p with
  | none => rfl
  | some o =>
    obtain ⟨u, hu⟩ := (W.mu p o q).1.there
    rw [hu] at h
    cases h
theorem Wd.new {F : Hp} {μ : Mu} {H : Hp} (W : Wd F μ H) {p : Addr} {o : HO} (h : H p = none) : Wd (upd F p o) μ (upd H p o) ∧ Grow F μ H (upd F p o) μ (upd H p o) := by
  obtain ⟨hF, hm⟩ := W.free h
  have e1 : Ex F (upd F p o) := Evl.Ex.new hF
  refine ⟨⟨fun a u e => ?_, fun a u e => ?_, fun a vs e => ?_⟩, e1, fun b u e1 e2 => ⟨?_, e2, fun e3 => ?_⟩⟩
  · by_cases hb : a = p
    · subst hb
      rw [upd_same] at e ⊢
      exact e
    · rw [upd_ne hb] at e ⊢
      exact W.ext a u e
  · obtain ⟨q1, q2⟩ := W.mu a u e
    have hb : a ≠ p := by
      rintro rfl
      rw [hm] at e
      cases e
    exact ⟨q1.mono e1 fun v hv => by rw [upd_ne hb]; exact hv, by rw [upd_ne hb]; exact q2⟩
  · by_cases hb : a = p
    · subst hb
      rw [upd_same] at e ⊢
      exact e
    · rw [upd_ne hb] at e ⊢
      exact W.tup a vs e
  · rw [upd_ne (ne_of_none e1 h)]
    exact e1
  · rw [upd_ne (ne_of_none e1 h)]
    exact e3

structure Anchor where
  F : Hp
  μ : Mu
  H : Hp
inductive Slot where
  | no | dat (d : D) | ml (ds : List D) | md (ks : List (Key × D)) | fn (f c : Addr) (q : Str) (B : Anchor)
  deriving Inhabited
def Own (B : Anchor) (F : Hp) (μ : Mu) (a : Addr) : Prop := F a = none ∧ μ a = none ∧ ∀ o, B.H a = some o → B.μ a = none → False
def Slot.own : Slot → Bool
  | .ml _ => true
  | .md _ => true
  | _ => false
def SlotOk (B : Anchor) (F : Hp) (H : Hp) (μ : Mu) (v : Option V) : Slot → Prop
  | .no => True
  | .dat d => ∃ x, v = some x ∧ Fz F d x
  | .ml ds => ∃ a vs, v = some (.ref a) ∧ H a = some (.lst vs) ∧ FzL F ds vs ∧ Own B F μ a
  | .md ks => ∃ a kws, v = some (.ref a) ∧ H a = some (.dK kws) ∧ FzK F ks kws ∧ Own B F μ a
  | .fn f c q B0 => v = some (.ref f) ∧ B = B0 ∧ F c = some (LamX.CodeO c q)
structure Sti (B : Anchor) (F : Hp) (σ : L2.St) (H : Hp) (ρ : List Slot) (μ : Mu) : Prop where
  wd : Wd F μ H
  grow : Grow B.F B.μ B.H F μ H
  len : ρ.length = σ.length
  slot : ∀ (i : Nat) (s : Slot) (v : Option V), ρ[i]? = some s → σ[i]? = some v → SlotOk B F H μ v s
  dist : ∀ (i j : Nat) (s t : Slot) (a : Addr), i ≠ j → ρ[i]? = some s → ρ[j]? = some t → s.own = true → t.own = true → σ[i]? = some (some (.ref a)) → σ[j]? = some (some (.ref a)) → False

theorem Sti.get {B : Anchor} {F : Hp} {σ : L2.St} {H : Hp} {ρ : List Slot} {μ : Mu} (S : Sti B F σ H ρ μ) {i : Nat} {s : Slot} (h : ρ[i]? = some s) : ∃ v, σ[i]? = some v ∧ SlotOk B F H μ v s := by
  have hi : i < σ.length := by
    have := (List.getElem?_eq_some_iff.mp h).1
    have := S.len
    omega
  exact ⟨σ[i], List.getElem?_eq_getElem hi, S.slot i s _ h (List.getElem?_eq_getElem hi)⟩
theorem Sti.go {B : Anchor} {F F' : Hp} {σ : L2.St} {H H' : Hp} {ρ : List Slot} {μ μ' : Mu} (S : Sti B F σ H ρ μ) (g : Grow F μ H F' μ' H') (W : Wd F' μ' H') : Sti B F' σ H' ρ μ' := by
  refine ⟨W, S.grow.trans g, S.len, fun i s v h1 h2 => ?_, S.dist⟩
  have q := S.slot i s v h1 h2
  cases s with
  | no => exact True.intro
  | fn _ _ _ _ => exact ⟨q.1, q.2.1, g.fz _ _ q.2.2⟩
  | dat d =>
    obtain ⟨x, hx, q⟩ := q
    exact ⟨x, hx, q.mono g.fz⟩
  | ml ds =>
    obtain ⟨a, vs, hv, ha, q, o1, o2, o3⟩ := q
    obtain ⟨k1, k2, k3⟩ := g.keep a _ ha o2
    exact ⟨a, vs, hv, k1, q.mono g.fz, k3 o1, k2, o3⟩
  | md ks =>
    obtain ⟨a, vs, hv, ha, q, o1, o2, o3⟩ := q
    obtain ⟨k1, k2, k3⟩ := g.keep a _ ha o2
    exact ⟨a, vs, hv, k1, q.mono g.fz, k3 o1, k2, o3⟩
theorem Sti.set {B : Anchor} {F : Hp} {σ : L2.St} {H : Hp} {ρ : List Slot} {μ : Mu} (S : Sti B F σ H ρ μ) {i : Nat} {d : D} {v : V} (h : Fz F d v) : Sti B F (σ.set i (some v)) H (ρ.set i (.dat d)) μ := by
  refine ⟨S.wd, S.grow, by rw [List.length_set, List.length_set]; exact S.len, fun j s w h1 h2 => ?_, fun j k s t a hjk h1 h2 o1 o2 e1 e2 => ?_⟩
  · by_cases hj : i = j
    · subst hj
      rw [List.getElem?_set] at h1 h2
      simp only [if_true] at h1 h2
      split at h1
      · cases h1
        split at h2
        · cases h2
          exact ⟨v, rfl, h⟩
        · cases h2
      · cases h1
    · rw [List.getElem?_set_ne hj] at h1 h2
      exact S.slot j s w h1 h2
  · have nj : ∀ (j : Nat) (s : Slot), (ρ.set i (.dat d))[j]? = some s → s.own = true → i ≠ j ∧ ρ[j]? = some s := fun j s h o => by
      by_cases hj : i = j
      · subst hj
        rw [List.getElem?_set] at h
        simp only [if_true] at h
        split at h
        · cases h
          cases o
        · cases h
      · rw [List.getElem?_set_ne hj] at h
        exact ⟨hj, h⟩
    obtain ⟨n1, h1⟩ := nj j s h1 o1
    obtain ⟨n2, h2⟩ := nj k t h2 o2
    rw [List.getElem?_set_ne n1] at e1
    rw [List.getElem?_set_ne n2] at e2
    exact S.dist j k s t a hjk h1 h2 o1 o2 e1 e2

def Bz (F : Hp) (μ : Mu) (H : Hp) : D → V → Prop
  | .lst ds, v => ∃ a vs, v = .ref a ∧ H a = some (.lst vs) ∧ μ a = none ∧ FzL F ds vs
  | .dic ks, v => ∃ a kws, v = .ref a ∧ Rd H a (.dK kws) ∧ μ a = none ∧ FzK F ks kws
  | d, v => Fz F d v
theorem Wd.no_mu {F : Hp} {μ : Mu} {H : Hp} (W : Wd F μ H) {a : Addr} {o : HO} (h : F a = some o) : μ a = none := by
  cases q : μ a with
  | none => rfl
  | some u =>
    rw [(W.mu a u q).2] at h
    cases h
theorem Fz.bz {F : Hp} {μ : Mu} {H : Hp} (W : Wd F μ H) {d : D} {v : V} (h : Fz F d v) : Bz F μ H d v := by
  cases d with
  | lst ds =>
    unfold Fz at h
    obtain ⟨a, vs, h1, h2, h3⟩ := h
    exact ⟨a, vs, h1, W.ext _ _ h2, W.no_mu h2, h3⟩
  | dic ds =>
    unfold Fz at h
    obtain ⟨a, od, vs, h1, h2, h3⟩ := h
    exact ⟨a, vs, h1, .inr ⟨od, W.ext _ _ h2⟩, W.no_mu h2, h3⟩
  | non => exact h
  | bl _ => exact h
  | int _ => exact h
  | str _ => exact h
  | ty _ => exact h
  | tup _ => exact h
  | ins _ _ => exact h
  | obj _ => exact h
  | scr _ _ => exact h
  | xcp _ _ _ _ => exact h
theorem Bz.go {F F' : Hp} {μ μ' : Mu} {H H' : Hp} (g : Grow F μ H F' μ' H') {d : D} {v : V} (h : Bz F μ H d v) : Bz F' μ' H' d v := by
  cases d with
  | lst ds =>
    obtain ⟨a, vs, h1, h2, h3, h4⟩ := h
    obtain ⟨k1, k2, _⟩ := g.keep a _ h2 h3
    exact ⟨a, vs, h1, k1, k2, h4.mono g.fz⟩
  | dic ds =>
    obtain ⟨a, vs, h1, h2, h3, h4⟩ := h
    rcases h2 with h2 | ⟨od, h2⟩
    · obtain ⟨k1, k2, _⟩ := g.keep a _ h2 h3
      exact ⟨a, vs, h1, .inl k1, k2, h4.mono g.fz⟩
    · obtain ⟨k1, k2, _⟩ := g.keep a _ h2 h3
      exact ⟨a, vs, h1, .inr ⟨od, k1⟩, k2, h4.mono g.fz⟩
  | non => exact Fz.mono g.fz h
  | bl _ => exact Fz.mono g.fz h
  | int _ => exact Fz.mono g.fz h
  | str _ => exact Fz.mono g.fz h
  | ty _ => exact Fz.mono g.fz h
  | tup _ => exact Fz.mono g.fz h
  | ins _ _ => exact Fz.mono g.fz h
  | obj _ => exact Fz.mono g.fz h
  | scr _ _ => exact Fz.mono g.fz h
  | xcp _ _ _ _ => exact Fz.mono g.fz h

structure DX where
  cls : Addr
  fs : List (Str × D)
def XIs (F : Hp) (μ : Mu) (H : Hp) (cls : Value) (dd : Option Addr) (x : DX) : Prop :=
  cls = .ref x.cls ∧ ((dd = none ∧ x.fs = []) ∨ ∃ d vs, dd = some d ∧ F d = some (.xd vs) ∧ FzS F x.fs vs)

abbrev DQ := D → Mu → Prop
abbrev DXQ := DX → Mu → Prop
abbrev DE := List Slot → Mu → DQ → DXQ → Prop
abbrev DT := List Slot → Mu → (Bool → Mu → Prop) → DXQ → Prop
abbrev DA := List Slot → Mu → (List D → Mu → Prop) → DXQ → Prop
def GoX (W : WX) (B : Anchor) (F : Hp) (σ : L2.St) (H : Hp) (ρ : List Slot) (μ : Mu) (Xd : DXQ) : Prop :=
  ∀ cls dd F' H' x μ', Grow F μ H F' μ' H' → Sti B F' σ H' ρ μ' → XIs F' μ' H' cls dd x → Xd x μ' → W cls dd σ H'
theorem GoX.go {W : WX} {B : Anchor} {F F' : Hp} {σ : L2.St} {H H' : Hp} {ρ : List Slot} {μ μ' : Mu} {Xd : DXQ} (h : GoX W B F σ H ρ μ Xd) (g : Grow F μ H F' μ' H') : GoX W B F' σ H' ρ μ' Xd :=
  fun cls dd F2 H2 x μ2 g2 => h cls dd F2 H2 x μ2 (g.trans g2)
def Sim (W : WX) (te : TE) (t : DE) : Prop := ∀ {B : Anchor} {F : Hp} {σ : L2.St} {H : Hp} {ρ : List Slot} {μ : Mu} {Qd : DQ} {Xd : DXQ} {Q : VK}, Sti B F σ H ρ μ → t ρ μ Qd Xd → GoX W B F σ H ρ μ Xd →
  (∀ v F' H' d μ', Grow F μ H F' μ' H' → Sti B F' σ H' ρ μ' → Fz F' d v → Qd d μ' → Q v H') → te σ H Q
def SimB (W : WX) (te : TE) (t : DE) : Prop := ∀ {B : Anchor} {F : Hp} {σ : L2.St} {H : Hp} {ρ : List Slot} {μ : Mu} {Qd : DQ} {Xd : DXQ} {Q : VK}, Sti B F σ H ρ μ → t ρ μ Qd Xd → GoX W B F σ H ρ μ Xd →
  (∀ v F' H' d μ', Grow F μ H F' μ' H' → Sti B F' σ H' ρ μ' → Bz F' μ' H' d v → Qd d μ' → Q v H') → te σ H Q
def SimT (W : WX) (tt : TT) (t : DT) : Prop := ∀ {B : Anchor} {F : Hp} {σ : L2.St} {H : Hp} {ρ : List Slot} {μ : Mu} {Qd : Bool → Mu → Prop} {Xd : DXQ} {Q : Bool → Hp → Prop}, Sti B F σ H ρ μ → t ρ μ Qd Xd → GoX W B F σ H ρ μ Xd →
  (∀ b F' H' μ', Grow F μ H F' μ' H' → Sti B F' σ H' ρ μ' → Qd b μ' → Q b H') → tt σ H Q
def SimA (W : WX) (ta : TA) (t : DA) : Prop := ∀ {B : Anchor} {F : Hp} {σ : L2.St} {H : Hp} {ρ : List Slot} {μ : Mu} {Qd : List D → Mu → Prop} {Xd : DXQ} {Q : List V → Hp → Prop}, Sti B F σ H ρ μ → t ρ μ Qd Xd → GoX W B F σ H ρ μ Xd →
  (∀ vs F' H' ds μ', Grow F μ H F' μ' H' → Sti B F' σ H' ρ μ' → FzL F' ds vs → Qd ds μ' → Q vs H') → ta σ H Q
structure PD (X : Cx) (W : WX) (e : Expr) (t : DE) : Prop where
  ex : ∃ te, PE X e te ∧ Sim W te t
structure PB (X : Cx) (W : WX) (e : Expr) (t : DE) : Prop where
  ex : ∃ te, PE X e te ∧ SimB W te t
structure PTD (X : Cx) (W : WX) (e : Expr) (t : DT) : Prop where
  ex : ∃ tt, PT X e tt ∧ SimT W tt t
structure PWD (X : Cx) (W : WX) (e : Expr) (t : DT) : Prop where
  ex : ∃ tt, PW X e tt ∧ SimT W tt t
structure PAD (X : Cx) (W : WX) (es : List Expr) (t : DA) : Prop where
  ex : ∃ ta, PA X es ta ∧ SimA W ta t
theorem PD.b {X : Cx} {W : WX} {e : Expr} {t : DE} (h : PD X W e t) : PB X W e t := by
  obtain ⟨te, h1, h2⟩ := h.ex
  exact ⟨te, h1, fun S q gx k => h2 S q gx fun v F' H' d μ' g S' z => k v F' H' d μ' g S' (z.bz S'.wd)⟩

section
variable {X : Cx} {W : WX} {pos : Pos}
def dVar (i : Nat) : DE := fun ρ μ Q _ => match ρ[i]? with
  | some (.dat d) => Q d μ
  | _ => False
def dBor (i : Nat) : DE := fun ρ μ Q _ => match ρ[i]? with
  | some (.dat d) => Q d μ
  | some (.ml ds) => Q (.lst ds) μ
  | some (.md ks) => Q (.dic ks) μ
  | _ => False
def dC (d : D) : DE := fun _ μ Q _ => Q d μ
theorem sim_var {i : Nat} : Sim W (tVar i) (dVar i) := fun {B F σ H ρ μ Qd Xd Q} S q gx k => by
  unfold dVar at q
  split at q
  · rename_i d h
    obtain ⟨v, hv, x, hx, z⟩ := S.get h
    subst hx
    exact ⟨x, hv, k x F H d μ .refl S z q⟩
  · exact q.elim
theorem sim_bor {i : Nat} : SimB W (tVar i) (dBor i) := fun {B F σ H ρ μ Qd Xd Q} S q gx k => by
  unfold dBor at q
  split at q
  · rename_i d h
    obtain ⟨v, hv, x, hx, z⟩ := S.get h
    subst hx
    exact ⟨x, hv, k x F H d μ .refl S (z.bz S.wd) q⟩
  · rename_i ds h
    obtain ⟨v, hv, a, vs, hx, ha, z, o1, o2, o3⟩ := S.get h
    subst hx
    exact ⟨_, hv, k _ F H (.lst ds) μ .refl S ⟨a, vs, rfl, ha, o2, z⟩ q⟩
  · rename_i ds h
    obtain ⟨v, hv, a, vs, hx, ha, z, o1, o2, o3⟩ := S.get h
    subst hx
    exact ⟨_, hv, k _ F H (.dic ds) μ .refl S ⟨a, vs, rfl, .inl ha, o2, z⟩ q⟩
  · exact q.elim
theorem d_var (i : Nat) {x : Str} (hN : X.N[i]? = some x := by rfl) (hv : Vis X.env.scope x := by first | exact Or.inl rfl | exact Or.inr (Or.inl rfl) | exact Or.inr (Or.inr rfl)) (hd : (x == ("__debug__" : Str)) = false := by decide)
    (hcd : (x == ("__classdict__" : Str)) = false := by decide) : PD X W (.Name x pos) (dVar i) := ⟨_, pe_var hN hv hd hcd, sim_var⟩
theorem d_bor (i : Nat) {x : Str} (hN : X.N[i]? = some x := by rfl) (hv : Vis X.env.scope x := by first | exact Or.inl rfl | exact Or.inr (Or.inl rfl) | exact Or.inr (Or.inr rfl)) (hd : (x == ("__debug__" : Str)) = false := by decide)
    (hcd : (x == ("__classdict__" : Str)) = false := by decide) : PB X W (.Name x pos) (dBor i) := ⟨_, pe_var hN hv hd hcd, sim_bor⟩
theorem sim_c {v : V} {d : D} (h : ∀ F, Fz F d v) : Sim W (tC v) (dC d) := fun {B F σ H ρ μ Qd Xd Q} S q gx k => k v F H d μ .refl S (h F) q
theorem d_int {i j} : PD X W (.Constant (.int i) j pos) (dC (.int i)) := ⟨_, pe_int, sim_c fun _ => by unfold Fz; rfl⟩
theorem d_bl {i j} : PD X W (.Constant (.bool i) j pos) (dC (.bl i)) := ⟨_, pe_bl, sim_c fun _ => by unfold Fz; rfl⟩
theorem d_non {j} : PD X W (.Constant .none j pos) (dC .non) := ⟨_, pe_non, sim_c fun _ => by unfold Fz; rfl⟩
theorem d_str {x j} : PD X W (.Constant (.str x) j pos) (dC (.str x)) := ⟨_, pe_str, sim_c fun _ => by unfold Fz; rfl⟩
theorem d_gint {x : Str} {i : Int} {t : Tok} (hm : X.mg x = some (.int i t)) (hg : Gl X x := by rfl) (hd : (x == ("__debug__" : Str)) = false := by decide) : PD X W (.Name x pos) (dC (.int i)) :=
  ⟨_, pe_glob (v := .int i) hg hm ⟨t, rfl⟩ hd, sim_c fun _ => by unfold Fz; rfl⟩
end
end DL

namespace DL
open PySem PySem.Spec PyProof.Rows L2

abbrev DR2 := D → D → (D → Prop) → Prop
def SimR (r : R2) (dr : DR2) : Prop := ∀ {F : Hp} {μ : Mu} {H : Hp} {x y : V} {dx dy : D} {Qd : D → Prop} {Q : VK}, Wd F μ H → Bz F μ H dx x → Bz F μ H dy y → dr dx dy Qd →
  (∀ v F' H' d, Grow F μ H F' μ H' → Wd F' μ H' → Fz F' d v → Qd d → Q v H') → r x y H Q
def rdD (μ : Mu) : D → D
  | .obj a => match μ a with
    | some (.lst ds) => .lst ds
    | some (.dK ks) => .dic ks
    | _ => .obj a
  | d => d
def mu0 : Mu := fun _ => none
theorem Wd.mu0 {F : Hp} {μ : Mu} {H : Hp} (W : Wd F μ H) : Wd F DL.mu0 H := ⟨W.ext, (fun a o e => by cases e), W.tup⟩
theorem Bz.rd {F : Hp} {μ : Mu} {H : Hp} (W : Wd F μ H) {d : D} {v : V} (h : Bz F μ H d v) : Bz F DL.mu0 H (rdD μ d) v := by
  cases d with
  | lst ds =>
    obtain ⟨a, vs, h1, h2, h3, h4⟩ := h
    exact ⟨a, vs, h1, h2, rfl, h4⟩
  | dic ds =>
    obtain ⟨a, vs, h1, h2, h3, h4⟩ := h
    exact ⟨a, vs, h1, h2, rfl, h4⟩
  | non => exact h
  | bl _ => exact h
  | int _ => exact h
  | str _ => exact h
  | ty _ => exact h
  | tup _ => exact h
  | ins _ _ => exact h
  | scr _ _ => exact h
  | xcp _ _ _ _ => exact h
  | obj a =>
    have h : Fz F (.obj a) v := h
    have h' := h
    unfold Fz at h
    subst h
    show Bz F DL.mu0 H (match μ a with | some (.lst ds) => .lst ds | some (.dK ks) => .dic ks | _ => .obj a) (.ref a)
    split
    · rename_i ds e
      obtain ⟨⟨vs, q1, q2⟩, q3⟩ := W.mu _ _ e
      exact ⟨a, vs, rfl, q1, rfl, q2⟩
    · rename_i ds e
      obtain ⟨⟨vs, q1, q2⟩, q3⟩ := W.mu _ _ e
      exact ⟨a, vs, rfl, .inl q1, rfl, q2⟩
    · exact h'
theorem Grow.of0 {F F' : Hp} {μ : Mu} {H H' : Hp} (W : Wd F μ H) (g : Grow F mu0 H F' mu0 H') (W' : Wd F' mu0 H') : Grow F μ H F' μ H' ∧ Wd F' μ H' := by
  refine ⟨⟨g.fz, fun b o e m => ?_⟩, W'.ext, fun a o e => ?_, W'.tup⟩
  · obtain ⟨k1, _, k3⟩ := g.keep b o e rfl
    exact ⟨k1, m, k3⟩
  · obtain ⟨q1, q2⟩ := W.mu a o e
    obtain ⟨u, hu⟩ := q1.there
    obtain ⟨_, _, k3⟩ := g.keep a u hu rfl
    exact ⟨q1.mono g.fz fun v hv => (g.keep a v hv rfl).1, k3 q2⟩
def dOp (dr : DR2) (a b : DE) : DE := fun ρ μ Q X => a ρ μ (fun dx μ1 => b ρ μ1 (fun dy μ2 => dr (rdD μ2 dx) (rdD μ2 dy) fun d => Q d μ2) X) X
theorem sim_op {W : WX} {r : R2} {dr : DR2} {ta tb : TE} {a b : DE} (hr : SimR r dr) (ha : SimB W ta a) (hb : SimB W tb b) : Sim W (tOp r ta tb) (dOp dr a b) := fun {B F σ H ρ μ Qd Xd Q} S q gx k =>
  ha S q gx fun x F1 H1 dx μ1 g1 S1 z1 q1 => hb S1 q1 (gx.go g1) fun y F2 H2 dy μ2 g2 S2 z2 q2 =>
    hr S2.wd.mu0 ((z1.go g2).rd S2.wd) (z2.rd S2.wd) q2 fun v F3 H3 d g3 W3 z3 q3 => by
      obtain ⟨g3, W3⟩ := Grow.of0 S2.wd g3 W3
      exact k v F3 H3 d μ2 ((g1.trans g2).trans g3) (S2.go g3 W3) z3 q3
theorem SimR.or {r r' : R2} {dr : DR2} {dr' : DR2} (h : SimR r dr) (h' : SimR r' dr') : SimR (fun x y H Q => r x y H Q ∨ r' x y H Q) (fun x y Q => dr x y Q ∨ dr' x y Q) := fun W zx zy q k => by
  rcases q with q | q
  · exact .inl (h W zx zy q k)
  · exact .inr (h' W zx zy q k)

section
variable {F : Hp} {μ : Mu} {H : Hp} {v : V}
theorem bz_int {i : Int} (h : Bz F μ H (.int i) v) : v = .int i := by
  have h : Fz F (.int i) v := h
  unfold Fz at h
  exact h
theorem bz_bl {i : Bool} (h : Bz F μ H (.bl i) v) : v = .bl i := by
  have h : Fz F (.bl i) v := h
  unfold Fz at h
  exact h
theorem bz_str {i : Str} (h : Bz F μ H (.str i) v) : v = .str i := by
  have h : Fz F (.str i) v := h
  unfold Fz at h
  exact h
theorem bz_non (h : Bz F μ H .non v) : v = .non := by
  have h : Fz F .non v := h
  unfold Fz at h
  exact h
theorem bz_lst {ds : List D} (h : Bz F μ H (.lst ds) v) : ∃ a vs, v = .ref a ∧ H a = some (.lst vs) ∧ μ a = none ∧ FzL F ds vs := h
theorem bz_tup (W : Wd F μ H) {ds : List D} (h : Bz F μ H (.tup ds) v) : ∃ a vs, v = .ref a ∧ H a = some (.tup vs) ∧ F a = some (.tup vs) ∧ FzL F ds vs := by
  have h : Fz F (.tup ds) v := h
  unfold Fz at h
  obtain ⟨a, vs, h1, h2, h3⟩ := h
  exact ⟨a, vs, h1, W.ext _ _ h2, h2, h3⟩
theorem fz_int {i : Int} : Fz F (.int i) (.int i) := by unfold Fz; rfl
theorem fz_bl {i : Bool} : Fz F (.bl i) (.bl i) := by unfold Fz; rfl
theorem fz_str {i : Str} : Fz F (.str i) (.str i) := by unfold Fz; rfl
theorem fz_non : Fz F .non .non := by unfold Fz; rfl
theorem fz_lst {p : Addr} {ds : List D} {vs : List V} (h : FzL F ds vs) (hp : F p = some (.lst vs)) : Fz F (.lst ds) (.ref p) := by
  unfold Fz
  exact ⟨p, vs, rfl, hp, h⟩
theorem fz_tup {p : Addr} {ds : List D} {vs : List V} (h : FzL F ds vs) (hp : F p = some (.tup vs)) : Fz F (.tup ds) (.ref p) := by
  unfold Fz
  exact ⟨p, vs, rfl, hp, h⟩
theorem new_lst (W : Wd F μ H) {p : Addr} {ds : List D} {vs : List V} (h : FzL F ds vs) (hp : H p = none) : Grow F μ H (upd F p (.lst vs)) μ (upd H p (.lst vs)) ∧ Wd (upd F p (.lst vs)) μ (upd H p (.lst vs)) ∧ Fz (upd F p (.lst vs)) (.lst ds) (.ref p) := by
  obtain ⟨W', g⟩ := W.new (o := .lst vs) hp
  exact ⟨g, W', fz_lst (h.mono g.fz) upd_same⟩
theorem new_tup (W : Wd F μ H) {p : Addr} {ds : List D} {vs : List V} (h : FzL F ds vs) (hp : H p = none) : Grow F μ H (upd F p (.tup vs)) μ (upd H p (.tup vs)) ∧ Wd (upd F p (.tup vs)) μ (upd H p (.tup vs)) ∧ Fz (upd F p (.tup vs)) (.tup ds) (.ref p) := by
  obtain ⟨W', g⟩ := W.new (o := .tup vs) hp
  exact ⟨g, W', fz_tup (h.mono g.fz) upd_same⟩
end

def rAddU (K : PySem.W.Frag) : R2 := fun x y H Q => (∃ i j, x = .int i ∧ y = .int j ∧ Q (.int (i + j)) H) ∨ ((∃ i j, x = .str i ∧ y = .str j ∧ i.length + j.length ≤ sizeLine ∧ Q (.str (i ++ j)) H) ∨ (rCat x y H Q ∨ rCatA K x y H Q))
theorem op_addU {X : Cx} : OpR X (binaryOp .Add) (rAddU X.K) := op_add.or (op_add_str.or (op_cat.or op_catA))
def dAdd : DR2 := fun x y Q => match x, y with
  | .int i, .int j => Q (.int (i + j))
  | .str i, .str j => i.length + j.length ≤ sizeLine ∧ Q (.str (i ++ j))
  | .lst a, .lst b => a.length + b.length ≤ sizeLine ∧ Q (.lst (a ++ b))
  | .tup a, .tup b => a.length + b.length ≤ sizeLine ∧ Q (.tup (a ++ b))
  | _, _ => False
theorem sim_addU {K : PySem.W.Frag} : SimR (rAddU K) dAdd := fun {F μ H x y dx dy Qd Q} W zx zy q k => by
  unfold dAdd at q
  split at q
  · rename_i i j
    exact .inl ⟨i, j, bz_int zx, bz_int zy, k _ F H _ .refl W fz_int q⟩
  · rename_i i j
    exact .inr (.inl ⟨i, j, bz_str zx, bz_str zy, q.1, k _ F H _ .refl W fz_str q.2⟩)
  · rename_i a b
    obtain ⟨p, vs, rfl, h1, m1, z1⟩ := bz_lst zx
    obtain ⟨p2, ws, rfl, h2, m2, z2⟩ := bz_lst zy
    refine .inr (.inr (.inl ⟨p, p2, vs, ws, rfl, rfl, h1, h2, by rw [z1.length, z2.length]; exact q.1, fun r hr => ?_⟩))
    obtain ⟨g, W', z⟩ := new_lst W (z2.append z1) hr
    exact k _ _ _ _ g W' z q.2
  · rename_i a b
    obtain ⟨p, vs, rfl, h1, f1, z1⟩ := bz_tup W zx
    obtain ⟨p2, ws, rfl, h2, f2, z2⟩ := bz_tup W zy
    refine .inr (.inr (.inr ⟨p, p2, vs, ws, rfl, rfl, .of h1, .of h2, by rw [z1.length, z2.length]; exact q.1, fun e => ?_, fun _ e => ?_, fun _ _ r hr => ?_⟩))
    · subst e
      cases a with
      | nil => exact k _ F H _ .refl W (fz_tup z2 f2) q.2
      | cons d r => simp [FzL] at z1
    · subst e
      cases b with
      | nil => exact k _ F H _ .refl W (fz_tup z1 f1) (by simpa using q.2)
      | cons d r => simp [FzL] at z2
    · obtain ⟨g, W', z⟩ := new_tup W (z2.append z1) hr
      exact k _ _ _ _ g W' z q.2
  · exact q.elim

def dI (C : Int → Int → Prop) (g : Int → Int → D) : DR2 := fun x y Q => match x, y with
  | .int i, .int j => C i j ∧ Q (g i j)
  | _, _ => False
def dI0 (g : Int → Int → D) : DR2 := fun x y Q => match x, y with
  | .int i, .int j => Q (g i j)
  | _, _ => False
theorem sim_I {C : Int → Int → Prop} {g : Int → Int → V} {g' : Int → Int → D} (h : ∀ F i j, Fz F (g' i j) (g i j)) : SimR (rI C g) (dI C g') := fun {F μ H x y dx dy Qd Q} W zx zy q k => by
  unfold dI at q
  split at q
  · rename_i i j
    exact ⟨i, j, bz_int zx, bz_int zy, q.1, k _ F H _ .refl W (h F i j) q.2⟩
  · exact q.elim
theorem sim_I0 {g : Int → Int → V} {g' : Int → Int → D} (h : ∀ F i j, Fz F (g' i j) (g i j)) : SimR (rI0 g) (dI0 g') := fun {F μ H x y dx dy Qd Q} W zx zy q k => by
  unfold dI0 at q
  split at q
  · rename_i i j
    exact ⟨i, j, bz_int zx, bz_int zy, k _ F H _ .refl W (h F i j) q⟩
  · exact q.elim
def dSub : DR2 := dI0 fun i j => .int (i - j)
def dMod : DR2 := dI (fun _ j => 0 < j) fun i j => .int (i % j)
def dDiv : DR2 := dI CDivW fun i j => .int (i / j)
def dPow : DR2 := dI CPow fun i j => .int (i ^ j.toNat)
def dLt : DR2 := dI0 fun i j => .bl (decide (i < j))
def dLe : DR2 := dI0 fun i j => .bl (decide (i ≤ j))
def dGt : DR2 := dI0 fun i j => .bl (decide (j < i))
def dGe : DR2 := dI0 fun i j => .bl (decide (j ≤ i))
def CMulD (i j : Int) : Prop := i.natAbs.log2 + j.natAbs.log2 < 134000000 ∨ CMul i j
theorem CMulD.ok {i j : Int} (h : CMulD i j) : IntMulOk i j := by
  rcases h with h3 | h
  · have b : ∀ x : Int, Builtin.Int.intBits x ≤ x.natAbs.log2 + 1 := fun x => by
      unfold Builtin.Int.intBits
      split <;> omega
    have h1 := b i
    have h2 := b j
    have e : bitsLine = 134217728 := by decide
    unfold IntMulOk
    intro z
    rw [Bool.and_eq_true] at z
    have z2 := z.2
    unfold Builtin.Int.intTooBig at z2
    have z3 := of_decide_eq_true z2
    rw [e] at z3
    omega
  · exact h.ok
theorem op_mulD {X : Cx} : OpR X (binaryOp .Mult) (rI CMulD fun i j => .int (i * j)) := opI fun _ _ _ _ _ _ _ hc q => mul_int q hc.ok
def rMulU : R2 := fun x y H Q => rI CMulD (fun i j => .int (i * j)) x y H Q ∨ rRep x y H Q
theorem op_mulU {X : Cx} : OpR X (binaryOp .Mult) rMulU := op_mulD.or op_rep
def dMul : DR2 := fun x y Q => match x, y with
  | .int i, .int j => CMulD i j ∧ Q (.int (i * j))
  | .lst a, .int j => -(2 ^ 63) ≤ j ∧ j < 2 ^ 63 ∧ a.length * j.toNat ≤ sizeLine ∧ Q (.lst (List.replicate j.toNat a).flatten)
  | _, _ => False
theorem FzL.rep {F : Hp} {ds : List D} {vs : List V} (h : FzL F ds vs) : ∀ k : Nat, FzL F (List.replicate k ds).flatten (List.replicate k vs).flatten
  | 0 => by simpa using fzl_nil
  | k + 1 => by
    simp only [List.replicate_succ, List.flatten_cons]
    exact (FzL.rep h k).append h
theorem sim_mulU : SimR rMulU dMul := fun {F μ H x y dx dy Qd Q} W zx zy q k => by
  unfold dMul at q
  split at q
  · rename_i i j
    exact .inl ⟨i, j, bz_int zx, bz_int zy, q.1, k _ F H _ .refl W fz_int q.2⟩
  · rename_i a j
    obtain ⟨p, vs, rfl, h1, m1, z1⟩ := bz_lst zx
    refine .inr ⟨p, j, vs, rfl, bz_int zy, h1, q.1, q.2.1, by rw [z1.length]; exact q.2.2.1, fun r hr => ?_⟩
    obtain ⟨g, W', z⟩ := new_lst W (z1.rep j.toNat) hr
    exact k _ _ _ _ g W' z q.2.2.2
  · exact q.elim

mutual
def toPy : D → PyData
  | .non => .none
  | .bl b => .bool b
  | .int i => .int i
  | .str x => .str x
  | .ty _ => .none
  | .tup xs => .tuple (toPyL xs)
  | .lst xs => .list (toPyL xs)
  | .dic ks => .dict (toPyK ks)
  | .ins _ _ => .none
  | .obj _ => .none
  | .scr _ _ => .none
  | .xcp _ _ _ _ => .none
def toPyL : List D → List PyData
  | [] => []
  | x :: xs => toPy x :: toPyL xs
def toPyK : List (Key × D) → List (PyData × PyData)
  | [] => []
  | (.inl i, d) :: r => (.int i, toPy d) :: toPyK r
  | (.inr x, d) :: r => (.str x, toPy d) :: toPyK r
end
mutual
def pure0 : D → Bool
  | .non | .bl _ | .int _ | .str _ => true
  | .tup xs | .lst xs => pure0L xs
  | _ => false
def pure0L : List D → Bool
  | [] => true
  | x :: xs => pure0 x && pure0L xs
end
mutual
theorem Fz.dp {K : PySem.W.Frag} {F H : Hp} (e : Ex F H) : ∀ {d : D} {v : V}, Fz F d v → pure0 d = true → Dp K H v (toPy d)
  | .non, v, h, _ => by
    unfold Fz at h
    subst h
    exact .non
  | .bl b, v, h, _ => by
    unfold Fz at h
    subst h
    exact .bl b
  | .int b, v, h, _ => by
    unfold Fz at h
    subst h
    exact .int b
  | .str b, v, h, _ => by
    unfold Fz at h
    subst h
    exact .str b
  | .ty _, v, h, p => by simp [pure0] at p
  | .obj _, v, h, p => by simp [pure0] at p
  | .scr _ _, v, h, p => by simp [pure0] at p
  | .xcp _ _ _ _, v, h, p => by simp [pure0] at p
  | .ins _ _, v, h, p => by simp [pure0] at p
  | .dic _, v, h, p => by simp [pure0] at p
  | .tup ds, v, h, p => by
    unfold Fz at h
    obtain ⟨a, vs, rfl, h2, h3⟩ := h
    unfold toPy
    exact .tup (.of (e _ _ h2)) (FzL.dp e h3 (by simpa [pure0] using p))
  | .lst ds, v, h, p => by
    unfold Fz at h
    obtain ⟨a, vs, rfl, h2, h3⟩ := h
    unfold toPy
    exact .lst (.of (e _ _ h2)) (FzL.dp e h3 (by simpa [pure0] using p))
theorem FzL.dp {K : PySem.W.Frag} {F H : Hp} (e : Ex F H) : ∀ {ds : List D} {vs : List V}, FzL F ds vs → pure0L ds = true → DpAll K H vs (toPyL ds)
  | [], _, h, _ => by
    rw [fzl_inv0 h]
    unfold toPyL
    exact .nil
  | d :: ds, _, h, p => by
    obtain ⟨v, r, rfl, h1, h2⟩ := fzl_inv h
    have p' : pure0 d = true ∧ pure0L ds = true := by simpa [pure0L] using p
    unfold toPyL
    exact .cons (Fz.dp e h1 p'.1) (FzL.dp e h2 p'.2)
end
theorem Bz.dp {K : PySem.W.Frag} {F H : Hp} {μ : Mu} (W : Wd F μ H) {d : D} {v : V} (h : Bz F μ H d v) (p : pure0 d = true) : Dp K H v (toPy d) := by
  cases d with
  | lst ds =>
    obtain ⟨a, vs, rfl, h2, h3, h4⟩ := h
    unfold toPy
    exact .lst (.of h2) (FzL.dp W.ext h4 (by simpa [pure0] using p))
  | dic ds => simp [pure0] at p
  | non => exact Fz.dp W.ext h p
  | bl _ => exact Fz.dp W.ext h p
  | int _ => exact Fz.dp W.ext h p
  | str _ => exact Fz.dp W.ext h p
  | ty _ => exact Fz.dp W.ext h p
  | tup _ => exact Fz.dp W.ext h p
  | ins _ _ => exact Fz.dp W.ext h p
  | obj _ => exact Fz.dp W.ext h p
  | scr _ _ => exact Fz.dp W.ext h p
  | xcp _ _ _ _ => exact Fz.dp W.ext h p
def okD (d : D) : Prop := pure0 d = true ∧ SeqAt.shaped (toPy d) = true
def eqvD (a b : D) : Bool := PyData.eqv (toPy a) (toPy b)
def diffLen (x y : D) : Prop := ∃ a b : List D, x = .lst a ∧ y = .lst b ∧ a.length ≠ b.length
def eqOk (x y : D) : Prop := (okD x ∧ okD y) ∨ (∃ a b, x = .str a ∧ y = .str b) ∨ diffLen x y
def dEq : DR2 := fun x y Q => eqOk x y ∧ Q (.bl (eqvD x y))
def dNe : DR2 := fun x y Q => eqOk x y ∧ Q (.bl (!eqvD x y))
theorem dec_strs {a b : Str} : decide (V.str a = V.str b) = eqvD (.str a) (.str b) := by
  rw [dec_str]
  simp [eqvD, toPy, PyData.eqv]
theorem eqvAll_len : ∀ {a b : List D}, a.length ≠ b.length → PyData.eqvAll (toPyL a) (toPyL b) = false
  | [], [], h => absurd rfl h
  | [], y :: b, _ => by simp [toPyL, PyData.eqvAll]
  | x :: a, [], _ => by simp [toPyL, PyData.eqvAll]
  | x :: a, y :: b, h => by
    have ih := eqvAll_len (a := a) (b := b) (by simpa using h)
    simp [toPyL, PyData.eqvAll, ih]
theorem eqv_len {a b : List D} (h : a.length ≠ b.length) : eqvD (.lst a) (.lst b) = false := by
  unfold eqvD
  simp only [toPy, PyData.eqv]
  exact eqvAll_len h
def rLen (neg : Bool) : R2 := fun x y H Q => ∃ p q vs ws, x = .ref p ∧ y = .ref q ∧ H p = some (.lst vs) ∧ H q = some (.lst ws) ∧ vs.length ≠ ws.length ∧ Q (.bl neg) H
section
variable {X : Cx}
theorem len_at {pins : List (Addr × Obj)} {σ : L2.St} {H : Hp} {s : Shared} {p : Addr} {vs : List V} (I : Inv X pins σ H s) (h : H p = some (.lst vs)) : ∃ its : List Value, s.heap.IsList p its.toArray ∧ its.length = vs.length := by
  obtain ⟨its, rv, ⟨o, n, ho, hc, _, hd⟩, _⟩ := I.list (.of h)
  exact ⟨its, ⟨o, ho, hc, n, hd⟩, rv.length.symm⟩
theorem op_eqLen (hu : X.A.units + 64 < cLine) : OpR X (compareOp .Eq) (rLen false) := by
  intro pins s σ H x y v u Q I rx ry h
  obtain ⟨p, q, vs, ws, rfl, rfl, hp, hq, hn, k⟩ := h
  cases rx
  cases ry
  obtain ⟨i1, l1, e1⟩ := len_at I hp
  obtain ⟨i2, l2, e2⟩ := len_at I hq
  exact SeqAt.eq_list_lengthsAt l1 l2 (by simp; omega) (by omega) ⟨.bl false, H, I, rfl, k⟩
theorem op_neLen (hu : X.A.units + 64 < cLine) : OpR X (compareOp .NotEq) (rLen true) := by
  intro pins s σ H x y v u Q I rx ry h
  obtain ⟨p, q, vs, ws, rfl, rfl, hp, hq, hn, k⟩ := h
  cases rx
  cases ry
  obtain ⟨i1, l1, e1⟩ := len_at I hp
  obtain ⟨i2, l2, e2⟩ := len_at I hq
  exact SeqAt.RcNeAt.lists_lengths l1 l2 (by simp; omega) (by omega) _ _ _ _ ⟨.bl true, H, I, rfl, k⟩
theorem op_eqA (hu : X.A.units + 64 < cLine) : OpR X (compareOp .Eq) (fun x y H Q => rEqD X.K x y H Q ∨ (rEq x y H Q ∨ rLen false x y H Q)) := (op_eqD hu).or (op_eq.or (op_eqLen hu))
theorem op_neA (hu : X.A.units + 64 < cLine) : OpR X (compareOp .NotEq) (fun x y H Q => rNeD X.K x y H Q ∨ (rNe x y H Q ∨ rLen true x y H Q)) := (op_neD hu).or (op_ne.or (op_neLen hu))
end
theorem len_sim {F : Hp} {μ : Mu} {H : Hp} {x y : V} {a b : List D} (zx : Bz F μ H (.lst a) x) (zy : Bz F μ H (.lst b) y) (h : a.length ≠ b.length) {neg : Bool} {Q : VK} (q : Q (.bl neg) H) : rLen neg x y H Q := by
  obtain ⟨p, vs, rfl, h1, _, z1⟩ := bz_lst zx
  obtain ⟨p2, ws, rfl, h2, _, z2⟩ := bz_lst zy
  exact ⟨p, p2, vs, ws, rfl, rfl, h1, h2, by rw [z1.length, z2.length]; exact h, q⟩
theorem sim_eq {K : PySem.W.Frag} : SimR (fun x y H Q => rEqD K x y H Q ∨ (rEq x y H Q ∨ rLen false x y H Q)) dEq := fun {F μ H x y dx dy Qd Q} W zx zy q k => by
  obtain ⟨⟨h1, h2⟩ | ⟨a, b, rfl, rfl⟩ | ⟨a, b, rfl, rfl, hn⟩, q⟩ := q
  · exact .inl ⟨_, _, zx.dp W h1.1, zy.dp W h2.1, h1.2, h2.2, k _ F H _ .refl W fz_bl q⟩
  · rw [bz_str zx, bz_str zy]
    exact .inr (.inl ⟨rfl, by rw [dec_strs]; exact k _ F H _ .refl W fz_bl q⟩)
  · rw [eqv_len hn] at q
    exact .inr (.inr (len_sim zx zy hn (k _ F H _ .refl W fz_bl q)))
theorem sim_ne {K : PySem.W.Frag} : SimR (fun x y H Q => rNeD K x y H Q ∨ (rNe x y H Q ∨ rLen true x y H Q)) dNe := fun {F μ H x y dx dy Qd Q} W zx zy q k => by
  obtain ⟨⟨h1, h2⟩ | ⟨a, b, rfl, rfl⟩ | ⟨a, b, rfl, rfl, hn⟩, q⟩ := q
  · exact .inl ⟨_, _, zx.dp W h1.1, zy.dp W h2.1, h1.2, h2.2, k _ F H _ .refl W fz_bl q⟩
  · rw [bz_str zx, bz_str zy]
    exact .inr (.inl ⟨rfl, by rw [dec_strs]; exact k _ F H _ .refl W fz_bl q⟩)
  · rw [eqv_len hn] at q
    exact .inr (.inr (len_sim zx zy hn (k _ F H _ .refl W fz_bl q)))

def flatD : D → Bool
  | .non | .bl _ | .int _ | .str _ => true
  | _ => false
def eq0 : D → D → Bool
  | .non, .non => true
  | .bl a, .bl b => a == b
  | .bl a, .int b => (if a then 1 else 0) == b
  | .int a, .bl b => a == (if b then 1 else 0)
  | .int a, .int b => a == b
  | .str a, .str b => a == b
  | _, _ => false
def inD (x : D) (ds : List D) : Bool := ds.any fun y => eq0 y x
def toV : D → V
  | .bl b => .bl b
  | .int i => .int i
  | .str x => .str x
  | _ => .non
theorem flat_v {F : Hp} {d : D} {v : V} (h : Fz F d v) (f : flatD d = true) : v = toV d := by
  cases d <;> simp [flatD] at f <;> (unfold Fz at h; rw [h]; rfl)
theorem flat_b {F : Hp} {μ : Mu} {H : Hp} {d : D} {v : V} (h : Bz F μ H d v) (f : flatD d = true) : v = toV d := by
  cases d with
  | non => exact flat_v (F := F) (d := .non) h f
  | bl b => exact flat_v (F := F) (d := .bl b) h f
  | int b => exact flat_v (F := F) (d := .int b) h f
  | str b => exact flat_v (F := F) (d := .str b) h f
  | ty _ => simp [flatD] at f
  | tup _ => simp [flatD] at f
  | lst _ => simp [flatD] at f
  | dic _ => simp [flatD] at f
  | ins _ _ => simp [flatD] at f
  | obj _ => simp [flatD] at f
  | scr _ _ => simp [flatD] at f
  | xcp _ _ _ _ => simp [flatD] at f
theorem flat_toV {d : D} (f : flatD d = true) : flatV (toV d) = true := by
  cases d <;> simp [flatD] at f <;> rfl
theorem eqV_toV {c d : D} (fc : flatD c = true) (fd : flatD d = true) : eqV (toV c) (toV d) = eq0 c d := by
  cases c <;> simp [flatD] at fc <;> cases d <;> simp [flatD] at fd <;> rfl
theorem flat_vs {F : Hp} : ∀ {ds : List D} {vs : List V}, FzL F ds vs → ds.all flatD = true → vs = ds.map toV
  | [], _, h, _ => fzl_inv0 h
  | d :: ds, _, h, f => by
    obtain ⟨v, r, rfl, h1, h2⟩ := fzl_inv h
    have f' : flatD d = true ∧ ds.all flatD = true := by simpa [List.all_cons] using f
    rw [flat_v h1 f'.1, flat_vs h2 f'.2]
    rfl
theorem flat_all : ∀ {ds : List D}, ds.all flatD = true → (ds.map toV).all flatV = true
  | [], _ => rfl
  | d :: ds, f => by
    have f' : flatD d = true ∧ ds.all flatD = true := by simpa [List.all_cons] using f
    show (flatV (toV d) && (ds.map toV).all flatV) = true
    rw [flat_toV f'.1, flat_all f'.2]
    rfl
theorem in_toV {x : D} (fx : flatD x = true) : ∀ {ds : List D}, ds.all flatD = true → inV (toV x) (ds.map toV) = inD x ds
  | [], _ => rfl
  | d :: ds, f => by
    have f' : flatD d = true ∧ ds.all flatD = true := by simpa [List.all_cons] using f
    have ih := in_toV fx f'.2
    show (eqV (toV d) (toV x) || inV (toV x) (ds.map toV)) = (eq0 d x || inD x ds)
    rw [eqV_toV f'.1 fx, ih]
def dIn (neg : Bool) : DR2 := fun x y Q => match y with
  | .lst ds | .tup ds => flatD x = true ∧ ds.all flatD = true ∧ Q (.bl (if neg then !inD x ds else inD x ds))
  | _ => False
theorem sim_in {K : PySem.W.Frag} {neg : Bool} : SimR (rIn K neg) (dIn neg) := fun {F μ H x y dx dy Qd Q} W zx zy q k => by
  unfold dIn at q
  have go : ∀ {ds : List D} {vs : List V} {p : Addr}, y = .ref p → (SqL K H p vs ∨ SqT K H p vs) → FzL F ds vs → (flatD dx = true ∧ ds.all flatD = true ∧ Qd (.bl (if neg then !inD dx ds else inD dx ds))) → rIn K neg x y H Q := fun {ds vs p} ey hs z q => by
    have ex : x = toV dx := flat_b zx q.1
    have evs := flat_vs z q.2.1
    subst evs
    refine ⟨p, _, ey, hs, by rw [ex]; exact flat_toV q.1, flat_all q.2.1, ?_⟩
    rw [ex, in_toV q.1 q.2.1]
    exact k _ F H _ .refl W fz_bl q.2.2
  split at q
  · obtain ⟨p, vs, e, h1, m1, z1⟩ := bz_lst zy
    exact go e (.inl (.of h1)) z1 q
  · obtain ⟨p, vs, e, h1, f1, z1⟩ := bz_tup W zy
    exact go e (.inr (.of h1)) z1 q
  · exact q.elim

def isNon : D → Bool
  | .non => true
  | _ => false
def dIsN : DR2 := fun x y Q => match y with
  | .non => Q (.bl (isNon x))
  | _ => False
def dNotN : DR2 := fun x y Q => match y with
  | .non => Q (.bl (!isNon x))
  | _ => False
def dIx : DR2 := fun x y Q => match x, y with
  | .lst ds, .int i => ∃ d, atI ds i = some d ∧ Q d
  | .tup ds, .int i => ∃ d, atI ds i = some d ∧ Q d
  | .str z, .int i => z.length ≤ sizeLine ∧ ∃ c, atI z.cps.toList i = some c ∧ Q (.str ⟨#[c]⟩)
  | _, _ => False
theorem atI_fz {F : Hp} {ds : List D} {vs : List V} (z : FzL F ds vs) {i : Int} {d : D} (h : atI ds i = some d) : ∃ v, atI vs i = some v ∧ Fz F d v := by
  unfold atI at h ⊢
  rw [z.length]
  cases e : ixN ds.length i with
  | none => rw [e] at h; cases h
  | some j =>
    rw [e] at h
    exact z.get h
theorem sim_ix {K : PySem.W.Frag} : SimR (rIx K) dIx := fun {F μ H x y dx dy Qd Q} W zx zy q k => by
  unfold dIx at q
  split at q
  · rename_i ds i
    obtain ⟨d, hd, q⟩ := q
    obtain ⟨p, vs, rfl, h1, m1, z1⟩ := bz_lst zx
    obtain ⟨v, hv, zv⟩ := atI_fz z1 hd
    exact .inl ⟨p, vs, i, v, rfl, bz_int zy, .of h1, hv, k _ F H _ .refl W zv q⟩
  · rename_i ds i
    obtain ⟨d, hd, q⟩ := q
    obtain ⟨p, vs, rfl, h1, f1, z1⟩ := bz_tup W zx
    obtain ⟨v, hv, zv⟩ := atI_fz z1 hd
    exact .inr (.inl ⟨p, vs, i, v, rfl, bz_int zy, .of h1, hv, k _ F H _ .refl W zv q⟩)
  · rename_i z i
    obtain ⟨hz, c, hc, q⟩ := q
    exact .inr (.inr ⟨z, i, c, bz_str zx, bz_int zy, hz, hc, k _ F H _ .refl W fz_str q⟩)
  · exact q.elim

section
variable {X : Cx} {W : WX} {a b : Expr} {da db : DE} {pos : Pos}
theorem d_bin {op : Operator} {r : R2} {dr : DR2} (ho : OpR X (binaryOp op) r) (hr : SimR r dr) (ha : PB X W a da) (hb : PB X W b db) : PD X W (.BinOp a op b pos) (dOp dr da db) := by
  obtain ⟨ta, a1, a2⟩ := ha.ex
  obtain ⟨tb, b1, b2⟩ := hb.ex
  exact ⟨_, pe_op ho a1 b1, sim_op hr a2 b2⟩
theorem d_add (ha : PB X W a da) (hb : PB X W b db) : PD X W (.BinOp a .Add b pos) (dOp dAdd da db) := d_bin op_addU sim_addU ha hb
theorem d_sub (ha : PB X W a da) (hb : PB X W b db) : PD X W (.BinOp a .Sub b pos) (dOp dSub da db) := d_bin op_sub (sim_I0 fun _ _ _ => fz_int) ha hb
theorem d_mul (ha : PB X W a da) (hb : PB X W b db) : PD X W (.BinOp a .Mult b pos) (dOp dMul da db) := d_bin op_mulU sim_mulU ha hb
theorem d_mod (ha : PB X W a da) (hb : PB X W b db) : PD X W (.BinOp a .Mod b pos) (dOp dMod da db) := d_bin op_mod (sim_I fun _ _ _ => fz_int) ha hb
theorem d_div (ha : PB X W a da) (hb : PB X W b db) : PD X W (.BinOp a .FloorDiv b pos) (dOp dDiv da db) := d_bin op_fdivW (sim_I fun _ _ _ => fz_int) ha hb
theorem d_pow (ha : PB X W a da) (hb : PB X W b db) : PD X W (.BinOp a .Pow b pos) (dOp dPow da db) := d_bin op_pow (sim_I fun _ _ _ => fz_int) ha hb
theorem d_cmp {op : CmpOp} {r : R2} {dr : DR2} (ho : OpR X (compareOp op) r) (hr : SimR r dr) (ha : PB X W a da) (hb : PB X W b db) (hm : behindInMarks op b = false) : PD X W (.Compare a [op] [b] pos) (dOp dr da db) := by
  obtain ⟨ta, a1, a2⟩ := ha.ex
  obtain ⟨tb, b1, b2⟩ := hb.ex
  exact ⟨_, pe_cmpR ho a1 b1 hm, sim_op hr a2 b2⟩
theorem d_lt (ha : PB X W a da) (hb : PB X W b db) : PD X W (.Compare a [.Lt] [b] pos) (dOp dLt da db) := d_cmp op_lt (sim_I0 fun _ _ _ => fz_bl) ha hb (nomark _)
theorem d_eq (hu : X.A.units + 64 < cLine) (ha : PB X W a da) (hb : PB X W b db) : PD X W (.Compare a [.Eq] [b] pos) (dOp dEq da db) := d_cmp (op_eqA hu) sim_eq ha hb (nomark _)
theorem d_ix (ha : PB X W a da) (hb : PB X W b db) (hs : PlainIx b := by exact fun _ _ => rfl) : PD X W (.Subscript a b pos) (dOp dIx da db) := by
  obtain ⟨ta, a1, a2⟩ := ha.ex
  obtain ⟨tb, b1, b2⟩ := hb.ex
  exact ⟨_, pe_ix ix_seq a1 b1 hs, sim_op sim_ix a2 b2⟩

def dTest (t : DE) : DT := fun ρ μ Q X => t ρ μ (fun d μ1 => match d with
  | .bl c => Q c μ1
  | _ => False) X
theorem simt_test {te : TE} {t : DE} (h : Sim W te t) : SimT W (tB te) (dTest t) := fun {B F σ H ρ μ Qd Xd Q} S q gx k => h S q gx fun v F' H' d μ' g S' z q' => by
  cases d with
  | bl c =>
    unfold Fz at z
    exact ⟨c, z, k c F' H' μ' g S' q'⟩
  | non => exact q'.elim
  | int _ => exact q'.elim
  | str _ => exact q'.elim
  | ty _ => exact q'.elim
  | tup _ => exact q'.elim
  | lst _ => exact q'.elim
  | dic _ => exact q'.elim
  | ins _ _ => exact q'.elim
  | obj _ => exact q'.elim
  | scr _ _ => exact q'.elim
  | xcp _ _ _ _ => exact q'.elim
theorem t_val {e : Expr} {t : DE} (h : PD X W e t) (he : ∀ whole, isTrue e X.env whole = (do let v ← whole; standAt e.pos; holding [v] (truthy v)) := by intro _; rfl) : PTD X W e (dTest t) := by
  obtain ⟨te, h1, h2⟩ := h.ex
  exact ⟨_, pt_val h1 he, simt_test h2⟩
theorem simt_cmp {te : TE} {t : DE} (h : Sim W te t) : SimT W (tTest te) (dTest t) := simt_test h
theorem t_cmp {op : CmpOp} {r : R2} {dr : DR2} (ho : OpR X (compareOp op) r) (hr : SimR r dr) (ha : PB X W a da) (hb : PB X W b db) (hm : behindInMarks op b = false) : PTD X W (.Compare a [op] [b] pos) (dTest (dOp dr da db)) := by
  obtain ⟨ta, a1, a2⟩ := ha.ex
  obtain ⟨tb, b1, b2⟩ := hb.ex
  exact ⟨_, pt_cmpR ho a1 b1 hm, simt_cmp (sim_op hr a2 b2)⟩
theorem t_lt (ha : PB X W a da) (hb : PB X W b db) : PTD X W (.Compare a [.Lt] [b] pos) (dTest (dOp dLt da db)) := t_cmp op_lt (sim_I0 fun _ _ _ => fz_bl) ha hb (nomark _)
theorem t_le (ha : PB X W a da) (hb : PB X W b db) : PTD X W (.Compare a [.LtE] [b] pos) (dTest (dOp dLe da db)) := t_cmp op_le (sim_I0 fun _ _ _ => fz_bl) ha hb (nomark _)
theorem t_gt (ha : PB X W a da) (hb : PB X W b db) : PTD X W (.Compare a [.Gt] [b] pos) (dTest (dOp dGt da db)) := t_cmp op_gt (sim_I0 fun _ _ _ => fz_bl) ha hb (nomark _)
theorem t_ge (ha : PB X W a da) (hb : PB X W b db) : PTD X W (.Compare a [.GtE] [b] pos) (dTest (dOp dGe da db)) := t_cmp op_ge (sim_I0 fun _ _ _ => fz_bl) ha hb (nomark _)
theorem t_eq (hu : X.A.units + 64 < cLine) (ha : PB X W a da) (hb : PB X W b db) : PTD X W (.Compare a [.Eq] [b] pos) (dTest (dOp dEq da db)) := t_cmp (op_eqA hu) sim_eq ha hb (nomark _)
theorem t_ne (hu : X.A.units + 64 < cLine) (ha : PB X W a da) (hb : PB X W b db) : PTD X W (.Compare a [.NotEq] [b] pos) (dTest (dOp dNe da db)) := t_cmp (op_neA hu) sim_ne ha hb (nomark _)
theorem t_in (ha : PB X W a da) (hb : PB X W b db) (hm : behindInMarks .In b = false := by rfl) : PTD X W (.Compare a [.In] [b] pos) (dTest (dOp (dIn false) da db)) := t_cmp op_in_seq sim_in ha hb hm
variable {tA tB' : DT} {rest : List Expr}
def dAndT (t u : DT) : DT := fun ρ μ Q X => t ρ μ (fun c μ1 => if c = true then u ρ μ1 Q X else Q false μ1) X
def dOrT (t u : DT) : DT := fun ρ μ Q X => t ρ μ (fun c μ1 => if c = true then Q true μ1 else u ρ μ1 Q X) X
def dNotT (t : DT) : DT := fun ρ μ Q X => t ρ μ (fun c μ1 => Q (!c) μ1) X
theorem w_and1 (ha : PTD X W a tA) : PWD X W (.BoolOp .And [a] pos) tA := by
  obtain ⟨t, h1, h2⟩ := ha.ex
  exact ⟨t, pw_and1 h1, h2⟩
theorem w_or1 (ha : PTD X W a tA) : PWD X W (.BoolOp .Or [a] pos) tA := by
  obtain ⟨t, h1, h2⟩ := ha.ex
  exact ⟨t, pw_or1 h1, h2⟩
theorem w_and (ha : PTD X W a tA) (hb : PWD X W (.BoolOp .And (b :: rest) pos) tB') : PWD X W (.BoolOp .And (a :: b :: rest) pos) (dAndT tA tB') := by
  obtain ⟨t, h1, h2⟩ := ha.ex
  obtain ⟨u, g1, g2⟩ := hb.ex
  refine ⟨_, pw_and h1 g1, fun {B F σ H ρ μ Qd Xd Q} S q gx k => h2 S q gx fun c F' H' μ' g S' q' => ?_⟩
  cases c with
  | true =>
    rw [if_pos rfl] at q' ⊢
    exact g2 S' q' (gx.go g) fun c F2 H2 μ2 gg => k c F2 H2 μ2 (g.trans gg)
  | false =>
    rw [if_neg (by decide)] at q' ⊢
    exact k false F' H' μ' g S' q'
theorem w_or (ha : PTD X W a tA) (hb : PWD X W (.BoolOp .Or (b :: rest) pos) tB') : PWD X W (.BoolOp .Or (a :: b :: rest) pos) (dOrT tA tB') := by
  obtain ⟨t, h1, h2⟩ := ha.ex
  obtain ⟨u, g1, g2⟩ := hb.ex
  refine ⟨_, pw_or h1 g1, fun {B F σ H ρ μ Qd Xd Q} S q gx k => h2 S q gx fun c F' H' μ' g S' q' => ?_⟩
  cases c with
  | false =>
    rw [if_neg (by decide)] at q' ⊢
    exact g2 S' q' (gx.go g) fun c F2 H2 μ2 gg => k c F2 H2 μ2 (g.trans gg)
  | true =>
    rw [if_pos rfl] at q' ⊢
    exact k true F' H' μ' g S' q'
theorem PWD.t {e : Expr} {t : DT} (h : PWD X W e t) : PTD X W e t := by
  obtain ⟨u, h1, h2⟩ := h.ex
  exact ⟨u, h1.pt, h2⟩
theorem t_not (ha : PTD X W a tA) : PTD X W (.UnaryOp .Not a pos) (dNotT tA) := by
  obtain ⟨t, h1, h2⟩ := ha.ex
  exact ⟨_, pt_not h1, fun {B F σ H ρ μ Qd Xd Q} S q gx k => h2 S q gx fun c F' H' μ' g S' q' => k (!c) F' H' μ' g S' q'⟩
def dIf (t : DT) (a b : DE) : DE := fun ρ μ Q X => t ρ μ (fun c μ1 => if c = true then a ρ μ1 Q X else b ρ μ1 Q X) X
theorem d_if {c : Expr} (hc : PTD X W c tA) (ha : PD X W a da) (hb : PD X W b db) : PD X W (.IfExp c a b pos) (dIf tA da db) := by
  obtain ⟨t, h1, h2⟩ := hc.ex
  obtain ⟨ta, a1, a2⟩ := ha.ex
  obtain ⟨tb, b1, b2⟩ := hb.ex
  refine ⟨_, pe_ifExp h1 a1 b1, fun {B F σ H ρ μ Qd Xd Q} S q gx k => h2 S q gx fun c F' H' μ' g S' q' => ?_⟩
  cases c with
  | true =>
    rw [if_pos rfl] at q' ⊢
    exact a2 S' q' (gx.go g) fun v F2 H2 d μ2 gg => k v F2 H2 d μ2 (g.trans gg)
  | false =>
    rw [if_neg (by decide)] at q' ⊢
    exact b2 S' q' (gx.go g) fun v F2 H2 d μ2 gg => k v F2 H2 d μ2 (g.trans gg)
end

section
variable {X : Cx} {W : WX} {e : Expr} {es : List Expr} {de : DE} {ds : DA} {pos : Pos}
def dNil : DA := fun _ μ Q _ => Q [] μ
def dCons (a : DE) (r : DA) : DA := fun ρ μ Q X => a ρ μ (fun d μ1 => r ρ μ1 (fun ds μ2 => Q (d :: ds) μ2) X) X
theorem a_nil : PAD X W [] dNil := ⟨_, pa_nil, fun {B F σ H ρ μ Qd Xd Q} S q gx k => k [] F H [] μ .refl S fzl_nil q⟩
theorem a_cons (ha : PD X W e de) (hr : PAD X W es ds) (hs : starEach (e :: es) X.env = (false, eval e X.env) :: starEach es X.env := by rfl) : PAD X W (e :: es) (dCons de ds) := by
  obtain ⟨ta, a1, a2⟩ := ha.ex
  obtain ⟨tr, r1, r2⟩ := hr.ex
  refine ⟨_, pa_cons a1 r1 hs, fun {B F σ H ρ μ Qd Xd Q} S q gx k => a2 S q gx fun v F1 H1 d μ1 g1 S1 z1 q1 => r2 S1 q1 (gx.go g1) fun vs F2 H2 ds μ2 g2 S2 z2 q2 => ?_⟩
  exact k _ F2 H2 _ μ2 (g1.trans g2) S2 (fzl_cons (z1.mono g2.fz) z2) q2
def dTup (a : DA) : DE := fun ρ μ Q X => a ρ μ (fun ds μ1 => ds.length ≤ sizeLine ∧ Q (.tup ds) μ1) X
def dLst (a : DA) : DE := fun ρ μ Q X => a ρ μ (fun ds μ1 => ds.length ≤ sizeLine ∧ Q (.lst ds) μ1) X
theorem d_tup {x1} (h : PAD X W es ds) : PD X W (.Tuple es x1 pos) (dTup ds) := by
  obtain ⟨ta, a1, a2⟩ := h.ex
  refine ⟨_, pe_tup a1, fun {B F σ H ρ μ Qd Xd Q} S q gx k => a2 S q gx fun vs F1 H1 ds μ1 g1 S1 z1 q1 => ⟨by rw [z1.length]; exact q1.1, fun p hp => ?_⟩⟩
  obtain ⟨g, W', z⟩ := new_tup S1.wd z1 hp
  exact k _ _ _ _ μ1 (g1.trans g) (S1.go g W') z q1.2
theorem d_lst (h : PAD X W es ds) : PD X W (.List es pos) (dLst ds) := by
  obtain ⟨ta, a1, a2⟩ := h.ex
  refine ⟨_, pe_lst a1, fun {B F σ H ρ μ Qd Xd Q} S q gx k => a2 S q gx fun vs F1 H1 ds μ1 g1 S1 z1 q1 => ⟨by rw [z1.length]; exact q1.1, fun p hp => ?_⟩⟩
  obtain ⟨g, W', z⟩ := new_lst S1.wd z1 hp
  exact k _ _ _ _ μ1 (g1.trans g) (S1.go g W') z q1.2
end
end DL

namespace DL
open PySem PySem.Spec PyProof.Rows L2

theorem Sti.fresh {B : Anchor} {F : Hp} {σ : L2.St} {H : Hp} {ρ : List Slot} {μ : Mu} (S : Sti B F σ H ρ μ) {p : Addr} (h : H p = none) : ∀ o, B.H p = some o → B.μ p = none → False := fun o e m => by
  have := (S.grow.keep p o e m).1
  rw [h] at this
  cases this

structure DEnds where
  nx : List Slot → Mu → Prop
  rt : D → Mu → Prop
  xc : List Slot → DX → Mu → Prop
  bk : List Slot → Mu → Prop := fun _ _ => False
  ct : List Slot → Mu → Prop := fun _ _ => False
abbrev DS := DEnds → List Slot → Mu → Prop
structure Rel (W : WX) (B : Anchor) (F : Hp) (Dd : DEnds) (D : Ends) : Prop where
  nx : ∀ F' σ' H' ρ' μ', Ex F F' → Sti B F' σ' H' ρ' μ' → Dd.nx ρ' μ' → D.nx σ' H'
  bk : ∀ F' σ' H' ρ' μ', Ex F F' → Sti B F' σ' H' ρ' μ' → Dd.bk ρ' μ' → D.bk σ' H'
  ct : ∀ F' σ' H' ρ' μ', Ex F F' → Sti B F' σ' H' ρ' μ' → Dd.ct ρ' μ' → D.ct σ' H'
  rt : ∀ v d F' σ' H' ρ' μ', Ex F F' → Sti B F' σ' H' ρ' μ' → Fz F' d v → Dd.rt d μ' → D.rt v H'
  xc : ∀ cls dd x F' σ' H' ρ' μ', Ex F F' → Sti B F' σ' H' ρ' μ' → XIs F' μ' H' cls dd x → Dd.xc ρ' x μ' → W cls dd σ' H'
theorem Rel.go {W : WX} {B : Anchor} {F F' : Hp} {Dd : DEnds} {D : Ends} (r : Rel W B F Dd D) (e : Ex F F') : Rel W B F' Dd D :=
  ⟨fun F2 σ2 H2 ρ2 μ2 e2 => r.nx F2 σ2 H2 ρ2 μ2 (e.trans e2), fun F2 σ2 H2 ρ2 μ2 e2 => r.bk F2 σ2 H2 ρ2 μ2 (e.trans e2), fun F2 σ2 H2 ρ2 μ2 e2 => r.ct F2 σ2 H2 ρ2 μ2 (e.trans e2),
    fun v d F2 σ2 H2 ρ2 μ2 e2 => r.rt v d F2 σ2 H2 ρ2 μ2 (e.trans e2), fun c dd x F2 σ2 H2 ρ2 μ2 e2 => r.xc c dd x F2 σ2 H2 ρ2 μ2 (e.trans e2)⟩
theorem Rel.gox {W : WX} {B : Anchor} {F H : Hp} {σ : L2.St} {ρ : List Slot} {μ : Mu} {Dd : DEnds} {D : Ends} (r : Rel W B F Dd D) : GoX W B F σ H ρ μ (Dd.xc ρ) :=
  fun cls dd F' H' x μ' g S z q => r.xc cls dd x F' σ H' ρ μ' g.fz S z q
def SimS (W : WX) (ts : TS) (t : DS) : Prop := ∀ {B : Anchor} {F : Hp} {σ : L2.St} {H : Hp} {ρ : List Slot} {μ : Mu} {Dd : DEnds} {D : Ends}, Sti B F σ H ρ μ → t Dd ρ μ → Rel W B F Dd D → ts D σ H
structure PSD (X : Cx) (W : WX) (st : Stmt) (t : DS) : Prop where
  ex : ∃ ts, PS X st ts ∧ SimS W ts t
structure PSsD (X : Cx) (W : WX) (st : List Stmt) (t : DS) : Prop where
  ex : ∃ ts, PSs X st ts ∧ SimS W ts t
def dNext : DS := fun D ρ μ => D.nx ρ μ
def dSeq (t u : DS) : DS := fun D ρ μ => t { D with nx := u D } ρ μ
theorem sims_seq {W : WX} {ts us : TS} {t u : DS} (h1 : SimS W ts t) (h2 : SimS W us u) : SimS W (tSeq ts us) (dSeq t u) := fun {B F σ H ρ μ Dd D} S q r =>
  h1 (D := { D with nx := us D }) S q ⟨fun F2 σ2 H2 ρ2 μ2 e2 S2 q2 => h2 S2 q2 (r.go e2), r.bk, r.ct, r.rt, r.xc⟩
section
variable {X : Cx} {W : WX} {st : Stmt} {rest : List Stmt} {t u : DS} {pos : Pos} {e : Expr} {de : DE}
theorem ss_nil : PSsD X W [] dNext := ⟨_, pss_nil, fun {B F σ H ρ μ Dd D} S q r => r.nx F σ H ρ μ (Evl.Ex.refl _) S q⟩
theorem ss_cons (h1 : PSD X W st t) (h2 : PSsD X W rest u) : PSsD X W (st :: rest) (dSeq t u) := by
  obtain ⟨ts, a1, a2⟩ := h1.ex
  obtain ⟨us, b1, b2⟩ := h2.ex
  exact ⟨_, pss_cons a1 b1, sims_seq a2 b2⟩
theorem ss_one (h1 : PSD X W st t) : PSsD X W [st] t := by
  obtain ⟨ts, a1, a2⟩ := h1.ex
  exact ⟨_, pss_one a1, a2⟩
def dBrk : DS := fun D ρ μ => D.bk ρ μ
def dCnt : DS := fun D ρ μ => D.ct ρ μ
theorem s_break : PSD X W (.Break pos) dBrk := ⟨_, ps_break, fun {B F σ H ρ μ Dd D} S q r => r.bk F σ H ρ μ (Evl.Ex.refl _) S q⟩
def dDrop (a : DE) : DS := fun D ρ μ => a ρ μ (fun _ μ1 => D.nx ρ μ1) (D.xc ρ)
theorem s_expr (h : PD X W e de) (hs : swapsWith e none pos.line X.env = pure false := by rfl) : PSD X W (.Expr e pos) (dDrop de) := by
  obtain ⟨te, a1, a2⟩ := h.ex
  exact ⟨_, ps_expr a1 hs, fun {B F σ H ρ μ Dd D} S q r => a2 S q r.gox fun v F' H' d μ' g S' z q' => r.nx F' σ H' ρ μ' g.fz S' q'⟩
def dRet (a : DE) : DS := fun D ρ μ => a ρ μ D.rt (D.xc ρ)
theorem s_ret (h : PD X W e de) : PSD X W (.Return (some e) pos) (dRet de) := by
  obtain ⟨te, a1, a2⟩ := h.ex
  exact ⟨_, ps_ret a1, fun {B F σ H ρ μ Dd D} S q r => a2 S q r.gox fun v F' H' d μ' g S' z q' => r.rt v d F' σ H' ρ μ' g.fz S' z q'⟩
def dRetN : DS := fun D _ μ => D.rt .non μ
def dIfS (c : DT) (t u : DS) : DS := fun D ρ μ => c ρ μ (fun b μ1 => if b = true then t D ρ μ1 else u D ρ μ1) (D.xc ρ)
theorem s_if {c : Expr} {a b : List Stmt} {tc : DT} (hc : PTD X W c tc) (ha : PSsD X W a t) (hb : PSsD X W b u) : PSD X W (.If c a b pos) (dIfS tc t u) := by
  obtain ⟨tt, c1, c2⟩ := hc.ex
  obtain ⟨ta, a1, a2⟩ := ha.ex
  obtain ⟨tb, b1, b2⟩ := hb.ex
  refine ⟨_, ps_if c1 a1 b1, fun {B F σ H ρ μ Dd D} S q r => c2 S q r.gox fun b F' H' μ' g S' q' => ?_⟩
  cases b with
  | true =>
    rw [if_pos rfl] at q' ⊢
    exact a2 S' q' (r.go g.fz)
  | false =>
    rw [if_neg (by decide)] at q' ⊢
    exact b2 S' q' (r.go g.fz)
def dNever : DS := fun _ _ _ => False
theorem s_never : PSD X W st dNever := ⟨_, ps_never, fun {B F σ H ρ μ Dd D} S q r => q.elim⟩
end

abbrev DG := D → List Slot → Mu → (List Slot → Mu → Prop) → Prop
abbrev DGs := List D → List Slot → Mu → (List Slot → Mu → Prop) → Prop
def SimG (g : TG) (dg : DG) : Prop := ∀ {B : Anchor} {F : Hp} {σ : L2.St} {H : Hp} {ρ : List Slot} {μ : Mu} {x : V} {d : D} {Qd : List Slot → Mu → Prop} {Q : L2.St → Hp → Prop}, Sti B F σ H ρ μ → Fz F d x → dg d ρ μ Qd →
  (∀ F' σ' H' ρ' μ', Grow F μ H F' μ' H' → Sti B F' σ' H' ρ' μ' → Qd ρ' μ' → Q σ' H') → g x σ H Q
def SimGs (g : TGs) (dg : DGs) : Prop := ∀ {B : Anchor} {F : Hp} {σ : L2.St} {H : Hp} {ρ : List Slot} {μ : Mu} {xs : List V} {ds : List D} {Qd : List Slot → Mu → Prop} {Q : L2.St → Hp → Prop}, Sti B F σ H ρ μ → FzL F ds xs → dg ds ρ μ Qd →
  (∀ F' σ' H' ρ' μ', Grow F μ H F' μ' H' → Sti B F' σ' H' ρ' μ' → Qd ρ' μ' → Q σ' H') → g xs σ H Q
structure PGD (X : Cx) (tg : Expr) (t : DG) : Prop where
  ex : ∃ g, PG X tg g ∧ SimG g t
structure PGsD (X : Cx) (tg : List Expr) (t : DGs) : Prop where
  ex : ∃ g, PGs X tg g ∧ SimGs g t
def dgName (i : Nat) : DG := fun d ρ μ Q => Q (ρ.set i (.dat d)) μ
def dgNil : DGs := fun ds ρ μ Q => ds = [] ∧ Q ρ μ
def dgCons (g : DG) (r : DGs) : DGs := fun ds ρ μ Q => match ds with
  | [] => False
  | d :: ds => g d ρ μ fun ρ1 μ1 => r ds ρ1 μ1 Q
def dgTup (n : Nat) (r : DGs) : DG := fun d ρ μ Q => match d with
  | .tup ds | .lst ds => ds.length = n ∧ r ds ρ μ Q
  | _ => False
def gSeq (K : PySem.W.Frag) (n : Nat) (t : TGs) : TG := fun v σ H Q => gTup K n t v σ H Q ∨ gLst K n t v σ H Q
theorem pg_seq {X : Cx} {pos : Pos} {es : List Expr} {k : Nat} {t : TGs} {n : Nat} (hc : X.calm = true) (h : PGs X es t)
    (hn : (assignEach es X.env).length = n := by rfl) (hst : (assignEach es X.env).findIdx? (·.1) = none := by rfl) : PG X (.Tuple es k pos) (gSeq X.K n t) :=
  ⟨fun pins s σ H v u Q I r hw => hw.elim (fun q => (pg_tup hc h hn hst).run pins s σ H v u Q I r q) fun q => (pg_lst hc h hn hst).run pins s σ H v u Q I r q⟩
theorem simg_name {i : Nat} : SimG (gName i) (dgName i) := fun {B F σ H ρ μ x d Qd Q} S z q k => k F _ H _ μ .refl (S.set z) q
theorem simg_tup {K : PySem.W.Frag} {n : Nat} {r : TGs} {dr : DGs} (h : SimGs r dr) : SimG (gSeq K n r) (dgTup n dr) := fun {B F σ H ρ μ x d Qd Q} S z q k => by
  unfold dgTup at q
  split at q
  · rename_i ds
    obtain ⟨a, vs, e, h1, f1, z1⟩ := bz_tup S.wd (z.bz S.wd)
    exact .inl ⟨a, vs, e, .of h1, by rw [z1.length]; exact q.1, h S z1 q.2 k⟩
  · rename_i ds
    unfold Fz at z
    obtain ⟨a, vs, e, h1, z1⟩ := z
    exact .inr ⟨a, vs, e, .of (S.wd.ext _ _ h1), by rw [z1.length]; exact q.1, h S z1 q.2 k⟩
  · exact q.elim
section
variable {X : Cx} {pos : Pos}
theorem g_name {i : Nat} {x : Str} (hN : X.N.Nodup) (hi : X.N[i]? = some x) (hx : Loc X.env.scope x) (hf : X.fn x = true ∨ X.env.scope.names.lookup x = some .local := by first | exact .inl rfl | exact .inr rfl | assumption) : PGD X (.Name x pos) (dgName i) :=
  ⟨_, pg_name hN hi hx hf, simg_name⟩
theorem g_nil : PGsD X [] dgNil := ⟨_, pgs_nil, fun {B F σ H ρ μ xs ds Qd Q} S z q k => by
  obtain ⟨rfl, q⟩ := q
  exact ⟨fzl_inv0 z, k F σ H ρ μ .refl S q⟩⟩
theorem g_cons {e : Expr} {es : List Expr} {t : DG} {u : DGs} (h1 : PGD X e t) (h2 : PGsD X es u) (hs : (assignEach (e :: es) X.env).map (·.2) = assign e X.env :: (assignEach es X.env).map (·.2) := by rfl) : PGsD X (e :: es) (dgCons t u) := by
  obtain ⟨g, a1, a2⟩ := h1.ex
  obtain ⟨gs, b1, b2⟩ := h2.ex
  refine ⟨_, pgs_cons a1 b1 hs, fun {B F σ H ρ μ xs ds Qd Q} S z q k => ?_⟩
  cases ds with
  | nil => exact q.elim
  | cons d ds =>
    obtain ⟨v, r, e, z1, z2⟩ := fzl_inv z
    exact ⟨v, r, e, a2 S z1 q fun F1 σ1 H1 ρ1 μ1 e1 S1 q1 => b2 S1 (z2.mono e1.fz) q1 fun F2 σ2 H2 ρ2 μ2 e2 => k F2 σ2 H2 ρ2 μ2 (e1.trans e2)⟩
theorem g_tup {es : List Expr} {k : Nat} {t : DGs} {n : Nat} (hc : X.calm = true) (h : PGsD X es t) (hn : (assignEach es X.env).length = n := by rfl) (hst : (assignEach es X.env).findIdx? (·.1) = none := by rfl) : PGD X (.Tuple es k pos) (dgTup n t) := by
  obtain ⟨g, a1, a2⟩ := h.ex
  exact ⟨_, pg_seq hc a1 hn hst, simg_tup a2⟩
def dAsg (a : DE) (g : DG) : DS := fun D ρ μ => a ρ μ (fun d μ1 => g d ρ μ1 D.nx) (D.xc ρ)
variable {W : WX}
theorem s_asg {tg e : Expr} {de : DE} {g : DG} (he : PD X W e de) (hg : PGD X tg g) (hs : swapsWithSole [tg] e pos.line X.env = pure false := by rfl) (hw : swappedStores [tg] e X.env = pure none := by rfl)
    (h1 : (assignEach [tg] X.env).map (·.2) = [assign tg X.env] := by rfl) : PSD X W (.Assign [tg] e pos) (dAsg de g) := by
  obtain ⟨te, a1, a2⟩ := he.ex
  obtain ⟨tg, b1, b2⟩ := hg.ex
  exact ⟨_, ps_asg a1 b1 hs hw h1, fun {B F σ H ρ μ Dd D} S q r => a2 S q r.gox fun v F' H' d μ' g S' z q' => b2 S' z q' fun F2 σ2 H2 ρ2 μ2 e2 S2 q2 => r.nx F2 σ2 H2 ρ2 μ2 (g.fz.trans e2.fz) S2 q2⟩
theorem s_set {i : Nat} {x : Str} {e : Expr} {de : DE} {pos' : Pos} (hN : X.N.Nodup) (hi : X.N[i]? = some x) (hx : Loc X.env.scope x) (he : PD X W e de) (hs : swapsWith e (some (.Name x pos')) pos.line X.env = pure false := by rfl)
    (hf : X.fn x = true ∨ X.env.scope.names.lookup x = some .local := by first | exact .inl rfl | exact .inr rfl | assumption) : PSD X W (.Assign [.Name x pos'] e pos) (dAsg de (dgName i)) := by
  obtain ⟨te, a1, a2⟩ := he.ex
  exact ⟨_, L2.ps_set hN hi hx a1 hs hf, fun {B F σ H ρ μ Dd D} S q r => a2 S q r.gox fun v F' H' d μ' g S' z q' => simg_name S' z q' fun F2 σ2 H2 ρ2 μ2 e2 S2 q2 => r.nx F2 σ2 H2 ρ2 μ2 (g.fz.trans e2.fz) S2 q2⟩
def dAug (f : Int → Int → Int) (i : Nat) (a : DE) : DS := fun D ρ μ => match ρ[i]? with
  | some (.dat (.int x)) => a ρ μ (fun d μ1 => match d with
    | .int y => D.nx (ρ.set i (.dat (.int (f x y)))) μ1
    | _ => False) (D.xc ρ)
  | _ => False
theorem s_aug {i : Nat} {x : Str} {e : Expr} {de : DE} {op : Operator} {f : Int → Int → Int} {pos' : Pos} (hN : X.N.Nodup) (hi : X.N[i]? = some x) (hx : Loc X.env.scope x) (he : PD X W e de) (ho : PIp X op (ipI f)) (hf : X.fn x = true ∨ X.env.scope.names.lookup x = some .local := by first | exact .inl rfl | exact .inr rfl | assumption) :
    PSD X W (.AugAssign (.Name x pos') op e pos) (dAug f i de) := by
  obtain ⟨te, a1, a2⟩ := he.ex
  refine ⟨_, ps_aug hN hi hx a1 ho hf, fun {B F σ H ρ μ Dd D} S q r => ?_⟩
  unfold dAug at q
  split at q
  · rename_i x hx
    obtain ⟨v, hv, y, rfl, z⟩ := S.get hx
    unfold Fz at z
    subst z
    refine ⟨_, hv, a2 S q r.gox fun v F' H' d μ' g S' z q' => ?_⟩
    split at q'
    · rename_i y
      unfold Fz at z
      exact ⟨x, y, rfl, z, r.nx F' _ H' _ μ' g.fz (S'.set fz_int) q'⟩
    · exact q'.elim
  · exact q.elim
end

def Walk (J : It) (F : Hp) (ds : List D) : Prop := ∀ (F2 : Hp) (μ2 : Mu) (H2 : Hp), Ex F F2 → Wd F2 μ2 H2 →
  (∀ i, i < ds.length → J.go i H2) ∧ (∀ i d x H3, ds[i]? = some d → J.yld i H2 x H3 → ∃ F3, Grow F2 μ2 H2 F3 μ2 H3 ∧ Wd F3 μ2 H3 ∧ Fz F3 d x) ∧ J.stop ds.length H2
abbrev DI := List Slot → Mu → (List D → Mu → Prop) → DXQ → Prop
def SimI (W : WX) (wi : TI) (t : DI) : Prop := ∀ {B : Anchor} {F : Hp} {σ : L2.St} {H : Hp} {ρ : List Slot} {μ : Mu} {Qd : List D → Mu → Prop} {Xd : DXQ} {R : It → Hp → Prop}, Sti B F σ H ρ μ → t ρ μ Qd Xd → GoX W B F σ H ρ μ Xd →
  (∀ J F' H' ds μ', Grow F μ H F' μ' H' → Sti B F' σ H' ρ μ' → Walk J F' ds → Qd ds μ' → R J H') → wi σ H R
structure PID (X : Cx) (W : WX) (tg iter : Expr) (t : DI) : Prop where
  ex : ∃ wi, PI X tg iter wi ∧ SimI W wi t
theorem walk_list {K : PySem.W.Frag} {F : Hp} {a : Addr} {vs : List V} {ds : List D} (h : F a = some (.lst vs)) (z : FzL F ds vs) : Walk (Itl K a) F ds := fun F2 μ2 H2 e W => by
  have hH := W.ext _ _ (e _ _ h)
  refine ⟨fun i hi => ?_, fun i d x H3 hd hy => ?_, ⟨vs, .of hH, by rw [z.length]; exact Nat.le_refl _⟩⟩
  · obtain ⟨v, hv, _⟩ := z.get (List.getElem?_eq_getElem hi)
    exact ⟨vs, v, .of hH, hv⟩
  · obtain ⟨rfl, q⟩ := hy
    obtain ⟨v, hv, zv⟩ := z.get hd
    have := q vs (.of hH)
    rw [hv] at this
    cases this
    exact ⟨F2, .refl, W, zv.mono e⟩
theorem walk_tup {K : PySem.W.Frag} {F : Hp} {a : Addr} {vs : List V} {ds : List D} (h : F a = some (.tup vs)) (z : FzL F ds vs) : Walk (Itt K a) F ds := fun F2 μ2 H2 e W => by
  have hH := W.ext _ _ (e _ _ h)
  refine ⟨fun i hi => ?_, fun i d x H3 hd hy => ?_, ⟨vs, .of hH, by rw [z.length]; exact Nat.le_refl _⟩⟩
  · obtain ⟨v, hv, _⟩ := z.get (List.getElem?_eq_getElem hi)
    exact ⟨vs, v, .of hH, hv⟩
  · obtain ⟨rfl, q⟩ := hy
    obtain ⟨v, hv, zv⟩ := z.get hd
    have := q vs (.of hH)
    rw [hv] at this
    cases this
    exact ⟨F2, .refl, W, zv.mono e⟩
def rangeD (lo : Int) (n : Nat) : List D := (List.range n).map fun i => .int (lo + (i : Nat))
theorem rangeD_length (lo : Int) (n : Nat) : (rangeD lo n).length = n := by simp [rangeD]
theorem walk_range {F : Hp} {lo : Int} {n : Nat} : Walk (Itr lo n) F (rangeD lo n) := fun F2 μ2 H2 e W => by
  refine ⟨fun i hi => by rw [rangeD_length] at hi; exact hi, fun i d x H3 hd hy => ?_, by rw [rangeD_length]; exact Nat.le_refl _⟩
  obtain ⟨rfl, rfl⟩ := hy
  refine ⟨F2, .refl, W, ?_⟩
  have hi : i < n := by
    have := (List.getElem?_eq_some_iff.mp hd).1
    rwa [rangeD_length] at this
  unfold rangeD at hd
  rw [List.getElem?_map, List.getElem?_range hi] at hd
  simp at hd
  subst hd
  exact fz_int
section
variable {X : Cx} {W : WX} {tg e : Expr} {de : DE} {da : DA} {pos : Pos}
def diL (a : DE) : DI := fun ρ μ Q X => a ρ μ (fun d μ1 => match d with
  | .lst ds => Q ds μ1
  | _ => False) X
def diT (a : DE) : DI := fun ρ μ Q X => a ρ μ (fun d μ1 => match d with
  | .tup ds => Q ds μ1
  | _ => False) X
theorem i_list (h : PD X W e de) : PID X W tg e (diL de) := by
  obtain ⟨te, a1, a2⟩ := h.ex
  refine ⟨_, pi_list a1, fun {B F σ H ρ μ Qd Xd R} S q gx k => a2 S q gx fun v F' H' d μ' g S' z q' => ?_⟩
  split at q'
  · rename_i ds
    unfold Fz at z
    obtain ⟨a, vs, rfl, h1, z1⟩ := z
    exact ⟨a, rfl, ⟨vs, .of (S'.wd.ext _ _ h1)⟩, k _ F' H' ds μ' g S' (walk_list h1 z1) q'⟩
  · exact q'.elim
theorem i_tup (h : PD X W e de) : PID X W tg e (diT de) := by
  obtain ⟨te, a1, a2⟩ := h.ex
  refine ⟨_, pi_tup a1, fun {B F σ H ρ μ Qd Xd R} S q gx k => a2 S q gx fun v F' H' d μ' g S' z q' => ?_⟩
  split at q'
  · rename_i ds
    unfold Fz at z
    obtain ⟨a, vs, rfl, h1, z1⟩ := z
    exact ⟨a, rfl, ⟨vs, .of (S'.wd.ext _ _ h1)⟩, k _ F' H' ds μ' g S' (walk_tup h1 z1) q'⟩
  · exact q'.elim
def diR1 (a : DA) : DI := fun ρ μ Q X => a ρ μ (fun ds μ1 => match ds with
  | [.int n] => -(2 ^ 62) ≤ n ∧ n < 2 ^ 62 ∧ Q (rangeD 0 n.toNat) μ1
  | _ => False) X
def diR2 (a : DA) : DI := fun ρ μ Q X => a ρ μ (fun ds μ1 => match ds with
  | [.int i, .int j] => (-(2 ^ 62) ≤ i ∧ i < 2 ^ 62 ∧ -(2 ^ 62) ≤ j ∧ j < 2 ^ 62) ∧ Q (rangeD i (j - i).toNat) μ1
  | _ => False) X
theorem i_range1 {a : Expr} {p : Pos} (hm : X.mg "range" = none) (ha : PAD X W [a] da) (hg : Gl X "range" := by rfl) (hs : starEach [a] X.env = [(false, eval a X.env)] := by rfl) : PID X W tg (.Call (.Name "range" p) [a] [] pos) (diR1 da) := by
  obtain ⟨te, a1, a2⟩ := ha.ex
  refine ⟨_, pi_range1 hg hm a1 hs, fun {B F σ H ρ μ Qd Xd R} S q gx k => a2 S q gx fun v F' H' d μ' g S' z q' => ?_⟩
  split at q'
  · rename_i n
    obtain ⟨v, r1, rfl, z1, z2⟩ := fzl_inv z
    unfold Fz at z1
    rw [z1, fzl_inv0 z2]
    exact ⟨n, rfl, q'.1, q'.2.1, k _ F' H' _ μ' g S' walk_range q'.2.2⟩
  · exact q'.elim
theorem i_range2 {a b : Expr} {p : Pos} (hm : X.mg "range" = none) (ha : PAD X W [a, b] da) (hg : Gl X "range" := by rfl) (hs : starEach [a, b] X.env = [(false, eval a X.env), (false, eval b X.env)] := by rfl) (hs2 : starEach [b] X.env = [(false, eval b X.env)] := by rfl) :
    PID X W tg (.Call (.Name "range" p) [a, b] [] pos) (diR2 da) := by
  obtain ⟨te, a1, a2⟩ := ha.ex
  refine ⟨_, pi_range2 hg hm a1 hs hs2, fun {B F σ H ρ μ Qd Xd R} S q gx k => a2 S q gx fun v F' H' d μ' g S' z q' => ?_⟩
  split at q'
  · rename_i i j
    obtain ⟨v, r1, rfl, z1, z2⟩ := fzl_inv z
    obtain ⟨w, r2, rfl, z3, z4⟩ := fzl_inv z2
    unfold Fz at z1 z3
    rw [z1, z3, fzl_inv0 z4]
    exact ⟨i, j, rfl, q'.1, k _ F' H' _ μ' g S' walk_range q'.2⟩
  · exact q'.elim
end
def dForGo (g : DG) (tb : DS) (Z : DEnds) : List D → List Slot → Mu → Prop
  | [], ρ, μ => Z.nx ρ μ
  | x :: xs, ρ, μ => g x ρ μ fun ρ1 μ1 => tb { nx := dForGo g tb Z xs, ct := dForGo g tb Z xs, bk := Z.nx, rt := Z.rt, xc := Z.xc } ρ1 μ1
def dFor (i : DI) (g : DG) (tb : DS) : DS := fun D ρ μ => i ρ μ (fun ds μ1 => dForGo g tb D ds ρ μ1) (D.xc ρ)
theorem drop_cons {α : Type} {l : List α} {i : Nat} {x : α} (h : l[i]? = some x) : l.drop i = x :: l.drop (i + 1) := by
  obtain ⟨hi, e⟩ := List.getElem?_eq_some_iff.mp h
  rw [← e]
  exact List.drop_eq_getElem_cons hi
theorem sims_for {W : WX} {wi : TI} {g : TG} {tb : TS} {di : DI} {dg : DG} {db : DS} (hi : SimI W wi di) (hg : SimG g dg) (hb : SimS W tb db) : SimS W (tFor wi g tb) (dFor di dg db) := fun {B F σ H ρ μ Dd D} S q r =>
  hi S q r.gox fun J F1 H1 ds μ1 g1 S1 wk q1 => by
    refine ⟨fun i m σ H => m = ds.length - i ∧ i ≤ ds.length ∧ ∃ F2 ρ2 μ2, Ex F1 F2 ∧ Sti B F2 σ H ρ2 μ2 ∧ dForGo dg db Dd (ds.drop i) ρ2 μ2, ⟨ds.length, rfl, Nat.zero_le _, F1, ρ, μ1, Evl.Ex.refl _, S1, q1⟩, ?_⟩
    rintro i m σ2 H2 ⟨rfl, hi, F2, ρ2, μ2, e2, S2, q2⟩
    obtain ⟨w1, w2, w3⟩ := wk F2 μ2 H2 e2 S2.wd
    by_cases hlt : i < ds.length
    · obtain ⟨d, hd⟩ : ∃ d, ds[i]? = some d := ⟨_, List.getElem?_eq_getElem hlt⟩
      rw [drop_cons hd] at q2
      refine .inr ⟨w1 i hlt, fun σ H => ∃ F3 ρ3 μ3, Ex F1 F3 ∧ Sti B F3 σ H ρ3 μ3 ∧ dForGo dg db Dd (ds.drop (i + 1)) ρ3 μ3, fun σ' H' hN => ⟨ds.length - (i + 1), by omega, rfl, hlt, hN⟩, fun x H3 hy => ?_⟩
      obtain ⟨F3, g3, W3, z3⟩ := w2 i d x H3 hd hy
      refine hg (S2.go g3 W3) z3 q2 fun F4 σ4 H4 ρ4 μ4 g4 S4 q4 => have e4 := g4.fz; hb S4 q4 ⟨?_, ?_, ?_, ?_, ?_⟩
      · exact fun F5 σ5 H5 ρ5 μ5 e5 S5 q5 => ⟨F5, ρ5, μ5, ((e2.trans g3.fz).trans e4).trans e5, S5, q5⟩
      · exact fun F5 σ5 H5 ρ5 μ5 e5 S5 q5 => r.nx F5 σ5 H5 ρ5 μ5 ((((g1.fz.trans e2).trans g3.fz).trans e4).trans e5) S5 q5
      · exact fun F5 σ5 H5 ρ5 μ5 e5 S5 q5 => ⟨F5, ρ5, μ5, ((e2.trans g3.fz).trans e4).trans e5, S5, q5⟩
      · exact fun v d F5 σ5 H5 ρ5 μ5 e5 S5 z5 q5 => r.rt v d F5 σ5 H5 ρ5 μ5 ((((g1.fz.trans e2).trans g3.fz).trans e4).trans e5) S5 z5 q5
      · exact fun c dd x F5 σ5 H5 ρ5 μ5 e5 S5 z5 q5 => r.xc c dd x F5 σ5 H5 ρ5 μ5 ((((g1.fz.trans e2).trans g3.fz).trans e4).trans e5) S5 z5 q5
    · have e : i = ds.length := by omega
      subst e
      rw [List.drop_length] at q2
      exact .inl ⟨w3, r.nx F2 σ2 H2 ρ2 μ2 (g1.fz.trans e2) S2 q2⟩
def dWhile (c : DT) (tb : DS) : DS := fun D ρ μ => ∃ I : Nat → List Slot → Mu → Prop, (∃ m, I m ρ μ) ∧ ∀ m ρ μ, I m ρ μ → c ρ μ (fun b μ1 => if b = true then
  tb { nx := fun ρ' μ' => ∃ m', m' < m ∧ I m' ρ' μ', ct := fun ρ' μ' => ∃ m', m' < m ∧ I m' ρ' μ', bk := D.nx, rt := D.rt, xc := D.xc } ρ μ1 else D.nx ρ μ1) (D.xc ρ)
theorem sims_while {W : WX} {tc : TT} {tb : TS} {dc : DT} {db : DS} (hc : SimT W tc dc) (hb : SimS W tb db) : SimS W (tWhile tc tb) (dWhile dc db) := fun {B F σ H ρ μ Dd D} S ⟨I, ⟨m, h0⟩, hs⟩ r => by
  refine ⟨fun m σ H => ∃ F2 ρ2 μ2, Ex F F2 ∧ Sti B F2 σ H ρ2 μ2 ∧ I m ρ2 μ2, ⟨m, F, ρ, μ, Evl.Ex.refl _, S, h0⟩, ?_⟩
  rintro m σ2 H2 ⟨F2, ρ2, μ2, e2, S2, i2⟩
  refine hc S2 (hs m ρ2 μ2 i2) (r.go e2).gox fun b F3 H3 μ3 g3 S3 q3 => ?_
  cases b with
  | false =>
    rw [if_neg (by decide)] at q3 ⊢
    exact r.nx F3 _ H3 ρ2 μ3 (e2.trans g3.fz) S3 q3
  | true =>
    rw [if_pos rfl] at q3 ⊢
    refine ⟨fun σ' H' => ∃ m', m' < m ∧ ∃ F5 ρ5 μ5, Ex F F5 ∧ Sti B F5 σ' H' ρ5 μ5 ∧ I m' ρ5 μ5, fun σ' H' h => h, hb S3 q3 ⟨?_, ?_, ?_, ?_, ?_⟩⟩
    · exact fun F5 σ5 H5 ρ5 μ5 e5 S5 ⟨m', hm, q5⟩ => ⟨m', hm, F5, ρ5, μ5, (e2.trans g3.fz).trans e5, S5, q5⟩
    · exact fun F5 σ5 H5 ρ5 μ5 e5 S5 q5 => r.nx F5 σ5 H5 ρ5 μ5 ((e2.trans g3.fz).trans e5) S5 q5
    · exact fun F5 σ5 H5 ρ5 μ5 e5 S5 ⟨m', hm, q5⟩ => ⟨m', hm, F5, ρ5, μ5, (e2.trans g3.fz).trans e5, S5, q5⟩
    · exact fun v d F5 σ5 H5 ρ5 μ5 e5 S5 z5 q5 => r.rt v d F5 σ5 H5 ρ5 μ5 ((e2.trans g3.fz).trans e5) S5 z5 q5
    · exact fun c dd x F5 σ5 H5 ρ5 μ5 e5 S5 z5 q5 => r.xc c dd x F5 σ5 H5 ρ5 μ5 ((e2.trans g3.fz).trans e5) S5 z5 q5
section
variable {X : Cx} {W : WX} {pos : Pos}
theorem s_for {tg iter : Expr} {body : List Stmt} {di : DI} {dg : DG} {db : DS} (hp : PassesOwn (model X.prog X.w) X.A X.env X.xe) (hc : X.calm = true) (hi : PID X W tg iter di) (hg : PGD X tg dg) (hb : PSsD X W body db) (hs : ∀ x, foldedSetIterable iter X.env x = pure x := by intro _; rfl) : PSD X W (.For tg iter body [] pos) (dFor di dg db) := by
  obtain ⟨wi, a1, a2⟩ := hi.ex
  obtain ⟨g, b1, b2⟩ := hg.ex
  obtain ⟨tb, c1, c2⟩ := hb.ex
  exact ⟨_, ps_for hp hc a1 b1 c1 hs, sims_for a2 b2 c2⟩
theorem s_while {c : Expr} {body : List Stmt} {dc : DT} {db : DS} (hp : PassesOwn (model X.prog X.w) X.A X.env X.xe) (hc : PTD X W c dc) (hb : PSsD X W body db) : PSD X W (.While c body [] pos) (dWhile dc db) := by
  obtain ⟨tc, a1, a2⟩ := hc.ex
  obtain ⟨tb, c1, c2⟩ := hb.ex
  exact ⟨_, ps_while hp a1 c1, sims_while a2 c2⟩
end
end DL

namespace DL
open PySem PySem.Spec PyProof.Rows L2

def NewAt (H : Hp) (μ : Mu) (p : Addr) : Prop := ∀ o, H p = some o → μ p = none → False
theorem NewAt.of {H : Hp} {μ : Mu} {p : Addr} (h : H p = none) : NewAt H μ p := fun o e _ => by
  rw [h] at e
  cases e
theorem NewAt.back {F F' : Hp} {μ μ' : Mu} {H H' : Hp} {p : Addr} (g : Grow F μ H F' μ' H') (h : NewAt H' μ' p) : NewAt H μ p := fun o e m => by
  obtain ⟨k1, k2, _⟩ := g.keep p o e m
  exact h o k1 k2
theorem NewAt.ne {H : Hp} {μ : Mu} {a p : Addr} {o : HO} (h : NewAt H μ p) (ha : H a = some o) (hm : μ a = none) : a ≠ p := by
  rintro rfl
  exact h o ha hm
def SimO (W : WX) (te : TE) (t : DI) : Prop := ∀ {B : Anchor} {F : Hp} {σ : L2.St} {H : Hp} {ρ : List Slot} {μ : Mu} {Qd : List D → Mu → Prop} {Xd : DXQ} {Q : VK}, Sti B F σ H ρ μ → t ρ μ Qd Xd → GoX W B F σ H ρ μ Xd →
  (∀ p vs F' H' ds μ', Grow F μ H F' μ' H' → Sti B F' σ H' ρ μ' → NewAt H μ p → H' p = some (.lst vs) → F' p = none → μ' p = none → FzL F' ds vs → Qd ds μ' → Q (.ref p) H') → te σ H Q
structure PO (X : Cx) (W : WX) (e : Expr) (t : DI) : Prop where
  ex : ∃ te, PE X e te ∧ SimO W te t
theorem Wd.frz {F : Hp} {μ : Mu} {H : Hp} (W : Wd F μ H) {p : Addr} {o : HO} (h : H p = some o) (hF : F p = none) (hm : μ p = none) : Wd (upd F p o) μ H := by
  refine ⟨fun a u e => ?_, fun a u e => ?_, fun a vs e => ?_⟩
  · by_cases hb : a = p
    · subst hb
      rw [upd_same] at e
      cases e
      exact h
    · rw [upd_ne hb] at e
      exact W.ext a u e
  · obtain ⟨q1, q2⟩ := W.mu a u e
    have hb : a ≠ p := by
      rintro rfl
      rw [hm] at e
      cases e
    exact ⟨q1.mono (Evl.Ex.new hF) fun v hv => hv, by rw [upd_ne hb]; exact q2⟩
  · by_cases hb : a = p
    · subst hb
      rw [h] at e
      rw [upd_same, e]
    · rw [upd_ne hb]
      exact W.tup a vs e
def dFl (t : DI) : DE := fun ρ μ Q X => t ρ μ (fun ds μ1 => Q (.lst ds) μ1) X
theorem PO.d {X : Cx} {W : WX} {e : Expr} {t : DI} (h : PO X W e t) : PD X W e (dFl t) := by
  obtain ⟨te, a1, a2⟩ := h.ex
  refine ⟨_, a1, fun {B F σ H ρ μ Qd Xd Q} S q gx k => a2 S q gx fun p vs F' H' ds μ' g S' h0 h1 h2 h3 z q' => ?_⟩
  have e : Ex F' (upd F' p (.lst vs)) := Evl.Ex.new h2
  have g2 : Grow F μ H (upd F' p (.lst vs)) μ' H' := ⟨g.fz.trans e, fun b o x1 x2 => by
    obtain ⟨k1, k2, k3⟩ := g.keep b o x1 x2
    exact ⟨k1, k2, fun x => by rw [upd_ne (h0.ne x1 x2)]; exact k3 x⟩⟩
  refine k _ _ H' (.lst ds) μ' g2 ?_ (fz_lst (z.mono e) upd_same) q'
  have g3 : Grow B.F B.μ B.H (upd F' p (.lst vs)) μ' H' := ⟨S'.grow.fz.trans e, fun b o x1 x2 => by
    obtain ⟨k1, k2, k3⟩ := S'.grow.keep b o x1 x2
    refine ⟨k1, k2, fun x => ?_⟩
    have hb : b ≠ p := by
      rintro rfl
      obtain ⟨j1, j2, _⟩ := S.grow.keep _ o x1 x2
      exact h0 o j1 j2
    rw [upd_ne hb]
    exact k3 x⟩
  refine ⟨S'.wd.frz h1 h2 h3, g3, S'.len, fun i s v x1 x2 => ?_, S'.dist⟩
  have q := S'.slot i s v x1 x2
  have q0 := S.slot i s v x1 x2
  cases s with
  | no => exact True.intro
  | fn _ _ _ _ => exact ⟨q.1, q.2.1, e _ _ q.2.2⟩
  | dat d =>
    obtain ⟨x, hx, q⟩ := q
    exact ⟨x, hx, q.mono e⟩
  | ml ds =>
    obtain ⟨a, vs', hv, ha, q, o1, o2, o3⟩ := q
    obtain ⟨a0, vs0, hv0, ha0, _, _, m0, _⟩ := q0
    rw [hv] at hv0
    cases hv0
    exact ⟨a, vs', hv, ha, q.mono e, by rw [upd_ne (h0.ne ha0 m0)]; exact o1, o2, o3⟩
  | md ks =>
    obtain ⟨a, vs', hv, ha, q, o1, o2, o3⟩ := q
    obtain ⟨a0, vs0, hv0, ha0, _, _, m0, _⟩ := q0
    rw [hv] at hv0
    cases hv0
    exact ⟨a, vs', hv, ha, q.mono e, by rw [upd_ne (h0.ne ha0 m0)]; exact o1, o2, o3⟩
theorem Wd.own {F : Hp} {μ : Mu} {H : Hp} (W : Wd F μ H) {p : Addr} {o : HO} (h : H p = none) (ho : ∀ vs, o ≠ .tup vs := by exact fun _ z => nomatch z) : Wd F μ (upd H p o) ∧ Grow F μ H F μ (upd H p o) := by
  obtain ⟨hF, hm⟩ := W.free h
  refine ⟨⟨fun a u e => ?_, fun a u e => ?_, fun a vs e => ?_⟩, Evl.Ex.refl _, fun b u e1 e2 => ⟨?_, e2, fun e3 => e3⟩⟩
  · rw [upd_ne (ne_of_none e hF)]
    exact W.ext a u e
  · obtain ⟨q1, q2⟩ := W.mu a u e
    have hb : a ≠ p := by
      rintro rfl
      rw [hm] at e
      cases e
    exact ⟨q1.mono (Evl.Ex.refl _) fun v hv => by rw [upd_ne hb]; exact hv, q2⟩
  · by_cases hb : a = p
    · subst hb
      rw [upd_same] at e
      exact (ho vs (Option.some.inj e)).elim
    · rw [upd_ne hb] at e
      exact W.tup a vs e
  · rw [upd_ne (ne_of_none e1 h)]
    exact e1
section
variable {X : Cx} {W : WX} {pos : Pos}
def doLst (a : DA) : DI := fun ρ μ Q X => a ρ μ (fun ds μ1 => ds.length ≤ sizeLine ∧ Q ds μ1) X
theorem o_lst {es : List Expr} {ds : DA} (h : PAD X W es ds) : PO X W (.List es pos) (doLst ds) := by
  obtain ⟨ta, a1, a2⟩ := h.ex
  refine ⟨_, pe_lst a1, fun {B F σ H ρ μ Qd Xd Q} S q gx k => a2 S q gx fun vs F1 H1 ds μ1 g1 S1 z1 q1 => ⟨by rw [z1.length]; exact q1.1, fun p hp => ?_⟩⟩
  obtain ⟨W', g⟩ := S1.wd.own (o := .lst vs) hp
  obtain ⟨hF, hm⟩ := S1.wd.free hp
  exact k p vs F1 _ ds μ1 (g1.trans g) (S1.go g W') ((NewAt.of hp).back g1) upd_same hF hm z1 q1.2
end

theorem Sti.setO {B : Anchor} {F : Hp} {σ : L2.St} {H : Hp} {ρ : List Slot} {μ : Mu} (S : Sti B F σ H ρ μ) {i : Nat} {s : Slot} {v : V} (h : SlotOk B F H μ (some v) s)
    (hn : ∀ (j : Nat) (t : Slot) (a : Addr), ρ[j]? = some t → t.own = true → σ[j]? = some (some (.ref a)) → v ≠ .ref a) : Sti B F (σ.set i (some v)) H (ρ.set i s) μ := by
  refine ⟨S.wd, S.grow, by rw [List.length_set, List.length_set]; exact S.len, fun j s' w h1 h2 => ?_, fun j k s1 t a hjk h1 h2 o1 o2 e1 e2 => ?_⟩
  · by_cases hj : i = j
    · subst hj
      rw [List.getElem?_set] at h1 h2
      simp only [if_true] at h1 h2
      split at h1
      · cases h1
        split at h2
        · cases h2
          exact h
        · cases h2
      · cases h1
    · rw [List.getElem?_set_ne hj] at h1 h2
      exact S.slot j s' w h1 h2
  · have own : ∀ (j : Nat), i = j → (σ.set i (some v))[j]? = some (some (.ref a)) → v = .ref a := fun j hj e => by
      subst hj
      rw [List.getElem?_set] at e
      simp only [if_true] at e
      split at e
      · exact Option.some.inj (Option.some.inj e)
      · cases e
    by_cases hj : i = j
    · by_cases hk : i = k
      · exact hjk (hj.symm.trans hk)
      · rw [List.getElem?_set_ne hk] at h2 e2
        exact hn k t a h2 o2 e2 (own j hj e1)
    · rw [List.getElem?_set_ne hj] at h1 e1
      by_cases hk : i = k
      · exact hn j s1 a h1 o1 e1 (own k hk e2)
      · rw [List.getElem?_set_ne hk] at h2 e2
        exact S.dist j k s1 t a hjk h1 h2 o1 o2 e1 e2
theorem Sti.ownAt {B : Anchor} {F : Hp} {σ : L2.St} {H : Hp} {ρ : List Slot} {μ : Mu} (S : Sti B F σ H ρ μ) {j : Nat} {t : Slot} {a : Addr} (h1 : ρ[j]? = some t) (h2 : t.own = true) (h3 : σ[j]? = some (some (.ref a))) : (∃ o, H a = some o) ∧ μ a = none := by
  have q := S.slot j t _ h1 h3
  cases t with
  | no => cases h2
  | fn _ _ _ _ => cases h2
  | dat d => cases h2
  | ml ds =>
    obtain ⟨a', vs, e, ha, _, _, m, _⟩ := q
    cases e
    exact ⟨⟨_, ha⟩, m⟩
  | md ds =>
    obtain ⟨a', vs, e, ha, _, _, m, _⟩ := q
    cases e
    exact ⟨⟨_, ha⟩, m⟩
def dSetO (i : Nat) (t : DI) : DS := fun D ρ μ => t ρ μ (fun ds μ1 => D.nx (ρ.set i (.ml ds)) μ1) (D.xc ρ)
theorem Sti.upd {B : Anchor} {F : Hp} {σ : L2.St} {H : Hp} {ρ : List Slot} {μ : Mu} (S : Sti B F σ H ρ μ) {i : Nat} {t : Slot} {a : Addr} {o : HO} (h1 : ρ[i]? = some t) (h2 : t.own = true) (h3 : σ[i]? = some (some (.ref a))) {s : Slot}
    (h : SlotOk B F (upd H a o) μ (some (.ref a)) s) (ho : ∀ vs, o ≠ .tup vs := by exact fun _ z => nomatch z) : Sti B F σ (upd H a o) (ρ.set i s) μ := by
  have hown : F a = none ∧ μ a = none ∧ ∀ o, B.H a = some o → B.μ a = none → False := by
    have q := S.slot i t _ h1 h3
    cases t with
    | no => cases h2
    | fn _ _ _ _ => cases h2
    | dat d => cases h2
    | ml ds =>
      obtain ⟨a', vs, e, ha, _, w⟩ := q
      cases e
      exact w
    | md ds =>
      obtain ⟨a', vs, e, ha, _, w⟩ := q
      cases e
      exact w
  obtain ⟨hF, hm, hB⟩ := hown
  have W' : Wd F μ (L2.upd H a o) := ⟨fun b u e => by rw [upd_ne (ne_of_none e hF)]; exact S.wd.ext b u e, fun b u e => by
    obtain ⟨q1, q2⟩ := S.wd.mu b u e
    have hb : b ≠ a := by
      rintro rfl
      rw [hm] at e
      cases e
    exact ⟨q1.mono (Evl.Ex.refl _) fun v hv => by rw [upd_ne hb]; exact hv, q2⟩, fun b vs e => by
    by_cases hb : b = a
    · subst hb
      rw [upd_same] at e
      exact (ho vs (Option.some.inj e)).elim
    · rw [upd_ne hb] at e
      exact S.wd.tup b vs e⟩
  have g' : Grow B.F B.μ B.H F μ (L2.upd H a o) := ⟨S.grow.fz, fun b u x1 x2 => by
    obtain ⟨k1, k2, k3⟩ := S.grow.keep b u x1 x2
    have hb : b ≠ a := by
      rintro rfl
      exact hB u x1 x2
    exact ⟨by rw [upd_ne hb]; exact k1, k2, k3⟩⟩
  refine ⟨W', g', by rw [List.length_set]; exact S.len, fun j s' w e1 e2 => ?_, fun j k s1 t' b hjk e1 e2 o1 o2 e3 e4 => ?_⟩
  · by_cases hj : i = j
    · subst hj
      rw [List.getElem?_set] at e1
      simp only [if_true] at e1
      split at e1
      · cases e1
        rw [h3] at e2
        cases e2
        exact h
      · cases e1
    · rw [List.getElem?_set_ne hj] at e1
      have q := S.slot j s' w e1 e2
      cases s' with
      | no => exact True.intro
      | fn _ _ _ _ => exact q
      | dat d => exact q
      | ml ds =>
        obtain ⟨b, vs, e, hb, z, w1⟩ := q
        have hba : b ≠ a := by
          rintro rfl
          exact S.dist i j t _ b hj h1 e1 h2 rfl h3 (by rw [e2, e])
        exact ⟨b, vs, e, by rw [upd_ne hba]; exact hb, z, w1⟩
      | md ds =>
        obtain ⟨b, vs, e, hb, z, w1⟩ := q
        have hba : b ≠ a := by
          rintro rfl
          exact S.dist i j t _ b hj h1 e1 h2 rfl h3 (by rw [e2, e])
        exact ⟨b, vs, e, by rw [upd_ne hba]; exact hb, z, w1⟩
  · have back : ∀ (j : Nat) (s1 : Slot), (ρ.set i s)[j]? = some s1 → s1.own = true → ∃ s2, ρ[j]? = some s2 ∧ s2.own = true := fun j s1 e o => by
      by_cases hj : i = j
      · subst hj
        exact ⟨t, h1, h2⟩
      · rw [List.getElem?_set_ne hj] at e
        exact ⟨s1, e, o⟩
    obtain ⟨s2, f1, f2⟩ := back j s1 e1 o1
    obtain ⟨s3, f3, f4⟩ := back k t' e2 o2
    exact S.dist j k s2 s3 b hjk f1 f3 f2 f4 e3 e4
theorem Sti.freeze {B : Anchor} {F : Hp} {σ : L2.St} {H : Hp} {ρ : List Slot} {μ : Mu} (S : Sti B F σ H ρ μ) {i : Nat} {t : Slot} {a : Addr} {o : HO} (h1 : ρ[i]? = some t) (h2 : t.own = true) (h3 : σ[i]? = some (some (.ref a))) (h4 : H a = some o) {d : D}
    (h : Fz (L2.upd F a o) d (.ref a)) : Ex F (L2.upd F a o) ∧ Sti B (L2.upd F a o) σ H (ρ.set i (.dat d)) μ := by
  have hown : F a = none ∧ μ a = none ∧ ∀ o, B.H a = some o → B.μ a = none → False := by
    have q := S.slot i t _ h1 h3
    cases t with
    | no => cases h2
    | fn _ _ _ _ => cases h2
    | dat d => cases h2
    | ml ds =>
      obtain ⟨a', vs, e, ha, _, w⟩ := q
      cases e
      exact w
    | md ds =>
      obtain ⟨a', vs, e, ha, _, w⟩ := q
      cases e
      exact w
  obtain ⟨hF, hm, hB⟩ := hown
  have e : Ex F (L2.upd F a o) := Evl.Ex.new hF
  refine ⟨e, S.wd.frz h4 hF hm, ⟨S.grow.fz.trans e, fun b u x1 x2 => ?_⟩, by rw [List.length_set]; exact S.len, fun j s' w e1 e2 => ?_, fun j k s1 t' b hjk e1 e2 o1 o2 e3 e4 => ?_⟩
  · obtain ⟨k1, k2, k3⟩ := S.grow.keep b u x1 x2
    refine ⟨k1, k2, fun x => ?_⟩
    have hb : b ≠ a := by
      rintro rfl
      exact hB u x1 x2
    rw [upd_ne hb]
    exact k3 x
  · by_cases hj : i = j
    · subst hj
      rw [List.getElem?_set] at e1
      simp only [if_true] at e1
      split at e1
      · cases e1
        rw [h3] at e2
        cases e2
        exact ⟨_, rfl, h⟩
      · cases e1
    · rw [List.getElem?_set_ne hj] at e1
      have q := S.slot j s' w e1 e2
      cases s' with
      | no => exact True.intro
      | fn _ _ _ _ => exact ⟨q.1, q.2.1, e _ _ q.2.2⟩
      | dat d =>
        obtain ⟨x, hx, z⟩ := q
        exact ⟨x, hx, z.mono e⟩
      | ml ds =>
        obtain ⟨b, vs, e', hb, z, w1, w2, w3⟩ := q
        have hba : b ≠ a := by
          rintro rfl
          exact S.dist i j t _ b hj h1 e1 h2 rfl h3 (by rw [e2, e'])
        exact ⟨b, vs, e', hb, z.mono e, by rw [upd_ne hba]; exact w1, w2, w3⟩
      | md ds =>
        obtain ⟨b, vs, e', hb, z, w1, w2, w3⟩ := q
        have hba : b ≠ a := by
          rintro rfl
          exact S.dist i j t _ b hj h1 e1 h2 rfl h3 (by rw [e2, e'])
        exact ⟨b, vs, e', hb, z.mono e, by rw [upd_ne hba]; exact w1, w2, w3⟩
  · have nj : ∀ (j : Nat) (s1 : Slot), (ρ.set i (.dat d))[j]? = some s1 → s1.own = true → ρ[j]? = some s1 := fun j s1 h o => by
      by_cases hj : i = j
      · subst hj
        rw [List.getElem?_set] at h
        simp only [if_true] at h
        split at h
        · cases h
          cases o
        · cases h
      · rw [List.getElem?_set_ne hj] at h
        exact h
    exact S.dist j k s1 t' b hjk (nj j s1 e1 o1) (nj k t' e2 o2) o1 o2 e3 e4
section
variable {X : Cx} {W : WX} {pos : Pos}
theorem s_setO {i : Nat} {x : Str} {e : Expr} {t : DI} {pos' : Pos} (hN : X.N.Nodup) (hi : X.N[i]? = some x) (hx : Loc X.env.scope x) (he : PO X W e t) (hs : swapsWith e (some (.Name x pos')) pos.line X.env = pure false := by rfl)
    (hf : X.fn x = true ∨ X.env.scope.names.lookup x = some .local := by first | exact .inl rfl | exact .inr rfl | assumption) : PSD X W (.Assign [.Name x pos'] e pos) (dSetO i t) := by
  obtain ⟨te, a1, a2⟩ := he.ex
  refine ⟨_, L2.ps_set hN hi hx a1 hs hf, fun {B F σ H ρ μ Dd D} S q r => a2 S q r.gox fun p vs F' H' ds μ' g S' h0 h1 h2 h3 z q' => ?_⟩
  refine r.nx F' _ H' _ μ' g.fz (S'.setO (s := .ml ds) ⟨p, vs, rfl, h1, z, h2, h3, fun o j1 j2 => ?_⟩ fun j t a e1 e2 e3 e4 => ?_) q'
  · obtain ⟨k1, k2, _⟩ := S.grow.keep p o j1 j2
    exact h0 o k1 k2
  · obtain ⟨⟨o, ho⟩, hm⟩ := S.ownAt e1 e2 e3
    cases e4
    exact h0 o ho hm
def dFreeze (i : Nat) (t : DS) : DS := fun D ρ μ => match ρ[i]? with
  | some (.ml ds) => t D (ρ.set i (.dat (.lst ds))) μ
  | some (.md ks) => t D (ρ.set i (.dat (.dic ks))) μ
  | some (.dat _) => t D ρ μ
  | _ => False
theorem Sti.lock {B : Anchor} {F : Hp} {σ : L2.St} {H : Hp} {ρ : List Slot} {μ : Mu} (S : Sti B F σ H ρ μ) {i : Nat} {a : Addr} {ks : List (Key × D)} {kws : List (Key × V)} {od : Obj} (h1 : ρ[i]? = some (.md ks)) (h3 : σ[i]? = some (some (.ref a))) (h4 : H a = some (.dK kws)) (z : FzK F ks kws) (w : Own B F μ a) :
    Ex F (L2.upd F a (.frz od (.dK kws))) ∧ Sti B (L2.upd F a (.frz od (.dK kws))) σ (L2.upd H a (.frz od (.dK kws))) (ρ.set i (.dat (.dic ks))) μ := by
  obtain ⟨hF, hm, hB⟩ := w
  have e : Ex F (L2.upd F a (.frz od (.dK kws))) := Evl.Ex.new hF
  have S1 : Sti B F σ (L2.upd H a (.frz od (.dK kws))) (ρ.set i .no) μ := S.upd h1 rfl h3 (s := .no) True.intro
  have nd : ∀ (j : Nat) (t : Slot) (b : Addr), i ≠ j → ρ[j]? = some t → t.own = true → σ[j]? = some (some (.ref b)) → b ≠ a := fun j t b hj x1 x2 x3 hb => by
    rw [hb] at x3
    exact S.dist i j _ t a hj h1 x1 rfl x2 h3 x3
  refine ⟨e, S1.wd.frz upd_same hF hm, ⟨S1.grow.fz.trans e, fun b u x1 x2 => ?_⟩, by rw [List.length_set]; exact S.len, fun j s' v e1 e2 => ?_, fun j k s1 t' b hjk e1 e2 o1 o2 e3 e4 => ?_⟩
  · obtain ⟨k1, k2, k3⟩ := S1.grow.keep b u x1 x2
    refine ⟨k1, k2, fun x => ?_⟩
    have hb : b ≠ a := by
      rintro rfl
      exact hB u x1 x2
    rw [upd_ne hb]
    exact k3 x
  · by_cases hj : i = j
    · subst hj
      rw [List.getElem?_set] at e1
      simp only [if_true] at e1
      split at e1
      · cases e1
        rw [h3] at e2
        cases e2
        exact ⟨_, rfl, by unfold Fz; exact ⟨a, od, kws, rfl, upd_same, z.mono e⟩⟩
      · cases e1
    · rw [List.getElem?_set_ne hj] at e1
      have q := S1.slot j s' v (by rw [List.getElem?_set_ne hj]; exact e1) e2
      cases s' with
      | no => exact True.intro
      | fn _ _ _ _ => exact ⟨q.1, q.2.1, e _ _ q.2.2⟩
      | dat d =>
        obtain ⟨x, hx, z⟩ := q
        exact ⟨x, hx, z.mono e⟩
      | ml ds =>
        obtain ⟨b, vs, e', hb, z, w1, w2, w3⟩ := q
        have hba : b ≠ a := nd j _ b hj e1 rfl (by rw [e2, e'])
        exact ⟨b, vs, e', hb, z.mono e, by rw [upd_ne hba]; exact w1, w2, w3⟩
      | md ds =>
        obtain ⟨b, vs, e', hb, z, w1, w2, w3⟩ := q
        have hba : b ≠ a := nd j _ b hj e1 rfl (by rw [e2, e'])
        exact ⟨b, vs, e', hb, z.mono e, by rw [upd_ne hba]; exact w1, w2, w3⟩
  · have nj : ∀ (j : Nat) (s1 : Slot), (ρ.set i (.dat (.dic ks)))[j]? = some s1 → s1.own = true → ρ[j]? = some s1 := fun j s1 h o => by
      by_cases hj : i = j
      · subst hj
        rw [List.getElem?_set] at h
        simp only [if_true] at h
        split at h
        · cases h
          cases o
        · cases h
      · rw [List.getElem?_set_ne hj] at h
        exact h
    exact S.dist j k s1 t' b hjk (nj j s1 e1 o1) (nj k t' e2 o2) o1 o2 e3 e4
def tLk (t : TS) : TS := fun D σ H => t D σ H ∨ ∃ a u, H a = some (.dK u) ∧ ∀ od, t D σ (L2.upd H a (.frz od (.dK u)))
theorem ps_lk {st : Stmt} {t : TS} (h : PS X st t) : PS X st (tLk t) := ⟨fun pins s σ H D I hw => by
  rcases hw with hw | ⟨a, u, ha, hw⟩
  · exact h.run pins s σ H D I hw
  · obtain ⟨od, I1⟩ := I.lock ha True.intro
    exact h.run pins s σ _ D I1 (hw od)⟩
theorem sims_freeze {ts : TS} {t : DS} {i : Nat} (h : SimS W ts t) : SimS W (tLk ts) (dFreeze i t) := fun {B F σ H ρ μ Dd D} S q r => by
  unfold dFreeze at q
  split at q
  · rename_i ds hx
    obtain ⟨v, hv, a, vs, rfl, ha, z, w⟩ := S.get hx
    obtain ⟨e, S'⟩ := S.freeze (d := .lst ds) hx rfl hv ha (fz_lst (z.mono (Evl.Ex.new w.1)) upd_same)
    exact .inl (h S' q (r.go e))
  · rename_i ds hx
    obtain ⟨v, hv, a, vs, rfl, ha, z, w⟩ := S.get hx
    refine .inr ⟨a, vs, ha, fun od => ?_⟩
    obtain ⟨e, S'⟩ := S.lock (od := od) hx hv ha z w
    exact h S' q (r.go e)
  · exact .inl (h S q r)
  · exact q.elim
theorem s_freeze (i : Nat) {sts : Stmt} {t : DS} (h : PSD X W sts t) : PSD X W sts (dFreeze i t) := by
  obtain ⟨ts, a1, a2⟩ := h.ex
  exact ⟨_, ps_lk a1, sims_freeze a2⟩
def dApp (i : Nat) (a : DE) : DS := fun D ρ μ => match ρ[i]? with
  | some (.ml ds) => a ρ μ (fun d μ1 => ds.length < sizeLine ∧ D.nx (ρ.set i (.ml (ds ++ [d]))) μ1) (D.xc ρ)
  | _ => False
theorem s_app (i : Nat) {x : Str} {e : Expr} {de : DE} {p apos cpos : Pos} (he : PD X W e de) (hN : X.N[i]? = some x := by rfl) (hv : Vis X.env.scope x := by first | exact Or.inl rfl | exact Or.inr (Or.inl rfl) | exact Or.inr (Or.inr rfl))
    (hs : starEach (e :: []) X.env = (false, eval e X.env) :: starEach [] X.env := by rfl)
    (hd : (x == ("__debug__" : Str)) = false := by decide) (hcd : (x == ("__classdict__" : Str)) = false := by decide)
    (hbase : attributeBase (.Name x p) "append" X.env (eval (.Name x p) X.env) = eval (.Name x p) X.env := by rfl)
    (hfew : ((backTo cpos (starEach (e :: []) X.env)).all (fun x => !x.1) && (backToKw cpos (keywordEach [] X.env)).all (fun x => x.1.isSome)
      && decide ((e :: []).length + ([] : List Keyword).length + (if ([] : List Keyword).isEmpty then 0 else 1) < 30)) = true := by rfl)
    (hline : (apos.endLine == cpos.line) = true := by rfl) (hplain : (backTo cpos (starEach [] X.env)).any (·.1) = false := by rfl)
    (hs2 : swapsWith (.Call (.Attribute (.Name x p) "append" apos) [e] [] cpos) none pos.line X.env = pure false := by rfl) : PSD X W (.Expr (.Call (.Attribute (.Name x p) "append" apos) [e] [] cpos) pos) (dApp i de) := by
  obtain ⟨te, a1, a2⟩ := he.ex
  refine ⟨_, ps_expr (pe_bm PySem.F.plainAttrs_list PySem.F.slot_list_append PySem.F.type_list_append mt_append (pe_var hN hv hd hcd) (pa_cons a1 pa_nil hs) hbase hfew hline hs hplain) hs2, fun {B F σ H ρ μ Dd D} S q r => ?_⟩
  unfold dApp at q
  split at q
  · rename_i ds hx
    obtain ⟨v, hv, a, vs, rfl, ha, z, w⟩ := S.get hx
    refine ⟨_, hv, .inl ⟨rfl, vs, .of ha⟩, a2 S q r.gox fun y F' H' d μ' g S' z' q' => ?_⟩
    obtain ⟨v2, hv2, a2', vs2, e2, ha2, z2, w2⟩ := S'.get hx
    rw [hv] at hv2
    cases hv2
    cases e2
    refine ⟨a, vs2, y, rfl, rfl, ha2, by rw [z2.length]; exact q'.1, r.nx F' σ _ _ μ' g.fz (S'.upd (s := .ml (ds ++ [d])) hx rfl hv ⟨a, _, rfl, upd_same, (fzl_cons z' fzl_nil).append z2, w2⟩) q'.2⟩
  · exact q.elim
end
end DL

namespace DL
open PySem PySem.Spec PyProof.Rows L2

def W0 : WX := fun _ _ _ _ => False
def wipeS (ρ : List Slot) : List Nat → List Slot
  | [] => ρ
  | v :: vs => (wipeS ρ vs).set v .no
theorem Sti.wipe1 {B : Anchor} {F : Hp} {σ : L2.St} {H : Hp} {ρ : List Slot} {μ : Mu} (S : Sti B F σ H ρ μ) (i : Nat) : Sti B F (σ.set i none) H (ρ.set i .no) μ := by
  refine ⟨S.wd, S.grow, by rw [List.length_set, List.length_set]; exact S.len, fun j s w h1 h2 => ?_, fun j k s t a hjk h1 h2 o1 o2 e1 e2 => ?_⟩
  · by_cases hj : i = j
    · subst hj
      rw [List.getElem?_set] at h1
      simp only [if_true] at h1
      split at h1
      · cases h1
        exact True.intro
      · cases h1
    · rw [List.getElem?_set_ne hj] at h1 h2
      exact S.slot j s w h1 h2
  · have nj : ∀ (j : Nat) (s : Slot), (ρ.set i .no)[j]? = some s → s.own = true → i ≠ j ∧ ρ[j]? = some s := fun j s h o => by
      by_cases hj : i = j
      · subst hj
        rw [List.getElem?_set] at h
        simp only [if_true] at h
        split at h
        · cases h
          cases o
        · cases h
      · rw [List.getElem?_set_ne hj] at h
        exact ⟨hj, h⟩
    obtain ⟨n1, h1⟩ := nj j s h1 o1
    obtain ⟨n2, h2⟩ := nj k t h2 o2
    rw [List.getElem?_set_ne n1] at e1
    rw [List.getElem?_set_ne n2] at e2
    exact S.dist j k s t a hjk h1 h2 o1 o2 e1 e2
theorem Sti.wipe {B : Anchor} {F : Hp} {σ : L2.St} {H : Hp} {ρ : List Slot} {μ : Mu} (S : Sti B F σ H ρ μ) : ∀ vs : List Nat, Sti B F (L2.wipe σ vs) H (wipeS ρ vs) μ
  | [] => S
  | v :: vs => (S.wipe vs).wipe1 v
theorem wipe_set {σ : L2.St} {x : Option V} : ∀ {vs : List Nat} {i : Nat}, i ∈ vs → L2.wipe (σ.set i x) vs = L2.wipe σ vs
  | [], _, h => by cases h
  | v :: vs, i, h => by
    show (L2.wipe (σ.set i x) vs).set v none = (L2.wipe σ vs).set v none
    by_cases hv : i ∈ vs
    · rw [wipe_set hv]
    · have hiv : i = v := by
        rcases List.mem_cons.mp h with e | e
        · exact e
        · exact absurd e hv
      subst hiv
      have comm : ∀ (vs : List Nat) (σ : L2.St), i ∉ vs → L2.wipe (σ.set i x) vs = (L2.wipe σ vs).set i x := by
        intro vs
        induction vs with
        | nil => intro σ _; rfl
        | cons w ws ih =>
          intro σ hn
          show (L2.wipe (σ.set i x) ws).set w none = ((L2.wipe σ ws).set w none).set i x
          rw [ih σ fun z => hn (List.mem_cons_of_mem _ z)]
          exact List.set_comm _ _ fun z => hn (z ▸ List.mem_cons_self)
      rw [comm vs σ hv, List.set_set]
theorem wipe_wipe {σ : L2.St} : ∀ {vs ws : List Nat}, (∀ i ∈ ws, i ∈ vs) → L2.wipe (L2.wipe σ ws) vs = L2.wipe σ vs
  | vs, [], _ => rfl
  | vs, w :: ws, h => by
    show L2.wipe ((L2.wipe σ ws).set w none) vs = _
    rw [wipe_set (h w List.mem_cons_self), wipe_wipe fun i hi => h i (List.mem_cons_of_mem _ hi)]
def Keeps (g : TG) (vs : List Nat) : Prop := ∀ (x : V) (σ : L2.St) (H : Hp) (Q : L2.St → Hp → Prop), g x σ H Q → g x σ H fun σ2 H2 => L2.wipe σ2 vs = L2.wipe σ vs ∧ Q σ2 H2
def KeepsS (g : TGs) (vs : List Nat) : Prop := ∀ (xs : List V) (σ : L2.St) (H : Hp) (Q : L2.St → Hp → Prop), g xs σ H Q → g xs σ H fun σ2 H2 => L2.wipe σ2 vs = L2.wipe σ vs ∧ Q σ2 H2
structure PVD (X : Cx) (vs : List Nat) (tg : Expr) (t : DG) : Prop where
  ex : ∃ g, PG X tg g ∧ SimG g t ∧ Keeps g vs ∧ ∀ x σ H Q Q', g x σ H Q → (∀ σ H, Q σ H → Q' σ H) → g x σ H Q'
structure PVsD (X : Cx) (vs : List Nat) (tg : List Expr) (t : DGs) : Prop where
  ex : ∃ g, PGs X tg g ∧ SimGs g t ∧ KeepsS g vs ∧ ∀ x σ H Q Q', g x σ H Q → (∀ σ H, Q σ H → Q' σ H) → g x σ H Q'
section
variable {X : Cx} {pos : Pos} {vs : List Nat}
theorem v_name {i : Nat} {x : Str} (hm : i ∈ vs) (hN : X.N.Nodup) (hi : X.N[i]? = some x) (hx : Loc X.env.scope x) (hf : X.fn x = true ∨ X.env.scope.names.lookup x = some .local := by first | exact .inl rfl | exact .inr rfl | assumption) : PVD X vs (.Name x pos) (dgName i) :=
  ⟨_, pg_name hN hi hx hf, simg_name, fun x σ H Q q => ⟨wipe_set hm, q⟩, fun x σ H Q Q' q k => k _ _ q⟩
theorem v_nil : PVsD X vs [] dgNil := ⟨_, pgs_nil, fun {B F σ H ρ μ xs ds Qd Q} S z q k => by
  obtain ⟨rfl, q⟩ := q
  exact ⟨fzl_inv0 z, k F σ H ρ μ .refl S q⟩, fun x σ H Q q => ⟨q.1, rfl, q.2⟩, fun x σ H Q Q' q k => ⟨q.1, k _ _ q.2⟩⟩
theorem v_cons {e : Expr} {es : List Expr} {t : DG} {u : DGs} (h1 : PVD X vs e t) (h2 : PVsD X vs es u) (hs : (assignEach (e :: es) X.env).map (·.2) = assign e X.env :: (assignEach es X.env).map (·.2) := by rfl) : PVsD X vs (e :: es) (dgCons t u) := by
  obtain ⟨g, a1, a2, a3, a4⟩ := h1.ex
  obtain ⟨gs, b1, b2, b3, b4⟩ := h2.ex
  refine ⟨_, pgs_cons a1 b1 hs, fun {B F σ H ρ μ xs ds Qd Q} S z q k => ?_, fun x σ H Q ⟨v, r, e, q⟩ => ⟨v, r, e, ?_⟩, fun x σ H Q Q' ⟨v, r, e, q⟩ k => ⟨v, r, e, ?_⟩⟩
  · cases ds with
    | nil => exact q.elim
    | cons d ds =>
      obtain ⟨v, r, e, z1, z2⟩ := fzl_inv z
      exact ⟨v, r, e, a2 S z1 q fun F1 σ1 H1 ρ1 μ1 e1 S1 q1 => b2 S1 (z2.mono e1.fz) q1 fun F2 σ2 H2 ρ2 μ2 e2 => k F2 σ2 H2 ρ2 μ2 (e1.trans e2)⟩
  · refine a4 _ _ _ _ _ (a3 _ _ _ _ q) fun σ1 H1 ⟨e1, q1⟩ => b4 _ _ _ _ _ (b3 _ _ _ _ q1) fun σ2 H2 ⟨e2, q2⟩ => ⟨e2.trans e1, q2⟩
  · exact a4 _ _ _ _ _ q fun σ1 H1 q1 => b4 _ _ _ _ _ q1 k
theorem v_tup {es : List Expr} {k : Nat} {t : DGs} {n : Nat} (hc : X.calm = true) (h : PVsD X vs es t) (hn : (assignEach es X.env).length = n := by rfl) (hst : (assignEach es X.env).findIdx? (·.1) = none := by rfl) : PVD X vs (.Tuple es k pos) (dgTup n t) := by
  obtain ⟨g, a1, a2, a3, a4⟩ := h.ex
  exact ⟨_, pg_seq hc a1 hn hst, simg_tup a2, fun x σ H Q h => h.elim (fun ⟨a, xs, e, hq, hl, q⟩ => .inl ⟨a, xs, e, hq, hl, a3 _ _ _ _ q⟩) (fun ⟨a, xs, e, hq, hl, q⟩ => .inr ⟨a, xs, e, hq, hl, a3 _ _ _ _ q⟩),
    fun x σ H Q Q' h k => h.elim (fun ⟨a, xs, e, hq, hl, q⟩ => .inl ⟨a, xs, e, hq, hl, a4 _ _ _ _ _ q k⟩) (fun ⟨a, xs, e, hq, hl, q⟩ => .inr ⟨a, xs, e, hq, hl, a4 _ _ _ _ _ q k⟩)⟩
end
theorem Sti.updN {B : Anchor} {F : Hp} {σ : L2.St} {H : Hp} {ρ : List Slot} {μ : Mu} (S : Sti B F σ H ρ μ) {p : Addr} {o : HO} (hF : F p = none) (hm : μ p = none) (hB : ∀ o, B.H p = some o → B.μ p = none → False)
    (hs : ∀ (j : Nat) (t : Slot) (a : Addr), ρ[j]? = some t → t.own = true → σ[j]? = some (some (.ref a)) → a ≠ p) (ho : ∀ vs, o ≠ .tup vs := by exact fun _ z => nomatch z) : Sti B F σ (L2.upd H p o) ρ μ := by
  refine ⟨⟨fun b u e => by rw [upd_ne (ne_of_none e hF)]; exact S.wd.ext b u e, fun b u e => ?_, fun b vs e => by
    by_cases hb : b = p
    · subst hb
      rw [upd_same] at e
      exact (ho vs (Option.some.inj e)).elim
    · rw [upd_ne hb] at e
      exact S.wd.tup b vs e⟩, ⟨S.grow.fz, fun b u x1 x2 => ?_⟩, S.len, fun j s w e1 e2 => ?_, S.dist⟩
  · obtain ⟨q1, q2⟩ := S.wd.mu b u e
    have hb : b ≠ p := by
      rintro rfl
      rw [hm] at e
      cases e
    exact ⟨q1.mono (Evl.Ex.refl _) fun v hv => by rw [upd_ne hb]; exact hv, q2⟩
  · obtain ⟨k1, k2, k3⟩ := S.grow.keep b u x1 x2
    have hb : b ≠ p := by
      rintro rfl
      exact hB u x1 x2
    exact ⟨by rw [upd_ne hb]; exact k1, k2, k3⟩
  · have q := S.slot j s w e1 e2
    cases s with
    | no => exact True.intro
    | fn _ _ _ _ => exact q
    | dat d => exact q
    | ml ds =>
      obtain ⟨a, vs, rfl, ha, z, w1⟩ := q
      exact ⟨a, vs, rfl, by rw [upd_ne (hs j _ a e1 rfl e2)]; exact ha, z, w1⟩
    | md ds =>
      obtain ⟨a, vs, rfl, ha, z, w1⟩ := q
      exact ⟨a, vs, rfl, by rw [upd_ne (hs j _ a e1 rfl e2)]; exact ha, z, w1⟩
structure PTsD (X : Cx) (W : WX) (ifs : List Expr) (t : DT) : Prop where
  ex : ∃ tt, PTs X ifs tt ∧ SimT W tt t
def dYes : DT := fun _ μ Q _ => Q true μ
section
variable {X : Cx} {W : WX} {c : Expr} {t : DT}
theorem ts_nil : PTsD X W [] dYes := ⟨_, pts_nil, fun {B F σ H ρ μ Qd Xd Q} S q gx k => k true F H μ .refl S q⟩
theorem ts_one (h : PTD X W c t) : PTsD X W [c] t := by
  obtain ⟨u, h1, h2⟩ := h.ex
  exact ⟨u, pts_one h1, h2⟩
end
def dLcGo (g : DG) (tt : DT) (te : DE) (ρ : List Slot) (Q : List D → Mu → Prop) (Z : DXQ) : List D → List D → Mu → Prop
  | [], acc, μ => Q acc μ
  | x :: xs, acc, μ => g x ρ μ fun ρ1 μ1 => tt ρ1 μ1 (fun b μ2 => if b = true then te ρ1 μ2 (fun d μ3 => acc.length < sizeLine ∧ dLcGo g tt te ρ Q Z xs (acc ++ [d]) μ3) (fun _ _ => False) else dLcGo g tt te ρ Q Z xs acc μ2) (fun _ _ => False)
def dLc (i : DI) (g : DG) (tt : DT) (te : DE) (vs : List Nat) : DI := fun ρ μ Q Z => i ρ μ (fun ds μ1 => dLcGo g tt te (wipeS ρ vs) Q Z ds [] μ1) Z
theorem simo_lc {W : WX} {wi : TI} {g : TG} {tt : TT} {te : TE} {di : DI} {dg : DG} {dt : DT} {de : DE} {vs : List Nat} (hi : SimI W wi di) (hg : SimG g dg) (hk : Keeps g vs) (hm : ∀ x σ H Q Q', g x σ H Q → (∀ σ H, Q σ H → Q' σ H) → g x σ H Q')
    (ht : SimT W0 tt dt) (he : Sim W0 te de) : SimO W (tLc wi g tt te vs) (dLc di dg dt de vs) := fun {B F σ H ρ μ Qd Xd Q} S q gx k =>
  hi S q gx fun J F1 H1 ds μ1 g1 S1 wk q1 p hp => by
    obtain ⟨hF, hm1⟩ := S1.wd.free hp
    -- between the turns: a state without the new list, and the new list
    let P : Nat → Hp → Prop := fun i H' => ∃ F2 μ2 acc vacc, Grow F1 μ1 H1 F2 μ2 H' ∧ Sti B F2 σ H' ρ μ2 ∧ H' p = some (.lst vacc) ∧ F2 p = none ∧ μ2 p = none ∧ FzL F2 acc vacc ∧ dLcGo dg dt de (wipeS ρ vs) Qd Xd (ds.drop i) acc μ2
    obtain ⟨W', g'⟩ := S1.wd.own (o := .lst []) hp
    refine ⟨fun i m H' => m = ds.length - i ∧ i ≤ ds.length ∧ P i H', ⟨ds.length, rfl, Nat.zero_le _, F1, μ1, [], [], g', S1.go g' W', upd_same, hF, hm1, fzl_nil, q1⟩, ?_⟩
    rintro i m H2 ⟨rfl, hi, F2, μ2, acc, vacc, g2, S2, h2, hF2, hm2, z2, q2⟩
    obtain ⟨w1, w2, w3⟩ := wk F2 μ2 H2 g2.fz S2.wd
    by_cases hlt : i < ds.length
    · obtain ⟨d, hd⟩ : ∃ d, ds[i]? = some d := ⟨_, List.getElem?_eq_getElem hlt⟩
      rw [drop_cons hd] at q2
      refine .inr ⟨w1 i hlt, fun H' => P (i + 1) H', fun H' hN => ⟨ds.length - (i + 1), by omega, rfl, hlt, hN⟩, fun x H3 hy => ?_⟩
      obtain ⟨F3, g3, W3, z3⟩ := w2 i d x H3 hd hy
      have S3 := (S2.go g3 W3).wipe vs
      refine hm _ _ _ _ _ (hk _ _ _ _ (hg S3 z3 q2 (Q := fun σ2 H2 => tt σ2 H2 fun b H3 => if b = true then te σ2 H3 fun y H4 => ∃ acc, H4 p = some (.lst acc) ∧ acc.length < sizeLine ∧ P (i + 1) (upd H4 p (.lst (acc ++ [y]))) else P (i + 1) H3) ?_))
        fun σ4 H4 ⟨e4, q4⟩ => ⟨by rw [e4]; exact wipe_wipe fun _ h => h, q4⟩
      intro F4 σ4 H4 ρ4 μ4 g4 S4 q4
      have gx0 : ∀ {F : Hp} {σ : L2.St} {H : Hp} {ρ : List Slot} {μ : Mu}, GoX W0 B F σ H ρ μ (fun _ _ => False) := fun {F σ H ρ μ} cls dd F' H' x μ' g S z q => q.elim
      refine ht S4 q4 gx0 fun b F5 H5 μ5 g5 S5 q5 => ?_
      have h5 := ((g3.trans g4).trans g5).keep p _ h2 hm2
      have S5' := S2.go ((g3.trans g4).trans g5) S5.wd
      cases b with
      | false =>
        rw [if_neg (by decide)] at q5 ⊢
        exact ⟨F5, μ5, acc, vacc, g2.trans ((g3.trans g4).trans g5), S5', h5.1, h5.2.2 hF2, h5.2.1, z2.mono ((g3.trans g4).trans g5).fz, q5⟩
      | true =>
        rw [if_pos rfl] at q5 ⊢
        refine he S5 q5 gx0 fun y F6 H6 d6 μ6 g6 S6 z6 q6 => ?_
        have gg := ((g3.trans g4).trans g5).trans g6
        have h6 := gg.keep p _ h2 hm2
        have S6' := S2.go gg S6.wd
        have g7 := g2.trans gg
        refine ⟨vacc, h6.1, by rw [z2.length]; exact q6.1, F6, μ6, acc ++ [d6], vacc ++ [y], ⟨g7.fz, fun b o x1 x2 => ?_⟩, ?_, upd_same, h6.2.2 hF2, h6.2.1, (fzl_cons z6 fzl_nil).append (z2.mono gg.fz), q6.2⟩
        · obtain ⟨k1, k2, k3⟩ := g7.keep b o x1 x2
          exact ⟨by rw [upd_ne (ne_of_none x1 hp)]; exact k1, k2, k3⟩
        · exact S6'.updN (h6.2.2 hF2) h6.2.1 (S1.fresh hp) fun j t a e1 e2 e3 => by
            obtain ⟨⟨o, ho⟩, _⟩ := S1.ownAt e1 e2 e3
            exact ne_of_none ho hp
    · have e : i = ds.length := by omega
      subst e
      rw [List.drop_length] at q2
      exact .inl ⟨w3, k p vacc F2 H2 acc μ2 (g1.trans g2) S2 ((NewAt.of hp).back g1) h2 hF2 hm2 z2 q2⟩

section
variable {X : Cx} {W : WX}
abbrev BlkI := Shared × Hp × Addr × List (Str × Addr) × List Addr
abbrev blkF (X : Cx) (scope : Scope) (i : BlkI) : Cx := X.blk i.1 i.2.1 scope (compEnvC scope i.2.2.2.1 i.2.2.1 X.env) i.2.2.2.2
theorem fam_pd {ι : Type} {Y : ι → Cx} {W : WX} {e : Expr} {t : DE} (h : ∀ i, PD (Y i) W e t) : ∃ te, (∀ i, PE (Y i) e te) ∧ Sim W te t :=
  ⟨fun σ H Q => ∀ i, Classical.choose (h i).ex σ H Q, fun i => ⟨fun pins s σ H Q I q => (Classical.choose_spec (h i).ex).1.run pins s σ H Q I (q i)⟩,
    fun {B F σ H ρ μ Qd Xd Q} S q gx k i => (Classical.choose_spec (h i).ex).2 S q gx k⟩
theorem fam_ts {ι : Type} {Y : ι → Cx} {W : WX} {e : List Expr} {t : DT} (h : ∀ i, PTsD (Y i) W e t) : ∃ te, (∀ i, PTs (Y i) e te) ∧ SimT W te t :=
  ⟨fun σ H Q => ∀ i, Classical.choose (h i).ex σ H Q, fun i => ⟨fun pins s σ H Q I q => (Classical.choose_spec (h i).ex).1.run pins s σ H Q I (q i)⟩,
    fun {B F σ H ρ μ Qd Xd Q} S q gx k i => (Classical.choose_spec (h i).ex).2 S q gx k⟩
theorem fam_vd {ι : Type} {Y : ι → Cx} {vs : List Nat} {e : Expr} {t : DG} (h : ∀ i, PVD (Y i) vs e t) : ∃ g, (∀ i, PG (Y i) e g) ∧ SimG g t ∧ Keeps g vs ∧ ∀ x σ H Q Q', g x σ H Q → (∀ σ H, Q σ H → Q' σ H) → g x σ H Q' :=
  ⟨fun x σ H Q => ∀ i, Classical.choose (h i).ex x σ H Q, fun i => ⟨fun pins s σ H v u Q I r q => (Classical.choose_spec (h i).ex).1.run pins s σ H v u Q I r (q i)⟩,
    fun {B F σ H ρ μ x d Qd Q} S z q k i => (Classical.choose_spec (h i).ex).2.1 S z q k, fun x σ H Q q i => (Classical.choose_spec (h i).ex).2.2.1 x σ H Q (q i),
    fun x σ H Q Q' q k i => (Classical.choose_spec (h i).ex).2.2.2 x σ H Q Q' (q i) k⟩
variable {elt tg iter : Expr} {ifs : List Expr} {scope : Scope} {own : List (Str × Nat)} {pos : Pos} {di : DI} {dg : DG} {dt : DT} {de : DE}
theorem o_lc (hc : X.calm = true) (hN : X.N.Nodup) (hi : PID X W tg iter di) (ok : BlkOk X.N X.env.scope scope own) (hg : ∀ i : BlkI, PVD (blkF X scope i) (own.map (·.2)) tg dg) (ht : ∀ i : BlkI, PTsD (blkF X scope i) W0 ifs dt) (he : ∀ i : BlkI, PD (blkF X scope i) W0 elt de)
    (hs : ∀ x, foldedSetIterable iter X.env x = pure x := by intro _; rfl) : PO X W (.ListComp elt [⟨tg, iter, ifs, 0⟩] scope pos) (dLc di dg dt de (own.map (·.2))) := by
  obtain ⟨wi, a1, a2⟩ := hi.ex
  obtain ⟨g, b1, b2, b3, b4⟩ := fam_vd hg
  obtain ⟨tt, c1, c2⟩ := fam_ts ht
  obtain ⟨te, d1, d2⟩ := fam_pd he
  exact ⟨_, pe_lc hc hN a1 ok (fun s H C cl fp => b1 (s, H, C, cl, fp)) (fun s H C cl fp => c1 (s, H, C, cl, fp)) (fun s H C cl fp => d1 (s, H, C, cl, fp)) hs, simo_lc a2 b2 b3 b4 c2 d2⟩
theorem s_setLcO {i : Nat} {y : Str} {py spos : Pos} (hc : X.calm = true) (hN : X.N.Nodup) (hy : X.N[i]? = some y) (hyl : X.env.scope.names.lookup y = some .local)
    (hsw : swapsWith (.ListComp elt [⟨tg, iter, ifs, 0⟩] scope pos) (some (.Name y py)) spos.line X.env = pure true) (hi : PID X W tg iter di) (ok : BlkOk X.N X.env.scope scope own) (hg : ∀ i : BlkI, PVD (blkF X scope i) (own.map (·.2)) tg dg) (ht : ∀ i : BlkI, PTsD (blkF X scope i) W0 ifs dt)
    (he : ∀ i : BlkI, PD (blkF X scope i) W0 elt de) (hs : ∀ x, foldedSetIterable iter X.env x = pure x := by intro _; rfl) : PSD X W (.Assign [.Name y py] (.ListComp elt [⟨tg, iter, ifs, 0⟩] scope pos) spos) (dSetO i (dLc di dg dt de (own.map (·.2)))) := by
  obtain ⟨wi, a1, a2⟩ := hi.ex
  obtain ⟨g, b1, b2, b3, b4⟩ := fam_vd hg
  obtain ⟨tt, c1, c2⟩ := fam_ts ht
  obtain ⟨te, d1, d2⟩ := fam_pd he
  refine ⟨_, ps_setLc hc hN hy hyl hsw a1 ok (fun s H C cl fp => b1 (s, H, C, cl, fp)) (fun s H C cl fp => c1 (s, H, C, cl, fp)) (fun s H C cl fp => d1 (s, H, C, cl, fp)) hs, fun {B F σ H ρ μ Dd D} S q r => simo_lc a2 b2 b3 b4 c2 d2 S q r.gox fun p vs F' H' ds μ' g S' h0 h1 h2 h3 z q' => ?_⟩
  refine r.nx F' _ H' _ μ' g.fz (S'.setO (s := .ml ds) ⟨p, vs, rfl, h1, z, h2, h3, fun o j1 j2 => ?_⟩ fun j t a e1 e2 e3 e4 => ?_) q'
  · obtain ⟨k1, k2, _⟩ := S.grow.keep p o j1 j2
    exact h0 o k1 k2
  · obtain ⟨⟨o, ho⟩, hm⟩ := S.ownAt e1 e2 e3
    cases e4
    exact h0 o ho hm
end
def tLkNx (t : TS) : TS := fun D σ H => t { D with nx := tLk tNext D } σ H
theorem ps_lkNx {X : Cx} {st : Stmt} {t : TS} (h : PS X st t) : PS X st (tLkNx t) := ⟨fun pins s σ H D I hw => by
  refine thn (h.run pins s σ H _ I hw) fun f s1 q => ?_
  cases f with
  | next =>
    obtain ⟨σ', H', I2, q⟩ := q
    rcases q with q | ⟨a, u, ha, q⟩
    · exact ⟨σ', H', I2, q⟩
    · obtain ⟨od, I3⟩ := I2.lock ha True.intro
      exact ⟨σ', _, I3, q od⟩
  | brk => exact q
  | cont => exact q
  | ret v => exact q⟩
theorem sims_then {W : WX} {ts : TS} {t : DS} {i : Nat} (h : SimS W ts t) : SimS W (tLkNx ts) (dSeq t (dFreeze i dNext)) := fun {B F σ H ρ μ Dd D} S q r =>
  h S q ⟨fun F2 σ2 H2 ρ2 μ2 e2 S2 q2 => sims_freeze (ts := tNext) (fun {B F σ H ρ μ Dd D} S q r => r.nx F σ H ρ μ (Evl.Ex.refl _) S q) S2 q2 (r.go e2), r.bk, r.ct, r.rt, r.xc⟩
theorem s_then {X : Cx} {W : WX} {st : Stmt} {t : DS} (i : Nat) (h : PSD X W st t) : PSD X W st (dSeq t (dFreeze i dNext)) := by
  obtain ⟨ts, a1, a2⟩ := h.ex
  exact ⟨_, ps_lkNx a1, sims_then a2⟩
end DL

namespace DL
open PySem PySem.Spec PyProof.Rows L2

inductive BzL (F : Hp) (μ : Mu) (H : Hp) : List D → List V → Prop
  | nil : BzL F μ H [] []
  | cons {d ds v vs} : Bz F μ H d v → BzL F μ H ds vs → BzL F μ H (d :: ds) (v :: vs)
theorem BzL.go {F F' : Hp} {μ μ' : Mu} {H H' : Hp} (g : Grow F μ H F' μ' H') : ∀ {ds : List D} {vs : List V}, BzL F μ H ds vs → BzL F' μ' H' ds vs
  | _, _, .nil => .nil
  | _, _, .cons h r => .cons (h.go g) (r.go g)
def SimAB (W : WX) (ta : TA) (t : DA) : Prop := ∀ {B : Anchor} {F : Hp} {σ : L2.St} {H : Hp} {ρ : List Slot} {μ : Mu} {Qd : List D → Mu → Prop} {Xd : DXQ} {Q : List V → Hp → Prop}, Sti B F σ H ρ μ → t ρ μ Qd Xd → GoX W B F σ H ρ μ Xd →
  (∀ vs F' H' ds μ', Grow F μ H F' μ' H' → Sti B F' σ H' ρ μ' → BzL F' μ' H' ds vs → Qd ds μ' → Q vs H') → ta σ H Q
structure PAB (X : Cx) (W : WX) (es : List Expr) (t : DA) : Prop where
  ex : ∃ ta, PA X es ta ∧ SimAB W ta t
section
variable {X : Cx} {W : WX} {e : Expr} {es : List Expr} {de : DE} {ds : DA} {pos : Pos}
theorem b_nil : PAB X W [] dNil := ⟨_, pa_nil, fun {B F σ H ρ μ Qd Xd Q} S q gx k => k [] F H [] μ .refl S .nil q⟩
theorem b_cons (ha : PB X W e de) (hr : PAB X W es ds) (hs : starEach (e :: es) X.env = (false, eval e X.env) :: starEach es X.env := by rfl) : PAB X W (e :: es) (dCons de ds) := by
  obtain ⟨ta, a1, a2⟩ := ha.ex
  obtain ⟨tr, r1, r2⟩ := hr.ex
  refine ⟨_, pa_cons a1 r1 hs, fun {B F σ H ρ μ Qd Xd Q} S q gx k => a2 S q gx fun v F1 H1 d μ1 g1 S1 z1 q1 => r2 S1 q1 (gx.go g1) fun vs F2 H2 ds μ2 g2 S2 z2 q2 => ?_⟩
  exact k _ F2 H2 _ μ2 (g1.trans g2) S2 (.cons (z1.go g2) z2) q2
def dStar (a : DE) (r : DA) : DA := fun ρ μ Q X => a ρ μ (fun d μ1 => match d with
  | .tup xs | .lst xs => r ρ μ1 (fun ds μ2 => Q (xs ++ ds) μ2) X
  | _ => False) X
theorem a_star {p : Pos} (ha : PB X W e de) (hr : PAD X W es ds) (hs : starEach (.Starred e p :: es) X.env = (true, eval e X.env) :: starEach es X.env := by rfl) : PAD X W (.Starred e p :: es) (dStar de ds) := by
  obtain ⟨ta, a1, a2⟩ := ha.ex
  obtain ⟨tr, r1, r2⟩ := hr.ex
  refine ⟨_, StX.pa_star a1 r1 hs, fun {B F σ H ρ μ Qd Xd Q} S q gx k => a2 S q gx fun v F1 H1 d μ1 g1 S1 z1 q1 => ?_⟩
  split at q1
  · rename_i xs
    obtain ⟨a, vs, rfl, h1, f1, z⟩ := bz_tup S1.wd z1
    exact ⟨a, vs, rfl, .inl (.of h1), r2 S1 q1 (gx.go g1) fun ws F2 H2 ds μ2 g2 S2 z2 q2 => k _ F2 H2 _ μ2 (g1.trans g2) S2 (z2.append (z.mono g2.fz)) q2⟩
  · rename_i xs
    obtain ⟨a, vs, rfl, h1, m1, z⟩ := bz_lst z1
    exact ⟨a, vs, rfl, .inr (.of h1), r2 S1 q1 (gx.go g1) fun ws F2 H2 ds μ2 g2 S2 z2 q2 => k _ F2 H2 _ μ2 (g1.trans g2) S2 (z2.append (z.mono g2.fz)) q2⟩
  · exact q1.elim
end

abbrev DC := List D → (D → Prop) → Prop
def SimC (r : List V → Hp → VK → Prop) (dr : DC) : Prop := ∀ {F : Hp} {μ : Mu} {H : Hp} {vs : List V} {ds : List D} {Qd : D → Prop} {Q : VK}, Wd F μ H → BzL F μ H ds vs → dr ds Qd →
  (∀ v F' H' d, Grow F μ H F' μ H' → Wd F' μ H' → Fz F' d v → Qd d → Q v H') → r vs H Q
def dCB (dr : DC) (a : DA) : DE := fun ρ μ Q X => a ρ μ (fun ds μ1 => dr (ds.map (rdD μ1)) fun d => Q d μ1) X
theorem BzL.rd {F : Hp} {μ : Mu} {H : Hp} (W : Wd F μ H) : ∀ {ds : List D} {vs : List V}, BzL F μ H ds vs → BzL F mu0 H (ds.map (rdD μ)) vs
  | _, _, .nil => .nil
  | _, _, .cons h r => .cons (h.rd W) (r.rd W)
theorem sim_cb {W : WX} {r : List V → Hp → VK → Prop} {dr : DC} {ta : TA} {a : DA} (h : SimC r dr) (ha : SimAB W ta a) : Sim W (tCB r ta) (dCB dr a) := fun {B F σ H ρ μ Qd Xd Q} S q gx k =>
  ha S q gx fun vs F1 H1 ds μ1 g1 S1 z1 q1 => h S1.wd.mu0 (z1.rd S1.wd) q1 fun v F2 H2 d g2 W2 z2 q2 => by
    obtain ⟨g2, W2⟩ := Grow.of0 S1.wd g2 W2
    exact k v F2 H2 d μ1 (g1.trans g2) (S1.go g2 W2) z2 q2
section
variable {X : Cx} {W : WX} {x : Str} {p pos : Pos} {e : Expr} {es : List Expr} {a : DA}
theorem d_callB {id : String} {r : List V → Hp → VK → Prop} {dr : DC} (hc : CallR X (.builtin id) r) (hr : SimC r dr) (hm : X.mg x = none) (hv : bootBuiltins x = some (.builtin id)) (ha : PAB X W (e :: es) a) (hg : Gl X x := by rfl) (hn : x ≠ "__name__" := by decide) (hdb : (x == ("__debug__" : Str)) = false := by decide)
    (he : starEach (e :: es) X.env = (false, eval e X.env) :: starEach es X.env := by rfl) (hpl : (backTo pos (starEach es X.env)).any (·.1) = false := by rfl) : PD X W (.Call (.Name x p) (e :: es) [] pos) (dCB dr a) := by
  obtain ⟨ta, a1, a2⟩ := ha.ex
  exact ⟨_, pe_callB hc hg hm hv a1 hn hdb he hpl, sim_cb hr a2⟩
theorem d_callTy {T : String} {r : List V → Hp → VK → Prop} {dr : DC} (hc : CallR X (.type T) r) (hr : SimC r dr) (hm : X.mg x = none) (hv : bootBuiltins x = some (.type T)) (ha : PAB X W (e :: es) a) (hg : Gl X x := by rfl) (hn : x ≠ "__name__" := by decide) (hdb : (x == ("__debug__" : Str)) = false := by decide)
    (he : starEach (e :: es) X.env = (false, eval e X.env) :: starEach es X.env := by rfl) (hpl : (backTo pos (starEach es X.env)).any (·.1) = false := by rfl) : PD X W (.Call (.Name x p) (e :: es) [] pos) (dCB dr a) := by
  obtain ⟨ta, a1, a2⟩ := ha.ex
  exact ⟨_, pe_callTy hc hg hm hv a1 hn hdb he hpl, sim_cb hr a2⟩
end
theorem bzl_inv {F : Hp} {μ : Mu} {H : Hp} {d : D} {ds : List D} {vs : List V} (h : BzL F μ H (d :: ds) vs) : ∃ v r, vs = v :: r ∧ Bz F μ H d v ∧ BzL F μ H ds r := by
  cases h with
  | cons h r => exact ⟨_, _, rfl, h, r⟩
theorem bzl_inv0 {F : Hp} {μ : Mu} {H : Hp} {vs : List V} (h : BzL F μ H [] vs) : vs = [] := by
  cases h
  rfl
def dLen : DC := fun ds Q => match ds with
  | [.lst xs] => Q (.int xs.length)
  | [.tup xs] => Q (.int xs.length)
  | [.str z] => z.length ≤ sizeLine ∧ Q (.int z.length)
  | _ => False
theorem sim_len {K : PySem.W.Frag} : SimC (fun xs H Q => ∃ x n, xs = [x] ∧ LenV K x H n ∧ Q (.int n) H) dLen := fun {F μ H vs ds Qd Q} W z q k => by
  unfold dLen at q
  split at q
  · rename_i xs
    obtain ⟨v, r, rfl, z1, z2⟩ := bzl_inv z
    rw [bzl_inv0 z2]
    obtain ⟨a, ws, rfl, h1, _, z3⟩ := bz_lst z1
    exact ⟨_, xs.length, rfl, .inl ⟨ws, .of h1, z3.length.symm⟩, k _ F H _ .refl W fz_int q⟩
  · rename_i xs
    obtain ⟨v, r, rfl, z1, z2⟩ := bzl_inv z
    rw [bzl_inv0 z2]
    obtain ⟨a, ws, rfl, h1, _, z3⟩ := bz_tup W z1
    exact ⟨_, xs.length, rfl, .inr ⟨ws, .of h1, z3.length.symm⟩, k _ F H _ .refl W fz_int q⟩
  · rename_i y
    obtain ⟨v, r, rfl, z1, z2⟩ := bzl_inv z
    rw [bzl_inv0 z2, bz_str z1]
    exact ⟨_, y.length, rfl, ⟨q.1, rfl⟩, k _ F H _ .refl W fz_int q.2⟩
  · exact q.elim
def dI1 (g : Int → D) : DC := fun ds Q => match ds with
  | [.int i] => Q (g i)
  | _ => False
theorem sim_I1 {g : Int → V} {g' : Int → D} (h : ∀ F i, Fz F (g' i) (g i)) : SimC (fun xs H Q => ∃ i, xs = [.int i] ∧ Q (g i) H) (dI1 g') := fun {F μ H vs ds Qd Q} W z q k => by
  unfold dI1 at q
  split at q
  · rename_i i
    obtain ⟨v, r, rfl, z1, z2⟩ := bzl_inv z
    rw [bzl_inv0 z2, bz_int z1]
    exact ⟨i, rfl, k _ F H _ .refl W (h F i) q⟩
  · exact q.elim
def dAbs : DC := dI1 fun i => .int (if i < 0 then -i else i)
def dI2 (g : Int → Int → D) : DC := fun ds Q => match ds with
  | [.int i, .int j] => Q (g i j)
  | _ => False
theorem sim_I2 {g : Int → Int → V} {g' : Int → Int → D} (h : ∀ F i j, Fz F (g' i j) (g i j)) : SimC (fun xs H Q => ∃ i j, xs = [.int i, .int j] ∧ Q (g i j) H) (dI2 g') := fun {F μ H vs ds Qd Q} W z q k => by
  unfold dI2 at q
  split at q
  · rename_i i j
    obtain ⟨v, r, rfl, z1, z2⟩ := bzl_inv z
    obtain ⟨v2, r2, rfl, z3, z4⟩ := bzl_inv z2
    rw [bzl_inv0 z4, bz_int z1, bz_int z3]
    exact ⟨i, j, rfl, k _ F H _ .refl W (h F i j) q⟩
  · exact q.elim
def dMax2 : DC := dI2 fun i j => .int (if j > i then j else i)
def dMin2 : DC := dI2 fun i j => .int (if j < i then j else i)
def dIntOf : DC := fun ds Q => match ds with
  | [.int i] => Q (.int i)
  | [.bl b] => Q (.int (if b then 1 else 0))
  | _ => False
theorem sim_intOf : SimC (fun xs H Q => (∃ i, xs = [.int i] ∧ Q (.int i) H) ∨ ∃ k, xs = [.bl k] ∧ Q (.int (if k then 1 else 0)) H) dIntOf := fun {F μ H vs ds Qd Q} W z q k => by
  unfold dIntOf at q
  split at q
  · rename_i i
    obtain ⟨v, r, rfl, z1, z2⟩ := bzl_inv z
    rw [bzl_inv0 z2, bz_int z1]
    exact .inl ⟨i, rfl, k _ F H _ .refl W fz_int q⟩
  · rename_i b
    obtain ⟨v, r, rfl, z1, z2⟩ := bzl_inv z
    rw [bzl_inv0 z2, bz_bl z1]
    exact .inr ⟨b, rfl, k _ F H _ .refl W fz_int q⟩
  · exact q.elim
def dTupOf : DC := fun ds Q => match ds with
  | [.lst xs] => Q (.tup xs)
  | [.tup xs] => Q (.tup xs)
  | _ => False
theorem sim_tupOf {K : PySem.W.Frag} : SimC (fun xs H Q => ∃ p ys, xs = [.ref p] ∧ ((SqL K H p ys ∧ ∀ l, H l = none → Q (.ref l) (upd H l (.tup ys))) ∨ (SqT K H p ys ∧ Q (.ref p) H))) dTupOf := fun {F μ H vs ds Qd Q} W z q k => by
  unfold dTupOf at q
  split at q
  · rename_i xs
    obtain ⟨v, r, rfl, z1, z2⟩ := bzl_inv z
    rw [bzl_inv0 z2]
    obtain ⟨a, ws, rfl, h1, _, z3⟩ := bz_lst z1
    refine ⟨a, ws, rfl, .inl ⟨.of h1, fun l hl => ?_⟩⟩
    obtain ⟨g, W', z⟩ := new_tup W z3 hl
    exact k _ _ _ _ g W' z q
  · rename_i xs
    obtain ⟨v, r, rfl, z1, z2⟩ := bzl_inv z
    rw [bzl_inv0 z2]
    obtain ⟨a, ws, rfl, h1, f1, z3⟩ := bz_tup W z1
    exact ⟨a, ws, rfl, .inr ⟨.of h1, k _ F H _ .refl W (fz_tup z3 f1) q⟩⟩
  · exact q.elim
def dLstOf : DC := fun ds Q => match ds with
  | [.lst xs] => Q (.lst xs)
  | [.tup xs] => Q (.lst xs)
  | _ => False
theorem sim_lstOf {K : PySem.W.Frag} : SimC (fun xs H Q => ∃ p ys, xs = [.ref p] ∧ (SqL K H p ys ∨ SqT K H p ys) ∧ ∀ l, H l = none → Q (.ref l) (upd H l (.lst ys))) dLstOf := fun {F μ H vs ds Qd Q} W z q k => by
  unfold dLstOf at q
  split at q
  · rename_i xs
    obtain ⟨v, r, rfl, z1, z2⟩ := bzl_inv z
    rw [bzl_inv0 z2]
    obtain ⟨a, ws, rfl, h1, _, z3⟩ := bz_lst z1
    refine ⟨a, ws, rfl, .inl (.of h1), fun l hl => ?_⟩
    obtain ⟨g, W', z⟩ := new_lst W z3 hl
    exact k _ _ _ _ g W' z q
  · rename_i xs
    obtain ⟨v, r, rfl, z1, z2⟩ := bzl_inv z
    rw [bzl_inv0 z2]
    obtain ⟨a, ws, rfl, h1, f1, z3⟩ := bz_tup W z1
    refine ⟨a, ws, rfl, .inr (.of h1), fun l hl => ?_⟩
    obtain ⟨g, W', z⟩ := new_lst W z3 hl
    exact k _ _ _ _ g W' z q
  · exact q.elim
def dIs (f : List Int → (D → Prop) → Prop) : DC := fun ds Q => match ds with
  | [.lst xs] => ∃ ns : List Int, xs = ns.map D.int ∧ f ns Q
  | _ => False
theorem sim_is {r : List V → Hp → VK → Prop} {f : List Int → (D → Prop) → Prop} (h : ∀ {F : Hp} {μ : Mu} {H : Hp} {a : Addr} {ns : List Int} {Qd : D → Prop} {Q : VK}, Wd F μ H → H a = some (.lst (ns.map V.int)) → f ns Qd →
    (∀ v F' H' d, Grow F μ H F' μ H' → Wd F' μ H' → Fz F' d v → Qd d → Q v H') → r [.ref a] H Q) : SimC r (dIs f) := fun {F μ H vs ds Qd Q} W z q k => by
  unfold dIs at q
  split at q
  · rename_i xs
    obtain ⟨ns, rfl, q⟩ := q
    obtain ⟨v, r, rfl, z1, z2⟩ := bzl_inv z
    rw [bzl_inv0 z2]
    obtain ⟨a, ws, rfl, h1, _, z3⟩ := bz_lst z1
    rw [z3.ints] at h1
    exact h W h1 q k
  · exact q.elim
def dSum : DC := dIs fun ns Q => Q (.int ns.sum)
def dMaxL : DC := dIs fun ns Q => 0 < ns.length ∧ ∀ m, m ∈ ns → (∀ y, y ∈ ns → y ≤ m) → Q (.int m)
def dMinL : DC := dIs fun ns Q => 0 < ns.length ∧ ∀ m, m ∈ ns → (∀ y, y ∈ ns → m ≤ y) → Q (.int m)
def dSorted : DC := dIs fun ns Q => ∀ ns' : List Int, ns'.Perm ns → ns'.Pairwise (· ≤ ·) → Q (.lst (ns'.map D.int))
theorem sim_sum {K : PySem.W.Frag} : SimC (rSum K) dSum := sim_is fun {F μ H a ns Qd Q} W h q k => ⟨a, ns, rfl, .of h, k _ F H _ .refl W fz_int q⟩
theorem sim_minL {K : PySem.W.Frag} : SimC (rMin K) dMinL := sim_is fun {F μ H a ns Qd Q} W h q k => ⟨a, ns, rfl, .of h, q.1, fun m h1 h2 => k _ F H _ .refl W fz_int (q.2 m h1 h2)⟩
theorem sim_sorted {K : PySem.W.Frag} : SimC (rSortedI K) dSorted := sim_is fun {F μ H a ns Qd Q} W h q k => ⟨a, ns, rfl, .of h, fun ns' p h1 h2 hp => by
  obtain ⟨g, W', z⟩ := new_lst W (fzl_ints ns') hp
  exact k _ _ _ _ g W' z (q ns' h1 h2)⟩
def dBs (f : List Bool → (D → Prop) → Prop) : DC := fun ds Q => match ds with
  | [.lst xs] => ∃ ns : List Bool, xs = ns.map D.bl ∧ f ns Q
  | _ => False
theorem fzl_bls {F : Hp} : ∀ {ns : List Bool} {vs : List V}, FzL F (ns.map D.bl) vs → vs = ns.map V.bl
  | [], _, h => fzl_inv0 h
  | n :: ns, _, h => by
    obtain ⟨v, r, rfl, h1, h3⟩ := fzl_inv h
    have e : v = V.bl n := by unfold Fz at h1; exact h1
    rw [e, fzl_bls h3]
    rfl
theorem sim_bs {r : List V → Hp → VK → Prop} {f : List Bool → (D → Prop) → Prop} (h : ∀ {F : Hp} {μ : Mu} {H : Hp} {a : Addr} {ns : List Bool} {Qd : D → Prop} {Q : VK}, Wd F μ H → H a = some (.lst (ns.map V.bl)) → f ns Qd →
    (∀ v F' H' d, Grow F μ H F' μ H' → Wd F' μ H' → Fz F' d v → Qd d → Q v H') → r [.ref a] H Q) : SimC r (dBs f) := fun {F μ H vs ds Qd Q} W z q k => by
  unfold dBs at q
  split at q
  · rename_i xs
    obtain ⟨ns, rfl, q⟩ := q
    obtain ⟨v, r, rfl, z1, z2⟩ := bzl_inv z
    rw [bzl_inv0 z2]
    obtain ⟨a, ws, rfl, h1, _, z3⟩ := bz_lst z1
    rw [fzl_bls z3] at h1
    exact h W h1 q k
  · exact q.elim
def dAll : DC := dBs fun bs Q => Q (.bl (bs.all id))
def dAny : DC := dBs fun bs Q => Q (.bl (bs.any id))
theorem sim_all {K : PySem.W.Frag} : SimC (rAll K) dAll := sim_bs fun {F μ H a ns Qd Q} W h q k => ⟨a, ns, rfl, .of h, k _ F H _ .refl W fz_bl q⟩
section
variable {X : Cx} {W : WX} {p pos : Pos} {e f : Expr} {es : List Expr} {a : DA}
theorem d_len (hm : X.mg "len" = none) (ha : PAB X W [e] a) (hg : Gl X "len" := by rfl) (he : starEach [e] X.env = (false, eval e X.env) :: starEach [] X.env := by rfl) : PD X W (.Call (.Name "len" p) [e] [] pos) (dCB dLen a) := d_callB call_len sim_len hm PySem.boot_len ha hg (he := he)
theorem d_abs (hm : X.mg "abs" = none) (ha : PAB X W [e] a) (hg : Gl X "abs" := by rfl) (he : starEach [e] X.env = (false, eval e X.env) :: starEach [] X.env := by rfl) : PD X W (.Call (.Name "abs" p) [e] [] pos) (dCB dAbs a) := d_callB call_abs (sim_I1 fun _ _ => fz_int) hm (by decide +kernel) ha hg (he := he)
theorem d_int_ (hm : X.mg "int" = none) (ha : PAB X W [e] a) (hg : Gl X "int" := by rfl) (he : starEach [e] X.env = (false, eval e X.env) :: starEach [] X.env := by rfl) : PD X W (.Call (.Name "int" p) [e] [] pos) (dCB dIntOf a) := d_callTy call_int1 sim_intOf hm (by decide +kernel) ha hg (he := he)
theorem d_tuple (hm : X.mg "tuple" = none) (ha : PAB X W [e] a) (hg : Gl X "tuple" := by rfl) (he : starEach [e] X.env = (false, eval e X.env) :: starEach [] X.env := by rfl) : PD X W (.Call (.Name "tuple" p) [e] [] pos) (dCB dTupOf a) := d_callTy call_tuple_of sim_tupOf hm (by decide +kernel) ha hg (he := he)
theorem d_list (hm : X.mg "list" = none) (ha : PAB X W [e] a) (hg : Gl X "list" := by rfl) (he : starEach [e] X.env = (false, eval e X.env) :: starEach [] X.env := by rfl) : PD X W (.Call (.Name "list" p) [e] [] pos) (dCB dLstOf a) := d_callTy call_list_of sim_lstOf hm (by decide +kernel) ha hg (he := he)
theorem d_sum (hc : X.calm = true) (hm : X.mg "sum" = none) (ha : PAB X W [e] a) (hg : Gl X "sum" := by rfl) (he : starEach [e] X.env = (false, eval e X.env) :: starEach [] X.env := by rfl) : PD X W (.Call (.Name "sum" p) [e] [] pos) (dCB dSum a) := d_callB (cr_sum hc) sim_sum hm (by decide +kernel) ha hg (he := he)
theorem d_minL (hc : X.calm = true) (hm : X.mg "min" = none) (ha : PAB X W [e] a) (hg : Gl X "min" := by rfl) (he : starEach [e] X.env = (false, eval e X.env) :: starEach [] X.env := by rfl) : PD X W (.Call (.Name "min" p) [e] [] pos) (dCB dMinL a) := d_callB (cr_min hc) sim_minL hm (by decide +kernel) ha hg (he := he)
theorem d_sorted (hm : X.mg "sorted" = none) (ha : PAB X W [e] a) (hg : Gl X "sorted" := by rfl) (he : starEach [e] X.env = (false, eval e X.env) :: starEach [] X.env := by rfl) : PD X W (.Call (.Name "sorted" p) [e] [] pos) (dCB dSorted a) := d_callB cr_sortedI sim_sorted hm (by decide +kernel) ha hg (he := he)
theorem d_all (hc : X.calm = true) (hm : X.mg "all" = none) (ha : PAB X W [e] a) (hg : Gl X "all" := by rfl) (he : starEach [e] X.env = (false, eval e X.env) :: starEach [] X.env := by rfl) : PD X W (.Call (.Name "all" p) [e] [] pos) (dCB dAll a) := d_callB (cr_all hc) sim_all hm (by decide +kernel) ha hg (he := he)
theorem d_max2 (hc : X.calm = true) (hm : X.mg "max" = none) (ha : PAB X W [e, f] a) (hg : Gl X "max" := by rfl) (he : starEach [e, f] X.env = (false, eval e X.env) :: starEach [f] X.env := by rfl) (hpl : (backTo pos (starEach [f] X.env)).any (·.1) = false := by rfl) : PD X W (.Call (.Name "max" p) [e, f] [] pos) (dCB dMax2 a) :=
  d_callB (call_max2 hc) (sim_I2 fun _ _ _ => fz_int) hm (by decide +kernel) ha hg (by decide) (by decide) he hpl
theorem d_min2 (hc : X.calm = true) (hm : X.mg "min" = none) (ha : PAB X W [e, f] a) (hg : Gl X "min" := by rfl) (he : starEach [e, f] X.env = (false, eval e X.env) :: starEach [f] X.env := by rfl) (hpl : (backTo pos (starEach [f] X.env)).any (·.1) = false := by rfl) : PD X W (.Call (.Name "min" p) [e, f] [] pos) (dCB dMin2 a) :=
  d_callB (call_min2 hc) (sim_I2 fun _ _ _ => fz_int) hm (by decide +kernel) ha hg (by decide) (by decide) he hpl
end
end DL

namespace DL
open PySem PySem.Spec PyProof.Rows L2

def topD : D → Bool
  | .lst _ | .tup _ | .int _ => true
  | _ => false
mutual
def pureR : D → Bool
  | .non | .bl _ | .int _ | .str _ => true
  | .tup xs | .lst xs => pureRL xs
  | .dic ks => pureRK ks
  | _ => false
def pureRL : List D → Bool
  | [] => true
  | x :: xs => pureR x && pureRL xs
def pureRK : List (Key × D) → Bool
  | [] => true
  | (_, x) :: xs => pureR x && pureRK xs
end
mutual
theorem pureR_of : ∀ {d : D}, pure0 d = true → pureR d = true
  | .non, _ => by simp [pureR]
  | .bl _, _ => by simp [pureR]
  | .int _, _ => by simp [pureR]
  | .str _, _ => by simp [pureR]
  | .ty _, p => by simp [pure0] at p
  | .obj _, p => by simp [pure0] at p
  | .scr _ _, p => by simp [pure0] at p
  | .xcp _ _ _ _, p => by simp [pure0] at p
  | .ins _ _, p => by simp [pure0] at p
  | .dic _, p => by simp [pure0] at p
  | .tup ds, p => by
    simp only [pureR]
    exact pureRL_of (by simpa [pure0] using p)
  | .lst ds, p => by
    simp only [pureR]
    exact pureRL_of (by simpa [pure0] using p)
theorem pureRL_of : ∀ {ds : List D}, pure0L ds = true → pureRL ds = true
  | [], _ => by simp [pureRL]
  | d :: ds, p => by
    have p' : pure0 d = true ∧ pure0L ds = true := by simpa [pure0L] using p
    simp only [pureRL, pureR_of p'.1, pureRL_of p'.2, Bool.and_self]
end
def shD (d : D) : Prop := pureR d = true ∧ (toPy d).showable = true ∧ (toPy d).shown.length ≤ sizeLine ∧ (toPy d).depth ≤ 60
def shown (d : D) : Str := (toPy d).shown
theorem pairs_keys {P : Program} {w : World} {h : Heap} : ∀ {es : List DictEntry} {kvs : List (Key × Value)}, Pairs (mixKind P w) es kvs → ∀ (ks : List (Key × D)), ks.map (·.1) = kvs.map (·.1) → (∀ t ∈ PyData.shownAll ((toPyK ks).map (·.1)), t.length ≤ sizeLine) → PyData.showableAll ((toPyK ks).map (·.1)) = true →
    ReadsAll h (es.map (·.key)) ((toPyK ks).map (·.1)) [] ∧ ∀ n, ReprAllK P w [] h n (es.map (·.key)) (PyData.shownAll ((toPyK ks).map (·.1)))
  | _, _, .nil, ks, e, _, _ => by
    cases ks with
    | nil => exact ⟨.nil, fun n => .nil⟩
    | cons k ks => simp at e
  | _, _, .cons (e := en) (kv := kv) h1 h2 hr, ks, e, hl, hs => by
    cases ks with
    | nil => simp at e
    | cons k ks =>
      simp only [List.map_cons, List.cons.injEq] at e
      obtain ⟨k, d⟩ := k
      have e1 : k = kv.1 := e.1
      have hk : keyIs k en.key = true := by rw [e1]; exact h1
      cases k with
      | inl i =>
        simp only [toPyK, List.map_cons, PyData.shownAll, PyData.showableAll, List.forall_mem_cons, Bool.and_eq_true] at hl hs
        obtain ⟨ra, hn⟩ := pairs_keys (h := h) hr ks e.2 hl.2 hs.2
        rcases keyIs_shape hk with ⟨j, t, ek, ej⟩ | ⟨x, t, ek, ej⟩
        · injection ek with ek
          subst ek
          simp only [toPyK, List.map_cons, PyData.shownAll, ej]
          exact ⟨.cons (.int i t) ra, fun n => .cons (.of_is (by simpa only [PyData.shown] using ReprIs.int t (by simpa [PyData.showable] using hs.1)) _ _ _) (hn n)⟩
        · cases ek
      | inr x =>
        simp only [toPyK, List.map_cons, PyData.shownAll, PyData.showableAll, List.forall_mem_cons, Bool.and_eq_true] at hl hs
        obtain ⟨ra, hn⟩ := pairs_keys (h := h) hr ks e.2 hl.2 hs.2
        rcases keyIs_shape hk with ⟨j, t, ek, ej⟩ | ⟨y, t, ek, ej⟩
        · cases ek
        · injection ek with ek
          subst ek
          simp only [toPyK, List.map_cons, PyData.shownAll, ej]
          exact ⟨.cons (.str x t) ra, fun n => .cons (.of_is (by simpa only [PyData.shown] using ReprIs.str x t (by simpa only [PyData.shown] using hl.1)) _ _ _) (hn n)⟩
theorem pairs_vals {P : Program} {w : World} : ∀ {es : List DictEntry} {kvs : List (Key × Value)}, Pairs (mixKind P w) es kvs → es.map (·.val) = kvs.map (·.2)
  | _, _, .nil => rfl
  | _, _, .cons h1 h2 hr => by
    rw [List.map_cons, List.map_cons, h2, pairs_vals hr]
theorem fzk_len {F : Hp} : ∀ {ks : List (Key × D)} {kws : List (Key × V)}, FzK F ks kws → ks.map (·.1) = kws.map (·.1)
  | [], _, h => by
    unfold FzK at h
    subst h
    rfl
  | (k, d) :: ks, _, h => by
    unfold FzK at h
    obtain ⟨v, r, rfl, h1, h2⟩ := h
    rw [List.map_cons, List.map_cons, fzk_len h2]
theorem kv_keys : ∀ {kws : List (Key × V)} {vs : List (Key × Value)}, KV kws vs → kws.map (·.1) = vs.map (·.1)
  | _, _, .nil => rfl
  | _, _, .cons r t => by
    rw [List.map_cons, List.map_cons, kv_keys t, r.1]
def RkT (P : Program) (w : World) (h : Heap) (u : Value) (d : PyData) : Prop :=
  ∃ as bs, Reads h u d as ∧ ReadAtMost h d.depth bs ∧ ReprK P w bs h d.depth u d.shown ∧ ∀ a, u = .ref a → ∃ T idr, ShowsBy P w h a d T idr
def RkA (P : Program) (w : World) (h : Heap) (us : List Value) (ds : List PyData) : Prop :=
  ∃ as bs, ReadsAll h us ds as ∧ ReadAtMost h (PyData.depthAll ds) bs ∧ ReprAllK P w bs h (PyData.depthAll ds) us (PyData.shownAll ds)
section
variable {P : Program} {w : World} {h : Heap}
theorem rk_flat {u : Value} {d : PyData} (r : Reads h u d []) (k : ReprIs P w u d.shown) (n : ∀ a, u ≠ .ref a) : RkT P w h u d :=
  ⟨_, [], r, (fun _ z => nomatch z), .of_is k _ _ _, fun a e => absurd e (n a)⟩
theorem rk_list {a : Addr} {o : Obj} {us : List Value} {n : Nat} {ds : List PyData} (h1 : h.get? a = some o) (h2 : o.cls = .type "list") (h3 : o.data = .seq us.toArray n) (hA : RkA P w h us ds) (hz : (PyData.shown (.list ds)).length ≤ sizeLine) : RkT P w h (.ref a) (.list ds) := by
  obtain ⟨as, bs, h4, hb, hk⟩ := hA
  have r : Reads h (.ref a) (.list ds) _ := Reads.list h1 h2 h3 h4
  have hd : PyData.depthAll ds < (PyData.list ds).depth := by simp only [PyData.depth]; omega
  have hna := not_mem_of_deeper r hd hb
  have hz' : (listText (PyData.shownAll ds)).length ≤ sizeLine := by simpa only [PyData.shown] using hz
  have hR := ReadAtMost.cons r (Nat.le_of_lt hd) hb
  cases us with
  | nil =>
    cases h4
    refine ⟨_, _, r, hR, ?_, fun b eb => ?_⟩
    · simp only [PyData.depth, PyData.shown, PyData.shownAll, listText_nil]
      exact ReprK.listEmpty h1 h2 h3
    · cases eb
      refine ⟨"list", "list.__repr__", F.slot_list_repr.toG, F.slot_list_str, F.slot_list_format, fun s k => ⟨o, k _ _ h1, h2⟩, fun A E s Q hg hu k hQ => ?_⟩
      simp only [PyData.shown, PyData.shownAll, listText_nil] at hQ
      exact call_list_repr_empty ⟨o, k _ _ h1, h2⟩ (k _ _ h1) h3 (hQ s.heap _ _ fun _ _ e => e)
  | cons x l =>
    have hl : (PyData.shownAll ds).length = (x :: l).toArray.size := by simpa using hk.length_eq
    have hi : ∀ (i : Nat) (y : Value), (x :: l).toArray[i]? = some y → ∃ t, (PyData.shownAll ds)[i]? = some t ∧ ReprK P w bs h (PyData.depthAll ds) y t := fun i y e => hk.item i y (by simpa using e)
    refine ⟨_, _, r, hR, ?_, fun b eb => ?_⟩
    · simp only [PyData.depth, PyData.shown]
      exact ReprK.list h1 h2 h3 hna hl hi
    · cases eb
      refine ⟨"list", "list.__repr__", F.slot_list_repr.toG, F.slot_list_str, F.slot_list_format, fun s k => ⟨o, k _ _ h1, h2⟩, fun A E s Q hg hu k hQ => ?_⟩
      simp only [PyData.depth] at hu
      simp only [PyData.shown] at hQ
      exact call_list_reprK h1 h2 h3 hna hl hi hg (fun b _ => Clear.nil b) hu k hQ hz'
theorem rk_tuple {a : Addr} {o : Obj} {us : List Value} {n : Nat} {ds : List PyData} (h1 : h.get? a = some o) (h2 : o.cls = .type "tuple") (h3 : o.data = .seq us.toArray n) (hA : RkA P w h us ds) (hz : (PyData.shown (.tuple ds)).length ≤ sizeLine) : RkT P w h (.ref a) (.tuple ds) := by
  obtain ⟨as, bs, h4, hb, hk⟩ := hA
  have r : Reads h (.ref a) (.tuple ds) _ := Reads.tuple h1 h2 h3 h4
  have hd : PyData.depthAll ds < (PyData.tuple ds).depth := by simp only [PyData.depth]; omega
  have hna := not_mem_of_deeper r hd hb
  have hz' : (tupleText (PyData.shownAll ds)).length ≤ sizeLine := by simpa only [PyData.shown] using hz
  refine ⟨_, _, r, ReadAtMost.cons r (Nat.le_of_lt hd) hb, ?_, fun b eb => ?_⟩
  · simp only [PyData.depth, PyData.shown]
    exact ReprK.tuple h1 h2 h3 hna hk
  · cases eb
    refine ⟨"tuple", "tuple.__repr__", F.slot_tuple_repr, F.slot_tuple_str, F.slot_tuple_format, fun s k => ⟨o, k _ _ h1, h2⟩, fun A E s Q hg hu k hQ => ?_⟩
    simp only [PyData.depth] at hu
    simp only [PyData.shown] at hQ
    exact call_tuple_reprK h1 h2 h3 hna hk hg (fun b _ => Clear.nil b) hu k hQ hz'
theorem rk_dict {a : Addr} {o : Obj} {es : Array DictEntry} {n : Nat} {kvs : List (PyData × PyData)} (h1 : h.get? a = some o) (h2 : o.cls = .type "dict") (h3 : o.data = .dict es n) (hsys : (a == sysModules) = false)
    (hK : ReadsAll h (es.toList.map (·.key)) (kvs.map (·.1)) [] ∧ ∀ n, ReprAllK P w [] h n (es.toList.map (·.key)) (PyData.shownAll (kvs.map (·.1)))) (hA : RkA P w h (es.toList.map (·.val)) (kvs.map (·.2))) (hz : (PyData.shown (.dict kvs)).length ≤ sizeLine) : RkT P w h (.ref a) (.dict kvs) := by
  obtain ⟨as, bs, h4, hb, hk⟩ := hA
  have r : Reads h (.ref a) (.dict kvs) _ := Reads.dict h1 h2 h3 hK.1 h4
  have hb2 := hb.mono (PyData.depthAll_vals_le kvs)
  have hd : PyData.depthKv kvs < (PyData.dict kvs).depth := by simp only [PyData.depth]; omega
  have hna := not_mem_of_deeper r hd hb2
  have hE := ReprEntriesK.of_two es.toList _ _ ((hK.2 (PyData.depthKv kvs)).more_le (as' := bs) (fun b (z : b ∈ ([] : List Addr)) => absurd z (by simp)) (Nat.le_refl _)) (hk.more_le (as' := bs) (fun b z => z) (PyData.depthAll_vals_le kvs))
  refine ⟨_, _, r, ReadAtMost.cons r (Nat.le_of_lt hd) hb2, ?_, fun b eb => ?_⟩
  · simp only [PyData.depth, PyData.shown, PyData.shownKv_eq]
    exact ReprK.dict h1 h2 h3 hsys hna hE
  · cases eb
    refine ⟨"dict", "dict.__repr__", F.slot_dict_repr, F.slot_dict_str, F.slot_dict_format, fun s k => ⟨o, k _ _ h1, h2⟩, fun A E s Q hg hu k hQ => ?_⟩
    simp only [PyData.depth] at hu
    simp only [PyData.shown, PyData.shownKv_eq] at hQ
    exact call_dict_reprK h1 h2 h3 hsys hna hE hg (fun b _ => Clear.nil b) hu k hQ (by rw [← PyData.shownKv_eq]; simpa only [PyData.shown] using hz)
end
section
variable {X : Cx} {pins : List (Addr × Obj)} {σ : L2.St} {H F : Hp} {s : Shared}
theorem lst_of (I : Inv X pins σ H s) {a : Addr} {ds : List D} {vs : List V} (h2 : H a = some (.lst vs)) (hs : (toPy (.lst ds)).showable = true) (hz : (toPy (.lst ds)).shown.length ≤ sizeLine)
    (go : ∀ us, PyData.showableAll (toPyL ds) = true → (∀ t ∈ PyData.shownAll (toPyL ds), t.length ≤ sizeLine) → Vals vs us → RkA X.prog X.w s.heap us (toPyL ds)) : RkT X.prog X.w s.heap (.ref a) (toPy (.lst ds)) := by
  obtain ⟨its, rv, ⟨o, n, ho, hc, _, hd⟩, _⟩ := I.list (.of h2)
  unfold toPy at hs hz ⊢
  refine rk_list ho hc hd (go its (by simpa [PyData.showable] using hs) (fun t ht => ?_) rv) hz
  exact Nat.le_trans (listText_mem_le ht) (by simpa only [PyData.shown] using hz)
theorem tup_of (I : Inv X pins σ H s) {a : Addr} {ds : List D} {vs : List V} (h2 : H a = some (.tup vs)) (hs : (toPy (.tup ds)).showable = true) (hz : (toPy (.tup ds)).shown.length ≤ sizeLine)
    (go : ∀ us, PyData.showableAll (toPyL ds) = true → (∀ t ∈ PyData.shownAll (toPyL ds), t.length ≤ sizeLine) → Vals vs us → RkA X.prog X.w s.heap us (toPyL ds)) : RkT X.prog X.w s.heap (.ref a) (toPy (.tup ds)) := by
  obtain ⟨its, rv, ⟨o, ho, hc, n, hd⟩, _⟩ := I.tuple (.of h2)
  unfold toPy at hs hz ⊢
  refine rk_tuple ho hc hd (go its (by simpa [PyData.showable] using hs) (fun t ht => ?_) rv) hz
  exact Nat.le_trans (tupleText_mem_le ht) (by simpa only [PyData.shown] using hz)
theorem dic_of (I : Inv X pins σ H s) {a : Addr} {ks : List (Key × D)} {kws : List (Key × V)} (h2 : Rd H a (.dK kws)) (h3 : ks.map (·.1) = kws.map (·.1)) (hs : (toPy (.dic ks)).showable = true) (hz : (toPy (.dic ks)).shown.length ≤ sizeLine)
    (go : ∀ vs, PyData.showableAll ((toPyK ks).map (·.2)) = true → (∀ t ∈ PyData.shownAll ((toPyK ks).map (·.2)), t.length ≤ sizeLine) → KV kws vs → RkA X.prog X.w s.heap (vs.map (·.2)) ((toPyK ks).map (·.2))) : RkT X.prog X.w s.heap (.ref a) (toPy (.dic ks)) := by
  obtain ⟨_, hsys, vs, rel, o, es, ep, ho, hx, hd, _, hp, _⟩ := (show ObjOk X.prog X.w H s.heap a (.dK kws) from h2.ok I.hok)
  unfold toPy at hs hz ⊢
  obtain ⟨hs1, hs2⟩ := PyData.showableKv_split (toPyK ks) (by simpa [PyData.showable] using hs)
  have hz' : (dictText (PyData.shownKv (toPyK ks))).length ≤ sizeLine := by simpa only [PyData.shown] using hz
  have hB := go vs hs2 (fun t ht => by
    obtain ⟨q, hq, hl⟩ := PyData.shownKv_val_le _ t ht
    exact Nat.le_trans hl (Nat.le_trans (dictText_mem_le hq) hz')) rel
  rw [← pairs_vals hp] at hB
  exact rk_dict ho hx.1 hd hsys (pairs_keys hp ks (h3.trans (kv_keys rel)) (fun t ht => by
    obtain ⟨q, hq, hl⟩ := PyData.shownKv_key_le _ t ht
    exact Nat.le_trans hl (Nat.le_trans (dictText_mem_le hq) hz')) hs1) hB hz
mutual
theorem rd_of (I : Inv X pins σ H s) (e : Ex F H) : ∀ (d : D) (v : V) (u : Value), Fz F d v → pureR d = true → (toPy d).showable = true → (toPy d).shown.length ≤ sizeLine → RelV v u → RkT X.prog X.w s.heap u (toPy d)
  | .non, _, _, h, _, hs, hz, r => by
    unfold Fz at h
    subst h
    cases r
    exact rk_flat .none (by simpa only [toPy, PyData.shown] using ReprIs.none) (fun _ z => nomatch z)
  | .bl b, _, _, h, _, hs, hz, r => by
    unfold Fz at h
    subst h
    cases r
    exact rk_flat (.bool b) (by simpa only [toPy, PyData.shown] using ReprIs.bool b) (fun _ z => nomatch z)
  | .int i, _, _, h, _, hs, hz, r => by
    unfold Fz at h
    subst h
    obtain ⟨t, rfl⟩ := r
    exact rk_flat (.int i t) (by simpa only [toPy, PyData.shown] using ReprIs.int t (by simpa [toPy, PyData.showable] using hs)) (fun _ z => nomatch z)
  | .str x, _, _, h, _, hs, hz, r => by
    unfold Fz at h
    subst h
    obtain ⟨t, rfl⟩ := r
    exact rk_flat (.str x t) (by simpa only [toPy, PyData.shown] using ReprIs.str x t (by simpa only [toPy, PyData.shown] using hz)) (fun _ z => nomatch z)
  | .ty _, _, _, _, p, _, _, _ => by simp [pureR] at p
  | .obj _, _, _, _, p, _, _, _ => by simp [pureR] at p
  | .scr _ _, _, _, _, p, _, _, _ => by simp [pureR] at p
  | .xcp _ _ _ _, _, _, _, p, _, _, _ => by simp [pureR] at p
  | .ins _ _, _, _, _, p, _, _, _ => by simp [pureR] at p
  | .lst ds, _, _, h, p, hs, hz, r => by
    unfold Fz at h
    obtain ⟨a, vs, rfl, h2, h3⟩ := h
    cases r
    exact lst_of I (e _ _ h2) hs hz fun us k1 k2 rv => rd_ofL I e ds vs us h3 (by simpa [pureR] using p) k1 k2 rv
  | .tup ds, _, _, h, p, hs, hz, r => by
    unfold Fz at h
    obtain ⟨a, vs, rfl, h2, h3⟩ := h
    cases r
    exact tup_of I (e _ _ h2) hs hz fun us k1 k2 rv => rd_ofL I e ds vs us h3 (by simpa [pureR] using p) k1 k2 rv
  | .dic ks, _, _, h, p, hs, hz, r => by
    unfold Fz at h
    obtain ⟨a, od, kws, rfl, h2, h3⟩ := h
    cases r
    exact dic_of I (.inr ⟨od, e _ _ h2⟩) (fzk_len h3) hs hz fun us k1 k2 rv => rd_ofK I e ks kws us h3 (by simpa [pureR] using p) k1 k2 rv
theorem rd_ofL (I : Inv X pins σ H s) (e : Ex F H) : ∀ (ds : List D) (vs : List V) (us : List Value), FzL F ds vs → pureRL ds = true → PyData.showableAll (toPyL ds) = true → (∀ t ∈ PyData.shownAll (toPyL ds), t.length ≤ sizeLine) → Vals vs us → RkA X.prog X.w s.heap us (toPyL ds)
  | [], _, _, h, _, _, _, r => by
    rw [fzl_inv0 h] at r
    cases r
    unfold toPyL
    exact ⟨[], [], .nil, (fun _ z => nomatch z), by simp only [PyData.shownAll]; exact .nil⟩
  | d :: ds, _, _, h, p, hs, hz, r => by
    obtain ⟨v, vs, rfl, h1, h2⟩ := fzl_inv h
    have p' : pureR d = true ∧ pureRL ds = true := by simpa [pureRL] using p
    unfold toPyL at hs hz ⊢
    simp only [PyData.showableAll, PyData.shownAll, List.forall_mem_cons, Bool.and_eq_true] at hs hz
    cases r with
    | cons r1 r2 =>
      obtain ⟨a1, b1, q1, m1, k1, _⟩ := rd_of I e d v _ h1 p'.1 hs.1 hz.1 r1
      obtain ⟨a2, b2, q2, m2, k2⟩ := rd_ofL I e ds vs _ h2 p'.2 hs.2 hz.2 r2
      refine ⟨_, b1 ++ b2, .cons q1 q2, ?_, ?_⟩
      · simp only [PyData.depthAll]
        exact (m1.mono (Nat.le_max_left _ _)).append (m2.mono (Nat.le_max_right _ _))
      · simp only [PyData.depthAll, PyData.shownAll]
        exact .cons ((k1.more fun b z => List.mem_append_left _ z).level_le (Nat.le_max_left _ _)) (k2.more_le (fun b z => List.mem_append_right _ z) (Nat.le_max_right _ _))
theorem rd_ofK (I : Inv X pins σ H s) (e : Ex F H) : ∀ (ks : List (Key × D)) (kws : List (Key × V)) (vs : List (Key × Value)), FzK F ks kws → pureRK ks = true → PyData.showableAll ((toPyK ks).map (·.2)) = true → (∀ t ∈ PyData.shownAll ((toPyK ks).map (·.2)), t.length ≤ sizeLine) → KV kws vs → RkA X.prog X.w s.heap (vs.map (·.2)) ((toPyK ks).map (·.2))
  | [], _, _, h, _, _, _, r => by
    unfold FzK at h
    subst h
    cases r
    unfold toPyK
    exact ⟨[], [], .nil, (fun _ z => nomatch z), by simp only [List.map_nil, PyData.shownAll]; exact .nil⟩
  | (k, d) :: ks, _, _, h, p, hs, hz, r => by
    unfold FzK at h
    obtain ⟨v, kws, rfl, h1, h2⟩ := h
    have p' : pureR d = true ∧ pureRK ks = true := by simpa [pureRK] using p
    have ek : (toPyK ((k, d) :: ks)).map (·.2) = toPy d :: (toPyK ks).map (·.2) := by cases k <;> simp [toPyK]
    rw [ek] at hs hz ⊢
    simp only [PyData.showableAll, PyData.shownAll, List.forall_mem_cons, Bool.and_eq_true] at hs hz
    cases r with
    | cons r1 r2 =>
      obtain ⟨a1, b1, q1, m1, k1, _⟩ := rd_of I e d v _ h1 p'.1 hs.1 hz.1 r1.2
      obtain ⟨a2, b2, q2, m2, k2⟩ := rd_ofK I e ks kws _ h2 p'.2 hs.2 hz.2 r2
      refine ⟨_, b1 ++ b2, .cons q1 q2, ?_, ?_⟩
      · simp only [PyData.depthAll]
        exact (m1.mono (Nat.le_max_left _ _)).append (m2.mono (Nat.le_max_right _ _))
      · simp only [PyData.depthAll, PyData.shownAll]
        exact .cons ((k1.more fun b z => List.mem_append_left _ z).level_le (Nat.le_max_left _ _)) (k2.more_le (fun b z => List.mem_append_right _ z) (Nat.le_max_right _ _))
end
end
def dRepr : DC := fun ds Q => match ds with
  | [d] => shD d ∧ Q (.str (shown d))
  | _ => False
section
variable {X : Cx} {W : WX} {p pos : Pos} {e : Expr} {a : DA} {k : Nat}
end

abbrev DSp := List D → Mu → DQ → DXQ → Prop
def spOf (sp : DSp) : Sp := fun vs H Q E => ∃ F ds μ Qd Xd, Wd F μ H ∧ FzL F ds vs ∧ sp ds μ Qd Xd ∧ (∀ v F' H' d μ', Grow F μ H F' μ' H' → Wd F' μ' H' → Fz F' d v → Qd d μ' → Q v H') ∧
  ∀ cls dd F' H' x μ', Grow F μ H F' μ' H' → Wd F' μ' H' → XIs F' μ' H' cls dd x → Xd x μ' → E cls dd H'
structure FnV (P : Program) (w : World) (K : PySem.W.Frag) (mg : Str → Option Value) (base : Heap) (k : Nat) (f : Addr) (fd : FuncData) (ps : List Str) (sp : Sp) : Prop where
  len : ∀ vs H Q E, sp vs H Q E → vs.length = ps.length
  run : ∀ (A : Around) (outer : List Env) (s : Shared) (H : Hp) (args : Args) (us : List Value) (vs : List V) (Q : VK) (E : XK), Room k A → A.guards = some [] → Env0 P w K mg base A outer s H → BindsTo s fd args (ps.zip us) → Vals vs us → sp vs H Q E →
    codeAny (model P w) A (.call (.ref f) args) (CR (L2.CX P w) outer P w H s Q E) s
theorem FnV.mono {P : Program} {w : World} {K : PySem.W.Frag} {mg : Str → Option Value} {base : Heap} {j k : Nat} {f : Addr} {fd : FuncData} {ps : List Str} {sp : Sp} (F : FnV P w K mg base j f fd ps sp) (h : j ≤ k) : FnV P w K mg base k f fd ps sp :=
  ⟨F.len, fun A outer s H args us vs Q E hr => F.run A outer s H args us vs Q E (hr.mono h)⟩
theorem FnV.imp {P : Program} {w : World} {K : PySem.W.Frag} {mg : Str → Option Value} {base : Heap} {k : Nat} {f : Addr} {fd : FuncData} {ps : List Str} {sp sp' : Sp} (F : FnV P w K mg base k f fd ps sp)
    (h : ∀ vs H Q E, sp' vs H Q E → sp vs H Q E) : FnV P w K mg base k f fd ps sp' :=
  ⟨fun vs H Q E q => F.len vs H Q E (h _ _ _ _ q), fun A outer s H args us vs Q E hr hG he hb hv q => F.run A outer s H args us vs Q E hr hG he hb hv (h _ _ _ _ q)⟩
theorem spOf_len {sp : DSp} {n : Nat} (h : ∀ ds μ Q Z, sp ds μ Q Z → ds.length = n) : ∀ vs H Q E, spOf sp vs H Q E → vs.length = n := fun vs H Q E ⟨F0, ds, μ, Qd, Xd, _, z, q, _⟩ => z.length.trans (h ds μ Qd Xd q)
def startD (N : List Str) (ds : List D) : List Slot := ds.map .dat ++ List.replicate (N.length - ds.length) .no
theorem sti_start {F : Hp} {μ : Mu} {H : Hp} {N : List Str} {ds : List D} {vs : List V} (W : Wd F μ H) (z : FzL F ds vs) : Sti ⟨F, μ, H⟩ F (start N vs) H (startD N ds) μ := by
  have el := z.length
  have own : ∀ (j : Nat) (t : Slot), (startD N ds)[j]? = some t → t.own = true → False := fun j t h o => by
    unfold startD at h
    by_cases hj : j < ds.length
    · rw [List.getElem?_append_left (by simpa using hj), List.getElem?_map] at h
      cases e : ds[j]? with
      | none => rw [e] at h; cases h
      | some d => rw [e] at h; cases h; cases o
    · rw [List.getElem?_append_right (by simpa using hj), List.getElem?_replicate] at h
      split at h
      · cases h; cases o
      · cases h
  refine ⟨W, .refl, by unfold startD L2.start; simp [el], fun i s v h1 h2 => ?_, fun i j s t a hij h1 h2 o1 => (own i s h1 o1).elim⟩
  unfold startD at h1
  unfold L2.start at h2
  by_cases hi : i < ds.length
  · rw [List.getElem?_append_left (by simpa using hi), List.getElem?_map] at h1
    rw [List.getElem?_append_left (by simpa [el] using hi), List.getElem?_map] at h2
    cases e : ds[i]? with
    | none => rw [e] at h1; cases h1
    | some d =>
      rw [e] at h1
      cases h1
      obtain ⟨x, hx, zx⟩ := z.get e
      rw [hx] at h2
      cases h2
      exact ⟨x, rfl, zx⟩
  · rw [List.getElem?_append_right (by simpa using hi), List.getElem?_replicate] at h1
    split at h1
    · cases h1; exact True.intro
    · cases h1
section
variable {P : Program} {w : World} {K : PySem.W.Frag} {mg : Str → Option Value} {base : Heap}
theorem body_of {sp : DSp} {N : List Str} {ts : TS} {t : DS} {vs : List V} {H : Hp} {Q : VK} {E : XK} (hs : SimS (fun cls d _ H => E cls d H) ts t) (hp : ∀ ds μ Qd Xd, sp ds μ Qd Xd → t { nx := fun _ μ' => Qd .non μ', rt := Qd, xc := fun _ => Xd } (startD N ds) μ) (h : spOf sp vs H Q E) :
    ts { nx := fun _ H' => Q .non H', rt := Q } (start N vs) H := by
  obtain ⟨F, ds, μ, Qd, Xd, W, z, q, kr, kx⟩ := h
  refine hs (sti_start W z) (hp ds μ Qd Xd q) ⟨?_, ?_, ?_, ?_, ?_⟩
  · exact fun F' σ' H' ρ' μ' e S q => kr .non F' H' .non μ' S.grow S.wd fz_non q
  · exact fun F' σ' H' ρ' μ' e S q => q.elim
  · exact fun F' σ' H' ρ' μ' e S q => q.elim
  · exact fun v d F' σ' H' ρ' μ' e S zv q => kr v F' H' d μ' S.grow S.wd zv q
  · exact fun cls dd x F' σ' H' ρ' μ' e S zx q => kx cls dd F' H' x μ' S.grow S.wd zx q
abbrev bodyX (P : Program) (w : World) (K : PySem.W.Frag) (mg : Str → Option Value) (base : Heap) (N : List Str) (qual : Str) (st : Stmt) (f : Addr) (cdv : Value) (A : Around) (outer : List Env) (s : Shared) (H : Hp) (E : XK) : Cx :=
  cxOf (L2.CX P w) P w K mg base N qual (defScope st) f cdv A outer s H E
theorem fn_bodyV {x qual : Str} {st : Stmt} {f : Addr} {fd : FuncData} {N ps : List Str} {k : Nat} {sp : Sp} (F : Fun K x qual st f fd) (S : FnScope N ps (defScope st)) (len : ∀ vs H Q E, sp vs H Q E → vs.length = ps.length)
    (hb : ∀ (cdv : Value) (A : Around) (outer : List Env) (s : Shared) (H : Hp) (E : XK), Room k (A.deeper (envOfC qual (defScope st) s.heap.objs.size f cdv)) → A.guards = some [] →
      ∃ ts, PSs (bodyX P w K mg base N qual st f cdv A outer s H E) (defBody st) ts ∧ ∀ vs Q, sp vs H Q E → ts { nx := fun _ H' => Q .non H', rt := Q } (start N vs) H) :
    FnV P w K mg base (k + 1) f fd ps sp := by
  obtain ⟨oc, od, kV, doc, pm, an, cdv, ct, osl, rfl, lk, hcd⟩ := F.ex
  refine ⟨len, fun A outer s H args us vs Q E hr hG e0 hbd r hsp => ?_⟩
  obtain ⟨ts, hts, hp⟩ := hb cdv A outer s H E (hr.deeper _) hG
  have go := hp vs Q hsp
  have nvs := len vs H Q E hsp
  have inK : K.In s.heap := e0.mod.kin.keeps (fun b o e => (e0.bs b o e).1)
  have lim := Heap.NoLimit.keeps (h' := s.heap) e0.mod.nolimit (fun b o e => (e0.bs b o e).1)
  have kinds : ∀ y ∈ ps.zip us, (defScope st).names.lookup y.1 = some .local ∨ ((defScope st).names.lookup y.1 = some .cell ∧ ((cellsFrom (s.heap.objs.size + 1) (defScope st).names []).lookup y.1).isSome = true) := by
    intro y hy
    have hm : y.1 ∈ ps := (List.of_mem_zip (show (y.1, y.2) ∈ ps.zip us from hy)).1
    cases S.par y.1 hm with
    | inl q => exact Or.inl q
    | inr q => exact Or.inr ⟨q, PySem.W.cellsFrom_some _ _ _ (Or.inl q)⟩
  refine codeAny_call_function hr.depth (inK _ _ lk) rfl S.co S.gen rfl (PySem.W.codeRec_of inK hcd) (hbd _ _ _ _ (wpAny_newFunctionEnv_cells S.kind kinds fun env henv s1 hin => ?_))
  subst henv
  refine ⟨lim.keeps hin.toInCall.keep, codeAny_func (wpAny_mono (hts.run [] s1 (start N vs) H _ (inv_start S hr.hd e0 nvs r hin) go) (fun fl s' hq => ?_) (fun e s' hq => hq))⟩
  cases fl with
  | ret u =>
    obtain ⟨v, σ', H', J, rv, q⟩ := hq
    exact ⟨v, H', J.os, J.bare, J.base, J.hok, rv, q⟩
  | next =>
    obtain ⟨σ', H', J, q⟩ := hq
    exact ⟨.non, H', J.os, J.bare, J.base, J.hok, rfl, q⟩
  | brk => exact hq.elim fun σ' h => h.elim fun H' h => h.2.elim
  | cont => exact hq.elim fun σ' h => h.elim fun H' h => h.2.elim
theorem fn_body {x qual : Str} {st : Stmt} {f : Addr} {fd : FuncData} {N ps : List Str} {k : Nat} {sp : DSp} (F : Fun K x qual st f fd) (S : FnScope N ps (defScope st)) (len : ∀ ds μ Q Z, sp ds μ Q Z → ds.length = ps.length)
    (hb : ∀ (cdv : Value) (A : Around) (outer : List Env) (s : Shared) (H : Hp) (E : XK), Room k (A.deeper (envOfC qual (defScope st) s.heap.objs.size f cdv)) → A.guards = some [] →
      ∃ t, PSsD (bodyX P w K mg base N qual st f cdv A outer s H E) (fun cls d _ H => E cls d H) (defBody st) t ∧ ∀ ds μ Qd Xd, sp ds μ Qd Xd → t { nx := fun _ μ' => Qd .non μ', rt := Qd, xc := fun _ => Xd } (startD N ds) μ) :
    FnV P w K mg base (k + 1) f fd ps (spOf sp) := fn_bodyV F S (spOf_len len) fun cdv A outer s H E hr hG => by
  obtain ⟨t, ht, hp⟩ := hb cdv A outer s H E hr hG
  obtain ⟨ts, hts, hsim⟩ := ht.ex
  exact ⟨ts, hts, fun vs Q h => body_of hsim hp h⟩
def FnW (P : Program) (w : World) (K : PySem.W.Frag) (mg : Str → Option Value) (base : Heap) (k : Nat) (f : Addr) (sp : Sp) : Prop :=
  ∀ (A : Around) (outer : List Env) (s : Shared) (H : Hp) (us : List Value) (vs : List V) (Q : VK) (E : XK), Room k A → A.guards = some [] → Env0 P w K mg base A outer s H → Vals vs us → sp vs H Q E →
    codeAny (model P w) A (.call (.ref f) ⟨us, []⟩) (CR (L2.CX P w) outer P w H s Q E) s
theorem FnV.toW {k : Nat} {f : Addr} {fd : FuncData} {ps : List Str} {sp : Sp} (F : FnV P w K mg base k f fd ps sp) (b : Binds K fd ps []) : FnW P w K mg base k f sp := fun A outer s H us vs Q E hr hG e0 r h => by
  have nus : us.length = ps.length := by rw [← r.length]; exact F.len _ _ _ _ h
  have bd := b s us (e0.mod.kin.keeps fun b o e => (e0.bs b o e).1) (by rw [List.append_nil]; exact nus)
  rw [List.append_nil] at bd
  exact F.run A outer s H ⟨us, []⟩ us vs Q E hr hG e0 bd r h
structure CalV (P : Program) (w : World) (K : PySem.W.Frag) (mg : Str → Option Value) (base : Heap) (k : Nat) (x : Str) (sp : Sp) : Prop where
  ex : ∃ (f : Addr), FnW P w K mg base k f sp ∧ mg x = some (.ref f) ∧ PySem.W.keepIn K (.ref f) = true
theorem calV_of {k : Nat} {x : Str} {f : Addr} {fd : FuncData} {ps : List Str} {sp : Sp} (F : FnV P w K mg base k f fd ps sp) (hm : mg x = some (.ref f)) (kp : PySem.W.keepIn K (.ref f) = true) (b : Binds K fd ps []) : CalV P w K mg base k x sp := ⟨f, F.toW b, hm, kp⟩
abbrev CalG (P : Program) (w : World) (K : PySem.W.Frag) (mg : Str → Option Value) (base : Heap) (k : Nat) (x : Str) (sp : DSp) : Prop := CalV P w K mg base k x (spOf sp)
end
def dCall (sp : DSp) (a : DA) : DE := fun ρ μ Q Z => a ρ μ (fun ds μ1 => sp ds μ1 Q Z) Z
section
variable {X : Cx} {W : WX} {k j : Nat} {x : Str} {p pos : Pos} {e : Expr} {es : List Expr} {a : DA} {sp : DSp}
theorem run_g {f : Addr} {sv : Sp} {pins : List (Addr × Obj)} {σ : L2.St} {H : Hp} {s : Shared} {Q : VK} {us : List Value} {vs : List V} (F : FnW X.prog X.w X.K X.mg X.base k f sv) (hr : Room k X.A) (hG : X.A.guards = some []) (tk : Takes X W)
    (I : Inv X pins σ H s) (r : Vals vs us) (h : sv vs H Q (fun c d H => W c d σ H)) : wpAny (model X.prog X.w) X.A (call (.ref f) us) (EP X pins σ Q) X.xe s := by
  refine wpAny_call (codeAny_mono (F X.A X.stack s H us vs Q _ hr hG I.env0 r h) fun res s' hq => ?_)
  match res, hq with
  | .error e, hq => exact tk e s' (XE.of_call I (fun _ _ _ h => h) hq)
  | .ok (.ret u), hq => exact I.after hq
  | .ok .next, hq => exact hq.elim
  | .ok .brk, hq => exact hq.elim
  | .ok .cont, hq => exact hq.elim
theorem pe_callV {sv : Sp} {ta : TA} (c : CalV X.prog X.w X.K X.mg X.base k x sv) (hr : Room j X.A) (hk : k ≤ j) (hG : X.A.guards = some []) (tk : Takes X W) (a1 : PA X (e :: es) ta) (hg : Gl X x := by rfl) (hdb : (x == ("__debug__" : Str)) = false := by decide)
    (he : starEach (e :: es) X.env = (false, eval e X.env) :: starEach es X.env := by rfl) (hpl : (backTo pos (starEach es X.env)).any (·.1) = false := by rfl) : PE X (.Call (.Name x p) (e :: es) [] pos) (tCallS sv (WE W) ta) := by
  obtain ⟨f, F, hm, kp⟩ := c.ex
  exact ⟨fun pins s σ H Q I h => wpAny_Call_Name_kw (ld_glob I hg hm (PySem.W.callWith_K (h₀ := X.base) I.ok.mod.kin kp (thn (a1.run pos pins s σ H _ I h) fun us s1 ⟨vs, H1, I1, r, q⟩ => ⟨I1.kIn, run_g F (hr.mono hk) hG tk I1 r q⟩) he hpl) hdb)⟩
theorem d_call (c : CalG X.prog X.w X.K X.mg X.base k x sp) (hr : Room j X.A) (hk : k ≤ j) (hG : X.A.guards = some []) (tk : Takes X W) (ha : PAD X W (e :: es) a) (hg : Gl X x := by rfl) (hdb : (x == ("__debug__" : Str)) = false := by decide)
    (he : starEach (e :: es) X.env = (false, eval e X.env) :: starEach es X.env := by rfl) (hpl : (backTo pos (starEach es X.env)).any (·.1) = false := by rfl) : PD X W (.Call (.Name x p) (e :: es) [] pos) (dCall sp a) := by
  obtain ⟨ta, a1, a2⟩ := ha.ex
  exact ⟨_, pe_callV c hr hk hG tk a1 hg hdb he hpl, fun {B F0 σ H ρ μ Qd Xd Q} S q gx kk => a2 S q gx fun vs F1 H1 ds μ1 g1 S1 z1 q1 =>
    ⟨F1, ds, μ1, Qd, Xd, S1.wd, z1, q1, fun v F2 H2 d μ2 g2 W2 z2 q2 => kk v F2 H2 d μ2 (g1.trans g2) (S1.go g2 W2) z2 q2, fun cls dd F2 H2 x μ2 g2 W2 z2 q2 => gx cls dd F2 H2 x μ2 (g1.trans g2) (S1.go g2 W2) z2 q2⟩⟩
end
end DL

namespace DL
open PySem PySem.Spec PyProof.Rows L2

def mset (μ : Mu) (p : Addr) (o : MO) : Mu := fun a => if a = p then some o else μ a
theorem mset_same {μ : Mu} {p : Addr} {o : MO} : mset μ p o p = some o := if_pos rfl
theorem mset_ne {μ : Mu} {p a : Addr} {o : MO} (h : a ≠ p) : mset μ p o a = μ a := if_neg h
def dObj (t : DI) : DE := fun ρ μ Q X => t ρ μ (fun ds μ1 => ∀ p, μ1 p = none → Q (.obj p) (mset μ1 p (.lst ds))) X
theorem PO.obj {X : Cx} {W : WX} {e : Expr} {t : DI} (h : PO X W e t) : PD X W e (dObj t) := by
  obtain ⟨te, a1, a2⟩ := h.ex
  refine ⟨_, a1, fun {B F σ H ρ μ Qd Xd Q} S q gx k => a2 S q gx fun p vs F' H' ds μ' g S' h0 h1 h2 h3 z q' => ?_⟩
  have hmu : ∀ {b : Addr}, b ≠ p → mset μ' p (.lst ds) b = μ' b := fun hb => mset_ne hb
  have g2 : Grow F μ H F' (mset μ' p (.lst ds)) H' := ⟨g.fz, fun b o x1 x2 => by
    obtain ⟨k1, k2, k3⟩ := g.keep b o x1 x2
    exact ⟨k1, (hmu (h0.ne x1 x2)).trans k2, k3⟩⟩
  have W' : Wd F' (mset μ' p (.lst ds)) H' := ⟨S'.wd.ext, fun a o e => by
    by_cases hb : a = p
    · subst hb
      rw [mset_same] at e
      cases e
      exact ⟨⟨vs, h1, z⟩, h2⟩
    · rw [mset_ne hb] at e
      exact S'.wd.mu a o e, S'.wd.tup⟩
  refine k _ F' H' (.obj p) _ g2 ?_ (by unfold Fz; rfl) (q' p h3)
  refine ⟨W', ⟨S'.grow.fz, fun b o x1 x2 => ?_⟩, S'.len, fun i s v x1 x2 => ?_, S'.dist⟩
  · obtain ⟨k1, k2, k3⟩ := S'.grow.keep b o x1 x2
    have hb : b ≠ p := by
      rintro rfl
      obtain ⟨j1, j2, _⟩ := S.grow.keep _ o x1 x2
      exact h0 o j1 j2
    exact ⟨k1, (mset_ne hb).trans k2, k3⟩
  · have q := S'.slot i s v x1 x2
    have q0 := S.slot i s v x1 x2
    cases s with
    | no => exact True.intro
    | fn _ _ _ _ => exact q
    | dat d => exact q
    | ml ds' =>
      obtain ⟨a, vs', hv, ha, q, o1, o2, o3⟩ := q
      obtain ⟨a0, vs0, hv0, ha0, _, _, m0, _⟩ := q0
      rw [hv] at hv0
      cases hv0
      exact ⟨a, vs', hv, ha, q, o1, (mset_ne (h0.ne ha0 m0)).trans o2, o3⟩
    | md ks =>
      obtain ⟨a, vs', hv, ha, q, o1, o2, o3⟩ := q
      obtain ⟨a0, vs0, hv0, ha0, _, _, m0, _⟩ := q0
      rw [hv] at hv0
      cases hv0
      exact ⟨a, vs', hv, ha, q, o1, (mset_ne (h0.ne ha0 m0)).trans o2, o3⟩
theorem Sti.mput {B : Anchor} {F : Hp} {σ : L2.St} {H : Hp} {ρ : List Slot} {μ : Mu} (S : Sti B F σ H ρ μ) {p : Addr} {o o' : MO} {u : HO} (h : μ p = some o) (h' : MOk F (L2.upd H p u) p o') :
    Grow F μ H F (mset μ p o') (L2.upd H p u) ∧ Sti B F σ (L2.upd H p u) ρ (mset μ p o') := by
  obtain ⟨q1, hF⟩ := S.wd.mu p o h
  have nf : ∀ {b : Addr} {v : HO}, F b = some v → b ≠ p := fun e => by
    rintro rfl
    rw [hF] at e
    cases e
  have nm : ∀ {b : Addr}, μ b = none → b ≠ p := fun e => by
    rintro rfl
    rw [h] at e
    cases e
  have g : Grow F μ H F (mset μ p o') (L2.upd H p u) := ⟨Evl.Ex.refl _, fun b v e1 e2 => ⟨by rw [upd_ne (nm e2)]; exact e1, (mset_ne (nm e2)).trans e2, fun e => e⟩⟩
  have W' : Wd F (mset μ p o') (L2.upd H p u) := ⟨fun b v e => by rw [upd_ne (nf e)]; exact S.wd.ext b v e, fun b v e => by
    by_cases hb : b = p
    · subst hb
      rw [mset_same] at e
      cases e
      exact ⟨h', hF⟩
    · rw [mset_ne hb] at e
      obtain ⟨w1, w2⟩ := S.wd.mu b v e
      exact ⟨w1.mono (Evl.Ex.refl _) fun v hv => by rw [upd_ne hb]; exact hv, w2⟩, fun b vs e => by
    by_cases hb : b = p
    · subst hb
      exact (h'.notup e).elim
    · rw [upd_ne hb] at e
      exact S.wd.tup b vs e⟩
  exact ⟨g, S.go g W'⟩

def diScr (K : PySem.W.Frag) (i : Nat) : DI := fun ρ μ Q X => ∃ ns, ρ[i]? = some (.dat (.scr K ns)) ∧ Q (ns.map D.int) μ
def dLenS (K : PySem.W.Frag) : DC := fun ds Q => match ds with
  | [.scr K' ns] => K' = K ∧ Q (.int ns.length)
  | _ => False
theorem sim_lenS {K : PySem.W.Frag} : SimC (fun xs H Q => ∃ x n, xs = [x] ∧ LenV K x H n ∧ Q (.int n) H) (dLenS K) := fun {F μ H vs ds Qd Q} W z q k => by
  unfold dLenS at q
  split at q
  · rename_i K' ns
    obtain ⟨rfl, q⟩ := q
    obtain ⟨v, r, rfl, z1, z2⟩ := bzl_inv z
    rw [bzl_inv0 z2]
    have z3 : Fz F (.scr K' ns) v := z1
    unfold Fz at z3
    obtain ⟨a, rfl, z3⟩ := z3
    exact ⟨_, ns.length, rfl, .inl ⟨_, z3 H W.ext, by rw [List.length_map]⟩, k _ F H _ .refl W fz_int q⟩
  · exact q.elim
theorem d_lenS {X : Cx} {W : WX} {p pos : Pos} {e : Expr} {a : DA} (hm : X.mg "len" = none) (ha : PAB X W [e] a) (hg : Gl X "len" := by rfl) (he : starEach [e] X.env = (false, eval e X.env) :: starEach [] X.env := by rfl) : PD X W (.Call (.Name "len" p) [e] [] pos) (dCB (dLenS X.K) a) := d_callB call_len sim_lenS hm PySem.boot_len ha hg (he := he)

abbrev DM := List D → List D → (D → List D → Prop) → Prop
theorem FzL.set {F : Hp} {d : D} {v : V} (hd : Fz F d v) : ∀ (i : Nat) {ds : List D} {vs : List V}, FzL F ds vs → FzL F (ds.set i d) (vs.set i v)
  | i, [], _, h => by
    rw [fzl_inv0 h]
    simpa using fzl_nil
  | 0, e :: ds, _, h => by
    obtain ⟨w, r, rfl, h1, h3⟩ := fzl_inv h
    exact fzl_cons hd h3
  | i + 1, e :: ds, _, h => by
    obtain ⟨w, r, rfl, h1, h3⟩ := fzl_inv h
    exact fzl_cons h1 (FzL.set hd i h3)
theorem FzL.dropLast {F : Hp} {ds : List D} {vs : List V} (h : FzL F ds vs) : FzL F ds.dropLast vs.dropLast := by
  rw [List.dropLast_eq_take, List.dropLast_eq_take, h.length]
  exact h.take _
section
variable {X : Cx} {W : WX} {o e : Expr} {es : List Expr} {dO : DE} {a : DA} {apos cpos : Pos} {name : Str} {id : String} {r : V → List V → Hp → VK → Prop} {f : DM}
variable {i : Expr} {di dv : DE} {pos tpos : Pos}
def dOSet (o i v : DE) : DS := fun D ρ μ => v ρ μ (fun dx μ1 => o ρ μ1 (fun dp μ2 => i ρ μ2 (fun dk μ3 => ∃ p ds k j, dp = .obj p ∧ dk = .int k ∧ μ3 p = some (.lst ds) ∧ ixN ds.length k = some j ∧ D.nx ρ (mset μ3 p (.lst (ds.set j dx)))) (D.xc ρ)) (D.xc ρ)) (D.xc ρ)
end

structure SlsOk (B : Anchor) (F H0 : Hp) (μ0 : Mu) (H : Hp) (μ : Mu) (ss : List Slot) (vs : List V) : Prop where
  len : ss.length = vs.length
  ok : ∀ (i : Nat) (s : Slot) (v : V), ss[i]? = some s → vs[i]? = some v → SlotOk B F H μ (some v) s
  new : ∀ (i : Nat) (s : Slot) (a : Addr), ss[i]? = some s → s.own = true → vs[i]? = some (.ref a) → NewAt H0 μ0 a
  dist : ∀ (i j : Nat) (s t : Slot) (a : Addr), i ≠ j → ss[i]? = some s → ss[j]? = some t → s.own = true → t.own = true → vs[i]? = some (.ref a) → vs[j]? = some (.ref a) → False
theorem SlotOk.go {B : Anchor} {F F' : Hp} {μ μ' : Mu} {H H' : Hp} {v : Option V} {s : Slot} (q : SlotOk B F H μ v s) (g : Grow F μ H F' μ' H') : SlotOk B F' H' μ' v s := by
  cases s with
  | no => exact True.intro
  | fn _ _ _ _ => exact ⟨q.1, q.2.1, g.fz _ _ q.2.2⟩
  | dat d =>
    obtain ⟨x, hx, q⟩ := q
    exact ⟨x, hx, q.mono g.fz⟩
  | ml ds =>
    obtain ⟨a, vs, hv, ha, q, o1, o2, o3⟩ := q
    obtain ⟨k1, k2, k3⟩ := g.keep a _ ha o2
    exact ⟨a, vs, hv, k1, q.mono g.fz, k3 o1, k2, o3⟩
  | md ks =>
    obtain ⟨a, vs, hv, ha, q, o1, o2, o3⟩ := q
    obtain ⟨k1, k2, k3⟩ := g.keep a _ ha o2
    exact ⟨a, vs, hv, k1, q.mono g.fz, k3 o1, k2, o3⟩
theorem SlotOk.at_ {B : Anchor} {F : Hp} {μ : Mu} {H : Hp} {a : Addr} {s : Slot} (q : SlotOk B F H μ (some (.ref a)) s) (o : s.own = true) : ∃ u, H a = some u ∧ μ a = none := by
  cases s with
  | no => cases o
  | fn _ _ _ _ => cases o
  | dat d => cases o
  | ml ds =>
    obtain ⟨a', vs, e, ha, _, _, m, _⟩ := q
    cases e
    exact ⟨_, ha, m⟩
  | md ds =>
    obtain ⟨a', vs, e, ha, _, _, m, _⟩ := q
    cases e
    exact ⟨_, ha, m⟩
abbrev DSl := List Slot → Mu → (List Slot → Mu → Prop) → DXQ → Prop
def SimSl (W : WX) (ta : TA) (t : DSl) : Prop := ∀ {B : Anchor} {F : Hp} {σ : L2.St} {H : Hp} {ρ : List Slot} {μ : Mu} {Qd : List Slot → Mu → Prop} {Xd : DXQ} {Q : List V → Hp → Prop}, Sti B F σ H ρ μ → t ρ μ Qd Xd → GoX W B F σ H ρ μ Xd →
  (∀ vs F' H' ss μ', Grow F μ H F' μ' H' → Sti B F' σ H' ρ μ' → SlsOk B F' H μ H' μ' ss vs → Qd ss μ' → Q vs H') → ta σ H Q
structure PSl (X : Cx) (W : WX) (es : List Expr) (t : DSl) : Prop where
  ex : ∃ ta, PA X es ta ∧ SimSl W ta t
def slNil : DSl := fun _ μ Q _ => Q [] μ
def slD (a : DE) (r : DSl) : DSl := fun ρ μ Q X => a ρ μ (fun d μ1 => r ρ μ1 (fun ss μ2 => Q (.dat d :: ss) μ2) X) X
def slO (a : DI) (r : DSl) : DSl := fun ρ μ Q X => a ρ μ (fun ds μ1 => r ρ μ1 (fun ss μ2 => Q (.ml ds :: ss) μ2) X) X
theorem SlsOk.cons {B : Anchor} {F0 F1 F2 : Hp} {μ0 μ1 μ2 : Mu} {H0 H1 H2 : Hp} {s : Slot} {v : V} {ss : List Slot} {vs : List V} (g1 : Grow F0 μ0 H0 F1 μ1 H1) (g2 : Grow F1 μ1 H1 F2 μ2 H2) (h : SlotOk B F1 H1 μ1 (some v) s) (n : s.own = true → ∀ a, v = .ref a → NewAt H0 μ0 a)
    (r : SlsOk B F2 H1 μ1 H2 μ2 ss vs) : SlsOk B F2 H0 μ0 H2 μ2 (s :: ss) (v :: vs) := by
  refine ⟨by simp [r.len], fun i s' v' e1 e2 => ?_, fun i s' a e1 o e2 => ?_, fun i j s' t' a hij e1 e2 o1 o2 e3 e4 => ?_⟩
  · cases i with
    | zero =>
      cases e1
      cases e2
      exact h.go g2
    | succ i => exact r.ok i s' v' e1 e2
  · cases i with
    | zero =>
      cases e1
      cases e2
      exact n o a rfl
    | succ i => exact (r.new i s' a e1 o e2).back g1
  · cases i with
    | zero =>
      cases e1
      cases e3
      cases j with
      | zero => exact hij rfl
      | succ j =>
        obtain ⟨u, hu, hm⟩ := h.at_ o1
        exact r.new j t' a e2 o2 e4 u hu hm
    | succ i =>
      cases j with
      | zero =>
        cases e2
        cases e4
        obtain ⟨u, hu, hm⟩ := h.at_ o2
        exact r.new i s' a e1 o1 e3 u hu hm
      | succ j => exact r.dist i j s' t' a (fun e => hij (by rw [e])) e1 e2 o1 o2 e3 e4
theorem SlsOk.away {B : Anchor} {F F0 H0 : Hp} {σ : L2.St} {μ μ0 : Mu} {H : Hp} {ρ : List Slot} {ss : List Slot} {vs : List V} (S0 : Sti B F0 σ H0 ρ μ0) (z : SlsOk B F H0 μ0 H μ ss vs) {i : Nat} {s : Slot} {v : V} (e1 : ss[i]? = some s) (o : s.own = true) (e2 : vs[i]? = some v)
    (j : Nat) (t : Slot) (a : Addr) (h1 : ρ[j]? = some t) (h2 : t.own = true) (h3 : σ[j]? = some (some (.ref a))) : v ≠ .ref a := by
  rintro rfl
  obtain ⟨⟨u, hu⟩, hm⟩ := S0.ownAt h1 h2 h3
  exact z.new i s a e1 o e2 u hu hm
theorem Sti.setAny {B : Anchor} {F : Hp} {σ : L2.St} {H : Hp} {ρ : List Slot} {μ : Mu} (S : Sti B F σ H ρ μ) {i : Nat} {s : Slot} {v : V} (h : SlotOk B F H μ (some v) s)
    (hn : s.own = true → ∀ (j : Nat) (t : Slot) (a : Addr), ρ[j]? = some t → t.own = true → σ[j]? = some (some (.ref a)) → v ≠ .ref a) : Sti B F (σ.set i (some v)) H (ρ.set i s) μ := by
  cases s with
  | no =>
    refine ⟨S.wd, S.grow, by rw [List.length_set, List.length_set]; exact S.len, fun j s' w h1 h2 => ?_, fun j k s1 t a hjk h1 h2 o1 o2 e1 e2 => ?_⟩
    · by_cases hj : i = j
      · subst hj
        rw [List.getElem?_set] at h1
        simp only [if_true] at h1
        split at h1
        · cases h1
          exact True.intro
        · cases h1
      · rw [List.getElem?_set_ne hj] at h1 h2
        exact S.slot j s' w h1 h2
    · have nj : ∀ (j : Nat) (s : Slot), (ρ.set i .no)[j]? = some s → s.own = true → i ≠ j ∧ ρ[j]? = some s := fun j s h o => by
        by_cases hj : i = j
        · subst hj
          rw [List.getElem?_set] at h
          simp only [if_true] at h
          split at h
          · cases h
            cases o
          · cases h
        · rw [List.getElem?_set_ne hj] at h
          exact ⟨hj, h⟩
      obtain ⟨n1, h1⟩ := nj j s1 h1 o1
      obtain ⟨n2, h2⟩ := nj k t h2 o2
      rw [List.getElem?_set_ne n1] at e1
      rw [List.getElem?_set_ne n2] at e2
      exact S.dist j k s1 t a hjk h1 h2 o1 o2 e1 e2
  | fn f c q B0 =>
    refine ⟨S.wd, S.grow, by rw [List.length_set, List.length_set]; exact S.len, fun j s' w h1 h2 => ?_, fun j k s1 t a hjk h1 h2 o1 o2 e1 e2 => ?_⟩
    · by_cases hj : i = j
      · subst hj
        rw [List.getElem?_set] at h1 h2
        simp only [if_true] at h1 h2
        split at h1
        · cases h1
          split at h2
          · cases h2
            exact h
          · cases h2
        · cases h1
      · rw [List.getElem?_set_ne hj] at h1 h2
        exact S.slot j s' w h1 h2
    · have nj : ∀ (j : Nat) (s : Slot), (ρ.set i (.fn f c q B0))[j]? = some s → s.own = true → i ≠ j ∧ ρ[j]? = some s := fun j s h o => by
        by_cases hj : i = j
        · subst hj
          rw [List.getElem?_set] at h
          simp only [if_true] at h
          split at h
          · cases h
            cases o
          · cases h
        · rw [List.getElem?_set_ne hj] at h
          exact ⟨hj, h⟩
      obtain ⟨n1, h1⟩ := nj j s1 h1 o1
      obtain ⟨n2, h2⟩ := nj k t h2 o2
      rw [List.getElem?_set_ne n1] at e1
      rw [List.getElem?_set_ne n2] at e2
      exact S.dist j k s1 t a hjk h1 h2 o1 o2 e1 e2
  | dat d =>
    obtain ⟨x, hx, z⟩ := h
    cases hx
    exact S.set z
  | ml ds => exact S.setO h (hn rfl)
  | md ds => exact S.setO h (hn rfl)
theorem own_set {ρ : List Slot} {σ : L2.St} {i : Nat} {s : Slot} {v : V} {j : Nat} {t : Slot} {a : Addr} (h1 : (ρ.set i s)[j]? = some t) (h2 : t.own = true) (h3 : (σ.set i (some v))[j]? = some (some (.ref a))) :
    (i = j ∧ t = s ∧ v = .ref a) ∨ (ρ[j]? = some t ∧ σ[j]? = some (some (.ref a))) := by
  by_cases hj : i = j
  · subst hj
    rw [List.getElem?_set] at h1 h3
    simp only [if_true] at h1 h3
    split at h1
    · cases h1
      split at h3
      · cases h3
        exact .inl ⟨rfl, rfl, rfl⟩
      · cases h3
    · cases h1
  · rw [List.getElem?_set_ne hj] at h1 h3
    exact .inr ⟨h1, h3⟩
theorem Sti.setS {B : Anchor} {F F0 H0 : Hp} {σ : L2.St} {μ μ0 : Mu} {H : Hp} {ρ : List Slot} {s t : Slot} {v w : V} {i j : Nat} (S : Sti B F σ H ρ μ) (S0 : Sti B F0 σ H0 ρ μ0) (z : SlsOk B F H0 μ0 H μ [s, t] [v, w]) :
    Sti B F ((σ.set i (some v)).set j (some w)) H ((ρ.set i s).set j t) μ := by
  have S1 := S.setAny (i := i) (z.ok 0 s v rfl rfl) fun o => z.away S0 (i := 0) rfl o rfl
  refine S1.setAny (z.ok 1 t w rfl rfl) fun o j' t' a e1 e2 e3 => ?_
  rcases own_set e1 e2 e3 with ⟨_, rfl, rfl⟩ | ⟨e1, e3⟩
  · rintro rfl
    exact z.dist 0 1 _ _ a (by decide) rfl rfl e2 o rfl rfl
  · exact z.away S0 (i := 1) rfl o rfl j' t' a e1 e2 e3
theorem Sti.setS3 {B : Anchor} {F F0 H0 : Hp} {σ : L2.St} {μ μ0 : Mu} {H : Hp} {ρ : List Slot} {s t r : Slot} {v w u : V} {i j k : Nat} (S : Sti B F σ H ρ μ) (S0 : Sti B F0 σ H0 ρ μ0) (z : SlsOk B F H0 μ0 H μ [s, t, r] [v, w, u]) :
    Sti B F (((σ.set i (some v)).set j (some w)).set k (some u)) H (((ρ.set i s).set j t).set k r) μ := by
  have S1 := S.setAny (i := i) (z.ok 0 s v rfl rfl) fun o => z.away S0 (i := 0) rfl o rfl
  have S2 : Sti B F ((σ.set i (some v)).set j (some w)) H ((ρ.set i s).set j t) μ := by
    refine S1.setAny (z.ok 1 t w rfl rfl) fun o j' t' a e1 e2 e3 => ?_
    rcases own_set e1 e2 e3 with ⟨_, rfl, rfl⟩ | ⟨e1, e3⟩
    · rintro rfl
      exact z.dist 0 1 _ _ a (by decide) rfl rfl e2 o rfl rfl
    · exact z.away S0 (i := 1) rfl o rfl j' t' a e1 e2 e3
  refine S2.setAny (z.ok 2 r u rfl rfl) fun o j' t' a e1 e2 e3 => ?_
  rcases own_set e1 e2 e3 with ⟨_, rfl, rfl⟩ | ⟨e1, e3⟩
  · rintro rfl
    exact z.dist 1 2 _ _ a (by decide) rfl rfl e2 o rfl rfl
  · rcases own_set e1 e2 e3 with ⟨_, rfl, rfl⟩ | ⟨e1, e3⟩
    · rintro rfl
      exact z.dist 0 2 _ _ a (by decide) rfl rfl e2 o rfl rfl
    · exact z.away S0 (i := 2) rfl o rfl j' t' a e1 e2 e3
section
variable {X : Cx} {W : WX} {e : Expr} {es : List Expr} {de : DE} {dO : DI} {r : DSl}
theorem sl_nil : PSl X W [] slNil := ⟨_, pa_nil, fun {B F σ H ρ μ Qd Xd Q} S q gx k => k [] F H [] μ .refl S ⟨rfl, fun i s v e => by simp at e, fun i s a e => by simp at e, fun i j s t a _ e => by simp at e⟩ q⟩
theorem sl_d (ha : PD X W e de) (hr : PSl X W es r) (hs : starEach (e :: es) X.env = (false, eval e X.env) :: starEach es X.env := by rfl) : PSl X W (e :: es) (slD de r) := by
  obtain ⟨ta, a1, a2⟩ := ha.ex
  obtain ⟨tr, r1, r2⟩ := hr.ex
  refine ⟨_, pa_cons a1 r1 hs, fun {B F σ H ρ μ Qd Xd Q} S q gx k => a2 S q gx fun v F1 H1 d μ1 g1 S1 z1 q1 => r2 S1 q1 (gx.go g1) fun vs F2 H2 ss μ2 g2 S2 z2 q2 => ?_⟩
  exact k _ F2 H2 _ μ2 (g1.trans g2) S2 (.cons (s := .dat d) g1 g2 ⟨v, rfl, z1⟩ (fun o => by cases o) z2) q2
theorem sl_o (ha : PO X W e dO) (hr : PSl X W es r) (hs : starEach (e :: es) X.env = (false, eval e X.env) :: starEach es X.env := by rfl) : PSl X W (e :: es) (slO dO r) := by
  obtain ⟨ta, a1, a2⟩ := ha.ex
  obtain ⟨tr, r1, r2⟩ := hr.ex
  refine ⟨_, pa_cons a1 r1 hs, fun {B F σ H ρ μ Qd Xd Q} S q gx k => a2 S q gx fun p vs1 F1 H1 ds μ1 g1 S1 h0 h1 h2 h3 z1 q1 => r2 S1 q1 (gx.go g1) fun vs F2 H2 ss μ2 g2 S2 z2 q2 => ?_⟩
  refine k _ F2 H2 _ μ2 (g1.trans g2) S2 (.cons g1 g2 (s := .ml ds) ⟨p, vs1, rfl, h1, z1, h2, h3, fun o j1 j2 => ?_⟩ (fun _ a e => by cases e; exact h0) z2) q2
  obtain ⟨k1, k2, _⟩ := S.grow.keep p o j1 j2
  exact h0 o k1 k2
variable {i j l : Nat} {x y z : Str} {a b c : Expr} {px py pz pt pos : Pos} {kt k2 pt2}
def dParS (i j : Nat) (a : DSl) : DS := fun D ρ μ => a ρ μ (fun ss μ1 => match ss with
  | [s, t] => D.nx ((ρ.set i s).set j t) μ1
  | _ => False) (D.xc ρ)
theorem s_parS (hc : X.calm = true) (hN : X.N.Nodup) (hi : X.N[i]? = some x) (hj : X.N[j]? = some y) (hij : i ≠ j)
    (hx : X.env.scope.names.lookup x = some .local) (hy : X.env.scope.names.lookup y = some .local) (ha : PSl X W [a, b] r)
    (hw : swappedStores [.Tuple [.Name x px, .Name y py] kt pt] (.Tuple [a, b] k2 pt2) X.env = pure (some [x, y]))
    (hs : swapsWithSole [.Tuple [.Name x px, .Name y py] kt pt] (.Tuple [a, b] k2 pt2) pos.line X.env = pure false := by rfl) :
    PSD X W (.Assign [.Tuple [.Name x px, .Name y py] kt pt] (.Tuple [a, b] k2 pt2) pos) (dParS i j r) := by
  obtain ⟨ta, a1, a2⟩ := ha.ex
  refine ⟨_, ps_par hc hN hi hj hij hx hy a1 hw hs, fun {B F σ H ρ μ Dd D} S q r => a2 S q r.gox fun vs F' H' ss μ' g S' z q' => ?_⟩
  split at q'
  · rename_i s t
    obtain ⟨v, w, rfl⟩ : ∃ v w, vs = [v, w] := by
      have := z.len
      match vs, this with
      | [v, w], _ => exact ⟨v, w, rfl⟩
    exact ⟨v, w, rfl, r.nx F' _ H' _ μ' g.fz (S'.setS S z) q'⟩
  · exact q'.elim
def dParS3 (i j l : Nat) (a : DSl) : DS := fun D ρ μ => a ρ μ (fun ss μ1 => match ss with
  | [s, t, u] => D.nx (((ρ.set i s).set j t).set l u) μ1
  | _ => False) (D.xc ρ)
theorem s_parS3 (hc : X.calm = true) (hN : X.N.Nodup) (hi : X.N[i]? = some x) (hj : X.N[j]? = some y) (hl : X.N[l]? = some z) (hij : i ≠ j) (hil : i ≠ l) (hjl : j ≠ l)
    (hx : X.env.scope.names.lookup x = some .local) (hy : X.env.scope.names.lookup y = some .local) (hz : X.env.scope.names.lookup z = some .local) (ha : PSl X W [a, b, c] r)
    (hw : swappedStores [.Tuple [.Name x px, .Name y py, .Name z pz] kt pt] (.Tuple [a, b, c] k2 pt2) X.env = pure (some [x, y, z]))
    (hs : swapsWithSole [.Tuple [.Name x px, .Name y py, .Name z pz] kt pt] (.Tuple [a, b, c] k2 pt2) pos.line X.env = pure false := by rfl) :
    PSD X W (.Assign [.Tuple [.Name x px, .Name y py, .Name z pz] kt pt] (.Tuple [a, b, c] k2 pt2) pos) (dParS3 i j l r) := by
  obtain ⟨ta, a1, a2⟩ := ha.ex
  refine ⟨_, ps_par3 hc hN hi hj hl hij hil hjl hx hy hz a1 hw hs, fun {B F σ H ρ μ Dd D} S q r => a2 S q r.gox fun vs F' H' ss μ' g S' z q' => ?_⟩
  split at q'
  · rename_i s t u
    obtain ⟨v, w, o, rfl⟩ : ∃ v w o, vs = [v, w, o] := by
      have := z.len
      match vs, this with
      | [v, w, o], _ => exact ⟨v, w, o, rfl⟩
    exact ⟨v, w, o, rfl, r.nx F' _ H' _ μ' g.fz (S'.setS3 S z) q'⟩
  · exact q'.elim
end
end DL

namespace DL.Bld
open PySem PySem.Spec PyProof.Rows L2
abbrev nSet (w : World) : Obj := { cls := .type "set", dict := none, data := .set #[] 0 (.fresh 0 0 (!w.params.followText "set-order")) }
section
variable {P : Program} {w : World} {A : Around} {s : Shared}
def Full (w : World) (s : Shared) (S : Addr) (ns : List Int) (r : Value) (s' : Shared) : Prop :=
  r = Value.none ∧ ∃ h' tk c, s' = { s with heap := h', toks := tk } ∧ SetR w h' S (fun j => decide (j ∈ ns)) c ∧ c ≤ ns.length ∧ ∀ b o, b ≠ S → s.heap.get? b = some o → h'.get? b = some o
theorem setR_zero {h : Heap} {S : Addr} (e : h.get? S = some (nSet w)) (ns : List Int) : ∃ c, c ≤ 0 ∧ SetR w h S (fun j => decide (j ∈ ns.take 0)) c :=
  ⟨0, Nat.le_refl 0, _, #[], 0, _, e, ⟨rfl, rfl, rfl⟩, rfl, fun e he => by simp at he, by simp, fun k => by simp, by decide, by rfl, rfl, List.Pairwise.nil, by
    show w.params.followText "set-order" = true ∨ (!w.params.followText "set-order") = true
    rcases Bool.eq_false_or_eq_true (w.params.followText "set-order") with q | q <;> simp [q]⟩
set_option maxHeartbeats 8000000 in
theorem fill {S l : Addr} {its : List Value} {ns : List Int} (dh : A.handled = none) (eS : s.heap.get? S = some (nSet w)) (el : s.heap.IsList l its.toArray) (ei : IntsAre its ns) (few : ns.length + 1 < scanBound) :
    codeAny (model P w) A (.call (.builtin "set.__init__") ⟨[.ref S, .ref l], []⟩) (fun r s' => ∃ v, r = .ok (.ret v) ∧ Full w s S ns v s') s := by
  have as_set : s.TypeIs (.ref S) "set" := ⟨nSet w, eS, rfl⟩
  have apart : l ≠ S := by
    rintro rfl
    obtain ⟨o, e1, e2, _⟩ := el
    rw [eS] at e1
    cases e1
    exact absurd (Value.type.inj e2) (by decide)
  have S_lt : S < s.heap.objs.size := Heap.lt_size eS
  have l_lt : l < s.heap.objs.size := by
    obtain ⟨o, e1, _⟩ := el
    exact Heap.lt_size e1
  have as_many : its.toArray.size = ns.length := by rw [List.size_toArray]; exact ei.length
  refine codeAny_call_builtin F.called_set.init.plain F.entry_set_init (check_set_init_1 as_set ?_)
  have full := el
  obtain ⟨⟨oc, od, odt, os⟩, l1, l2, nl, l3⟩ := el
  simp only at l2 l3
  subst l2
  subst l3
  have f1 := F.sub_list_set
  have f2 := F.sub_list_frozenset
  have f3 : (Value.type "list" == Value.type "dict") = false := by decide
  unfold Builtin.«set.__init__» noKeywords Builtin.Frozenset.updateFrom
  generalize hit : pyIter = it
  wp_walk
  subst hit
  refine wpAny_pyIter_list full ?_
  refine wpAny_bind (wpAny_runValue ?_)
  have Wk := (Walks.list (prog := P) (w := w) (A := A.in1.in1) (by simp [dh]) s.heap.objs.size l (Nat.ne_of_lt l_lt) its.toArray).toS
  have outside : S ∉ [s.heap.objs.size, l] := by
    simp only [List.mem_cons, List.not_mem_nil, or_false, not_or]
    exact ⟨Nat.ne_of_lt S_lt, fun e => apart e.symm⟩
  have items_int : ∀ (i : Nat) (v : Value), its.toArray[i]? = some v → ∃ k t, ns[i]? = some k ∧ v = .int k t := fun i v hv => by
    have hi : i < ns.length := by
      have q := (Array.getElem?_eq_some_iff.mp hv).1
      omega
    obtain ⟨t, e⟩ := ei.int_at i v (by simpa using hv)
    rw [List.getD_eq_getElem?_getD, List.getElem?_eq_getElem hi] at e
    exact ⟨ns[i], t, List.getElem?_eq_getElem hi, e⟩
  refine set_update_ints Wk S outside ns as_many few items_int its.toArray.size 0 _ (Nat.sub_zero _) (Nat.zero_le _) ?stand
    ?zero fun s2 c mv cn R2 => ?_
  case stand => exact ⟨⟨_, Heap.get?_push_size _ rfl, rfl, rfl⟩, full.push _⟩
  case zero => exact setR_zero (Heap.get?_push_of_some _ eS) ns
  have q1 : s2.gens = s.gens := mv.gens
  have q2 : s2.drawn = s.drawn := mv.drawn
  have q3 : s2.os = s.os := mv.os
  show wpAny _ _ _ _ _ _
  refine wpAny_pure ?_
  show wpAny _ _ (ret Value.none) _ _ _
  refine wpAny_pure ⟨_, rfl, rfl, s2.heap, s2.toks, c, ?_, R2, by omega, fun b o n e => ?_⟩
  · obtain ⟨h', g', d', t', o'⟩ := s2
    simp only at q1 q2 q3
    subst q1; subst q2; subst q3
    rfl
  · refine mv.heap b o ?_ (Heap.get?_push_of_some _ e)
    simp only [List.mem_cons, List.not_mem_nil, or_false, not_or]
    exact ⟨n, Nat.ne_of_lt (Heap.lt_size e)⟩
set_option maxHeartbeats 8000000 in
theorem set_of_list {l : Addr} {its : List Value} {ns : List Int} {Q : Value → Shared → Prop} {E : Value → Shared → Prop} (dh : A.handled = none) (el : s.heap.IsList l its.toArray) (ei : IntsAre its ns) (few : ns.length + 1 < scanBound)
    (h : ∀ (h' : Heap) (tk c : Nat), SetR w h' s.heap.objs.size (fun j => decide (j ∈ ns)) c → c ≤ ns.length → (∀ b o, s.heap.get? b = some o → h'.get? b = some o) → Q (.ref s.heap.objs.size) { s with heap := h', toks := tk }) :
    wpAny (model P w) A (call (.type "set") [.ref l]) Q E s := by
  have c1 := F.called_set.made
  have c2 := F.called_set.sub
  have c3 := F.called_set.notType
  have c4 := F.called_set.canCreate
  have c5 := F.typeCall_set_1 (.ref l)
  obtain ⟨c, tl, c6⟩ := F.called_set.mro
  refine wpAny_call (codeAny_of_tree ?_)
  show wpAny _ _ (callAny (.type "set") _) _ _ _
  refine wpAny_pure ⟨Code.quiet_builtin _ (by decide +kernel), codeAny_builtin F.entry_type_call ?_⟩
  rw [Around.under_plain (weight_type_call_type "set" [.ref l] []) rfl]
  repeat (any_goals (first | assumption | wp_step))
  refine codeAny_mono (code_set_led1 (.ref l) (E := fun _ _ => False) (Q₁ := fun v s1 => v = .ref s.heap.objs.size ∧ s1 = { s with heap := s.heap.push (nSet w) }) ⟨rfl, rfl⟩) fun r s1 hr => ?_
  match r, hr with
  | .error e, hr => exact hr.elim
  | .ok .next, hr => exact hr.elim
  | .ok .brk, hr => exact hr.elim
  | .ok .cont, hr => exact hr.elim
  | .ok (.ret v), hr =>
    obtain ⟨rfl, rfl⟩ := hr
    have at1 : (s.heap.push (nSet w)).get? s.heap.objs.size = some (nSet w) := Heap.get?_push_size _ rfl
    have ty1 : Shared.TypeIs { s with heap := s.heap.push (nSet w) } (.ref s.heap.objs.size) "set" := ⟨_, at1, rfl⟩
    have i1 := F.called_set.init.lookup
    have i2 := F.called_set.init.bind (.ref s.heap.objs.size)
    repeat (any_goals (first | assumption | wp_step))
    refine codeAny_mono (fill (P := P) (its := its) (ns := ns) (by simp [dh]) at1 (el.push _) ei few) fun r2 s2 h2 => ?_
    obtain ⟨v, rfl, rfl, h', tk, c, rfl, R, cn, kp⟩ := h2
    repeat (any_goals (first | assumption | wp_step))
    exact h h' tk c R cn fun b o e => kp b o (Nat.ne_of_lt (Heap.lt_size e)) (Heap.get?_push_of_some _ e)
end
end DL.Bld

namespace DL.Bld
open PySem PySem.Spec PyProof.Rows L2
section
variable {P : Program} {w : World} {A : Around} {s : Shared}
end
end DL.Bld
namespace DL
open PySem PySem.Spec PyProof.Rows L2
section
variable {X : Cx}
def rSetOfI (K : PySem.W.Frag) (w : World) : List V → Hp → VK → Prop := fun vs H Q => ∃ (a : Addr) (ns : List Int), vs = [V.ref a] ∧ SqL K H a (ns.map V.int) ∧ ns.length + 1 < scanBound ∧
  ∀ (p : Addr) (c : Nat), c ≤ ns.length → H p = none → Q (.ref p) (upd H p (SetO w p (fun j => decide (j ∈ ns)) c))
theorem call_setOfI (hc : X.calm = true) : CallR X (.type "set") (rSetOfI X.K X.w) := by
  intro pins s σ H vs us Q I r h
  obtain ⟨a, ns, rfl, hs, few, q⟩ := h
  obtain ⟨its, rv, pl, hz⟩ := I.list hs
  rw [Vals.ref1 r]
  refine Bld.set_of_list (I.ok.hd hc) pl.isList rv.ints few fun h' tk c R cn keep => ?_
  exact ⟨.ref _, upd H s.heap.objs.size (SetO X.w s.heap.objs.size (fun j => decide (j ∈ ns)) c), I.laid (t' := tk) keep (Nat.le_refl _) (setO_new R), rfl, q _ c cn (I.hok.fresh (Nat.le_refl _))⟩
end
def dSortedT : DC := fun ds Q => match ds with
  | [.tup xs] => ∃ ns : List Int, xs = ns.map D.int ∧ ∀ ns' : List Int, ns'.Perm ns → ns'.Pairwise (· ≤ ·) → Q (.lst (ns'.map D.int))
  | _ => False
def dSortedS : DC := dIs fun ns Q => ns.length < 64 ∧ ∀ ns' : List Int, ns'.Pairwise (· < ·) → (∀ k, k ∈ ns' ↔ k ∈ ns) → ns'.length ≤ ns.length → Q (.lst (ns'.map D.int))
section
variable {X : Cx} {W : WX} {p q pos pos2 : Pos} {e : Expr} {a : DA} {de : DE}
theorem d_sortedS (hc : X.calm = true) (hm : X.mg "sorted" = none) (hm2 : X.mg "set" = none) (ha : PAB X W [e] a) (hg : Gl X "sorted" := by rfl) (hg2 : Gl X "set" := by rfl) (he : starEach [e] X.env = (false, eval e X.env) :: starEach [] X.env := by rfl)
    (he2 : starEach [.Call (.Name "set" q) [e] [] pos2] X.env = (false, eval (.Call (.Name "set" q) [e] [] pos2) X.env) :: starEach [] X.env := by rfl) : PD X W (.Call (.Name "sorted" p) [.Call (.Name "set" q) [e] [] pos2] [] pos) (dCB dSortedS a) := by
  obtain ⟨ta, a1, a2⟩ := ha.ex
  refine ⟨_, pe_callB (cr_sortedSet hc) hg hm PyProof.Rows.boot_sorted (pa_cons (pe_callTy (call_setOfI hc) hg2 hm2 PyProof.Rows.boot_set a1 (by decide) (by decide) he) pa_nil he2) (by decide) (by decide) he2, fun {B F σ H ρ μ Qd Xd Q} S q gx k => a2 S q gx fun vs F1 H1 ds μ1 g1 S1 z1 q1 => ?_⟩
  have W1 := S1.wd.mu0
  have z1 := z1.rd S1.wd
  unfold dSortedS dIs at q1
  split at q1
  · rename_i xs ex
    obtain ⟨ns, rfl, few, q1⟩ := q1
    rw [ex] at z1
    obtain ⟨v, r, rfl, y1, y2⟩ := bzl_inv z1
    rw [bzl_inv0 y2]
    obtain ⟨b, ws, rfl, h1, _, y3⟩ := bz_lst y1
    rw [y3.ints] at h1
    refine ⟨b, ns, rfl, .of h1, by unfold scanBound; omega, fun p c hc hp => ?_⟩
    obtain ⟨W2, g2⟩ := S1.wd.new (o := SetO X.w p (fun j => decide (j ∈ ns)) c) hp
    refine ⟨p, _, c, rfl, upd_same, by omega, fun ns' p2 k1 k2 k3 hp2 => ?_⟩
    obtain ⟨g3, W3, z3⟩ := new_lst W2 (fzl_ints ns') hp2
    exact k _ _ _ _ μ1 ((g1.trans g2).trans g3) (S1.go (g2.trans g3) W3) z3 (q1 ns' k1 (fun k => by rw [k2]; simp) (by omega))
  · exact q1.elim
end
end DL

namespace DL
open PySem PySem.Spec PyProof.Rows L2
abbrev yes : DQ := fun d _ => d = .bl true
abbrev nox : DXQ := fun _ _ => False
theorem spOf_true {sp : DSp} {H : Hp} {ds : List D} {vs : List V} (z : FzL H ds vs) (h : sp ds mu0 yes nox) : spOf sp vs H (fun v _ => v = .bl true) fun _ _ _ => False :=
  ⟨H, ds, mu0, yes, nox, ⟨Evl.Ex.refl _, (fun a o e => by cases e), fun a vs e => e⟩, z, h, fun v F' H' d μ' _ _ zv q => by
    subst q
    unfold Fz at zv
    exact zv, fun cls dd F' H' x μ' _ _ _ q => q⟩
theorem law_callV {P : Program} {w : World} {K : PySem.W.Frag} {mg mb : Str → Option Value} {k : Nat} {fa a : Addr} {fd : FuncData} {x : Str} {sp : DSp} {s : Shared} {vs : List Value} {ns : List Int}
    (KX : K.In s.heap) (G : s.heap.Ns mainGlobals mg) (B : s.heap.Ns builtinsNs mb) (BB : ∀ x : Str, x ≠ "__name__" → mb x = bootBuiltins x) (nl : s.heap.NoLimit) (gn : s.gens = #[])
    (ha : s.heap.get? a = some { cls := .type "list", data := .seq vs.toArray }) (hi : IntsAre vs ns) (hl : ns.length ≤ sizeLine) (hr : Room k callerA)
    (F : ∀ base : Heap, K.In base → base.Ns mainGlobals mg → FnV P w K mg base k fa fd [x] (spOf sp)) (bd : ∀ (s : Shared) (u : Value), BindsTo s fd ⟨[u], []⟩ [(x, u)]) (hsp : sp [.scr K ns] mu0 yes nox) :
    codeAny (model P w) callerA (.call (.ref fa) ⟨[.ref a], []⟩) (fun r s' => r = .ok (.ret (.bool true)) ∧ OldK s.heap s'.heap ∧ s'.os = s.os ∧ AllBare s'.gens) s := by
  have vi := vals_ints hi
  have ln := hi.length
  let scrO : Obj := { cls := .type "list", data := .seq vs.toArray }
  -- H: nothing, or the script alone
  obtain ⟨H, hH, hA, hS, hK⟩ : ∃ H : Hp, HOk P w H s.heap ∧ (∀ b u, H b = some u → b = a ∧ u = .frz scrO (.lst (ns.map V.int))) ∧ (∀ H', Ex H H' → SqL K H' a (ns.map V.int)) ∧ (∀ b, H b ≠ none → K.lookup b = none) := by
    cases e : K.lookup a with
    | some o =>
      have eo : some o = some scrO := (KX a o e).symm.trans ha
      cases eo
      exact ⟨fun _ => none, fun b u z => (by cases z), fun b u z => (by cases z), fun H' _ => .inr ⟨_, vs.toArray, _, e, rfl, rfl, rfl, by rw [List.size_toArray, ln]; exact hl, by simpa using vi⟩, fun b z => absurd rfl z⟩
    | none =>
      refine ⟨fun b => if b = a then some (.frz scrO (.lst (ns.map V.int))) else none, fun b u z => ?_, fun b u z => ?_, fun H' ex => .inl (.inr ⟨scrO, ex a _ (if_pos rfl)⟩), fun b z => ?_⟩
      · have z : (if b = a then some (HO.frz scrO (.lst (ns.map V.int))) else none) = some u := z
        split at z
        · rename_i eb
          cases z
          subst eb
          exact ⟨ha, by rw [List.length_map]; exact hl, vs, _, vi, ha⟩
        · cases z
      · have z : (if b = a then some (HO.frz scrO (.lst (ns.map V.int))) else none) = some u := z
        split at z
        · rename_i eb
          cases z
          exact ⟨eb, rfl⟩
        · cases z
      · have z : (if b = a then some (HO.frz scrO (.lst (ns.map V.int))) else none) ≠ none := z
        split at z
        · rename_i eb
          rw [eb]
          exact e
        · exact absurd rfl z
  have untracked : ∀ {b : Addr} {o : Obj}, s.heap.get? b = some o → (∀ es ep, o.data = .dict es ep → False) ∨ H b = none := fun {b o} e => by
    cases q : H b with
    | none => exact .inr rfl
    | some u =>
      obtain ⟨rfl, _⟩ := hA b u q
      rw [ha] at e
      cases e
      exact .inl fun es ep z => by cases z
  have ns_of : ∀ {b : Addr} {m : Str → Option Value}, s.heap.Ns b m → (hidT s.heap H).Ns b m := fun {b m} ⟨o, es, ep, e, d, r⟩ => by
    rcases untracked e with q | q
    · exact (q es ep d).elim
    · exact ⟨o, es, ep, hidT_get e q, d, r⟩
  have kb : K.In (hidT s.heap H) := fun b o e => hidT_get (KX b o e) (by
    cases q : H b with
    | none => rfl
    | some u =>
      have := hK b (by rw [q]; exact Option.some_ne_none u)
      rw [this] at e
      cases e)
  have lim : (hidT s.heap H).NoLimit := by
    obtain ⟨mc, n1, n2⟩ := nl
    exact ⟨mc, ns_of n1, n2⟩
  have env : Env0 P w K mg (hidT s.heap H) callerA [] s H := ⟨rfl, ⟨kb, ns_of G, ⟨mb, ns_of B, BB⟩, lim⟩, fun b o e => of_hidT e, Nat.le_of_eq (hidT_size _ _), trivial, fun b hb => (by cases hb), hH, .of_eq gn⟩
  have arg : FzL H [.scr K ns] [.ref a] := fzl_cons (by unfold Fz; exact ⟨a, rfl, hS⟩) fzl_nil
  refine codeAny_mono ((F _ kb (ns_of G)).run callerA [] s H ⟨[.ref a], []⟩ [.ref a] [.ref a] _ _ hr rfl env (bd s _) (.cons rfl .nil) (spOf_true arg hsp)) fun r s' h => ?_
  match r, h with
  | .error e, h =>
    obtain ⟨_, _, _, _, _, _, _, _, _, _, _, _, f⟩ := h
    exact f.elim
  | .ok .next, h => exact h.elim
  | .ok .brk, h => exact h.elim
  | .ok .cont, h => exact h.elim
  | .ok (.ret u), h =>
    obtain ⟨v, H', os, bare, un, ok', ru, q⟩ := h
    obtain rfl : v = .bl true := q
    obtain rfl : u = Value.bool true := ru
    refine ⟨rfl, OldK.of_keep fun b o e => ?_, os, bare⟩
    cases q : H b with
    | none => exact un.keep b o e q (fun z => by cases z) (by simp)
    | some t =>
      obtain ⟨rfl, rfl⟩ := hA b t q
      have q2 := (ok' _ _ (un.frzs _ _ _ q)).1
      have q1 := (hH _ _ q).1
      rw [e] at q1
      cases q1
      exact q2
section
variable {X : Cx} {W : WX} {a b e o i : Expr} {rest es : List Expr} {da db : DE} {dO : DE} {dA : DA} {p q pos pos2 apos cpos : Pos}
def dAndV (a b : DE) : DE := fun ρ μ Q X => a ρ μ (fun d μ1 => match d with
  | .bl c => if c = true then b ρ μ1 Q X else Q (.bl false) μ1
  | _ => False) X
def dOrV (a b : DE) : DE := fun ρ μ Q X => a ρ μ (fun d μ1 => match d with
  | .bl c => if c = true then Q (.bl true) μ1 else b ρ μ1 Q X
  | _ => False) X
theorem d_one {op} (h : PD X W a da) : PD X W (.BoolOp op [a] pos) da := by
  obtain ⟨ta, a1, a2⟩ := h.ex
  exact ⟨_, pe_one a1, a2⟩
theorem d_and (ha : PD X W a da) (hb : PD X W (.BoolOp .And (b :: rest) pos) db) : PD X W (.BoolOp .And (a :: b :: rest) pos) (dAndV da db) := by
  obtain ⟨ta, a1, a2⟩ := ha.ex
  obtain ⟨tb, b1, b2⟩ := hb.ex
  refine ⟨_, pe_and a1 b1, fun {B F σ H ρ μ Qd Xd Q} S q gx k => a2 S q gx fun v F' H' d μ' g S' z q' => ?_⟩
  split at q'
  · rename_i c
    unfold Fz at z
    refine ⟨c, z, ?_⟩
    cases c with
    | true =>
      rw [if_pos rfl] at q' ⊢
      exact b2 S' q' (gx.go g) fun v F2 H2 d μ2 gg => k v F2 H2 d μ2 (g.trans gg)
    | false =>
      rw [if_neg (by decide)] at q' ⊢
      exact k _ F' H' _ μ' g S' fz_bl q'
  · exact q'.elim
def dRgT (a : DE) : DE := fun ρ μ Q X => a ρ μ (fun d μ1 => match d with
  | .int n => n ≤ 16777216 ∧ 0 ≤ n ∧ Q (.tup (rangeD 0 n.toNat)) μ1
  | _ => False) X
def dRgL (a : DE) : DE := fun ρ μ Q X => a ρ μ (fun d μ1 => match d with
  | .int n => n ≤ 16777216 ∧ 0 ≤ n ∧ Q (.lst (rangeD 0 n.toNat)) μ1
  | _ => False) X
end
end DL

namespace DL
open PySem PySem.Spec PyProof.Rows L2
theorem small {n : Nat} (h : n ≤ 1000000) : n ≤ sizeLine := by unfold sizeLine; omega
theorem smallL {n : Nat} (h : n < 1000000) : n < sizeLine := by unfold sizeLine; omega
structure Fit (dep n : Nat) (d : D) : Prop where
  pure : pure0 d = true
  lay : (toPy d).canLay0 = true
  dp : (toPy d).depth ≤ dep
  wt : (toPy d).weight ≤ n
  nums : (toPy d).intsShort 13 = true
  shw : (toPy d).showable = true
structure FitL (dep n : Nat) (ds : List D) : Prop where
  pure : pure0L ds = true
  lay : PyData.canLayAll0 (toPyL ds) = true
  dp : PyData.depthAll (toPyL ds) ≤ dep
  wt : PyData.weightAll (toPyL ds) ≤ n
  nums : PyData.intsShortAll 13 (toPyL ds) = true
  shw : PyData.showableAll (toPyL ds) = true
theorem fit_int {i : Int} (h : -(10 ^ 12) < i ∧ i ≤ 10 ^ 12) : Fit 0 41 (.int i) := by
  refine ⟨by simp [pure0], by simp [toPy, PyData.canLay0], by simp [toPy, PyData.depth], ?_, ?_, ?_⟩
  · have q : i.natAbs < 2 ^ 40 := by
      have : (10 : Int) ^ 12 = 1000000000000 := by decide
      have : (2 : Nat) ^ 40 = 1099511627776 := by decide
      omega
    have := PySem.Flt.log2_lt_of (by decide : 0 < 40) q
    simp only [toPy, PyData.weight]
    split <;> omega
  · by_cases e : i = 10 ^ 12
    · subst e
      decide +kernel
    · have q := PyData.intsShortAll_ints [i] (fun n hn => by
        rw [List.mem_singleton.mp hn]
        have : (10 : Nat) ^ 12 = 1000000000000 := by decide
        have : (10 : Int) ^ 12 = 1000000000000 := by decide
        omega)
      simpa [PyData.intsShortAll, toPy] using q
  · have q : i.natAbs < 2 ^ 41 := by
      have : (10 : Int) ^ 12 = 1000000000000 := by decide
      have : (2 : Nat) ^ 41 = 2199023255552 := by decide
      omega
    have := PySem.Flt.log2_lt_of (by decide : 0 < 41) q
    simp only [toPy, PyData.showable, decide_eq_true_eq]
    omega
theorem Fit.ok {e n : Nat} {d : D} (h : Fit e n d) (h1 : e ≤ 60) : okD d := ⟨h.pure, by
  show ((toPy d).canLay0 && decide ((toPy d).depth ≤ 64)) = true
  have := h.dp
  rw [h.lay, decide_eq_true (by omega)]
  rfl⟩
theorem Fit.shD {e n : Nat} {d : D} (h : Fit e n d) (ht : topD d = true) (h1 : e ≤ 60) (h2 : n ≤ 1000000) : DL.shD d := by
  have q1 := h.dp
  have q2 := h.wt
  refine ⟨pureR_of h.pure, h.shw, PyData.shown_fits_of_layable0 (B := 13) (by decide) (by decide) ?_ h.nums, by omega⟩
  show ((toPy d).canLay0 && decide ((toPy d).depth ≤ 64) && decide ((toPy d).weight ≤ 2 ^ 20)) = true
  rw [h.lay, decide_eq_true (by omega), decide_eq_true (by omega)]
  rfl
theorem eq_strs {a b : Str} : eqOk (.str a) (.str b) := .inr (.inl ⟨a, b, rfl, rfl⟩)
theorem eqv_int {i j : Int} : eqvD (.int i) (.int j) = (i == j) := by simp [eqvD, toPy, PyData.eqv]
theorem eqv_non_int {j : Int} : eqvD .non (.int j) = false := by simp [eqvD, toPy, PyData.eqv]
theorem eqv_str {a b : Str} : eqvD (.str a) (.str b) = (a == b) := by simp [eqvD, toPy, PyData.eqv]
end DL

namespace DL
open PySem PySem.Spec PyProof.Rows L2
abbrev DPt := List Slot → Mu → (Option Int → Mu → Prop) → DXQ → Prop
def SimPt (W : WX) (to : TO) (t : DPt) : Prop := ∀ {B : Anchor} {F : Hp} {σ : L2.St} {H : Hp} {ρ : List Slot} {μ : Mu} {Qd : Option Int → Mu → Prop} {Xd : DXQ} {Q : Option Int → Hp → Prop}, Sti B F σ H ρ μ → t ρ μ Qd Xd → GoX W B F σ H ρ μ Xd →
  (∀ o F' H' μ', Grow F μ H F' μ' H' → Sti B F' σ H' ρ μ' → Qd o μ' → Q o H') → to σ H Q
structure PPt (X : Cx) (W : WX) (o : Option Expr) (t : DPt) : Prop where
  ex : ∃ to, L2.PO X o to ∧ SimPt W to t
def lNone : DPt := fun _ μ Q _ => Q none μ
def lSome (a : DE) : DPt := fun ρ μ Q X => a ρ μ (fun d μ1 => match d with
  | .int i => Q (some i) μ1
  | _ => False) X
def cutD (xs : List D) (lo hi : Option Int) : List D := (xs.drop (HT.sIx xs.length 0 lo)).take (HT.sIx xs.length xs.length hi - HT.sIx xs.length 0 lo)
theorem FzL.cut {F : Hp} {ds : List D} {vs : List V} (h : FzL F ds vs) (lo hi : Option Int) : FzL F (cutD ds lo hi) (cutV vs lo hi) := by
  unfold cutD cutV
  rw [h.length]
  exact (h.drop _).take _
def dSlice (a : DE) (l u : DPt) : DE := fun ρ μ Q X => a ρ μ (fun d μ1 => l ρ μ1 (fun lo μ2 => u ρ μ2 (fun hi μ3 => match rdD μ3 d with
  | .lst ds => Q (.lst (cutD ds lo hi)) μ3
  | .tup ds => Q (.tup (cutD ds lo hi)) μ3
  | _ => False) X) X) X
section
variable {X : Cx} {W : WX} {e : Expr} {lo hi : Option Expr} {de : DE} {dl du : DPt} {pos p2 : Pos}
theorem l_none : PPt X W none lNone := ⟨_, po_none, fun {B F σ H ρ μ Qd Xd Q} S q gx k => k none F H μ .refl S q⟩
theorem l_some {a : Expr} {da : DE} (h : PD X W a da) : PPt X W (some a) (lSome da) := by
  obtain ⟨ta, a1, a2⟩ := h.ex
  refine ⟨_, po_some a1, fun {B F σ H ρ μ Qd Xd Q} S q gx k => a2 S q gx fun v F' H' d μ' g S' z q' => ?_⟩
  split at q'
  · rename_i i
    unfold Fz at z
    exact ⟨i, z, k _ F' H' μ' g S' q'⟩
  · exact q'.elim
def dSliceS (K : PySem.W.Frag) (i : Nat) (l u : DPt) : DE := fun ρ μ Q X => ∃ ns, ρ[i]? = some (.dat (.scr K ns)) ∧ l ρ μ (fun lo μ2 => u ρ μ2 (fun hi μ3 => Q (.lst (cutD (ns.map D.int) lo hi)) μ3) X) X
theorem d_sliceS (i : Nat) {x : Str} {px : Pos} (hl : PPt X W lo dl) (hu : PPt X W hi du) (hN : X.N[i]? = some x := by rfl) (hv : Vis X.env.scope x := by first | exact Or.inl rfl | exact Or.inr (Or.inl rfl) | exact Or.inr (Or.inr rfl)) (hd : (x == ("__debug__" : Str)) = false := by decide)
    (hcd : (x == ("__classdict__" : Str)) = false := by decide) : PD X W (.Subscript (.Name x px) (.Slice lo hi none p2) pos) (dSliceS X.K i dl du) := by
  obtain ⟨tl, l1, l2⟩ := hl.ex
  obtain ⟨tu, u1, u2⟩ := hu.ex
  refine ⟨_, pe_slice sl_list (pe_var hN hv hd hcd) l1 u1, fun {B F σ H ρ μ Qd Xd Q} S ⟨ns, hi, q⟩ gx k => ?_⟩
  obtain ⟨v, hv, y, hy, z⟩ := S.get hi
  subst hy
  unfold Fz at z
  obtain ⟨a, rfl, z⟩ := z
  refine ⟨_, hv, l2 S q gx fun lo F2 H2 μ2 g2 S2 q2 => u2 S2 q2 (gx.go g2) fun hi F3 H3 μ3 g3 S3 q3 => ⟨a, _, rfl, z H3 ((g2.trans g3).fz.trans S3.wd.ext), fun r hr => ?_⟩⟩
  obtain ⟨g4, W4, z4⟩ := new_lst S3.wd ((fzl_ints ns).cut lo hi) hr
  exact k _ _ _ _ μ3 ((g2.trans g3).trans g4) (S3.go g4 W4) z4 q3
def dNeg (a : DE) : DE := fun ρ μ Q X => a ρ μ (fun d μ1 => match d with
  | .int i => Q (.int (-i)) μ1
  | _ => False) X
theorem d_neg {a : Expr} {da : DE} (h : PD X W a da) : PD X W (.UnaryOp .USub a pos) (dNeg da) := by
  obtain ⟨ta, a1, a2⟩ := h.ex
  refine ⟨_, pe_un un_neg a1, fun {B F σ H ρ μ Qd Xd Q} S q gx k => a2 S q gx fun v F' H' d μ' g S' z q' => ?_⟩
  split at q'
  · rename_i i
    unfold Fz at z
    exact ⟨i, z, k _ F' H' _ μ' g S' fz_int q'⟩
  · exact q'.elim
def dChain (r r' : DR2) (a b c : DE) : DE := fun ρ μ Q X => a ρ μ (fun dx μ1 => b ρ μ1 (fun dy μ2 => r (rdD μ2 dx) (rdD μ2 dy) fun d => match d with
  | .bl k => if k = true then c ρ μ2 (fun dz μ3 => r' (rdD μ3 dy) (rdD μ3 dz) fun d => Q d μ3) X else Q (.bl false) μ2
  | _ => False) X) X
theorem sim_chain {r r' : R2} {dr dr' : DR2} {ta tb tc : TE} {a b c : DE} (hr : SimR r dr) (hr' : SimR r' dr') (ha : SimB W ta a) (hb : SimB W tb b) (hc : SimB W tc c) : Sim W (tChain r r' ta tb tc) (dChain dr dr' a b c) := fun {B F σ H ρ μ Qd Xd Q} S q gx k =>
  ha S q gx fun x F1 H1 dx μ1 g1 S1 z1 q1 => hb S1 q1 (gx.go g1) fun y F2 H2 dy μ2 g2 S2 z2 q2 =>
    hr S2.wd.mu0 ((z1.go g2).rd S2.wd) (z2.rd S2.wd) q2 fun v F3 H3 d g3 W3 z3 q3 => by
      obtain ⟨g3, W3⟩ := Grow.of0 S2.wd g3 W3
      have S3 := S2.go g3 W3
      have gg := (g1.trans g2).trans g3
      split at q3
      · rename_i t
        unfold Fz at z3
        refine ⟨t, z3, ?_⟩
        cases t with
        | false =>
          rw [if_neg (by decide)] at q3 ⊢
          exact k _ F3 H3 _ μ2 gg S3 fz_bl q3
        | true =>
          rw [if_pos rfl] at q3 ⊢
          refine hc S3 q3 (gx.go gg) fun w F4 H4 dw μ4 g4 S4 z4 q4 => ?_
          refine hr' S4.wd.mu0 (((z2.go g3).go g4).rd S4.wd) (z4.rd S4.wd) q4 fun u F5 H5 e g5 W5 z5 q5 => ?_
          obtain ⟨g5, W5⟩ := Grow.of0 S4.wd g5 W5
          exact k u F5 H5 e μ4 ((gg.trans g4).trans g5) (S4.go g5 W5) z5 q5
      · exact q3.elim
theorem d_chain {op op' : CmpOp} {r r' : R2} {dr dr' : DR2} {a b c : Expr} {da db dc : DE} (ho : OpR X (compareOp op) r) (ho' : OpR X (compareOp op') r') (hr : SimR r dr) (hr' : SimR r' dr') (ha : PB X W a da) (hb : PB X W b db) (hc : PB X W c dc)
    (hm : lastMarks [op, op'] [b, c] = false := by with_unfolding_all rfl) : PD X W (.Compare a [op, op'] [b, c] pos) (dChain dr dr' da db dc) := by
  obtain ⟨ta, a1, a2⟩ := ha.ex
  obtain ⟨tb, b1, b2⟩ := hb.ex
  obtain ⟨tc, c1, c2⟩ := hc.ex
  exact ⟨_, pe_chain ho ho' a1 b1 c1 hm, sim_chain hr hr' a2 b2 c2⟩
theorem t_chain {op op' : CmpOp} {r r' : R2} {dr dr' : DR2} {a b c : Expr} {da db dc : DE} (ho : OpR X (compareOp op) r) (ho' : OpR X (compareOp op') r') (hr : SimR r dr) (hr' : SimR r' dr') (ha : PB X W a da) (hb : PB X W b db) (hc : PB X W c dc)
    (hm : lastMarks [op, op'] [b, c] = false := by with_unfolding_all rfl) : PTD X W (.Compare a [op, op'] [b, c] pos) (dTest (dChain dr dr' da db dc)) := by
  obtain ⟨ta, a1, a2⟩ := ha.ex
  obtain ⟨tb, b1, b2⟩ := hb.ex
  obtain ⟨tc, c1, c2⟩ := hc.ex
  exact ⟨_, pt_chain ho ho' a1 b1 c1 hm, simt_test (sim_chain hr hr' a2 b2 c2)⟩
end
end DL

namespace DL
open PySem PySem.Spec PyProof.Rows L2
section
variable {X : Cx} {W : WX} {x : Str} {e j : Expr} {dv dj : DE} {p pos tpos apos cpos : Pos}
def dSIx (i : Nat) (ix v : DE) : DS := fun D ρ μ => v ρ μ (fun dx μ1 => (∃ ds, ρ[i]? = some (.ml ds)) ∧ ix ρ μ1 (fun dk μ2 => match ρ[i]? with
  | some (.ml ds) => ∃ k n, dk = .int k ∧ ixN ds.length k = some n ∧ D.nx (ρ.set i (.ml (ds.set n dx))) μ2
  | _ => False) (D.xc ρ)) (D.xc ρ)
def dSExt (i : Nat) (a : DE) : DS := fun D ρ μ => (∃ ds, ρ[i]? = some (.ml ds)) ∧ a ρ μ (fun d μ1 => match ρ[i]?, d with
  | some (.ml ds), .lst xs => ds.length + xs.length ≤ sizeLine ∧ D.nx (ρ.set i (.ml (ds ++ xs))) μ1
  | _, _ => False) (D.xc ρ)
end
end DL

namespace DL
open PySem PySem.Spec PyProof.Rows L2
def tyName : D → Option String
  | .non => some "NoneType"
  | .bl _ => some "bool"
  | .int _ => some "int"
  | .str _ => some "str"
  | .tup _ => some "tuple"
  | .lst _ => some "list"
  | .dic _ => some "dict"
  | _ => none
def dIsi : DC := fun ds Q => match ds with
  | [x, .ty T] => ∃ n b, tyName x = some n ∧ kitB n T = some b ∧ Q (.bl b)
  | _ => False
theorem bz_ty {F : Hp} {μ : Mu} {H : Hp} {T : String} {v : V} (h : Bz F μ H (.ty T) v) : v = .ty T := by
  have h : Fz F (.ty T) v := h
  unfold Fz at h
  exact h
theorem tyx {K : PySem.W.Frag} {F : Hp} {μ : Mu} {H : Hp} {x : D} {v : V} {n : String} (W : Wd F μ H) (h : Bz F μ H x v) (e : tyName x = some n) : TyX K H v (.type n) := by
  cases x <;> simp [tyName] at e
  case non => subst e; rw [bz_non h]; exact .base .non
  case bl b => subst e; rw [bz_bl h]; exact .base (.bl b)
  case int b => subst e; rw [bz_int h]; exact .base (.int b)
  case str b => subst e; rw [bz_str h]; exact .base (.str b)
  case tup b =>
    subst e
    obtain ⟨a, vs, rfl, h1, _⟩ := bz_tup W h
    exact .base (.tup h1)
  case lst b =>
    subst e
    obtain ⟨a, vs, rfl, h1, _⟩ := bz_lst h
    exact .base (.lst h1)
  case dic b =>
    subst e
    obtain ⟨a, vs, rfl, h1, _⟩ := (show ∃ a kws, v = .ref a ∧ Rd H a (.dK kws) ∧ μ a = none ∧ FzK F b kws from h)
    rcases h1 with h1 | ⟨od, h1⟩
    · exact .base (.dK h1)
    · exact .fDict h1
theorem sim_isi {K : PySem.W.Frag} : SimC (rIsi K) dIsi := fun {F μ H vs ds Qd Q} W z q k => by
  unfold dIsi at q
  split at q
  · rename_i x T
    obtain ⟨n, b, e1, e2, q⟩ := q
    obtain ⟨v, r, rfl, z1, z2⟩ := bzl_inv z
    obtain ⟨c, r2, rfl, z3, z4⟩ := bzl_inv z2
    rw [bzl_inv0 z4, bz_ty z3]
    exact ⟨v, .ty T, .type n, .type T, b, rfl, .ty T, tyx W z1 e1, kit_ty e2, k _ F H _ .refl W fz_bl q⟩
  · exact q.elim
section
variable {X : Cx} {W : WX} {p pos : Pos} {e f : Expr} {a : DA}
theorem d_isi (hm : X.mg "isinstance" = none) (ha : PAB X W [e, f] a) (hg : Gl X "isinstance" := by rfl) (he : starEach [e, f] X.env = (false, eval e X.env) :: starEach [f] X.env := by rfl) (hpl : (backTo pos (starEach [f] X.env)).any (·.1) = false := by rfl) :
    PD X W (.Call (.Name "isinstance" p) [e, f] [] pos) (dCB dIsi a) := d_callB call_isi sim_isi hm (by decide +kernel) ha hg (by decide) (by decide) he hpl
theorem d_bty {x : Str} {T : String} (hm : X.mg x = none) (hv : bootBuiltins x = some (.type T)) (hg : Gl X x := by rfl) (hn : x ≠ "__name__" := by decide) (hd : (x == ("__debug__" : Str)) = false := by decide) : PD X W (.Name x pos) (dC (.ty T)) :=
  ⟨_, pe_bltn (v := .ty T) hg hm hv rfl hn hd, sim_c fun _ => by unfold Fz; rfl⟩
end
end DL

namespace DL
open PySem PySem.Spec PyProof.Rows L2
def doOf (a : DE) : DI := fun ρ μ Q X => a ρ μ (fun d μ1 => match rdD μ1 d with
  | .lst xs => Q xs μ1
  | .tup xs => Q xs μ1
  | _ => False) X
def doCat (a b : DE) : DI := fun ρ μ Q X => a ρ μ (fun dx μ1 => b ρ μ1 (fun dy μ2 => match rdD μ2 dx, rdD μ2 dy with
  | .lst xs, .lst ys => xs.length + ys.length ≤ sizeLine ∧ Q (xs ++ ys) μ2
  | _, _ => False) X) X
section
variable {X : Cx} {W : WX} {p q pos pos2 : Pos} {e a b : Expr} {de da db : DE}
def doRg (a : DE) : DI := fun ρ μ Q X => a ρ μ (fun d μ1 => match d with
  | .int n => n ≤ 16777216 ∧ 0 ≤ n ∧ Q (rangeD 0 n.toNat) μ1
  | _ => False) X
def dNotV (a : DE) : DE := fun ρ μ Q X => a ρ μ (fun d μ1 => match d with
  | .bl c => Q (.bl (!c)) μ1
  | _ => False) X
theorem d_not (ha : PD X W a da) : PD X W (.UnaryOp .Not a pos) (dNotV da) := by
  obtain ⟨ta, a1, a2⟩ := ha.ex
  refine ⟨_, pe_not a1, fun {B F σ H ρ μ Qd Xd Q} S q gx k => a2 S q gx fun v F' H' d μ' g S' z q' => ?_⟩
  split at q'
  · rename_i c
    unfold Fz at z
    exact ⟨c, z, k _ F' H' _ μ' g S' fz_bl q'⟩
  · exact q'.elim
end
end DL

namespace DL
open PySem PySem.Spec PyProof.Rows L2
def Keeps1 (sp : DSp) (N : List Str) (t : DS) : Prop := ∀ ds μ Qd Xd, sp ds μ Qd Xd → t { nx := fun _ μ' => Qd .non μ', rt := Qd, xc := fun _ => Xd } (startD N ds) μ
theorem le_line {n : Nat} (h : n ≤ 1000000) : (n ≤ sizeLine) = True := eq_true (small h)
theorem lt_line {n : Nat} (h : n < 1000000) : (n < sizeLine) = True := eq_true (smallL h)
theorem ex_some {α : Type} {a : α} {P : α → Prop} : (∃ d, some a = some d ∧ P d) = P a := propext ⟨fun ⟨d, e, h⟩ => by cases e; exact h, fun h => ⟨a, rfl, h⟩⟩
theorem map_int_inj : ∀ {xs ys : List Int}, xs.map D.int = ys.map D.int → xs = ys
  | [], [], _ => rfl
  | [], y :: ys, h => by simp at h
  | x :: xs, [], h => by simp at h
  | x :: xs, y :: ys, h => by
    simp only [List.map_cons, List.cons.injEq, D.int.injEq] at h
    rw [h.1, map_int_inj h.2]
theorem map_bl_inj : ∀ {xs ys : List Bool}, xs.map D.bl = ys.map D.bl → xs = ys
  | [], [], _ => rfl
  | [], y :: ys, h => by simp at h
  | x :: xs, [], h => by simp at h
  | x :: xs, y :: ys, h => by
    simp only [List.map_cons, List.cons.injEq, D.bl.injEq] at h
    rw [h.1, map_bl_inj h.2]
theorem ex_ints {xs : List Int} {P : List Int → Prop} : (∃ ns : List Int, xs.map D.int = ns.map D.int ∧ P ns) = P xs := propext ⟨fun ⟨ns, e, h⟩ => by rw [map_int_inj e]; exact h, fun h => ⟨xs, rfl, h⟩⟩
theorem ex_bls {xs : List Bool} {P : List Bool → Prop} : (∃ ns : List Bool, xs.map D.bl = ns.map D.bl ∧ P ns) = P xs := propext ⟨fun ⟨ns, e, h⟩ => by rw [map_bl_inj e]; exact h, fun h => ⟨xs, rfl, h⟩⟩
section
variable {α β : Type} {a b c d e f : α} {l : List α}
theorem atI_nat {i : Nat} {l : List α} : atI l (i : Int) = l[i]? := by
  unfold atI ixN
  rw [if_pos (by omega)]
  by_cases h : i < l.length
  · rw [if_pos (by omega)]
    simp
  · rw [if_neg (by omega)]
    simp
    omega
theorem at0 : atI (a :: l) 0 = some a := atI_nat (i := 0)
theorem at1 : atI (a :: b :: l) 1 = some b := atI_nat (i := 1)
theorem at2 : atI (a :: b :: c :: l) 2 = some c := atI_nat (i := 2)
theorem at3 : atI (a :: b :: c :: d :: l) 3 = some d := atI_nat (i := 3)
theorem at4 : atI (a :: b :: c :: d :: e :: l) 4 = some e := atI_nat (i := 4)
theorem at5 : atI (a :: b :: c :: d :: e :: f :: l) 5 = some f := atI_nat (i := 5)
theorem atI_map {g : α → β} {i : Int} {l : List α} : atI (l.map g) i = (atI l i).map g := by
  unfold atI
  rw [List.length_map]
  cases ixN l.length i with
  | none => rfl
  | some j => simp
theorem atI_last {a : α} {l : List α} : atI (l ++ [a]) (-1) = some a := by
  unfold atI ixN
  rw [if_neg (by omega), if_pos (by simp; omega)]
  have h : ((-1 : Int) + ((l ++ [a]).length : Int)).toNat = l.length := by
    rw [List.length_append]
    simp only [List.length_cons, List.length_nil]
    omega
  rw [h]
  simp
end
theorem cut_to {xs : List D} {i : Int} (h : 0 ≤ i) : cutD xs none (some i) = xs.take i.toNat := by
  obtain ⟨n, rfl⟩ := Int.eq_ofNat_of_zero_le h
  unfold cutD
  show (xs.drop (HT.sIx xs.length 0 none)).take (HT.sIx xs.length xs.length (some ((n : Nat) : Int)) - HT.sIx xs.length 0 none) = _
  rw [HT.sIx_nat, HT.sIx_none]
  simp only [List.drop_zero, Nat.sub_zero]
  rw [show ((n : Nat) : Int).toNat = n from rfl]
  by_cases hh : n ≤ xs.length
  · rw [Nat.min_eq_left hh]
  · rw [Nat.min_eq_right (by omega), List.take_of_length_le (Nat.le_refl _), List.take_of_length_le (by omega)]
theorem cut_from {xs : List D} {i : Int} (h : 0 ≤ i) : cutD xs (some i) none = xs.drop i.toNat := by
  obtain ⟨n, rfl⟩ := Int.eq_ofNat_of_zero_le h
  unfold cutD
  show (xs.drop (HT.sIx xs.length 0 (some ((n : Nat) : Int)))).take (HT.sIx xs.length xs.length none - HT.sIx xs.length 0 (some ((n : Nat) : Int))) = _
  rw [HT.sIx_nat, HT.sIx_none]
  rw [show ((n : Nat) : Int).toNat = n from rfl]
  by_cases hh : n ≤ xs.length
  · rw [Nat.min_eq_left hh, List.take_of_length_le (by simp)]
  · rw [Nat.min_eq_right (by omega)]
    simp
    omega
mutual
def okN : Nat → D → Bool
  | _, .non | _, .bl _ | _, .int _ => true
  | _, .str x => (toPy (.str x)).canLay0
  | k + 1, .tup xs | k + 1, .lst xs => okNL k xs
  | _, _ => false
def okNL : Nat → List D → Bool
  | _, [] => true
  | k, x :: xs => okN k x && okNL k xs
end
mutual
theorem okN_ok : ∀ {k : Nat} {d : D}, okN k d = true → pure0 d = true ∧ (toPy d).canLay0 = true ∧ (toPy d).depth ≤ k
  | k, .non, _ => ⟨by simp [pure0], by simp [toPy, PyData.canLay0], by simp [toPy, PyData.depth]⟩
  | k, .bl _, _ => ⟨by simp [pure0], by simp [toPy, PyData.canLay0], by simp [toPy, PyData.depth]⟩
  | k, .int _, _ => ⟨by simp [pure0], by simp [toPy, PyData.canLay0], by simp [toPy, PyData.depth]⟩
  | k, .str x, h => ⟨by simp [pure0], by simpa [okN] using h, by simp [toPy, PyData.depth]⟩
  | 0, .tup xs, h => by simp [okN] at h
  | 0, .lst xs, h => by simp [okN] at h
  | k + 1, .tup xs, h => by
    obtain ⟨a, b, c⟩ := okNL_ok (k := k) (ds := xs) (by simpa [okN] using h)
    exact ⟨by simpa [pure0] using a, by simpa [toPy, PyData.canLay0] using b, by simp [toPy, PyData.depth]; omega⟩
  | k + 1, .lst xs, h => by
    obtain ⟨a, b, c⟩ := okNL_ok (k := k) (ds := xs) (by simpa [okN] using h)
    exact ⟨by simpa [pure0] using a, by simpa [toPy, PyData.canLay0] using b, by simp [toPy, PyData.depth]; omega⟩
  | k, .ty _, h => by cases k <;> simp [okN] at h
  | k, .dic _, h => by cases k <;> simp [okN] at h
  | k, .ins _ _, h => by cases k <;> simp [okN] at h
  | k, .obj _, h => by cases k <;> simp [okN] at h
  | k, .scr _ _, h => by cases k <;> simp [okN] at h
  | k, .xcp _ _ _ _, h => by cases k <;> simp [okN] at h
theorem okNL_ok : ∀ {k : Nat} {ds : List D}, okNL k ds = true → pure0L ds = true ∧ PyData.canLayAll0 (toPyL ds) = true ∧ PyData.depthAll (toPyL ds) ≤ k
  | k, [], _ => ⟨by simp [pure0L], by simp [toPyL, PyData.canLayAll0], by simp [toPyL, PyData.depthAll]⟩
  | k, d :: ds, h => by
    simp only [okNL, Bool.and_eq_true] at h
    obtain ⟨a, b, c⟩ := okN_ok h.1
    obtain ⟨a2, b2, c2⟩ := okNL_ok h.2
    exact ⟨by simp [pure0L, a, a2], by simp [toPyL, PyData.canLayAll0, b, b2], by simp only [toPyL, PyData.depthAll]; omega⟩
end
mutual
theorem okN_up : ∀ {k m : Nat} {d : D}, k ≤ m → okN k d = true → okN m d = true
  | k, m, .non, _, _ => by cases m <;> rfl
  | k, m, .bl _, _, _ => by cases m <;> rfl
  | k, m, .int _, _, _ => by cases m <;> rfl
  | k, m, .str x, _, h => by simpa [okN] using h
  | 0, m, .tup xs, _, h => by simp [okN] at h
  | 0, m, .lst xs, _, h => by simp [okN] at h
  | k + 1, 0, .tup xs, hk, h => by omega
  | k + 1, 0, .lst xs, hk, h => by omega
  | k + 1, m + 1, .tup xs, hk, h => by
    simp only [okN] at h ⊢
    exact okNL_up (by omega) h
  | k + 1, m + 1, .lst xs, hk, h => by
    simp only [okN] at h ⊢
    exact okNL_up (by omega) h
  | k, m, .ty _, _, h => by cases k <;> simp [okN] at h
  | k, m, .dic _, _, h => by cases k <;> simp [okN] at h
  | k, m, .ins _ _, _, h => by cases k <;> simp [okN] at h
  | k, m, .obj _, _, h => by cases k <;> simp [okN] at h
  | k, m, .scr _ _, _, h => by cases k <;> simp [okN] at h
  | k, m, .xcp _ _ _ _, _, h => by cases k <;> simp [okN] at h
theorem okNL_up : ∀ {k m : Nat} {ds : List D}, k ≤ m → okNL k ds = true → okNL m ds = true
  | k, m, [], _, _ => by cases m <;> rfl
  | k, m, d :: ds, hk, h => by
    simp only [okNL, Bool.and_eq_true] at h ⊢
    exact ⟨okN_up hk h.1, okNL_up hk h.2⟩
end
theorem okN_okD {d : D} (h : okN 50 d = true) : okD d := by
  obtain ⟨a, b, c⟩ := okN_ok h
  refine ⟨a, ?_⟩
  show ((toPy d).canLay0 && decide ((toPy d).depth ≤ 64)) = true
  rw [b, decide_eq_true (by omega)]
  rfl
theorem okNL_map {α : Type} {f : α → D} {k : Nat} : ∀ {xs : List α}, (∀ x ∈ xs, okN k (f x) = true) → okNL k (xs.map f) = true
  | [], _ => rfl
  | x :: xs, h => by
    simp only [List.map_cons, okNL, Bool.and_eq_true]
    exact ⟨h x List.mem_cons_self, okNL_map fun y hy => h y (List.mem_cons_of_mem _ hy)⟩
theorem okNL_ints {k : Nat} {xs : List Int} : okNL k (xs.map D.int) = true := okNL_map fun x _ => by simp [okN]
theorem okNL_nats {k : Nat} {xs : List Nat} : okNL k (xs.map fun i : Nat => D.int (i : Int)) = true := okNL_map fun x _ => by simp [okN]
theorem okNL_bls {k : Nat} {xs : List Bool} : okNL k (xs.map D.bl) = true := okNL_map fun x _ => by simp [okN]
theorem okNL_append {k : Nat} : ∀ {xs ys : List D}, okNL k (xs ++ ys) = (okNL k xs && okNL k ys)
  | [], ys => by simp [okNL]
  | x :: xs, ys => by simp only [List.cons_append, okNL, okNL_append (xs := xs), Bool.and_assoc]
theorem eqOk_of {x y : D} (h : okN 50 x = true) (h2 : okN 50 y = true) : eqOk x y = True := eq_true (.inl ⟨okN_okD h, okN_okD h2⟩)
theorem eqOk_str {a b : Str} : eqOk (.str a) (.str b) = True := eq_true eq_strs
def eqvL (a b : List D) : Bool := PyData.eqvAll (toPyL a) (toPyL b)
theorem eqv_tup {a b : List D} : eqvD (.tup a) (.tup b) = eqvL a b := by simp [eqvD, eqvL, toPy, PyData.eqv]
theorem eqv_lst {a b : List D} : eqvD (.lst a) (.lst b) = eqvL a b := by simp [eqvD, eqvL, toPy, PyData.eqv]
theorem eqv_tl {a b : List D} : eqvD (.tup a) (.lst b) = false := by simp [eqvD, toPy, PyData.eqv]
theorem eqv_lt {a b : List D} : eqvD (.lst a) (.tup b) = false := by simp [eqvD, toPy, PyData.eqv]
theorem eqv_nn : eqvD .non .non = true := by simp [eqvD, toPy, PyData.eqv]
theorem eqv_nt {a : List D} : eqvD .non (.tup a) = false := by simp [eqvD, toPy, PyData.eqv]
theorem eqv_tn {a : List D} : eqvD (.tup a) .non = false := by simp [eqvD, toPy, PyData.eqv]
theorem eqv_in {i : Int} : eqvD (.int i) .non = false := by simp [eqvD, toPy, PyData.eqv]
theorem eqv_it {i : Int} {a : List D} : eqvD (.int i) (.tup a) = false := by simp [eqvD, toPy, PyData.eqv]
theorem eqv_ti {i : Int} {a : List D} : eqvD (.tup a) (.int i) = false := by simp [eqvD, toPy, PyData.eqv]
theorem eqv_bb {i j : Bool} : eqvD (.bl i) (.bl j) = (i == j) := by simp [eqvD, toPy, PyData.eqv]
theorem eqvL_nil : eqvL [] [] = true := by simp [eqvL, toPyL, PyData.eqvAll]
theorem eqvL_cn {x : D} {a : List D} : eqvL (x :: a) [] = false := by simp [eqvL, toPyL, PyData.eqvAll]
theorem eqvL_nc {x : D} {a : List D} : eqvL [] (x :: a) = false := by simp [eqvL, toPyL, PyData.eqvAll]
theorem eqvL_cc {x y : D} {a b : List D} : eqvL (x :: a) (y :: b) = (eqvD x y && eqvL a b) := by simp [eqvL, eqvD, toPyL, PyData.eqvAll]
theorem eqvL_map {α : Type} [BEq α] {f : α → D} : ∀ {xs ys : List α}, (∀ x ∈ xs, ∀ y ∈ ys, eqvD (f x) (f y) = (x == y)) → eqvL (xs.map f) (ys.map f) = (xs == ys)
  | [], [], _ => by simp [eqvL_nil]
  | [], y :: ys, _ => by simp [eqvL_nc]
  | x :: xs, [], _ => by simp [eqvL_cn]
  | x :: xs, y :: ys, h => by
    simp only [List.map_cons, eqvL_cc, List.cons_beq_cons]
    rw [h x List.mem_cons_self y List.mem_cons_self, eqvL_map fun a ha b hb => h a (List.mem_cons_of_mem _ ha) b (List.mem_cons_of_mem _ hb)]
theorem eqvL_ints {xs ys : List Int} : eqvL (xs.map D.int) (ys.map D.int) = (xs == ys) := eqvL_map fun _ _ _ _ => eqv_int
theorem eqv_self {d : D} (h : okN 50 d = true) : eqvD d d = true := SeqAt.eqv_refl _ (okN_ok h).2.1
mutual
def wtD : D → Nat
  | .int _ => 64
  | .str x => x.cps.size
  | .tup xs | .lst xs => wtL xs
  | _ => 0
def wtL : List D → Nat
  | [] => 0
  | x :: xs => wtD x + 1 + wtL xs
end
mutual
def shortD : D → Prop
  | .int i => -(10 ^ 12) < i ∧ i ≤ 10 ^ 12
  | .str x => (toPy (.str x)).showable = true
  | .tup xs | .lst xs => shortL xs
  | _ => True
def shortL : List D → Prop
  | [] => True
  | x :: xs => shortD x ∧ shortL xs
end
mutual
theorem short_ok : ∀ {k : Nat} {d : D}, okN k d = true → shortD d → (toPy d).intsShort 13 = true ∧ (toPy d).showable = true ∧ (toPy d).weight ≤ wtD d
  | k, .non, _, _ => by simp [toPy, PyData.intsShort, PyData.showable, PyData.weight]
  | k, .bl _, _, _ => by simp [toPy, PyData.intsShort, PyData.showable, PyData.weight]
  | k, .int i, _, h => by
    have f := fit_int (i := i) (by simpa [shortD] using h)
    exact ⟨f.nums, f.shw, Nat.le_trans f.wt (by simp [wtD])⟩
  | k, .str x, _, h => ⟨by simp [toPy, PyData.intsShort], by simpa [shortD] using h, by simp [toPy, PyData.weight, wtD]⟩
  | 0, .tup xs, h, _ => by simp [okN] at h
  | 0, .lst xs, h, _ => by simp [okN] at h
  | k + 1, .tup xs, h, s => by
    obtain ⟨a, b, c⟩ := short_okL (k := k) (ds := xs) (by simpa [okN] using h) (by simpa [shortD] using s)
    exact ⟨by simpa [toPy, PyData.intsShort] using a, by simpa [toPy, PyData.showable] using b, by simpa [toPy, PyData.weight, wtD] using c⟩
  | k + 1, .lst xs, h, s => by
    obtain ⟨a, b, c⟩ := short_okL (k := k) (ds := xs) (by simpa [okN] using h) (by simpa [shortD] using s)
    exact ⟨by simpa [toPy, PyData.intsShort] using a, by simpa [toPy, PyData.showable] using b, by simpa [toPy, PyData.weight, wtD] using c⟩
  | k, .ty _, h, _ => by cases k <;> simp [okN] at h
  | k, .dic _, h, _ => by cases k <;> simp [okN] at h
  | k, .ins _ _, h, _ => by cases k <;> simp [okN] at h
  | k, .obj _, h, _ => by cases k <;> simp [okN] at h
  | k, .scr _ _, h, _ => by cases k <;> simp [okN] at h
  | k, .xcp _ _ _ _, h, _ => by cases k <;> simp [okN] at h
theorem short_okL : ∀ {k : Nat} {ds : List D}, okNL k ds = true → shortL ds → PyData.intsShortAll 13 (toPyL ds) = true ∧ PyData.showableAll (toPyL ds) = true ∧ PyData.weightAll (toPyL ds) ≤ wtL ds
  | k, [], _, _ => by simp [toPyL, PyData.intsShortAll, PyData.showableAll, PyData.weightAll]
  | k, d :: ds, h, s => by
    simp only [okNL, Bool.and_eq_true] at h
    obtain ⟨a, b, c⟩ := short_ok h.1 (by simpa [shortL] using s.1)
    obtain ⟨a2, b2, c2⟩ := short_okL h.2 (by simpa [shortL] using s.2)
    exact ⟨by simp [toPyL, PyData.intsShortAll, a, a2], by simp [toPyL, PyData.showableAll, b, b2], by simp only [toPyL, PyData.weightAll, wtL]; omega⟩
end
mutual
def okR : Nat → D → Bool
  | _, .non | _, .bl _ | _, .int _ => true
  | _, .str x => (toPy (.str x)).canLay0
  | k + 1, .tup xs | k + 1, .lst xs => okRL k xs
  | k + 1, .dic ks => okRK k ks
  | _, _ => false
def okRL : Nat → List D → Bool
  | _, [] => true
  | k, x :: xs => okR k x && okRL k xs
def okRK : Nat → List (Key × D) → Bool
  | _, [] => true
  | k, (.inl _, x) :: xs => okR k x && okRK k xs
  | k, (.inr s, x) :: xs => (toPy (.str s)).canLay0 && (okR k x && okRK k xs)
end
mutual
def wR : D → Nat
  | .int _ => 200
  | .str x => x.cps.size
  | .tup xs | .lst xs => wRL xs
  | .dic ks => wRK ks
  | _ => 0
def wRL : List D → Nat
  | [] => 0
  | x :: xs => wR x + 1 + wRL xs
def wRK : List (Key × D) → Nat
  | [] => 0
  | (.inl _, x) :: xs => 202 + wR x + wRK xs
  | (.inr s, x) :: xs => s.cps.size + 2 + wR x + wRK xs
end
def shI (i : Int) : Prop := i.natAbs < 10 ^ 58
mutual
def shortR : D → Prop
  | .int i => shI i
  | .tup xs | .lst xs => shortRL xs
  | .dic ks => shortRK ks
  | _ => True
def shortRL : List D → Prop
  | [] => True
  | x :: xs => shortR x ∧ shortRL xs
def shortRK : List (Key × D) → Prop
  | [] => True
  | (.inl i, x) :: xs => shI i ∧ shortR x ∧ shortRK xs
  | (.inr _, x) :: xs => shortR x ∧ shortRK xs
end
structure Wd60 (n k : Nat) (p : PyData) : Prop where
  lv : p.leavesShort 60 = true
  sh : p.showable = true
  wt : p.weight ≤ n
  dp : p.depth ≤ k
theorem leaf_str {x : Str} (h : (toPy (.str x)).canLay0 = true) : (PyData.str x).leavesShort 60 = true := PyData.leavesShort_of_canLay0 60 _ (by simpa [toPy] using h) (by simp [PyData.intsShort])
theorem leaf_int {i : Int} (h : shI i) {k : Nat} : Wd60 200 k (.int i) := by
  unfold shI at h
  refine ⟨?_, ?_, ?_, by simp [PyData.depth]⟩
  · have e := int_text_length_le10 (k := 58) (by decide) h
    simp only [PyData.leavesShort, decide_eq_true_eq]
    show (Str.ofString (toString i)).length ≤ 60
    rw [PySem.ofString_length]
    omega
  · have : (10 : Nat) ^ 58 ≤ 2 ^ 199 := by decide
    have := PySem.Flt.log2_lt_of (by decide : 0 < 199) (Nat.lt_of_lt_of_le h this)
    simp only [PyData.showable, decide_eq_true_eq]
    omega
  · have : (10 : Nat) ^ 58 ≤ 2 ^ 199 := by decide
    have := PySem.Flt.log2_lt_of (by decide : 0 < 199) (Nat.lt_of_lt_of_le h this)
    simp only [PyData.weight]
    split <;> omega
mutual
theorem wd_of : ∀ {k : Nat} {d : D}, okR k d = true → shortR d → pureR d = true ∧ Wd60 (wR d) k (toPy d)
  | k, .non, _, _ => ⟨by simp [pureR], by simp [toPy, PyData.leavesShort], by simp [toPy, PyData.showable], by simp [toPy, PyData.weight], by simp [toPy, PyData.depth]⟩
  | k, .bl _, _, _ => ⟨by simp [pureR], by simp [toPy, PyData.leavesShort], by simp [toPy, PyData.showable], by simp [toPy, PyData.weight], by simp [toPy, PyData.depth]⟩
  | k, .int i, _, h => ⟨by simp [pureR], by
    have q := leaf_int (k := k) (by simpa [shortR] using h)
    simpa [toPy, wR] using q⟩
  | k, .str x, h, _ => ⟨by simp [pureR], by
    have q := leaf_str (x := x) (by simpa [okR] using h)
    exact ⟨by simpa [toPy] using q, by simp [toPy, PyData.showable], by simp [toPy, PyData.weight, wR], by simp [toPy, PyData.depth]⟩⟩
  | 0, .tup xs, h, _ => by simp [okR] at h
  | 0, .lst xs, h, _ => by simp [okR] at h
  | 0, .dic xs, h, _ => by simp [okR] at h
  | k + 1, .tup xs, h, s => by
    obtain ⟨a, b, c, d, e⟩ := wdL_of (k := k) (ds := xs) (by simpa [okR] using h) (by simpa [shortR] using s)
    exact ⟨by simpa [pureR] using a, by simpa [toPy, PyData.leavesShort] using b, by simpa [toPy, PyData.showable] using c, by simpa [toPy, PyData.weight, wR] using d, by simp [toPy, PyData.depth]; omega⟩
  | k + 1, .lst xs, h, s => by
    obtain ⟨a, b, c, d, e⟩ := wdL_of (k := k) (ds := xs) (by simpa [okR] using h) (by simpa [shortR] using s)
    exact ⟨by simpa [pureR] using a, by simpa [toPy, PyData.leavesShort] using b, by simpa [toPy, PyData.showable] using c, by simpa [toPy, PyData.weight, wR] using d, by simp [toPy, PyData.depth]; omega⟩
  | k + 1, .dic xs, h, s => by
    obtain ⟨a, b, c, d, e⟩ := wdK_of (k := k) (ks := xs) (by simpa [okR] using h) (by simpa [shortR] using s)
    exact ⟨by simpa [pureR] using a, by simpa [toPy, PyData.leavesShort] using b, by simpa [toPy, PyData.showable] using c, by simpa [toPy, PyData.weight, wR] using d, by simp [toPy, PyData.depth]; omega⟩
  | k, .ty _, h, _ => by cases k <;> simp [okR] at h
  | k, .ins _ _, h, _ => by cases k <;> simp [okR] at h
  | k, .obj _, h, _ => by cases k <;> simp [okR] at h
  | k, .scr _ _, h, _ => by cases k <;> simp [okR] at h
  | k, .xcp _ _ _ _, h, _ => by cases k <;> simp [okR] at h
theorem wdL_of : ∀ {k : Nat} {ds : List D}, okRL k ds = true → shortRL ds → pureRL ds = true ∧ PyData.leavesShortAll 60 (toPyL ds) = true ∧ PyData.showableAll (toPyL ds) = true ∧ PyData.weightAll (toPyL ds) ≤ wRL ds ∧ PyData.depthAll (toPyL ds) ≤ k
  | k, [], _, _ => by simp [pureRL, toPyL, PyData.leavesShortAll, PyData.showableAll, PyData.weightAll, PyData.depthAll]
  | k, d :: ds, h, s => by
    simp only [okRL, Bool.and_eq_true] at h
    simp only [shortRL] at s
    obtain ⟨a, b, c, e, f⟩ := wd_of h.1 s.1
    obtain ⟨a2, b2, c2, e2, f2⟩ := wdL_of h.2 s.2
    exact ⟨by simp [pureRL, a, a2], by simp [toPyL, PyData.leavesShortAll, b, b2], by simp [toPyL, PyData.showableAll, c, c2], by simp only [toPyL, PyData.weightAll, wRL]; omega, by simp only [toPyL, PyData.depthAll]; omega⟩
theorem wdK_of : ∀ {k : Nat} {ks : List (Key × D)}, okRK k ks = true → shortRK ks → pureRK ks = true ∧ PyData.leavesShortKv 60 (toPyK ks) = true ∧ PyData.showableKv (toPyK ks) = true ∧ PyData.weightKv (toPyK ks) ≤ wRK ks ∧ PyData.depthKv (toPyK ks) ≤ k
  | k, [], _, _ => by simp [pureRK, toPyK, PyData.leavesShortKv, PyData.showableKv, PyData.weightKv, PyData.depthKv]
  | k, (.inl i, d) :: ds, h, s => by
    simp only [okRK, Bool.and_eq_true] at h
    simp only [shortRK] at s
    obtain ⟨a, b, c, e, f⟩ := wd_of h.1 s.2.1
    obtain ⟨a2, b2, c2, e2, f2⟩ := wdK_of h.2 s.2.2
    have q := leaf_int (k := 0) s.1
    have q1 := q.wt
    have q2 := q.dp
    exact ⟨by simp [pureRK, a, a2], by simp [toPyK, PyData.leavesShortKv, b, b2, q.lv], by simp [toPyK, PyData.showableKv, c, c2, q.sh], by simp only [toPyK, PyData.weightKv, wRK]; omega, by simp only [toPyK, PyData.depthKv]; omega⟩
  | k, (.inr x, d) :: ds, h, s => by
    simp only [okRK, Bool.and_eq_true] at h
    simp only [shortRK] at s
    obtain ⟨a, b, c, e, f⟩ := wd_of h.2.1 s.1
    obtain ⟨a2, b2, c2, e2, f2⟩ := wdK_of h.2.2 s.2
    have q := leaf_str h.1
    exact ⟨by simp [pureRK, a, a2], by simp [toPyK, PyData.leavesShortKv, b, b2, q], by simp [toPyK, PyData.showableKv, c, c2]; simp [PyData.showable], by simp only [toPyK, PyData.weightKv, wRK]; simp only [PyData.weight]; omega, by simp only [toPyK, PyData.depthKv]; simp only [PyData.depth]; omega⟩
end
theorem for_rest {g : DG} {tb : DS} {Z : DEnds} {α : Type} {e : α → D} (I : List α → List Slot → Mu → Prop) : ∀ (xs : List α) {ρ : List Slot} {μ : Mu}, I xs ρ μ →
    (∀ x r ρ μ (N : List Slot → Mu → Prop), (∃ l, xs = l ++ x :: r) → I (x :: r) ρ μ → (∀ ρ' μ', I r ρ' μ' → N ρ' μ') → g (e x) ρ μ fun ρ1 μ1 => tb { nx := N, ct := N, bk := Z.nx, rt := Z.rt, xc := Z.xc } ρ1 μ1) →
    (∀ ρ μ, I [] ρ μ → Z.nx ρ μ) → dForGo g tb Z (xs.map e) ρ μ
  | [], ρ, μ, h0, _, h1 => h1 ρ μ h0
  | x :: xs, ρ, μ, h0, hs, h1 => by
    simp only [List.map_cons, dForGo]
    exact hs x xs ρ μ _ ⟨[], rfl⟩ h0 fun ρ' μ' h => for_rest I xs h (fun y r ρ μ N ⟨l, e⟩ => hs y r ρ μ N ⟨x :: l, by rw [e]; rfl⟩) h1
theorem for_any {g : DG} {tb : DS} {Z : DEnds} (I : List Slot → Mu → Prop) : ∀ (ds : List D) {ρ : List Slot} {μ : Mu}, I ρ μ →
    (∀ d ρ μ (N : List Slot → Mu → Prop), d ∈ ds → I ρ μ → (∀ ρ' μ', I ρ' μ' → N ρ' μ') → g d ρ μ fun ρ1 μ1 => tb { nx := N, ct := N, bk := Z.nx, rt := Z.rt, xc := Z.xc } ρ1 μ1) →
    (∀ ρ μ, I ρ μ → Z.nx ρ μ) → dForGo g tb Z ds ρ μ
  | [], ρ, μ, h0, _, h1 => h1 ρ μ h0
  | d :: ds, ρ, μ, h0, hs, h1 => by
    simp only [dForGo]
    exact hs d ρ μ _ List.mem_cons_self h0 fun ρ' μ' h => for_any I ds h (fun y ρ μ N hy => hs y ρ μ N (List.mem_cons_of_mem _ hy)) h1
theorem for_range {g : DG} {tb : DS} {Z : DEnds} (I : Nat → List Slot → Mu → Prop) (n : Nat) {ρ : List Slot} {μ : Mu} (h0 : I 0 ρ μ)
    (hs : ∀ i ρ μ (N : List Slot → Mu → Prop), i < n → I i ρ μ → (∀ ρ' μ', I (i + 1) ρ' μ' → N ρ' μ') → g (.int i) ρ μ fun ρ1 μ1 => tb { nx := N, ct := N, bk := Z.nx, rt := Z.rt, xc := Z.xc } ρ1 μ1)
    (h1 : ∀ ρ μ, I n ρ μ → Z.nx ρ μ) : dForGo g tb Z (rangeD 0 n) ρ μ := by
  have e : rangeD 0 n = (List.range n).map fun (i : Nat) => D.int ((0 : Int) + (i : Int)) := rfl
  rw [e]
  refine for_rest (fun r ρ μ => ∃ i, r = (List.range n).drop i ∧ i ≤ n ∧ I i ρ μ) (List.range n) ⟨0, rfl, Nat.zero_le _, h0⟩ (fun x r ρ μ N _ ⟨i, er, hi, hI⟩ k => ?_) fun ρ μ ⟨i, er, hi, hI⟩ => ?_
  · have hin : i < n := by
      by_cases h : i < n
      · exact h
      · rw [List.drop_eq_nil_of_le (by simp; omega)] at er
        cases er
    rw [List.drop_eq_getElem_cons (by simpa using hin)] at er
    simp only [List.getElem_range, List.cons.injEq] at er
    obtain ⟨rfl, rfl⟩ := er
    rw [Int.zero_add]
    exact hs x ρ μ N hin hI fun ρ' μ' h => k ρ' μ' ⟨x + 1, rfl, hin, h⟩
  · have : n ≤ i := by
      by_cases h : n ≤ i
      · exact h
      · have := congrArg List.length er
        simp at this
        omega
    obtain rfl : i = n := by omega
    exact h1 ρ μ hI
theorem lc_pure {g : DG} {tt : DT} {te : DE} {ρ : List Slot} {Q : List D → Mu → Prop} {Z : DXQ} {μ : Mu} {α : Type} {e : α → D} (p : α → Bool) (f : α → D) : ∀ (xs : List α) (acc : List D), acc.length + xs.length ≤ 100000 →
    (∀ x ∈ xs, ∀ K : List D → Mu → Prop, ∀ acc : List D, acc.length < sizeLine → K (if p x then acc ++ [f x] else acc) μ →
      g (e x) ρ μ fun ρ1 μ1 => tt ρ1 μ1 (fun b μ2 => if b = true then te ρ1 μ2 (fun d μ3 => acc.length < sizeLine ∧ K (acc ++ [d]) μ3) (fun _ _ => False) else K acc μ2) (fun _ _ => False)) →
    Q (acc ++ (xs.filter p).map f) μ → dLcGo g tt te ρ Q Z (xs.map e) acc μ
  | [], acc, _, _, q => by simpa [dLcGo] using q
  | x :: xs, acc, hl, h, q => by
    have hl' : acc.length + xs.length + 1 ≤ 100000 := by simpa [Nat.add_assoc] using hl
    simp only [List.map_cons, dLcGo]
    refine h x List.mem_cons_self (fun a μ => dLcGo g tt te ρ Q Z (xs.map e) a μ) acc (smallL (by omega)) ?_
    refine lc_pure p f xs _ (by split <;> first | omega | (simp only [List.length_append, List.length_cons, List.length_nil]; omega)) (fun y hy => h y (List.mem_cons_of_mem _ hy)) ?_
    cases ep : p x with
    | true =>
      rw [List.filter_cons_of_pos ep] at q
      simpa using q
    | false =>
      rw [List.filter_cons_of_neg (by rw [ep]; decide)] at q
      simpa using q
theorem flat_ints {ts : List Int} : (ts.map D.int).all flatD = true := by
  rw [List.all_eq_true]
  intro d hd
  obtain ⟨t, _, rfl⟩ := List.mem_map.mp hd
  rfl
theorem in_ints {v : Int} : ∀ {ts : List Int}, inD (.int v) (ts.map D.int) = decide (v ∈ ts)
  | [] => by simp [inD]
  | t :: ts => by
    have ih := in_ints (v := v) (ts := ts)
    unfold inD at ih ⊢
    rw [List.map_cons, List.any_cons, ih]
    simp only [eq0, List.mem_cons]
    by_cases h : t = v
    · simp [h]
    · have h2 : ¬ v = t := fun e => h e.symm
      simp [h, h2]
theorem take_map {α β : Type} {f : α → β} {xs : List α} {n : Nat} : (xs.map f).take n = (xs.take n).map f := List.map_take.symm
theorem drop_map {α β : Type} {f : α → β} {xs : List α} {n : Nat} : (xs.map f).drop n = (xs.drop n).map f := List.map_drop.symm
theorem cmul_true {i j : Int} (h : (-(2 ^ 64) < i ∧ i < 2 ^ 64) ∨ (-(2 ^ 64) < j ∧ j < 2 ^ 64)) : CMulD i j = True := eq_true (.inr h)
theorem cdiv_true {i j : Int} (h : 0 < j ∧ j < 2 ^ 64) : CDivW i j = True := eq_true (wide_div (b := 64) h.1 (by omega) (by decide) (by decide))
end DL

namespace DL
open PySem PySem.Spec PyProof.Rows L2
section
variable {μ : Mu} {ρ : List Slot} {Q : D → Prop} {QQ : DQ} {X : DXQ} {d e x y : D} {ds es a b : List D} {i j : Int} {s t : Str} {c k : Bool} {p : Addr}
theorem rd_int : rdD μ (.int i) = .int i := rfl
theorem rd_bl : rdD μ (.bl c) = .bl c := rfl
theorem rd_str : rdD μ (.str s) = .str s := rfl
theorem rd_non : rdD μ .non = .non := rfl
theorem rd_tup : rdD μ (.tup ds) = .tup ds := rfl
theorem rd_lst : rdD μ (.lst ds) = .lst ds := rfl
theorem rd_ty {T} : rdD μ (.ty T) = .ty T := rfl
theorem rd_scr {K ns} : rdD μ (.scr K ns) = .scr K ns := rfl
theorem rd_dic {ks} : rdD μ (.dic ks) = .dic ks := rfl
theorem rd_objL (h : μ p = some (.lst ds)) : rdD μ (.obj p) = .lst ds := by simp only [rdD, h]
theorem rd_objD {ks} (h : μ p = some (.dK ks)) : rdD μ (.obj p) = .dic ks := by simp only [rdD, h]
theorem rd_mL : rdD (mset μ p (.lst ds)) (.obj p) = .lst ds := rd_objL mset_same
theorem rd_mD {ks} : rdD (mset μ p (.dK ks)) (.obj p) = .dic ks := rd_objD mset_same
def blP (d : D) (Q : Bool → Prop) : Prop := match d with
  | .bl c => Q c
  | _ => False
theorem blP_bl {Q : Bool → Prop} : blP (.bl c) Q = Q c := rfl
def inP (d : D) (Q : Int → Prop) : Prop := match d with
  | .int c => Q c
  | _ => False
theorem inP_int {Q : Int → Prop} : inP (.int i) Q = Q i := rfl
def sqP (d : D) (Q : List D → Prop) : Prop := match d with
  | .tup xs | .lst xs => Q xs
  | _ => False
theorem sqP_t {Q : List D → Prop} : sqP (.tup ds) Q = Q ds := rfl
theorem sqP_l {Q : List D → Prop} : sqP (.lst ds) Q = Q ds := rfl
def liP (d : D) (Q : List D → Prop) : Prop := match d with
  | .lst xs => Q xs
  | _ => False
theorem liP_l {Q : List D → Prop} : liP (.lst ds) Q = Q ds := rfl
def tuP (d : D) (Q : List D → Prop) : Prop := match d with
  | .tup xs => Q xs
  | _ => False
theorem tuP_t {Q : List D → Prop} : tuP (.tup ds) Q = Q ds := rfl
theorem u_test {f : DE} {Q : Bool → Mu → Prop} : dTest f ρ μ Q X = f ρ μ (fun d μ1 => blP d fun c => Q c μ1) X := rfl
theorem u_andV {f g : DE} : dAndV f g ρ μ QQ X = f ρ μ (fun d μ1 => blP d fun c => if c = true then g ρ μ1 QQ X else QQ (.bl false) μ1) X := rfl
theorem u_orV {f g : DE} : dOrV f g ρ μ QQ X = f ρ μ (fun d μ1 => blP d fun c => if c = true then QQ (.bl true) μ1 else g ρ μ1 QQ X) X := rfl
theorem u_notV {f : DE} : dNotV f ρ μ QQ X = f ρ μ (fun d μ1 => blP d fun c => QQ (.bl (!c)) μ1) X := rfl
theorem u_neg {f : DE} : dNeg f ρ μ QQ X = f ρ μ (fun d μ1 => inP d fun i => QQ (.int (-i)) μ1) X := rfl
theorem u_star {f : DE} {r : DA} {Q : List D → Mu → Prop} : dStar f r ρ μ Q X = f ρ μ (fun d μ1 => sqP d fun xs => r ρ μ1 (fun ds μ2 => Q (xs ++ ds) μ2) X) X := by
  unfold dStar sqP
  first | rfl | (congr 1; funext d μ1; cases d <;> rfl)
theorem u_diL {f : DE} {Q : List D → Mu → Prop} : diL f ρ μ Q X = f ρ μ (fun d μ1 => liP d fun xs => Q xs μ1) X := rfl
theorem u_diT {f : DE} {Q : List D → Mu → Prop} : diT f ρ μ Q X = f ρ μ (fun d μ1 => tuP d fun xs => Q xs μ1) X := rfl
theorem u_some {f : DE} {Q : Option Int → Mu → Prop} : lSome f ρ μ Q X = f ρ μ (fun d μ1 => inP d fun i => Q (some i) μ1) X := rfl
def cutP (d : D) (lo hi : Option Int) (Q : D → Prop) : Prop := match d with
  | .lst ds => Q (.lst (cutD ds lo hi))
  | .tup ds => Q (.tup (cutD ds lo hi))
  | _ => False
theorem cutP_l {lo hi} : cutP (.lst ds) lo hi Q = Q (.lst (cutD ds lo hi)) := rfl
theorem cutP_t {lo hi} : cutP (.tup ds) lo hi Q = Q (.tup (cutD ds lo hi)) := rfl
theorem u_slice {f : DE} {l u : DPt} : dSlice f l u ρ μ QQ X = f ρ μ (fun d μ1 => l ρ μ1 (fun lo μ2 => u ρ μ2 (fun hi μ3 => cutP (rdD μ3 d) lo hi fun d => QQ d μ3) X) X) X := by
  unfold dSlice cutP
  first | rfl | (congr 1; funext d μ1; congr 1; funext lo μ2; congr 1; funext hi μ3; generalize rdD μ3 d = z; cases z <;> rfl)
theorem u_doOf {f : DE} {Q : List D → Mu → Prop} : doOf f ρ μ Q X = f ρ μ (fun d μ1 => sqP (rdD μ1 d) fun xs => Q xs μ1) X := by
  unfold doOf sqP
  congr 1
  funext d μ1
  generalize rdD μ1 d = z
  cases z <;> rfl
def catP (x y : D) (Q : List D → Prop) : Prop := match x, y with
  | .lst xs, .lst ys => xs.length + ys.length ≤ sizeLine ∧ Q (xs ++ ys)
  | _, _ => False
theorem catP_l {Q : List D → Prop} : catP (.lst a) (.lst b) Q = (a.length + b.length ≤ sizeLine ∧ Q (a ++ b)) := rfl
theorem u_doCat {f g : DE} {Q : List D → Mu → Prop} : doCat f g ρ μ Q X = f ρ μ (fun dx μ1 => g ρ μ1 (fun dy μ2 => catP (rdD μ2 dx) (rdD μ2 dy) fun xs => Q xs μ2) X) X := by
  unfold doCat catP
  first | rfl | (congr 1; funext d μ1; congr 1; funext lo μ2; generalize rdD μ2 d = z; generalize rdD μ2 lo = z2; cases z <;> cases z2 <;> rfl)
def rgP (d : D) (Q : Int → Prop) : Prop := match d with
  | .int n => n ≤ 16777216 ∧ 0 ≤ n ∧ Q n
  | _ => False
theorem rgP_int {Q : Int → Prop} : rgP (.int i) Q = (i ≤ 16777216 ∧ 0 ≤ i ∧ Q i) := rfl
theorem u_doRg {f : DE} {Q : List D → Mu → Prop} : doRg f ρ μ Q X = f ρ μ (fun d μ1 => rgP d fun n => Q (rangeD 0 n.toNat) μ1) X := rfl
theorem u_rgT {f : DE} : dRgT f ρ μ QQ X = f ρ μ (fun d μ1 => rgP d fun n => QQ (.tup (rangeD 0 n.toNat)) μ1) X := rfl
theorem u_rgL {f : DE} : dRgL f ρ μ QQ X = f ρ μ (fun d μ1 => rgP d fun n => QQ (.lst (rangeD 0 n.toNat)) μ1) X := rfl
def itP (o : Option D) (Q : D → Prop) : Prop := match o with
  | some d => Q d
  | none => False
theorem itP_some : itP (some d) Q = Q d := rfl
theorem itP_ex (o : Option D) : itP o Q = ∃ d, o = some d ∧ Q d := by
  cases o with
  | none => exact propext ⟨fun h => h.elim, fun ⟨_, e, _⟩ => by cases e⟩
  | some d => exact propext ⟨fun h => ⟨d, rfl, h⟩, fun ⟨_, e, h⟩ => by cases e; exact h⟩
theorem ix_l : dIx (.lst ds) (.int i) Q = itP (atI ds i) Q := (itP_ex _).symm
theorem ix_t : dIx (.tup ds) (.int i) Q = itP (atI ds i) Q := (itP_ex _).symm
theorem add_ii : dAdd (.int i) (.int j) Q = Q (.int (i + j)) := rfl
theorem add_ss : dAdd (.str s) (.str t) Q = (s.length + t.length ≤ sizeLine ∧ Q (.str (s ++ t))) := rfl
theorem add_ll : dAdd (.lst a) (.lst b) Q = (a.length + b.length ≤ sizeLine ∧ Q (.lst (a ++ b))) := rfl
theorem add_tt : dAdd (.tup a) (.tup b) Q = (a.length + b.length ≤ sizeLine ∧ Q (.tup (a ++ b))) := rfl
theorem sub_ii : dSub (.int i) (.int j) Q = Q (.int (i - j)) := rfl
theorem mul_ii : dMul (.int i) (.int j) Q = (CMulD i j ∧ Q (.int (i * j))) := rfl
theorem mul_li : dMul (.lst a) (.int j) Q = (-(2 ^ 63) ≤ j ∧ j < 2 ^ 63 ∧ a.length * j.toNat ≤ sizeLine ∧ Q (.lst (List.replicate j.toNat a).flatten)) := rfl
theorem mod_ii : dMod (.int i) (.int j) Q = (0 < j ∧ Q (.int (i % j))) := rfl
theorem div_ii : dDiv (.int i) (.int j) Q = (CDivW i j ∧ Q (.int (i / j))) := rfl
theorem pow_ii : dPow (.int i) (.int j) Q = (CPow i j ∧ Q (.int (i ^ j.toNat))) := rfl
theorem lt_ii : dLt (.int i) (.int j) Q = Q (.bl (decide (i < j))) := rfl
theorem le_ii : dLe (.int i) (.int j) Q = Q (.bl (decide (i ≤ j))) := rfl
theorem gt_ii : dGt (.int i) (.int j) Q = Q (.bl (decide (j < i))) := rfl
theorem ge_ii : dGe (.int i) (.int j) Q = Q (.bl (decide (j ≤ i))) := rfl
theorem isN_n : dIsN x .non Q = Q (.bl (isNon x)) := rfl
theorem notN_n : dNotN x .non Q = Q (.bl (!isNon x)) := rfl
theorem in_l {n} : dIn n x (.lst ds) Q = (flatD x = true ∧ ds.all flatD = true ∧ Q (.bl (if n then !inD x ds else inD x ds))) := rfl
theorem in_t {n} : dIn n x (.tup ds) Q = (flatD x = true ∧ ds.all flatD = true ∧ Q (.bl (if n then !inD x ds else inD x ds))) := rfl
theorem len_l : dLen [.lst ds] Q = Q (.int ds.length) := rfl
theorem len_t : dLen [.tup ds] Q = Q (.int ds.length) := rfl
theorem len_s : dLen [.str s] Q = (s.length ≤ sizeLine ∧ Q (.int s.length)) := rfl
theorem abs_i : dAbs [.int i] Q = Q (.int (if i < 0 then -i else i)) := rfl
theorem max_ii : dMax2 [.int i, .int j] Q = Q (.int (if j > i then j else i)) := rfl
theorem min_ii : dMin2 [.int i, .int j] Q = Q (.int (if j < i then j else i)) := rfl
theorem int_i : dIntOf [.int i] Q = Q (.int i) := rfl
theorem int_b : dIntOf [.bl c] Q = Q (.int (if c then 1 else 0)) := rfl
theorem tupOf_l : dTupOf [.lst ds] Q = Q (.tup ds) := rfl
theorem tupOf_t : dTupOf [.tup ds] Q = Q (.tup ds) := rfl
theorem lstOf_l : dLstOf [.lst ds] Q = Q (.lst ds) := rfl
theorem lstOf_t : dLstOf [.tup ds] Q = Q (.lst ds) := rfl
theorem is_l {f : List Int → (D → Prop) → Prop} : dIs f [.lst ds] Q = ∃ ns : List Int, ds = ns.map D.int ∧ f ns Q := rfl
theorem bs_l {f : List Bool → (D → Prop) → Prop} : dBs f [.lst ds] Q = ∃ ns : List Bool, ds = ns.map D.bl ∧ f ns Q := rfl
theorem sortedT_t : dSortedT [.tup ds] Q = ∃ ns : List Int, ds = ns.map D.int ∧ ∀ ns' : List Int, ns'.Perm ns → ns'.Pairwise (· ≤ ·) → Q (.lst (ns'.map D.int)) := rfl
theorem repr_d : dRepr [d] Q = (shD d ∧ Q (.str (shown d))) := rfl
theorem lenS_s {K ns} : dLenS K [.scr K ns] Q = Q (.int ns.length) := propext ⟨fun h => h.2, fun h => ⟨rfl, h⟩⟩
theorem isi_x {T} : dIsi [x, .ty T] Q = ∃ n b, tyName x = some n ∧ kitB n T = some b ∧ Q (.bl b) := rfl
def isiB (x : D) (T : String) : Option Bool := (tyName x).bind fun n => kitB n T
theorem isi_o {T} (h : isiB x T = some k) : dIsi [x, .ty T] Q = Q (.bl k) := by
  rw [isi_x]
  unfold isiB at h
  cases e : tyName x with
  | none => rw [e] at h; cases h
  | some n =>
    rw [e] at h
    exact propext ⟨fun ⟨n', b, e1, e2, q⟩ => by cases e1; rw [show kitB n T = some k from h] at e2; cases e2; exact q, fun q => ⟨n, k, rfl, h, q⟩⟩
theorem isi_non_int : dIsi [.non, .ty "int"] Q = Q (.bl false) := isi_o (show kitB "NoneType" "int" = some false from by decide +kernel)
theorem isi_non_bool : dIsi [.non, .ty "bool"] Q = Q (.bl false) := isi_o (show kitB "NoneType" "bool" = some false from by decide +kernel)
theorem isi_non_str : dIsi [.non, .ty "str"] Q = Q (.bl false) := isi_o (show kitB "NoneType" "str" = some false from by decide +kernel)
theorem isi_non_tuple : dIsi [.non, .ty "tuple"] Q = Q (.bl false) := isi_o (show kitB "NoneType" "tuple" = some false from by decide +kernel)
theorem isi_non_list : dIsi [.non, .ty "list"] Q = Q (.bl false) := isi_o (show kitB "NoneType" "list" = some false from by decide +kernel)
theorem isi_non_dict : dIsi [.non, .ty "dict"] Q = Q (.bl false) := isi_o (show kitB "NoneType" "dict" = some false from by decide +kernel)
theorem isi_bl_int : dIsi [.bl c, .ty "int"] Q = Q (.bl true) := isi_o (show kitB "bool" "int" = some true from by decide +kernel)
theorem isi_bl_bool : dIsi [.bl c, .ty "bool"] Q = Q (.bl true) := isi_o (show kitB "bool" "bool" = some true from by decide +kernel)
theorem isi_bl_str : dIsi [.bl c, .ty "str"] Q = Q (.bl false) := isi_o (show kitB "bool" "str" = some false from by decide +kernel)
theorem isi_bl_tuple : dIsi [.bl c, .ty "tuple"] Q = Q (.bl false) := isi_o (show kitB "bool" "tuple" = some false from by decide +kernel)
theorem isi_bl_list : dIsi [.bl c, .ty "list"] Q = Q (.bl false) := isi_o (show kitB "bool" "list" = some false from by decide +kernel)
theorem isi_bl_dict : dIsi [.bl c, .ty "dict"] Q = Q (.bl false) := isi_o (show kitB "bool" "dict" = some false from by decide +kernel)
theorem isi_int_int : dIsi [.int i, .ty "int"] Q = Q (.bl true) := isi_o (show kitB "int" "int" = some true from by decide +kernel)
theorem isi_int_bool : dIsi [.int i, .ty "bool"] Q = Q (.bl false) := isi_o (show kitB "int" "bool" = some false from by decide +kernel)
theorem isi_int_str : dIsi [.int i, .ty "str"] Q = Q (.bl false) := isi_o (show kitB "int" "str" = some false from by decide +kernel)
theorem isi_int_tuple : dIsi [.int i, .ty "tuple"] Q = Q (.bl false) := isi_o (show kitB "int" "tuple" = some false from by decide +kernel)
theorem isi_int_list : dIsi [.int i, .ty "list"] Q = Q (.bl false) := isi_o (show kitB "int" "list" = some false from by decide +kernel)
theorem isi_int_dict : dIsi [.int i, .ty "dict"] Q = Q (.bl false) := isi_o (show kitB "int" "dict" = some false from by decide +kernel)
theorem isi_str_int : dIsi [.str s, .ty "int"] Q = Q (.bl false) := isi_o (show kitB "str" "int" = some false from by decide +kernel)
theorem isi_str_bool : dIsi [.str s, .ty "bool"] Q = Q (.bl false) := isi_o (show kitB "str" "bool" = some false from by decide +kernel)
theorem isi_str_str : dIsi [.str s, .ty "str"] Q = Q (.bl true) := isi_o (show kitB "str" "str" = some true from by decide +kernel)
theorem isi_str_tuple : dIsi [.str s, .ty "tuple"] Q = Q (.bl false) := isi_o (show kitB "str" "tuple" = some false from by decide +kernel)
theorem isi_str_list : dIsi [.str s, .ty "list"] Q = Q (.bl false) := isi_o (show kitB "str" "list" = some false from by decide +kernel)
theorem isi_str_dict : dIsi [.str s, .ty "dict"] Q = Q (.bl false) := isi_o (show kitB "str" "dict" = some false from by decide +kernel)
theorem isi_tup_int : dIsi [.tup ds, .ty "int"] Q = Q (.bl false) := isi_o (show kitB "tuple" "int" = some false from by decide +kernel)
theorem isi_tup_bool : dIsi [.tup ds, .ty "bool"] Q = Q (.bl false) := isi_o (show kitB "tuple" "bool" = some false from by decide +kernel)
theorem isi_tup_str : dIsi [.tup ds, .ty "str"] Q = Q (.bl false) := isi_o (show kitB "tuple" "str" = some false from by decide +kernel)
theorem isi_tup_tuple : dIsi [.tup ds, .ty "tuple"] Q = Q (.bl true) := isi_o (show kitB "tuple" "tuple" = some true from by decide +kernel)
theorem isi_tup_list : dIsi [.tup ds, .ty "list"] Q = Q (.bl false) := isi_o (show kitB "tuple" "list" = some false from by decide +kernel)
theorem isi_tup_dict : dIsi [.tup ds, .ty "dict"] Q = Q (.bl false) := isi_o (show kitB "tuple" "dict" = some false from by decide +kernel)
theorem isi_lst_int : dIsi [.lst ds, .ty "int"] Q = Q (.bl false) := isi_o (show kitB "list" "int" = some false from by decide +kernel)
theorem isi_lst_bool : dIsi [.lst ds, .ty "bool"] Q = Q (.bl false) := isi_o (show kitB "list" "bool" = some false from by decide +kernel)
theorem isi_lst_str : dIsi [.lst ds, .ty "str"] Q = Q (.bl false) := isi_o (show kitB "list" "str" = some false from by decide +kernel)
theorem isi_lst_tuple : dIsi [.lst ds, .ty "tuple"] Q = Q (.bl false) := isi_o (show kitB "list" "tuple" = some false from by decide +kernel)
theorem isi_lst_list : dIsi [.lst ds, .ty "list"] Q = Q (.bl true) := isi_o (show kitB "list" "list" = some true from by decide +kernel)
theorem isi_lst_dict : dIsi [.lst ds, .ty "dict"] Q = Q (.bl false) := isi_o (show kitB "list" "dict" = some false from by decide +kernel)
theorem isi_dic_int {ks : List (Key × D)} : dIsi [.dic ks, .ty "int"] Q = Q (.bl false) := isi_o (show kitB "dict" "int" = some false from by decide +kernel)
theorem isi_dic_bool {ks : List (Key × D)} : dIsi [.dic ks, .ty "bool"] Q = Q (.bl false) := isi_o (show kitB "dict" "bool" = some false from by decide +kernel)
theorem isi_dic_str {ks : List (Key × D)} : dIsi [.dic ks, .ty "str"] Q = Q (.bl false) := isi_o (show kitB "dict" "str" = some false from by decide +kernel)
theorem isi_dic_tuple {ks : List (Key × D)} : dIsi [.dic ks, .ty "tuple"] Q = Q (.bl false) := isi_o (show kitB "dict" "tuple" = some false from by decide +kernel)
theorem isi_dic_list {ks : List (Key × D)} : dIsi [.dic ks, .ty "list"] Q = Q (.bl false) := isi_o (show kitB "dict" "list" = some false from by decide +kernel)
theorem isi_dic_dict {ks : List (Key × D)} : dIsi [.dic ks, .ty "dict"] Q = Q (.bl true) := isi_o (show kitB "dict" "dict" = some true from by decide +kernel)
theorem dgTup_t {n : Nat} {r : DGs} {N : List Slot → Mu → Prop} : dgTup n r (.tup ds) ρ μ N = (ds.length = n ∧ r ds ρ μ N) := rfl
theorem dgTup_l {n : Nat} {r : DGs} {N : List Slot → Mu → Prop} : dgTup n r (.lst ds) ρ μ N = (ds.length = n ∧ r ds ρ μ N) := rfl
theorem dgCons_c {g : DG} {r : DGs} {N : List Slot → Mu → Prop} : dgCons g r (d :: ds) ρ μ N = g d ρ μ fun ρ1 μ1 => r ds ρ1 μ1 N := rfl
theorem dgNil_n {N : List Slot → Mu → Prop} : dgNil [] ρ μ N = N ρ μ := propext ⟨fun h => h.2, fun h => ⟨rfl, h⟩⟩
def r1P (ds : List D) (Q : Int → Prop) : Prop := match ds with
  | [.int n] => -(2 ^ 62) ≤ n ∧ n < 2 ^ 62 ∧ Q n
  | _ => False
theorem r1P_i {Q : Int → Prop} (h : -(2 ^ 62) ≤ i ∧ i < 2 ^ 62) : r1P [.int i] Q = Q i := propext ⟨fun z => z.2.2, fun z => ⟨h.1, h.2, z⟩⟩
theorem u_r1 {f : DA} {Q : List D → Mu → Prop} : diR1 f ρ μ Q X = f ρ μ (fun ds μ1 => r1P ds fun n => Q (rangeD 0 n.toNat) μ1) X := rfl
def r2P (ds : List D) (Q : Int → Int → Prop) : Prop := match ds with
  | [.int i, .int j] => (-(2 ^ 62) ≤ i ∧ i < 2 ^ 62 ∧ -(2 ^ 62) ≤ j ∧ j < 2 ^ 62) ∧ Q i j
  | _ => False
theorem r2P_i {Q : Int → Int → Prop} (h : -(2 ^ 62) ≤ i ∧ i < 2 ^ 62 ∧ -(2 ^ 62) ≤ j ∧ j < 2 ^ 62) : r2P [.int i, .int j] Q = Q i j := propext ⟨fun z => z.2, fun z => ⟨h, z⟩⟩
theorem u_r2 {f : DA} {Q : List D → Mu → Prop} : diR2 f ρ μ Q X = f ρ μ (fun ds μ1 => r2P ds fun i j => Q (rangeD i (j - i).toNat) μ1) X := rfl
def osP (μ : Mu) (dp dk dx : D) (N : Mu → Prop) : Prop := ∃ p ds k j, dp = .obj p ∧ dk = .int k ∧ μ p = some (.lst ds) ∧ ixN ds.length k = some j ∧ N (mset μ p (.lst (ds.set j dx)))
theorem u_oset {o iD v : DE} {Dd : DEnds} : dOSet o iD v Dd ρ μ = v ρ μ (fun dx μ1 => o ρ μ1 (fun dp μ2 => iD ρ μ2 (fun dk μ3 => osP μ3 dp dk dx fun μ' => Dd.nx ρ μ') (Dd.xc ρ)) (Dd.xc ρ)) (Dd.xc ρ) := rfl
theorem mset_mset {μ : Mu} {p : Addr} {o u : MO} : mset (mset μ p o) p u = mset μ p u := by
  funext a
  by_cases h : a = p
  · rw [h, mset_same, mset_same]
  · rw [mset_ne h, mset_ne h, mset_ne h]
theorem cpow_true (h : 0 ≤ j ∧ j ≤ 1000 ∧ 0 ≤ i ∧ i < 2 ^ 62) : CPow i j = True := eq_true ⟨h.1, by omega, by
  have : (2 : Int) ^ 62 = 4611686018427387904 := by decide
  have : (2 : Nat) ^ 64 = 18446744073709551616 := by decide
  omega⟩
def slP (o : Option Slot) (Q : D → Prop) : Prop := match o with
  | some (.dat d) => Q d
  | _ => False
theorem slP_d : slP (some (.dat d)) Q = Q d := rfl
def boP (o : Option Slot) (Q : D → Prop) : Prop := match o with
  | some (.dat d) => Q d
  | some (.ml ds) => Q (.lst ds)
  | some (.md ks) => Q (.dic ks)
  | _ => False
theorem boP_d : boP (some (.dat d)) Q = Q d := rfl
theorem boP_l : boP (some (.ml ds)) Q = Q (.lst ds) := rfl
theorem boP_m {ks} : boP (some (.md ks)) Q = Q (.dic ks) := rfl
def mlP (o : Option Slot) (Q : List D → Prop) : Prop := match o with
  | some (.ml ds) => Q ds
  | _ => False
theorem mlP_l {Q : List D → Prop} : mlP (some (.ml ds)) Q = Q ds := rfl
def frP (o : Option Slot) (a : Option D → Prop) : Prop := match o with
  | some (.ml ds) => a (some (.lst ds))
  | some (.md ks) => a (some (.dic ks))
  | some (.dat _) => a none
  | _ => False
theorem frP_d {a : Option D → Prop} : frP (some (.dat d)) a = a none := rfl
theorem frP_l {a : Option D → Prop} : frP (some (.ml ds)) a = a (some (.lst ds)) := rfl
theorem frP_m {a : Option D → Prop} {ks} : frP (some (.md ks)) a = a (some (.dic ks)) := rfl
def frS (ρ : List Slot) (i : Nat) (o : Option D) : List Slot := match o with
  | some d => ρ.set i (.dat d)
  | none => ρ
theorem frS_some {n : Nat} : frS ρ n (some d) = ρ.set n (.dat d) := rfl
theorem frS_none {n : Nat} : frS ρ n none = ρ := rfl
theorem u_var {n : Nat} : dVar n ρ μ QQ X = slP ρ[n]? fun d => QQ d μ := by
  unfold dVar slP
  rcases ρ[n]? with _ | _ | _ | _ | _ | _ <;> rfl
theorem u_bor {n : Nat} : dBor n ρ μ QQ X = boP ρ[n]? fun d => QQ d μ := by
  unfold dBor boP
  rcases ρ[n]? with _ | _ | _ | _ | _ | _ <;> rfl
theorem u_app {n : Nat} {f : DE} {Dd : DEnds} : dApp n f Dd ρ μ = mlP ρ[n]? fun ds => f ρ μ (fun d μ1 => ds.length < sizeLine ∧ Dd.nx (ρ.set n (.ml (ds ++ [d]))) μ1) (Dd.xc ρ) := by
  unfold dApp mlP
  rcases ρ[n]? with _ | _ | _ | _ | _ | _ <;> rfl
theorem u_sext {n : Nat} {f : DE} {Dd : DEnds} : dSExt n f Dd ρ μ = mlP ρ[n]? fun ds => f ρ μ (fun d μ1 => liP d fun xs => ds.length + xs.length ≤ sizeLine ∧ Dd.nx (ρ.set n (.ml (ds ++ xs))) μ1) (Dd.xc ρ) := by
  unfold dSExt mlP
  rcases ρ[n]? with _ | _ | _ | ds | _ | _
  · exact propext ⟨fun ⟨⟨_, e⟩, _⟩ => (by cases e), fun h => h.elim⟩
  · exact propext ⟨fun ⟨⟨_, e⟩, _⟩ => (by cases e), fun h => h.elim⟩
  · exact propext ⟨fun ⟨⟨_, e⟩, _⟩ => (by cases e), fun h => h.elim⟩
  · have e : (fun (d : D) (μ1 : Mu) => liP d fun xs => ds.length + xs.length ≤ sizeLine ∧ Dd.nx (ρ.set n (.ml (ds ++ xs))) μ1) = fun d μ1 => match some (Slot.ml ds), d with
      | some (.ml ds), .lst xs => ds.length + xs.length ≤ sizeLine ∧ Dd.nx (ρ.set n (.ml (ds ++ xs))) μ1
      | _, _ => False := by
      funext d μ1
      cases d <;> rfl
    show ((∃ ds', some (Slot.ml ds) = some (Slot.ml ds')) ∧ _) = f ρ μ (fun (d : D) (μ1 : Mu) => liP d fun xs => ds.length + xs.length ≤ sizeLine ∧ Dd.nx (ρ.set n (.ml (ds ++ xs))) μ1) (Dd.xc ρ)
    rw [e]
    exact propext ⟨fun h => h.2, fun h => ⟨⟨ds, rfl⟩, h⟩⟩
  · exact propext ⟨fun ⟨⟨_, e⟩, _⟩ => (by cases e), fun h => h.elim⟩
  · exact propext ⟨fun ⟨⟨_, e⟩, _⟩ => (by cases e), fun h => h.elim⟩
theorem u_frz {n : Nat} {t : DS} {Dd : DEnds} : dFreeze n t Dd ρ μ = frP ρ[n]? fun o => t Dd (frS ρ n o) μ := by
  unfold dFreeze frP frS
  rcases ρ[n]? with _ | _ | _ | _ | _ | _ <;> rfl
theorem u_aug {g : Int → Int → Int} {n : Nat} {f : DE} {Dd : DEnds} : dAug g n f Dd ρ μ = slP ρ[n]? fun d => inP d fun x => f ρ μ (fun d μ1 => inP d fun y => Dd.nx (ρ.set n (.dat (.int (g x y)))) μ1) (Dd.xc ρ) := by
  unfold dAug slP inP
  rcases ρ[n]? with _ | _ | d | _ | _ | _
  · rfl
  · rfl
  · cases d <;> rfl
  · rfl
  · rfl
  · rfl
end
end DL

namespace DL
open PySem PySem.Spec PyProof.Rows L2
def lookD (ks : List (Key × D)) (k : Key) : Option D := (ks.find? fun kv => decide (kv.1 = k)).map (·.2)
def putD (ks : List (Key × D)) (k : Key) (d : D) : List (Key × D) :=
  if (ks.any fun kv => decide (kv.1 = k)) = true then ks.map (fun kv => if kv.1 = k then (kv.1, d) else kv) else ks ++ [(k, d)]
def keyD : Key → D
  | .inl i => .int i
  | .inr x => .str x
theorem fzk_inv {F : Hp} {k : Key} {d : D} {ks : List (Key × D)} {vs : List (Key × V)} (h : FzK F ((k, d) :: ks) vs) : ∃ v r, vs = (k, v) :: r ∧ Fz F d v ∧ FzK F ks r := by
  unfold FzK at h
  exact h
theorem fzk_nil {F : Hp} : FzK F [] [] := by unfold FzK; rfl
theorem fzk_inv0 {F : Hp} {vs : List (Key × V)} (h : FzK F [] vs) : vs = [] := by
  unfold FzK at h
  exact h
theorem fzk_cons {F : Hp} {k : Key} {d : D} {ks : List (Key × D)} {v : V} {vs : List (Key × V)} (h : Fz F d v) (hs : FzK F ks vs) : FzK F ((k, d) :: ks) ((k, v) :: vs) := by
  unfold FzK
  exact ⟨v, vs, rfl, h, hs⟩
theorem FzK.length {F : Hp} : ∀ {ks : List (Key × D)} {vs : List (Key × V)}, FzK F ks vs → vs.length = ks.length
  | [], _, h => by rw [fzk_inv0 h]; rfl
  | (k, d) :: ks, _, h => by
    obtain ⟨v, r, rfl, _, h3⟩ := fzk_inv h
    simp [FzK.length h3]
theorem FzK.look {F : Hp} {k : Key} : ∀ {ks : List (Key × D)} {vs : List (Key × V)} {d : D}, FzK F ks vs → lookD ks k = some d → ∃ v, valV vs k = some v ∧ Fz F d v
  | [], _, d, h, e => by cases e
  | (k', d') :: ks, _, d, h, e => by
    obtain ⟨v, r, rfl, h2, h3⟩ := fzk_inv h
    by_cases hk : k' = k
    · have : lookD ((k', d') :: ks) k = some d' := by simp [lookD, List.find?_cons, hk]
      rw [this] at e
      cases e
      exact ⟨v, valV_pos hk, h2⟩
    · have : lookD ((k', d') :: ks) k = lookD ks k := by simp [lookD, List.find?_cons, hk]
      rw [this] at e
      obtain ⟨w, e1, e2⟩ := FzK.look h3 e
      exact ⟨w, by rw [valV_neg hk]; exact e1, e2⟩
theorem FzK.any {F : Hp} {k : Key} : ∀ {ks : List (Key × D)} {vs : List (Key × V)}, FzK F ks vs → (vs.any fun kv => decide (kv.1 = k)) = ks.any fun kv => decide (kv.1 = k)
  | [], _, h => by rw [fzk_inv0 h]; rfl
  | (k', d) :: ks, _, h => by
    obtain ⟨v, r, rfl, _, h3⟩ := fzk_inv h
    simp [FzK.any h3]
theorem FzK.mapPut {F : Hp} {k : Key} {d : D} {v : V} (z : Fz F d v) : ∀ {ks : List (Key × D)} {vs : List (Key × V)}, FzK F ks vs →
    FzK F (ks.map fun kv => if kv.1 = k then (kv.1, d) else kv) (vs.map fun kv => if kv.1 = k then (kv.1, v) else kv)
  | [], _, h => by
    rw [fzk_inv0 h]
    exact fzk_nil
  | (k', d') :: ks, _, h => by
    obtain ⟨v', r, rfl, h2, h3⟩ := fzk_inv h
    simp only [List.map_cons]
    by_cases hk : k' = k
    · rw [if_pos hk, if_pos hk]
      exact fzk_cons z (FzK.mapPut z h3)
    · rw [if_neg hk, if_neg hk]
      exact fzk_cons h2 (FzK.mapPut z h3)
theorem FzK.append {F : Hp} {es : List (Key × D)} {ws : List (Key × V)} (h2 : FzK F es ws) : ∀ {ks : List (Key × D)} {vs : List (Key × V)}, FzK F ks vs → FzK F (ks ++ es) (vs ++ ws)
  | [], _, h => by
    rw [fzk_inv0 h]
    exact h2
  | (k, d) :: ks, _, h => by
    obtain ⟨v, r, rfl, h1, h3⟩ := fzk_inv h
    exact fzk_cons h1 (FzK.append h2 h3)
theorem FzK.put {F : Hp} {k : Key} {d : D} {v : V} (z : Fz F d v) {ks : List (Key × D)} {vs : List (Key × V)} (h : FzK F ks vs) : FzK F (putD ks k d) (putK vs k v) := by
  unfold putD putK
  rw [h.any]
  split
  · exact FzK.mapPut z h
  · exact FzK.append (fzk_cons z fzk_nil) h
theorem fz_key {F : Hp} {k : Key} {v : V} (h : Fz F (keyD k) v) : v = kV k := by
  cases k <;> (unfold keyD Fz at h; exact h)
abbrev DId := List Slot → Mu → (List (Key × D) → Mu → Prop) → DXQ → Prop
def SimOd (W : WX) (te : TE) (t : DId) : Prop := ∀ {B : Anchor} {F : Hp} {σ : L2.St} {H : Hp} {ρ : List Slot} {μ : Mu} {Qd : List (Key × D) → Mu → Prop} {Xd : DXQ} {Q : VK}, Sti B F σ H ρ μ → t ρ μ Qd Xd → GoX W B F σ H ρ μ Xd →
  (∀ p vs F' H' ks μ', Grow F μ H F' μ' H' → Sti B F' σ H' ρ μ' → NewAt H μ p → H' p = some (.dK vs) → F' p = none → μ' p = none → FzK F' ks vs → Qd ks μ' → Q (.ref p) H') → te σ H Q
structure POd (X : Cx) (W : WX) (e : Expr) (t : DId) : Prop where
  ex : ∃ te, PE X e te ∧ SimOd W te t
def dObjD (t : DId) : DE := fun ρ μ Q X => t ρ μ (fun ks μ1 => ∀ p, μ1 p = none → Q (.obj p) (mset μ1 p (.dK ks))) X
theorem POd.obj {X : Cx} {W : WX} {e : Expr} {t : DId} (h : POd X W e t) : PD X W e (dObjD t) := by
  obtain ⟨te, a1, a2⟩ := h.ex
  refine ⟨_, a1, fun {B F σ H ρ μ Qd Xd Q} S q gx k => a2 S q gx fun p vs F' H' ks μ' g S' h0 h1 h2 h3 z q' => ?_⟩
  have hmu : ∀ {b : Addr}, b ≠ p → mset μ' p (.dK ks) b = μ' b := fun hb => mset_ne hb
  have g2 : Grow F μ H F' (mset μ' p (.dK ks)) H' := ⟨g.fz, fun b o x1 x2 => by
    obtain ⟨k1, k2, k3⟩ := g.keep b o x1 x2
    exact ⟨k1, (hmu (h0.ne x1 x2)).trans k2, k3⟩⟩
  have W' : Wd F' (mset μ' p (.dK ks)) H' := ⟨S'.wd.ext, fun a o e => by
    by_cases hb : a = p
    · subst hb
      rw [mset_same] at e
      cases e
      exact ⟨⟨vs, h1, z⟩, h2⟩
    · rw [mset_ne hb] at e
      exact S'.wd.mu a o e, S'.wd.tup⟩
  refine k _ F' H' (.obj p) _ g2 ?_ (by unfold Fz; rfl) (q' p h3)
  refine ⟨W', ⟨S'.grow.fz, fun b o x1 x2 => ?_⟩, S'.len, fun i s v x1 x2 => ?_, S'.dist⟩
  · obtain ⟨k1, k2, k3⟩ := S'.grow.keep b o x1 x2
    have hb : b ≠ p := by
      rintro rfl
      obtain ⟨j1, j2, _⟩ := S.grow.keep _ o x1 x2
      exact h0 o j1 j2
    exact ⟨k1, (mset_ne hb).trans k2, k3⟩
  · have q := S'.slot i s v x1 x2
    have q0 := S.slot i s v x1 x2
    cases s with
    | no => exact True.intro
    | fn _ _ _ _ => exact q
    | dat d => exact q
    | ml ds' =>
      obtain ⟨a, vs', hv, ha, q, o1, o2, o3⟩ := q
      obtain ⟨a0, vs0, hv0, ha0, _, _, m0, _⟩ := q0
      rw [hv] at hv0
      cases hv0
      exact ⟨a, vs', hv, ha, q, o1, (mset_ne (h0.ne ha0 m0)).trans o2, o3⟩
    | md ds' =>
      obtain ⟨a, vs', hv, ha, q, o1, o2, o3⟩ := q
      obtain ⟨a0, vs0, hv0, ha0, _, _, m0, _⟩ := q0
      rw [hv] at hv0
      cases hv0
      exact ⟨a, vs', hv, ha, q, o1, (mset_ne (h0.ne ha0 m0)).trans o2, o3⟩
def dFlD (t : DId) : DE := fun ρ μ Q X => t ρ μ (fun ks μ1 => Q (.dic ks) μ1) X
section
variable {X : Cx} {W : WX} {e v : Expr} {ks : List (Option Expr)} {vs : List Expr} {a : DA} {de : DE} {pos p2 : Pos} {names : List Str}
def SimPr (W : WX) (trs : List (TE × TE)) (names : List Str) (t : DA) : Prop := ∀ {B : Anchor} {F : Hp} {σ : L2.St} {H : Hp} {ρ : List Slot} {μ : Mu} {Qd : List D → Mu → Prop} {Xd : DXQ} {Q : List (V × V) → Hp → Prop}, Sti B F σ H ρ μ → t ρ μ Qd Xd → GoX W B F σ H ρ μ Xd →
  (∀ vs F' H' ds μ', Grow F μ H F' μ' H' → Sti B F' σ H' ρ μ' → FzL F' ds vs → ds.length = names.length → Qd ds μ' → Q ((names.map V.str).zip vs) H') → tPairs trs σ H Q
structure PPD (X : Cx) (W : WX) (pos : Pos) (keys : List (Option Expr)) (values : List Expr) (names : List Str) (t : DA) : Prop where
  ex : ∃ trs, PPs X pos keys values trs ∧ SimPr W trs names t
theorem pr_nil : PPD X W pos [] [] [] dNil := ⟨_, pps_nil, fun {B F σ H ρ μ Qd Xd Q} S q gx k => k [] F H [] μ .refl S fzl_nil rfl q⟩
theorem pr_cons {x : Str} {j} (ha : PD X W v de) (hr : PPD X W pos ks vs names a) : PPD X W pos (some (.Constant (.str x) j p2) :: ks) (v :: vs) (x :: names) (dCons de a) := by
  obtain ⟨ta, a1, a2⟩ := ha.ex
  obtain ⟨tr, r1, r2⟩ := hr.ex
  refine ⟨_, pps_cons pe_str a1 r1, fun {B F σ H ρ μ Qd Xd Q} S q gx k => a2 S q gx fun v F1 H1 d μ1 g1 S1 z1 q1 => r2 S1 q1 (gx.go g1) fun vs F2 H2 ds μ2 g2 S2 z2 hl q2 => ?_⟩
  exact k _ F2 H2 _ μ2 (g1.trans g2) S2 (fzl_cons (z1.mono g2.fz) z2) (by simp [hl]) q2
theorem merge_zip : ∀ (names : List Str) (vs : List V) (acc : List (Key × V)), names.Nodup → names.length = vs.length → (∀ n ∈ names, ∀ kv ∈ acc, kv.1 ≠ Sum.inr n) → mergeK acc ((names.map Sum.inr).zip vs) = acc ++ (names.map Sum.inr).zip vs
  | [], vs, acc, _, _, _ => by simp [mergeK]
  | n :: names, [], acc, _, h, _ => by simp at h
  | n :: names, v :: vs, acc, nd, hl, hn => by
    have nd' := List.nodup_cons.mp nd
    have e : putK acc (Sum.inr n) v = acc ++ [(Sum.inr n, v)] := by
      unfold putK
      rw [if_neg]
      simp only [List.any_eq_true, decide_eq_true_eq, not_exists, not_and]
      exact fun kv hm => hn n List.mem_cons_self kv hm
    have ih := merge_zip names vs (acc ++ [(Sum.inr n, v)]) nd'.2 (by simpa using hl) (fun m hm kv hk => by
      rcases List.mem_append.mp hk with h | h
      · exact hn m (List.mem_cons_of_mem _ hm) kv h
      · rw [List.mem_singleton.mp h]
        intro z
        cases z
        exact nd'.1 hm)
    simp only [List.map_cons, List.zip_cons_cons]
    show mergeK (putK acc (Sum.inr n) v) ((names.map Sum.inr).zip vs) = _
    rw [e, ih]
    simp
theorem fzk_zip {F : Hp} : ∀ {names : List Str} {ds : List D} {vs : List V}, FzL F ds vs → ds.length = names.length → FzK F ((names.map Sum.inr).zip ds) ((names.map Sum.inr).zip vs)
  | [], ds, vs, h, hl => by
    simp only [List.map_nil, List.zip_nil_left]
    exact fzk_nil
  | n :: names, [], vs, h, hl => by simp at hl
  | n :: names, d :: ds, vs, h, hl => by
    obtain ⟨v, r, rfl, h1, h2⟩ := fzl_inv h
    simp only [List.map_cons, List.zip_cons_cons]
    exact fzk_cons h1 (fzk_zip h2 (by simpa using hl))
def doDisp (names : List Str) (a : DA) : DId := fun ρ μ Q X => a ρ μ (fun ds μ1 => Q ((names.map Sum.inr).zip ds) μ1) X
theorem od_disp (h : PPD X W pos ks vs names a) (nd : names.Nodup) (hn : ks.length ≤ 15) (hk : ks.length = names.length) (hall : ks.all (·.isSome) = true) (hl : ks.length = vs.length) (h0 : ks ≠ []) : POd X W (.Dict ks vs pos) (doDisp names a) := by
  obtain ⟨trs, r1, r2⟩ := h.ex
  refine ⟨_, pe_disp r1 hall hl h0 hn, fun {B F σ H ρ μ Qd Xd Q} S q gx k => fun p hp => ?_⟩
  obtain ⟨W1, g1⟩ := S.wd.own (o := .dK []) hp
  have hm := S.wd.free hp
  refine r2 (S.go g1 W1) q (gx.go g1) fun ws F2 H2 ds μ2 g2 S2 z hl q2 => ?_
  obtain ⟨k1, k2, k3⟩ := g2.keep p _ upd_same hm.2
  have hF2 := k3 hm.1
  have lz := z.length
  refine ⟨k1, (names.map Sum.inr).zip ws, ?_, ?_, ?_⟩
  · rw [List.map_zip_eq_zipWith]
    simp only [List.zip]
    rw [List.zipWith_map_left, List.zipWith_map_left]
    first | rfl | (congr 1)
  · rw [List.length_zip, List.length_map]
    omega
  · rw [merge_zip names ws [] nd (by omega) (fun _ _ kv h => by cases h)]
    simp only [List.nil_append]
    have hB : ∀ o, B.H p = some o → B.μ p = none → False := S.fresh hp
    have away : ∀ (j : Nat) (t : Slot) (b : Addr), ρ[j]? = some t → t.own = true → σ[j]? = some (some (.ref b)) → b ≠ p := fun j t b x1 x2 x3 => by
      obtain ⟨⟨u, hu⟩, _⟩ := S.ownAt x1 x2 x3
      rintro rfl
      rw [hp] at hu
      cases hu
    refine k p _ F2 _ _ μ2 ⟨(g1.trans g2).fz, fun b o e1 e2 => ?_⟩ (S2.updN hF2 k2 hB away) (.of hp) upd_same hF2 k2 (fzk_zip z (by omega)) q2
    obtain ⟨j1, j2, j3⟩ := (g1.trans g2).keep b o e1 e2
    have hb : b ≠ p := by
      rintro rfl
      rw [hp] at e1
      cases e1
    exact ⟨by rw [upd_ne hb]; exact j1, j2, j3⟩
end
section
variable {X : Cx} {W : WX} {o i e : Expr} {dO di dv : DE} {pos tpos : Pos}
def dgP (dd dk : D) (Q : D → Prop) : Prop := match dd with
  | .dic ks => ∃ k d, dk = keyD k ∧ lookD ks k = some d ∧ Q d
  | _ => False
def dDGet (o i : DE) : DE := fun ρ μ Q X => o ρ μ (fun dp μ1 => i ρ μ1 (fun dk μ2 => dgP (rdD μ2 dp) dk fun d => Q d μ2) X) X
theorem d_dget (hr : X.A.units + 1 < cLine) (ho : PB X W o dO) (hi : PD X W i di) (hs : NoSl i := by exact fun _ _ => rfl) : PD X W (.Subscript o i pos) (dDGet dO di) := by
  obtain ⟨to, o1, o2⟩ := ho.ex
  obtain ⟨ti, i1, i2⟩ := hi.ex
  refine ⟨_, pe_dget hr o1 i1 hs, fun {B F σ H ρ μ Qd Xd Q} S q gx k => o2 S q gx fun v F1 H1 dp μ1 g1 S1 z1 q1 => i2 S1 q1 (gx.go g1) fun y F2 H2 dk μ2 g2 S2 z2 q2 => ?_⟩
  have z := (z1.go g2).rd S2.wd
  generalize rdD μ2 dp = dd at z q2
  cases dd with
  | dic ks =>
    obtain ⟨kk, d, rfl, el, q⟩ := q2
    obtain ⟨a, kws, rfl, ha, _, zk⟩ := z
    obtain ⟨w, hw, zw⟩ := zk.look el
    have ey := fz_key z2
    subst ey
    refine ⟨a, w, rfl, ?_, k w F2 H2 d μ2 (g1.trans g2) S2 zw q⟩
    rw [← hw]
    exact .inl ⟨_, _, ha, rfl, rfl⟩
  | non => exact q2.elim
  | bl _ => exact q2.elim
  | int _ => exact q2.elim
  | str _ => exact q2.elim
  | ty _ => exact q2.elim
  | tup _ => exact q2.elim
  | lst _ => exact q2.elim
  | ins _ _ => exact q2.elim
  | obj _ => exact q2.elim
  | scr _ _ => exact q2.elim
  | xcp _ _ _ _ => exact q2.elim
def hpP (μ : Mu) (dp dk dx : D) (N : Mu → Prop) : Prop := ∃ p ks k, dp = .obj p ∧ dk = keyD k ∧ μ p = some (.dK ks) ∧ ks.length < sizeLine ∧ N (mset μ p (.dK (putD ks k dx)))
def dHPut (o i v : DE) : DS := fun D ρ μ => v ρ μ (fun dx μ1 => o ρ μ1 (fun dp μ2 => i ρ μ2 (fun dk μ3 => hpP μ3 dp dk dx fun μ' => D.nx ρ μ') (D.xc ρ)) (D.xc ρ)) (D.xc ρ)
theorem s_hput (hr : X.A.units + 1 < cLine) (hv : PD X W e dv) (ho : PD X W o dO) (hi : PD X W i di) (hs : swapsWith e (some (.Subscript o i tpos)) pos.line X.env = pure false := by rfl) : PSD X W (.Assign [.Subscript o i tpos] e pos) (dHPut dO di dv) := by
  obtain ⟨tv, v1, v2⟩ := hv.ex
  obtain ⟨to, o1, o2⟩ := ho.ex
  obtain ⟨ti, i1, i2⟩ := hi.ex
  refine ⟨_, ps_dput hr o1 i1 v1 hs, fun {B F σ H ρ μ Dd D} S q r => v2 S q r.gox fun v F1 H1 dx μ1 g1 S1 z1 q1 => o2 S1 q1 (r.gox.go g1) fun vo F2 H2 dp μ2 g2 S2 z2 q2 => i2 S2 q2 ((r.gox.go g1).go g2) fun vi F3 H3 dk μ3 g3 S3 z3 q3 => ?_⟩
  obtain ⟨p, ks, kk, rfl, rfl, m3, hl, q4⟩ := q3
  unfold Fz at z2
  subst z2
  have ey := fz_key z3
  subst ey
  obtain ⟨⟨kws, h3, zk⟩, _⟩ := S3.wd.mu p _ m3
  refine ⟨p, _, rfl, DPut.k h3 (by rw [zk.length]; exact hl), ?_⟩
  obtain ⟨g4, S4⟩ := S3.mput (o' := .dK (putD ks kk dx)) m3 ⟨_, upd_same, zk.put (z1.mono ((g2.trans g3).fz))⟩
  exact r.nx F3 _ _ ρ _ (((g1.trans g2).trans g3).fz) S4 q4
theorem dgP_s {ks : List (Key × D)} {x : Str} {Q : D → Prop} : dgP (.dic ks) (.str x) Q = itP (lookD ks (.inr x)) Q := by
  unfold dgP
  rw [itP_ex]
  exact propext ⟨fun ⟨k, d, e1, e2, q⟩ => by
    cases k with
    | inl n => cases e1
    | inr y => cases e1; exact ⟨d, e2, q⟩, fun ⟨d, e2, q⟩ => ⟨.inr x, d, rfl, e2, q⟩⟩
theorem hpP_s {μ : Mu} {p : Addr} {ks : List (Key × D)} {x : Str} {d : D} {N : Mu → Prop} (h : μ p = some (.dK ks)) (hl : ks.length ≤ 1000) : hpP μ (.obj p) (.str x) d N = N (mset μ p (.dK (putD ks (.inr x) d))) := by
  unfold hpP
  exact propext ⟨fun ⟨p', ks', k, e1, e2, e3, _, q⟩ => by
    cases e1
    rw [h] at e3
    cases e3
    cases k with
    | inl n => cases e2
    | inr y => cases e2; exact q, fun q => ⟨p, ks, .inr x, rfl, rfl, h, smallL (by omega), q⟩⟩
def tLkE (t : TE) : TE := fun σ H Q => t σ H fun v H1 => ∃ a u, H1 a = some (.dK u) ∧ ∀ od, Q v (L2.upd H1 a (.frz od (.dK u)))
theorem pe_lk {e : Expr} {t : TE} (h : PE X e t) : PE X e (tLkE t) := by
  refine ⟨fun pins s σ H Q I hw => ?_⟩
  refine thn (h.run pins s σ H _ I hw) fun v s1 ⟨x, H1, I1, r, a, u, ha, q⟩ => ?_
  obtain ⟨od, I2⟩ := I1.lock ha True.intro
  exact ⟨x, _, I2, r, q od⟩
theorem POd.d {e : Expr} {t : DId} (h : POd X W e t) : PD X W e (dFlD t) := by
  obtain ⟨te, a1, a2⟩ := h.ex
  refine ⟨_, pe_lk a1, fun {B F σ H ρ μ Qd Xd Q} S q gx k => a2 S q gx fun p vs F' H0 ks μ' g0 S0 h0 h1 h2 h3 z q' => ⟨p, vs, h1, fun od => ?_⟩⟩
  have hB : ∀ o, B.H p = some o → B.μ p = none → False := fun o x1 x2 => by
    obtain ⟨j1, j2, _⟩ := S.grow.keep _ o x1 x2
    exact h0 o j1 j2
  have hs : ∀ (j : Nat) (t : Slot) (a : Addr), ρ[j]? = some t → t.own = true → σ[j]? = some (some (.ref a)) → a ≠ p := fun j t a x1 x2 x3 => by
    have q0 := S.slot j t _ x1 x3
    cases t with
    | no => cases x2
    | fn _ _ _ _ => cases x2
    | dat d => cases x2
    | ml ds =>
      obtain ⟨a0, vs0, hv0, ha0, _, _, m0, _⟩ := q0
      cases hv0
      exact h0.ne ha0 m0
    | md ds =>
      obtain ⟨a0, vs0, hv0, ha0, _, _, m0, _⟩ := q0
      cases hv0
      exact h0.ne ha0 m0
  have S' := S0.updN (o := .frz od (.dK vs)) h2 h3 hB hs
  have g : Grow F μ H F' μ' (L2.upd H0 p (.frz od (.dK vs))) := ⟨g0.fz, fun b o x1 x2 => by
    obtain ⟨k1, k2, k3⟩ := g0.keep b o x1 x2
    exact ⟨by rw [upd_ne (h0.ne x1 x2)]; exact k1, k2, k3⟩⟩
  have h1' : (L2.upd H0 p (.frz od (.dK vs))) p = some (.frz od (.dK vs)) := upd_same
  generalize L2.upd H0 p (.frz od (.dK vs)) = H' at S' g h1'
  have e : Ex F' (upd F' p (.frz od (.dK vs))) := Evl.Ex.new h2
  have g2 : Grow F μ H (upd F' p (.frz od (.dK vs))) μ' H' := ⟨g.fz.trans e, fun b o x1 x2 => by
    obtain ⟨k1, k2, k3⟩ := g.keep b o x1 x2
    exact ⟨k1, k2, fun x => by rw [upd_ne (h0.ne x1 x2)]; exact k3 x⟩⟩
  refine k _ _ H' (.dic ks) μ' g2 ?_ (by unfold Fz; exact ⟨p, od, vs, rfl, upd_same, z.mono e⟩) q'
  have g3 : Grow B.F B.μ B.H (upd F' p (.frz od (.dK vs))) μ' H' := ⟨S'.grow.fz.trans e, fun b o x1 x2 => by
    obtain ⟨k1, k2, k3⟩ := S'.grow.keep b o x1 x2
    refine ⟨k1, k2, fun x => ?_⟩
    have hb : b ≠ p := by
      rintro rfl
      exact hB o x1 x2
    rw [upd_ne hb]
    exact k3 x⟩
  refine ⟨S'.wd.frz h1' h2 h3, g3, S'.len, fun i s v x1 x2 => ?_, S'.dist⟩
  have q := S'.slot i s v x1 x2
  cases s with
  | no => exact True.intro
  | fn _ _ _ _ => exact ⟨q.1, q.2.1, e _ _ q.2.2⟩
  | dat d =>
    obtain ⟨x, hx, zx⟩ := q
    exact ⟨x, hx, zx.mono e⟩
  | ml ds =>
    obtain ⟨a, vs', hv, ha, zq, o1, o2, o3⟩ := q
    exact ⟨a, vs', hv, ha, zq.mono e, by rw [upd_ne (hs i _ a x1 rfl (by rw [x2, hv]))]; exact o1, o2, o3⟩
  | md ds =>
    obtain ⟨a, vs', hv, ha, zq, o1, o2, o3⟩ := q
    exact ⟨a, vs', hv, ha, zq.mono e, by rw [upd_ne (hs i _ a x1 rfl (by rw [x2, hv]))]; exact o1, o2, o3⟩
def doEmp : DId := fun _ μ Q _ => Q [] μ
theorem od_emp : POd X W (.Dict [] [] pos) doEmp := by
  refine ⟨_, pe_dnewK, fun {B F σ H ρ μ Qd Xd Q} S q gx k => fun p hp => ?_⟩
  obtain ⟨W1, g1⟩ := S.wd.own (o := .dK []) hp
  have hm := S.wd.free hp
  exact k p [] F _ [] μ g1 (S.go g1 W1) (.of hp) upd_same hm.1 hm.2 fzk_nil q
end
end DL

namespace DL
open PySem PySem.Spec PyProof.Rows L2
def spStar (n : Nat) (sp : DSp) : DSp := fun ds μ Q Z => n ≤ ds.length ∧ (ds.drop n).length ≤ sizeLine ∧ sp (ds.take n ++ [.tup (ds.drop n)]) μ Q Z
section
variable {P : Program} {w : World} {K : PySem.W.Frag} {mg : Str → Option Value} {base : Heap}
theorem star_of {sp : DSp} {n : Nat} {vs : List V} {H : Hp} {Q : VK} {E : XK} (h : spOf (spStar n sp) vs H Q E) :
    ∃ ws rest, vs = ws ++ rest ∧ ws.length = n ∧ rest.length ≤ sizeLine ∧ ∀ p, H p = none → spOf sp (ws ++ [V.ref p]) (upd H p (.tup rest)) Q E := by
  obtain ⟨F, ds, μ, Qd, Xd, W, z, ⟨hn, hl, q⟩, k1, k2⟩ := h
  have lz := z.length
  refine ⟨vs.take n, vs.drop n, (List.take_append_drop n vs).symm, by rw [List.length_take]; omega, by rw [List.length_drop]; rw [List.length_drop] at hl; omega, fun p hp => ?_⟩
  obtain ⟨g, W', zt⟩ := new_tup W (z.drop n) hp
  refine ⟨_, _, μ, Qd, Xd, W', FzL.append (fzl_cons zt fzl_nil) ((z.take n).mono g.fz), q, fun v F' H' d μ' g2 => k1 v F' H' d μ' (g.trans g2), fun c dd F' H' x μ' g2 => k2 c dd F' H' x μ' (g.trans g2)⟩
theorem fn_bodyS {x qual pv : Str} {st : Stmt} {f : Addr} {fd : FuncData} {N ps : List Str} {k : Nat} {sp : DSp} (F : Fun K x qual st f fd) (S : FnScope N (ps ++ [pv]) (defScope st))
    (hb : ∀ us rest : List Value, us.length = ps.length → bindArgs fd ⟨us ++ rest, []⟩ = (newTuple rest >>= fun t => pure (ps.zip us ++ [(pv, t)])))
    (hbody : ∀ (cdv : Value) (A : Around) (outer : List Env) (s : Shared) (H : Hp) (E : XK), Room k (A.deeper (envOfC qual (defScope st) s.heap.objs.size f cdv)) → A.guards = some [] →
      ∃ t, PSsD (bodyX P w K mg base N qual st f cdv A outer s H E) (fun cls d _ H => E cls d H) (defBody st) t ∧ ∀ ds μ Qd Xd, sp ds μ Qd Xd → t { nx := fun _ μ' => Qd .non μ', rt := Qd, xc := fun _ => Xd } (startD N ds) μ) :
    FnW P w K mg base (k + 1) f (spOf (spStar ps.length sp)) := by
  obtain ⟨oc, od, kV, doc, pm, an, cdv, ct, osl, rfl, lk, hcd⟩ := F.ex
  intro A outer s H us vs Q E hr hG e0 r hsp
  obtain ⟨ws, rest, ev, hl, hz, hq⟩ := star_of hsp
  subst ev
  obtain ⟨u1, u2, eu, r1, r2⟩ := StX.vals_split r
  subst eu
  have hn : H s.heap.objs.size = Option.none := e0.hok.fresh (Nat.le_refl _)
  have hl1 : u1.length = ps.length := by rw [← r1.length]; exact hl
  have hl2 : u2.length ≤ sizeLine := by rw [← r2.length]; exact hz
  refine StX.run_bnd lk hcd S hr e0 (G := fun xs H2 => ∃ p, H p = Option.none ∧ xs = ws ++ [V.ref p] ∧ H2 = upd H p (.tup rest)) (fun A' Ex Q' h => ?_) fun s2 H2 xs ⟨p, hp, ex, eH⟩ hr' => ?_
  · rw [hb u1 u2 hl1]
    refine wpAny_bind (wpAny_newTuple (wpAny_pure ?_) hl2)
    have new : ObjOk P w (upd H s.heap.objs.size (.tup rest)) (s.heap.push ({ cls := .type "tuple", data := .seq u2.toArray } : Obj)) s.heap.objs.size (.tup rest) := ⟨hz, u2, r2, ⟨_, Heap.get?_push_size _ rfl, rfl, _, rfl⟩⟩
    have un := StX.un_laid (fs := frs outer) (s := s) (o := ({ cls := .type "tuple", data := .seq u2.toArray } : Obj)) (u := .tup rest) hn
    have z := h _ _ (ws ++ [V.ref s.heap.objs.size]) (u1 ++ [Value.ref s.heap.objs.size]) (StX.env0_laid e0 new) un rfl (fun e s' => StX.cxUp outer s H _ _ E e s' un (fun b o q => Heap.get?_push_of_some _ q) rfl) (r1.append (.cons rfl .nil))
      (by rw [List.length_append, List.length_append, hl] <;> rfl) ⟨_, hn, rfl, rfl⟩
    rw [List.zip_append hl1.symm] at z
    exact z
  · subst ex eH
    obtain ⟨t, ht, hp'⟩ := hbody cdv A outer s2 _ E hr' hG
    obtain ⟨ts, hts, hsim⟩ := ht.ex
    exact ⟨ts, hts, body_of hsim hp' (hq p hp)⟩
theorem calV_star {k : Nat} {x : Str} {f : Addr} {sp : Sp} (F : FnW P w K mg base k f sp) (hm : mg x = some (.ref f)) (kp : PySem.W.keepIn K (.ref f) = true) : CalV P w K mg base k x sp := ⟨f, F, hm, kp⟩
end
end DL

namespace DL
open PySem PySem.Spec PyProof.Rows L2
theorem lc_if {g : DG} {tt : DT} {te : DE} {ρ : List Slot} {Q : List D → Mu → Prop} {Z : DXQ} {μ : Mu} {α : Type} {e : α → D} (p : α → Bool) (f : α → D) (xs : List α) (hl : xs.length ≤ 100000)
    (h : ∀ x ∈ xs, ∀ K : List D → Mu → Prop, ∀ acc : List D, acc.length < sizeLine → (p x = true → K (acc ++ [f x]) μ) → (p x = false → K acc μ) →
      g (e x) ρ μ fun ρ1 μ1 => tt ρ1 μ1 (fun b μ2 => if b = true then te ρ1 μ2 (fun d μ3 => acc.length < sizeLine ∧ K (acc ++ [d]) μ3) (fun _ _ => False) else K acc μ2) (fun _ _ => False))
    (q : Q ((xs.filter p).map f) μ) : dLcGo g tt te ρ Q Z (xs.map e) [] μ :=
  lc_pure p f xs [] (by simpa using hl) (fun x hx K acc ha hK => h x hx K acc ha (fun e => by rw [if_pos e] at hK; exact hK) fun e => by rw [if_neg (by rw [e]; decide)] at hK; exact hK) (by simpa using q)
theorem lc_ints {g : DG} {tt : DT} {te : DE} {ρ : List Slot} {Q : List D → Mu → Prop} {Z : DXQ} {μ : Mu} (p : Int → Bool) (f : Int → Int) (xs : List Int) (hl : xs.length ≤ 100000)
    (h : ∀ x ∈ xs, ∀ K : List D → Mu → Prop, ∀ acc : List D, acc.length < sizeLine → (p x = true → K (acc ++ [.int (f x)]) μ) → (p x = false → K acc μ) →
      g (.int x) ρ μ fun ρ1 μ1 => tt ρ1 μ1 (fun b μ2 => if b = true then te ρ1 μ2 (fun d μ3 => acc.length < sizeLine ∧ K (acc ++ [d]) μ3) (fun _ _ => False) else K acc μ2) (fun _ _ => False))
    (q : Q (((xs.filter p).map f).map D.int) μ) : dLcGo g tt te ρ Q Z (xs.map D.int) [] μ :=
  lc_if p (fun x => .int (f x)) xs hl h (by rw [List.map_map] at q; exact q)
theorem cut_neg1 {xs : List D} : cutD xs none (some (-1)) = xs.dropLast := by
  unfold cutD HT.sIx
  simp only [List.drop_zero, Nat.sub_zero]
  rw [if_pos (by decide), List.dropLast_eq_take]
  congr 1
  omega
def absI (x : Int) : Int := if x < 0 then -x else x
theorem absI_eq {x : Int} : (if x < 0 then -x else x) = absI x := rfl
end DL

namespace DL
open PySem PySem.Spec PyProof.Rows L2
section
variable {X : Cx} {W : WX} {pos : Pos}
def dRevL (a : DE) : DE := fun ρ μ Q X => a ρ μ (fun d μ1 => liP (rdD μ1 d) fun xs => Q (.lst xs.reverse) μ1) X
theorem FzL.reverse {F : Hp} : ∀ {ds : List D} {vs : List V}, FzL F ds vs → FzL F ds.reverse vs.reverse
  | [], _, h => by
    rw [fzl_inv0 h]
    exact fzl_nil
  | d :: ds, _, h => by
    obtain ⟨v, r, rfl, h1, h3⟩ := fzl_inv h
    rw [List.reverse_cons, List.reverse_cons]
    exact FzL.append (fzl_cons h1 fzl_nil) (FzL.reverse h3)
theorem d_revL {e : Expr} {de : DE} {k : Nat} {p1 p2 p3 : Pos} (h : PB X W e de) : PD X W (.Subscript e (.Slice none none (some (.UnaryOp .USub (.Constant (.int 1) k p1) p2)) p3) pos) (dRevL de) := by
  obtain ⟨te, a1, a2⟩ := h.ex
  refine ⟨_, pe_revL a1, fun {B F σ H ρ μ Qd Xd Q} S q gx k => a2 S q gx fun v F1 H1 d μ1 g1 S1 z1 q1 => ?_⟩
  have z := z1.rd S1.wd
  generalize rdD μ1 d = dd at z q1
  cases dd with
  | lst ds =>
    obtain ⟨a, vs, rfl, ha, _, zl⟩ := z
    refine ⟨a, vs, rfl, .of ha, fun p hp => ?_⟩
    obtain ⟨g, W', zz⟩ := new_lst S1.wd zl.reverse hp
    exact k _ _ _ _ μ1 (g1.trans g) (S1.go g W') zz q1
  | non => exact q1.elim
  | bl _ => exact q1.elim
  | int _ => exact q1.elim
  | str _ => exact q1.elim
  | ty _ => exact q1.elim
  | tup _ => exact q1.elim
  | dic _ => exact q1.elim
  | ins _ _ => exact q1.elim
  | obj _ => exact q1.elim
  | scr _ _ => exact q1.elim
  | xcp _ _ _ _ => exact q1.elim
end
end DL

namespace DL
open PySem PySem.Spec PyProof.Rows L2
structure Ex0 (K : PySem.W.Frag) (mg : Str → Option Value) (x : Str) (C : Addr) : Prop where
  q : PySem.W.excIn K C [.type "ValueError", .type "Exception", .type "BaseException", .type "object"] "ValueError.__new__" = true
  g : mg x = some (.ref C)
  k : PySem.W.keepIn K (.ref C) = true
  b : PySem.W.subIn K (.ref C) (.type "BaseException") = some true
  t : PySem.W.typeIn K (.ref C) = some (.type "type")
section
variable {X : Cx} {W : WX} {C : Addr} {x : Str} {p pos pos2 : Pos}
def dRaise0 (C : Addr) : DS := fun D ρ μ => D.xc ρ ⟨C, []⟩ μ
def dTryAs (i : Nat) (hnd : Addr → Option Bool) (tb : DS) (ts : Addr → Addr → Option Addr → DS) : DS := fun D ρ μ =>
  tb { D with xc := fun ρ' x μ' => ∃ b, hnd x.cls = some b ∧ (if b = true then ∀ a d, ts a x.cls d { nx := fun ρ2 μ2 => D.nx (ρ2.set i .no) μ2, rt := D.rt, xc := fun _ _ _ => False, bk := fun ρ2 μ2 => D.bk (ρ2.set i .no) μ2, ct := fun ρ2 μ2 => D.ct (ρ2.set i .no) μ2 }
      (ρ'.set i (.dat (.xcp a x.cls d x.fs))) μ' else D.xc ρ' x μ') } ρ μ
def dTryOnly (hnd : Addr → Option Bool) (tb : DS) (ts : Addr → Addr → Option Addr → DS) : DS := fun D ρ μ =>
  tb { D with xc := fun ρ' x μ' => ∃ b, hnd x.cls = some b ∧ (if b = true then ∀ a d, ts a x.cls d { D with xc := fun _ _ _ => False } ρ' μ' else D.xc ρ' x μ') } ρ μ
structure ExK (K : PySem.W.Frag) (C : Addr) : Prop where
  hcl : (PySem.W.clsIn K C).isSome = true
  hga : PySem.W.findIn K (.ref C) "__getattribute__" = some (some (.builtin "BaseException.__getattribute__"))
  hgt : PySem.W.findIn K (.ref C) "__getattr__" = some none
  hsub : PySem.W.subIn K (.ref C) (.type "BaseException") = some true
  ha : PySem.W.findIn K (.ref C) "__class__" = some (some (.builtin "object.__class__"))
  hn : PySem.W.specialIn K (.builtin "object.__class__") "__get__" = some (some (.builtin "getset_descriptor.__get__"))
  htk : PySem.W.takesIn K (.builtin "object.__class__") = some true
  hm : PySem.W.mroIn K C (.type "object") = some true
def clsU : D → Option Value
  | .ty T => some (.type T)
  | .obj c => some (.ref c)
  | _ => none
def clsUs : List D → Option (List Value)
  | [] => some []
  | d :: ds => (clsU d).bind fun u => (clsUs ds).map fun us => u :: us
def dIsX (K : PySem.W.Frag) (C a : Addr) (d : Option Addr) : DC := fun ds Q => match ds with
  | [.xcp a' C' d' _, x] => a' = a ∧ C' = C ∧ d' = d ∧ ExK K C ∧ ∃ us b, (match x with | .tup xs => clsUs xs | x => clsUs [x]) = some us ∧ PySem.W.kitAny K (.ref C) us = some b ∧ Q (.bl b)
  | _ => False
def dCX (dr : DC) (a : DA) : DE := fun ρ μ Q X => a ρ μ (fun ds μ1 => dr ds fun d => Q d μ1) X
def xfP (a C : Addr) (d : Option Addr) (f : Str) (x : D) (Q : D → Prop) : Prop := match x with
  | .xcp a' C' d' fs => a' = a ∧ C' = C ∧ d' = d ∧ ∃ y, fs.lookup f = some y ∧ Q y
  | _ => False
theorem FzS.look {F : Hp} {f : Str} : ∀ {fs : List (Str × D)} {vs : List (Str × V)} {y : D}, FzS F fs vs → fs.lookup f = some y → ∃ v, vs.lookup f = some v ∧ Fz F y v
  | [], _, y, h, e => by cases e
  | (g, d) :: fs, _, y, h, e => by
    unfold FzS at h
    obtain ⟨v, r, rfl, h1, h2⟩ := h
    by_cases hg : f == g
    · simp only [List.lookup, hg] at e ⊢
      cases e
      exact ⟨v, rfl, h1⟩
    · simp only [List.lookup, hg] at e ⊢
      exact FzS.look h2 e
def dXF (K : PySem.W.Frag) (a C : Addr) (d : Option Addr) (f : Str) (o : DE) : DE := fun ρ μ Q X => XfC K C ∧ PySem.W.findIn K (.ref C) f = some none ∧ o ρ μ (fun x μ1 => xfP a C d f x fun y => Q y μ1) X
end
def cAt (K : PySem.W.Frag) (x : Str) : Addr := match PySem.W.nsIn K mainGlobals x with
  | some (some (.ref C)) => C
  | _ => 0
theorem cAt_of {K : PySem.W.Frag} {x : Str} {C : Addr} (h : PySem.W.nsIn K mainGlobals x = some (some (.ref C))) : C = cAt K x := by
  unfold cAt
  rw [h]
section
variable {K : PySem.W.Frag} {C c a : Addr} {d : Option Addr} {fs : List (Str × D)} {T : String} {Q : D → Prop} {xs : List D}
theorem isX_ty : dIsX K C a d [.xcp a C d fs, .ty T] Q = (ExK K C ∧ ∃ b, PySem.W.kitAny K (.ref C) [.type T] = some b ∧ Q (.bl b)) := by simp [dIsX, clsUs, clsU]
theorem isX_obj : dIsX K C a d [.xcp a C d fs, .obj c] Q = (ExK K C ∧ ∃ b, PySem.W.kitAny K (.ref C) [.ref c] = some b ∧ Q (.bl b)) := by simp [dIsX, clsUs, clsU]
theorem isX_tup : dIsX K C a d [.xcp a C d fs, .tup xs] Q = (ExK K C ∧ ∃ us, clsUs xs = some us ∧ ∃ b, PySem.W.kitAny K (.ref C) us = some b ∧ Q (.bl b)) := by simp [dIsX]
theorem xfP_1 {f : Str} {y : D} : xfP a C d f (.xcp a C d [(f, y)]) Q = Q y := by simp [xfP, List.lookup]
theorem rd_xcp {μ : Mu} : rdD μ (.xcp a C d fs) = .xcp a C d fs := rfl
end
theorem SlsOk.go {B : Anchor} {F F' H0 H H' : Hp} {μ0 μ μ' : Mu} {ss : List Slot} {vs : List V} (z : SlsOk B F H0 μ0 H μ ss vs) (g : Grow F μ H F' μ' H') : SlsOk B F' H0 μ0 H' μ' ss vs :=
  ⟨z.len, fun i s v h1 h2 => (z.ok i s v h1 h2).go g, z.new, z.dist⟩
section
variable {X : Cx} {W : WX} {r : DSl} {i j : Nat} {x y : Str} {a b : Expr} {px py pt pos : Pos} {kt k2 pt2}
end
def pairLe (a b c d : Int) : Bool := decide (a < c ∨ (a = c ∧ b ≤ d))
def dLeP : DR2 := fun x y Q => match x, y with
  | .tup [.int a, .int b], .tup [.int c, .int d] => Q (.bl (pairLe a b c d))
  | _, _ => False
section
variable {X : Cx} {W : WX} {a b : Expr} {da db : DE} {pos : Pos}
end
theorem leP_p {a b c d : Int} {Q : D → Prop} : dLeP (.tup [.int a, .int b]) (.tup [.int c, .int d]) Q = Q (.bl (pairLe a b c d)) := rfl
theorem nc0 : ((0 : Nat) : Int) = 0 := rfl
theorem nc1 : ((1 : Nat) : Int) = 1 := rfl
theorem nc2 : ((2 : Nat) : Int) = 2 := rfl
theorem nc3 : ((3 : Nat) : Int) = 3 := rfl
theorem nc4 : ((4 : Nat) : Int) = 4 := rfl
theorem nc5 : ((5 : Nat) : Int) = 5 := rfl
theorem nc6 : ((6 : Nat) : Int) = 6 := rfl
theorem nc7 : ((7 : Nat) : Int) = 7 := rfl
theorem nc8 : ((8 : Nat) : Int) = 8 := rfl
theorem nc9 : ((9 : Nat) : Int) = 9 := rfl
end DL

namespace DL
open PySem PySem.W PySem.Calls PyProof.Rows PySem.HandSPX
def iA (fn : Str) (p1 p2 : Pos) : Arguments := { posonlyargs := [], args := [{ arg := "self", annotation := none, pos := p1 }, { arg := fn, annotation := none, pos := p2 }], vararg := none, kwonlyargs := [], kw_defaults := [], kwarg := none, defaults := [] }
def iB (fn : Str) (q1 q2 q3 q4 : Pos) : List Stmt := [.Assign [.Attribute (.Name "self" q1) fn q2] (.Name fn q3) q4]
def iS (fn : Str) : Scope := { kind := .function, names := [(PySem.Str.ofString "self", .local), (fn, .local)], isGenerator := false, isCoroutine := false, more := [] }
structure ExI (K : Frag) (mg : Str → Option Value) (x fn : Str) (C : Addr) : Prop where
  gC : mg x = some (.ref C)
  cls : ∃ nm q N bs bm sn sub ab col dd k0 k1 k2 k3 k5, K.lookup C = some (excClassObj nm q C N bs bm true sn sub ab col dd k0 k1 k2 k3 k5 "ValueError.__new__") ∧ refsVE bm = true
  sa : findIn K (.ref C) "__setattr__" = some (some (.builtin "object.__setattr__"))
  noN : findIn K (.ref C) fn = some none
  kC : keepIn K (.ref C) = true
  exC : subIn K (.ref C) (.type "BaseException") = some true
  tyC : typeIn K (.ref C) = some (.type "type")
  fI : ∃ fI, findIn K (.ref C) "__init__" = some (some (.ref fI)) ∧ typeIn K (.ref fI) = some (.type "function") ∧ ∃ (oc : Value) (od : Option Addr) (doc pm : Value) (an : Option Addr) (cdv ct : Value) (osl : Array (Option Value)) (qual : Str) (p1 p2 q1 q2 q3 q4 : Pos),
    K.lookup fI = some ⟨oc, od, .func (fnOf "__init__" qual (iA fn p1 p2) (iB fn q1 q2 q3 q4) (iS fn) .none .none doc pm an cdv ct), osl⟩ ∧ codeIn K cdv qual = true
theorem x_one_size (v : Value) : [v].length ≤ sizeLine := by
  rw [sizeLine_eq]
  exact (by decide : 1 ≤ 16777216)
theorem xldC {M : Model} {s : Shared} {name : Str} {scope : Scope} {L a : Addr} {cd : Value} {m : Str → Option Value} {x : Str} {pos : Pos} {v : Value} {Q : Value → Shared → Prop} {A : Around} {E : Value → Shared → Prop} (hn : s.heap.Ns L m) (hv : m x = some v) (h : Q v s)
    (hk : scope.kind = .function := by rfl) (hl : (envOfC name scope L a cd).kindOf x = some .local := by rfl) (hd : (x == ("__debug__" : Str)) = false := by decide) :
    wpAny M A (eval (.Name x pos) (envOfC name scope L a cd)) Q E s := wpAny_Name (wpAny_loadName_local hk hl hn hv h) hd
structure InitEnd (fn : Str) (h h' : Heap) (x C dx t1 : Addr) (v : Value) : Prop where
  keep : ∀ b o, b ≠ x → h.get? b = some o → h'.get? b = some o
  obj : h'.get? x = some { cls := .ref C, dict := some dx, data := .fields #[.ref t1, .none, .none, .none, .bool false, .none] }
  dbig : h.objs.size ≤ dx
  dne : dx ≠ x
  ns : h'.Ns1 dx (fun y => if y = fn then some v else none)
structure OwnMade (fn : Str) (h h' : Heap) (e C d : Addr) (v : Value) : Prop where
  keep : ∀ b o, h.get? b = some o → h'.get? b = some o
  new : h.objs.size ≤ e
  obj : ∃ oe vs, h'.get? e = some oe ∧ oe.cls = .ref C ∧ oe.dict = some d ∧ oe.data = .fields vs ∧ vs[1]? = some .none
  dbig : h.objs.size ≤ d
  dne : d ≠ e
  ns : h'.Ns1 d (fun y => if y = fn then some v else none)
def MadeR (K : Frag) (mg : Str → Option Value) (x fn : Str) (C : Addr) : Prop := ∀ {prog : Program} {w : World} {A : Around} {R : Result → Shared → Prop} {s : Shared} {v : Value} (X : K.In s.heap) (hlim : s.heap.NoLimit) (hroom : A.depth + 1 < recursionLimit)
    (hq : ∀ h' tk e d, OwnMade fn s.heap h' e C d v → R (.ok (.ret (.ref e))) { s with heap := h', toks := tk }), codeAny (model prog w) A (.call (.ref C) ⟨[v], []⟩) R s
theorem relO_x {fn : Str} {v : L2.V} {v' : Value} (r : L2.RelV v v') (f : Str) : L2.RelO (List.lookup f [(fn, v)]) (if f = fn then some v' else none) := by
  by_cases hw : f = fn
  · subst hw
    rw [if_pos rfl]
    have q : List.lookup f [(f, v)] = some v := by simp [List.lookup]
    rw [q]
    exact r
  · rw [if_neg hw]
    have qw : (f == fn) = false := by simpa using hw
    have q2 : List.lookup f [(fn, v)] = none := by simp [List.lookup, qw]
    rw [q2]
    trivial
section
variable {K : Frag} {mg : Str → Option Value} {x : Str} {C : Addr}
end
section
variable {K : Frag} {mg : Str → Option Value} {x : Str} {C : Addr}
theorem init_value {prog : Program} {w : World} {A : Around} {E : Value → Shared → Prop} {R : Result → Shared → Prop} {s : Shared} (T : ExI K mg x "value" C) {x0 t0 fI : Addr} {v : Value} (hfI : ∃ (oc : Value) (od : Option Addr) (doc pm : Value) (an : Option Addr) (cdv ct : Value) (osl : Array (Option Value)) (qual : Str) (p1 p2 q1 q2 q3 q4 : Pos),
    K.lookup fI = some ⟨oc, od, .func (fnOf "__init__" qual (iA "value" p1 p2) (iB "value" q1 q2 q3 q4) (iS "value") .none .none doc pm an cdv ct), osl⟩ ∧ codeIn K cdv qual = true) (X : K.In s.heap) (hlim : s.heap.NoLimit) (hx : s.heap.get? x0 = some (excO C t0)) (hnx : K.lookup x0 = none) (hroom : A.depth < recursionLimit)
    (hq : ∀ h' tk dx, InitEnd "value" s.heap h' x0 C dx t0 v → R (.ok (.ret .none)) { s with heap := h', toks := tk }) :
    codeAny (model prog w) A (.call (.ref fI) ⟨[.ref x0, v], []⟩) R s := by
  obtain ⟨oc, od, doc, pm, an, cdv, ct, osl, qual, p1, p2, q1, q2, q3, q4, ho, hcd⟩ := hfI
  obtain ⟨nm, q, N, bs, bm, sn, sub, ab, col, dd, k0, k1, k2, k3, k5, hC, hbm⟩ := T.cls
  have hcl : clsIn K C = some { name := nm, bases := bs, mro := .ref C :: bm, ns := N, qualname := q, hasDict := true, slotNames := sn, subclasses := sub, abstract := ab, collection := col, hasDel := false } := by unfold clsIn; rw [hC] <;> rfl
  refine Att.call_fn (binds := [("self", .ref x0), ("value", v)]) X hlim ho hcd hroom (BindsTo.of_eq (by first | rfl | with_unfolding_all rfl)) (by first | rfl | decide | with_unfolding_all rfl) (fun s₁ IC => ?_) rfl rfl rfl
  obtain ⟨h₁, tk₁, rfl⟩ := IC.toInCall.same
  have k : ∀ b o, s.heap.get? b = some o → h₁.get? b = some o := IC.toInCall.keep
  have hn := IC.toInCall.ns
  have hxL : s.heap.objs.size ≠ x0 := Nat.ne_of_gt (Heap.lt_size hx)
  have X₁ : K.In h₁ := X.keeps k
  have hx₁ := k _ _ hx
  show wpAny _ _ (execs _ _) _ _ _
  refine wpAny_execs_cons (plainObj_wpAny_Assign_Attribute ?_)
  refine xldC (v := v) hn (by first | rfl | with_unfolding_all rfl | kernel_rfl) (xldC (v := .ref x0) hn (by first | rfl | with_unfolding_all rfl | kernel_rfl) ?_)
  refine set_plain X₁ (ox := excO C t0) (od := none) ⟨hx₁, rfl, rfl, trivial⟩ T.sa ?_
  refine exc_osa X₁ hx₁ hcl (show refsVE (.ref C :: bm) = true from hbm) rfl T.noN (fun h₃ tk₃ dx k₃ dn dne hx₃ hn₃ => ?_)
  show wpAny _ _ (execs _ _) _ _ _
  have z : s.heap.objs.size < h₁.objs.size := hn.lt
  exact wpAny_execs_nil (hq h₃ tk₃ dx ⟨fun b o hb e => k₃ b o hb (k b o e), hx₃, Nat.le_of_lt (Nat.lt_of_lt_of_le z dn), dne, hn₃⟩)
theorem made_value (T : ExI K mg x "value" C) : MadeR K mg x "value" C := fun {prog w A R s v} X hlim hroom hq => by
  obtain ⟨nm, q, N, bs, bm, sn, sub, ab, col, dd, k0, k1, k2, k3, k5, hC, hbm⟩ := T.cls
  obtain ⟨fI, iC, tC, hfI⟩ := T.fI
  obtain ⟨hp, g, dr, tk, os⟩ := s
  have k : ∀ b o, hp.get? b = some o → ((hp.push (kdv_tup [v])).push (excO C hp.objs.size)).get? b = some o := fun b o e => Heap.get?_push_of_some _ (Heap.get?_push_of_some _ e)
  have hget : ((hp.push (kdv_tup [v])).push (excO C hp.objs.size)).get? (hp.objs.size + 1) = some (excO C hp.objs.size) := by heap_get
  have hnx : K.lookup (hp.objs.size + 1) = none := by
    cases e : K.lookup (hp.objs.size + 1) with
    | none => rfl
    | some o =>
      have z : hp.get? (hp.objs.size + 1) = some o := X _ _ e
      exact absurd (Nat.lt_of_succ_lt (Heap.lt_size z)) (Nat.lt_irrefl _)
  refine call_own F.excBase_ValueError (fun X => refsVE_contains X bm hbm) (X _ _ hC) (looks_findIn X iC) (fun self => bind_fn X self tC) (x_one_size v) ?_
  refine init_value (s := ⟨(hp.push (kdv_tup [v])).push (excO C hp.objs.size), g, dr, tk, os⟩) (E := fun _ _ => True) T hfI (X.keeps k) (hlim.keeps k) hget hnx ?_ fun h' tk' dx ⟨k', hx, dn, dne, hns⟩ => ?_
  · show A.depth + 1 < recursionLimit
    exact hroom
  · have old : ∀ b o, hp.get? b = some o → h'.get? b = some o := fun b o e => k' b o (Nat.ne_of_lt (Nat.lt_succ_of_lt (Heap.lt_size e))) (k b o e)
    have z : hp.objs.size + 1 + 1 ≤ dx := by
      first
        | (simpa only [Heap.size_push] using dn)
        | exact dn
        | (have q := dn; rw [Heap.size_push, Heap.size_push] at q; exact q)
    exact ⟨rfl, hq h' tk' (hp.objs.size + 1) dx ⟨old, Nat.le_succ _, ⟨_, _, hx, rfl, rfl, rfl, rfl⟩, Nat.le_trans (Nat.le_trans (Nat.le_succ _) (Nat.le_succ _)) z, dne, hns⟩⟩
end
section
variable {K : Frag} {mg : Str → Option Value} {x : Str} {C : Addr}
theorem init_seat {prog : Program} {w : World} {A : Around} {E : Value → Shared → Prop} {R : Result → Shared → Prop} {s : Shared} (T : ExI K mg x "seat" C) {x0 t0 fI : Addr} {v : Value} (hfI : ∃ (oc : Value) (od : Option Addr) (doc pm : Value) (an : Option Addr) (cdv ct : Value) (osl : Array (Option Value)) (qual : Str) (p1 p2 q1 q2 q3 q4 : Pos),
    K.lookup fI = some ⟨oc, od, .func (fnOf "__init__" qual (iA "seat" p1 p2) (iB "seat" q1 q2 q3 q4) (iS "seat") .none .none doc pm an cdv ct), osl⟩ ∧ codeIn K cdv qual = true) (X : K.In s.heap) (hlim : s.heap.NoLimit) (hx : s.heap.get? x0 = some (excO C t0)) (hnx : K.lookup x0 = none) (hroom : A.depth < recursionLimit)
    (hq : ∀ h' tk dx, InitEnd "seat" s.heap h' x0 C dx t0 v → R (.ok (.ret .none)) { s with heap := h', toks := tk }) :
    codeAny (model prog w) A (.call (.ref fI) ⟨[.ref x0, v], []⟩) R s := by
  obtain ⟨oc, od, doc, pm, an, cdv, ct, osl, qual, p1, p2, q1, q2, q3, q4, ho, hcd⟩ := hfI
  obtain ⟨nm, q, N, bs, bm, sn, sub, ab, col, dd, k0, k1, k2, k3, k5, hC, hbm⟩ := T.cls
  have hcl : clsIn K C = some { name := nm, bases := bs, mro := .ref C :: bm, ns := N, qualname := q, hasDict := true, slotNames := sn, subclasses := sub, abstract := ab, collection := col, hasDel := false } := by unfold clsIn; rw [hC] <;> rfl
  refine Att.call_fn (binds := [("self", .ref x0), ("seat", v)]) X hlim ho hcd hroom (BindsTo.of_eq (by first | rfl | with_unfolding_all rfl)) (by first | rfl | decide | with_unfolding_all rfl) (fun s₁ IC => ?_) rfl rfl rfl
  obtain ⟨h₁, tk₁, rfl⟩ := IC.toInCall.same
  have k : ∀ b o, s.heap.get? b = some o → h₁.get? b = some o := IC.toInCall.keep
  have hn := IC.toInCall.ns
  have hxL : s.heap.objs.size ≠ x0 := Nat.ne_of_gt (Heap.lt_size hx)
  have X₁ : K.In h₁ := X.keeps k
  have hx₁ := k _ _ hx
  show wpAny _ _ (execs _ _) _ _ _
  refine wpAny_execs_cons (plainObj_wpAny_Assign_Attribute ?_)
  refine xldC (v := v) hn (by first | rfl | with_unfolding_all rfl | kernel_rfl) (xldC (v := .ref x0) hn (by first | rfl | with_unfolding_all rfl | kernel_rfl) ?_)
  refine set_plain X₁ (ox := excO C t0) (od := none) ⟨hx₁, rfl, rfl, trivial⟩ T.sa ?_
  refine exc_osa X₁ hx₁ hcl (show refsVE (.ref C :: bm) = true from hbm) rfl T.noN (fun h₃ tk₃ dx k₃ dn dne hx₃ hn₃ => ?_)
  show wpAny _ _ (execs _ _) _ _ _
  have z : s.heap.objs.size < h₁.objs.size := hn.lt
  exact wpAny_execs_nil (hq h₃ tk₃ dx ⟨fun b o hb e => k₃ b o hb (k b o e), hx₃, Nat.le_of_lt (Nat.lt_of_lt_of_le z dn), dne, hn₃⟩)
theorem made_seat (T : ExI K mg x "seat" C) : MadeR K mg x "seat" C := fun {prog w A R s v} X hlim hroom hq => by
  obtain ⟨nm, q, N, bs, bm, sn, sub, ab, col, dd, k0, k1, k2, k3, k5, hC, hbm⟩ := T.cls
  obtain ⟨fI, iC, tC, hfI⟩ := T.fI
  obtain ⟨hp, g, dr, tk, os⟩ := s
  have k : ∀ b o, hp.get? b = some o → ((hp.push (kdv_tup [v])).push (excO C hp.objs.size)).get? b = some o := fun b o e => Heap.get?_push_of_some _ (Heap.get?_push_of_some _ e)
  have hget : ((hp.push (kdv_tup [v])).push (excO C hp.objs.size)).get? (hp.objs.size + 1) = some (excO C hp.objs.size) := by heap_get
  have hnx : K.lookup (hp.objs.size + 1) = none := by
    cases e : K.lookup (hp.objs.size + 1) with
    | none => rfl
    | some o =>
      have z : hp.get? (hp.objs.size + 1) = some o := X _ _ e
      exact absurd (Nat.lt_of_succ_lt (Heap.lt_size z)) (Nat.lt_irrefl _)
  refine call_own F.excBase_ValueError (fun X => refsVE_contains X bm hbm) (X _ _ hC) (looks_findIn X iC) (fun self => bind_fn X self tC) (x_one_size v) ?_
  refine init_seat (s := ⟨(hp.push (kdv_tup [v])).push (excO C hp.objs.size), g, dr, tk, os⟩) (E := fun _ _ => True) T hfI (X.keeps k) (hlim.keeps k) hget hnx ?_ fun h' tk' dx ⟨k', hx, dn, dne, hns⟩ => ?_
  · show A.depth + 1 < recursionLimit
    exact hroom
  · have old : ∀ b o, hp.get? b = some o → h'.get? b = some o := fun b o e => k' b o (Nat.ne_of_lt (Nat.lt_succ_of_lt (Heap.lt_size e))) (k b o e)
    have z : hp.objs.size + 1 + 1 ≤ dx := by
      first
        | (simpa only [Heap.size_push] using dn)
        | exact dn
        | (have q := dn; rw [Heap.size_push, Heap.size_push] at q; exact q)
    exact ⟨rfl, hq h' tk' (hp.objs.size + 1) dx ⟨old, Nat.le_succ _, ⟨_, _, hx, rfl, rfl, rfl, rfl⟩, Nat.le_trans (Nat.le_trans (Nat.le_succ _) (Nat.le_succ _)) z, dne, hns⟩⟩
end
section
variable {K : Frag} {mg : Str → Option Value} {x : Str} {C : Addr}
theorem init_index {prog : Program} {w : World} {A : Around} {E : Value → Shared → Prop} {R : Result → Shared → Prop} {s : Shared} (T : ExI K mg x "index" C) {x0 t0 fI : Addr} {v : Value} (hfI : ∃ (oc : Value) (od : Option Addr) (doc pm : Value) (an : Option Addr) (cdv ct : Value) (osl : Array (Option Value)) (qual : Str) (p1 p2 q1 q2 q3 q4 : Pos),
    K.lookup fI = some ⟨oc, od, .func (fnOf "__init__" qual (iA "index" p1 p2) (iB "index" q1 q2 q3 q4) (iS "index") .none .none doc pm an cdv ct), osl⟩ ∧ codeIn K cdv qual = true) (X : K.In s.heap) (hlim : s.heap.NoLimit) (hx : s.heap.get? x0 = some (excO C t0)) (hnx : K.lookup x0 = none) (hroom : A.depth < recursionLimit)
    (hq : ∀ h' tk dx, InitEnd "index" s.heap h' x0 C dx t0 v → R (.ok (.ret .none)) { s with heap := h', toks := tk }) :
    codeAny (model prog w) A (.call (.ref fI) ⟨[.ref x0, v], []⟩) R s := by
  obtain ⟨oc, od, doc, pm, an, cdv, ct, osl, qual, p1, p2, q1, q2, q3, q4, ho, hcd⟩ := hfI
  obtain ⟨nm, q, N, bs, bm, sn, sub, ab, col, dd, k0, k1, k2, k3, k5, hC, hbm⟩ := T.cls
  have hcl : clsIn K C = some { name := nm, bases := bs, mro := .ref C :: bm, ns := N, qualname := q, hasDict := true, slotNames := sn, subclasses := sub, abstract := ab, collection := col, hasDel := false } := by unfold clsIn; rw [hC] <;> rfl
  refine Att.call_fn (binds := [("self", .ref x0), ("index", v)]) X hlim ho hcd hroom (BindsTo.of_eq (by first | rfl | with_unfolding_all rfl)) (by first | rfl | decide | with_unfolding_all rfl) (fun s₁ IC => ?_) rfl rfl rfl
  obtain ⟨h₁, tk₁, rfl⟩ := IC.toInCall.same
  have k : ∀ b o, s.heap.get? b = some o → h₁.get? b = some o := IC.toInCall.keep
  have hn := IC.toInCall.ns
  have hxL : s.heap.objs.size ≠ x0 := Nat.ne_of_gt (Heap.lt_size hx)
  have X₁ : K.In h₁ := X.keeps k
  have hx₁ := k _ _ hx
  show wpAny _ _ (execs _ _) _ _ _
  refine wpAny_execs_cons (plainObj_wpAny_Assign_Attribute ?_)
  refine xldC (v := v) hn (by first | rfl | with_unfolding_all rfl | kernel_rfl) (xldC (v := .ref x0) hn (by first | rfl | with_unfolding_all rfl | kernel_rfl) ?_)
  refine set_plain X₁ (ox := excO C t0) (od := none) ⟨hx₁, rfl, rfl, trivial⟩ T.sa ?_
  refine exc_osa X₁ hx₁ hcl (show refsVE (.ref C :: bm) = true from hbm) rfl T.noN (fun h₃ tk₃ dx k₃ dn dne hx₃ hn₃ => ?_)
  show wpAny _ _ (execs _ _) _ _ _
  have z : s.heap.objs.size < h₁.objs.size := hn.lt
  exact wpAny_execs_nil (hq h₃ tk₃ dx ⟨fun b o hb e => k₃ b o hb (k b o e), hx₃, Nat.le_of_lt (Nat.lt_of_lt_of_le z dn), dne, hn₃⟩)
theorem made_index (T : ExI K mg x "index" C) : MadeR K mg x "index" C := fun {prog w A R s v} X hlim hroom hq => by
  obtain ⟨nm, q, N, bs, bm, sn, sub, ab, col, dd, k0, k1, k2, k3, k5, hC, hbm⟩ := T.cls
  obtain ⟨fI, iC, tC, hfI⟩ := T.fI
  obtain ⟨hp, g, dr, tk, os⟩ := s
  have k : ∀ b o, hp.get? b = some o → ((hp.push (kdv_tup [v])).push (excO C hp.objs.size)).get? b = some o := fun b o e => Heap.get?_push_of_some _ (Heap.get?_push_of_some _ e)
  have hget : ((hp.push (kdv_tup [v])).push (excO C hp.objs.size)).get? (hp.objs.size + 1) = some (excO C hp.objs.size) := by heap_get
  have hnx : K.lookup (hp.objs.size + 1) = none := by
    cases e : K.lookup (hp.objs.size + 1) with
    | none => rfl
    | some o =>
      have z : hp.get? (hp.objs.size + 1) = some o := X _ _ e
      exact absurd (Nat.lt_of_succ_lt (Heap.lt_size z)) (Nat.lt_irrefl _)
  refine call_own F.excBase_ValueError (fun X => refsVE_contains X bm hbm) (X _ _ hC) (looks_findIn X iC) (fun self => bind_fn X self tC) (x_one_size v) ?_
  refine init_index (s := ⟨(hp.push (kdv_tup [v])).push (excO C hp.objs.size), g, dr, tk, os⟩) (E := fun _ _ => True) T hfI (X.keeps k) (hlim.keeps k) hget hnx ?_ fun h' tk' dx ⟨k', hx, dn, dne, hns⟩ => ?_
  · show A.depth + 1 < recursionLimit
    exact hroom
  · have old : ∀ b o, hp.get? b = some o → h'.get? b = some o := fun b o e => k' b o (Nat.ne_of_lt (Nat.lt_succ_of_lt (Heap.lt_size e))) (k b o e)
    have z : hp.objs.size + 1 + 1 ≤ dx := by
      first
        | (simpa only [Heap.size_push] using dn)
        | exact dn
        | (have q := dn; rw [Heap.size_push, Heap.size_push] at q; exact q)
    exact ⟨rfl, hq h' tk' (hp.objs.size + 1) dx ⟨old, Nat.le_succ _, ⟨_, _, hx, rfl, rfl, rfl, rfl⟩, Nat.le_trans (Nat.le_trans (Nat.le_succ _) (Nat.le_succ _)) z, dne, hns⟩⟩
end
end DL
namespace DL
open PySem PySem.Spec PyProof.Rows L2
section
variable {X : Cx} {W : WX} {C : Addr} {x fn : Str} {p pos pos2 : Pos}
def tMkX (fn : Str) (C : Addr) (ta : TA) : L2.St → Hp → XK → Prop := fun σ H Q => ta σ H fun vs H1 => ∃ v, vs = [v] ∧ ∀ d, H1 d = none → Q (.ref C) (some d) (upd H1 d (.xd [(fn, v)]))
theorem pmk_x {a : Expr} {ta : TA} {k : Nat} (M : MadeR X.K X.mg x fn C) (T : ExI X.K X.mg x fn C) (hr : Room (k+1) X.A) (ha : PA X [a] ta) (hg : Gl X x) (hdb : (x == ("__debug__" : Str)) = false)
    (he : starEach (a :: []) X.env = (false, eval a X.env) :: starEach [] X.env := by rfl) (hpl : (backTo pos (starEach [] X.env)).any (·.1) = false := by rfl) :
    PMk X (.Call (.Name x p) [a] [] pos) (tMkX fn C ta) := by
  intro pins s σ H Q I h
  refine wpAny_Call_Name_kw (ld_glob I hg T.gC ?_ hdb)
  refine PySem.W.callWith_K (h₀ := X.base) I.ok.mod.kin T.kC (thn (ha.run pos pins s σ H _ I h) fun us s1 hh => ?_) he hpl
  obtain ⟨vs, H1, I1, r1, v, ev, q1⟩ := hh
  subst ev
  refine ⟨I1.kIn, ?_⟩
  cases r1 with
  | cons rv rn =>
    rename_i v' us'
    cases rn
    show wpAny _ _ (call (.ref C) [v']) _ _ _
    have hlim := I1.nolimit
    obtain ⟨hp, g, dr, tk, os⟩ := s1
    refine wpAny_call (M I1.kIn hlim (by have := hr.dp; omega) fun h' tk' e d M => ?_)
    show MkP X pins σ Q (.ref e) ⟨h', g, dr, tk', os⟩
    obtain ⟨oe, fv, hoe, hc, hd, hdat, h1⟩ := M.obj
    have hns := M.ns
    obtain ⟨G', g1, g2⟩ := restrict h' fun b => decide (b ≠ e)
    have gk : ∀ b, b ≠ e → G'.get? b = h'.get? b := fun b hb => g1 b (decide_eq_true hb)
    have ge : G'.get? e = none := g2 e (by simp)
    have old : ∀ b o, hp.get? b = some o → G'.get? b = some o := fun b o q => (gk b (Nat.ne_of_lt (Nat.lt_of_lt_of_le (Heap.lt_size q) M.new))).trans (M.keep b o q)
    have ob : ObjOk X.prog X.w (upd H1 d (.xd [(fn, v)])) G' d (.xd [(fn, v)]) :=
      ⟨_, hns.at (fun o q => (gk d M.dne).trans q), fun f => relO_x rv f⟩
    have J : Inv X pins σ (upd H1 d (.xd [(fn, v)])) ⟨G', g, dr, tk', os⟩ := I1.laid (t' := tk') old M.dbig ob
    refine ⟨e, oe, fv, ⟨G', g, dr, tk', os⟩, _, .ref C, some d, rfl, J, fun b o q => ?_, ge, hoe, ⟨hc, hd⟩, hdat, h1, ?_, rfl, I1.bare, raises_own T.exC T.tyC, q1 d (I1.hok.fresh M.dbig)⟩
    · by_cases hb : b = e
      · have q' : G'.get? b = some o := q
        rw [hb, ge] at q'; cases q'
      · exact (gk b hb).symm.trans q
    · rw [upd_ne (Ne.symm M.dne)]
      exact I1.hok.fresh M.new
def dRaise1 (C : Addr) (fn : Str) (de : DE) : DS := fun D ρ μ => de ρ μ (fun d μ1 => D.xc ρ ⟨C, [(fn, d)]⟩ μ1) (D.xc ρ)
theorem s_raise1 {a : Expr} {de : DE} {k : Nat} (hc : X.calm = true) (tk : Takes X W) (M : MadeR X.K X.mg x fn C) (T : ExI X.K X.mg x fn C) (hr : Room (k+1) X.A) (ha : PD X W a de) (hg : Gl X x := by rfl) (hdb : (x == ("__debug__" : Str)) = false := by decide)
    (he : starEach (a :: []) X.env = (false, eval a X.env) :: starEach [] X.env := by rfl) (hpl : (backTo pos (starEach [] X.env)).any (·.1) = false := by rfl) :
    PSD X W (.Raise (some (.Call (.Name x p) [a] [] pos)) none pos2) (dRaise1 C fn de) := by
  obtain ⟨te, a1, a2⟩ := ha.ex
  refine ⟨_, ps_raise hc tk (pmk_x M T hr (pa_cons a1 pa_nil (hs := he)) hg hdb he hpl), fun {B F σ H ρ μ Dd D} S q r => ?_⟩
  refine a2 S q r.gox fun v F' H' d μ' g S' z q' => ?_
  refine ⟨v, rfl, fun p hp => ?_⟩
  obtain ⟨W', g'⟩ := S'.wd.new (o := .xd [(fn, v)]) hp
  refine r.xc (.ref C) (some p) ⟨C, [(fn, d)]⟩ _ σ _ ρ μ' (g.fz.trans g'.fz) (S'.go g' W') ⟨rfl, .inr ⟨p, [(fn, v)], rfl, upd_same, ?_⟩⟩ q'
  unfold FzS
  refine ⟨v, [], rfl, z.mono g'.fz, ?_⟩
  unfold FzS
  rfl
end
end DL

namespace DL
open PySem PySem.Spec PyProof.Rows L2
def refsL (o : Obj) : List Addr := match o.data, o.cls with
  | .func fd, _ => He.refV fd.code ++ (He.refV fd.kwdefaults ++ fd.closure.map (·.2))
  | .cls cd, _ => cd.ns :: cd.mro.flatMap He.refV
  | .dict es _, _ => es.toList.flatMap fun e => He.refV e.val
  | .fields vs, .type n => if n == "property" || n == "classmethod" || n == "staticmethod" then vs.toList.flatMap He.refV else []
  | _, _ => []
def nextL (g : Addr → Option Obj) (as : List Addr) : List Addr := as.flatMap fun a => ((g a).map refsL).getD []
def glosL (g : Addr → Option Obj) (xs : List Str) : List Addr := xs.map fun x => He.ga (He.frG g [mainGlobals]) x
def forceL {α : Type} : List Addr → (List Addr → α) → α
  | [], k => k []
  | a :: r, k => HandSHeadRun.frNat a fun b => forceL r fun l => k (b :: l)
theorem forceL_eq {α : Type} : ∀ (l : List Addr) (k : List Addr → α), forceL l k = k l
  | [], _ => rfl
  | a :: r, k => by
    show HandSHeadRun.frNat a _ = _
    rw [HandSHeadRun.frNat_eq, forceL_eq r]
def addrL {α : Type} (g : Addr → Option Obj) (xs : List Str) (k : List Addr → α) : α :=
  forceL (glosL g xs) fun a0 => forceL (nextL g a0) fun a1 => forceL (nextL g a1) fun a2 => forceL (nextL g a2) fun a3 => forceL (nextL g a3) fun a4 => k (mainGlobals :: cStatics :: (a0 ++ (a1 ++ (a2 ++ (a3 ++ a4)))))
structure DefL where
  ad : PySem.W.Frag → Addr
  name : Str
  qual : Str
  st : Stmt
  cl : List Str := []
abbrev FnL : Type := Option ((Str × Str × Arguments × FuncBody × Scope) × Addr × List Str × Value × Addr)
def DefL.val (d : DefL) : FnL := some ((d.name, d.qual, defArgs d.st, .stmts (defBody d.st), defScope d.st), mainGlobals, d.cl, .none, builtinsNs)
def DefL.got (d : DefL) (K : PySem.W.Frag) : FnL := match K.lookup (d.ad K) with
  | some ⟨_, _, .func fd, _⟩ => some ((fd.name, fd.qualname, fd.params, fd.body, fd.scope), fd.globals, fd.closure.map (·.1), fd.defaults, fd.builtins)
  | _ => none
theorem DefL.lkC {K : PySem.W.Frag} {d : DefL} (e : d.got K = d.val) : ∃ (oc : Value) (od : Option Addr) (cl : List (Str × Addr)) (kV dc pm : Value) (an : Option Addr) (cd ct : Value) (sl : Array (Option Value)),
    cl.map (·.1) = d.cl ∧ K.lookup (d.ad K) = some ⟨oc, od, .func (PySem.W.fnX d.name d.qual (defArgs d.st) (defBody d.st) (defScope d.st) cl .none kV dc pm an cd ct), sl⟩ := by
  unfold DefL.got at e
  cases q : K.lookup (d.ad K) with
  | none =>
    rw [q] at e
    cases e
  | some o =>
    obtain ⟨oc, od, dt, sl⟩ := o
    rw [q] at e
    cases dt with
    | func fd =>
      obtain ⟨f1, f2, f3, f4, f5, f6, f7, f8, f9, f10, f11, f12, f13, f14, f15⟩ := fd
      have z : ((f1, f2, f3, f4, f5), f6, f7.map (·.1), f8, f15) = ((d.name, d.qual, defArgs d.st, FuncBody.stmts (defBody d.st), defScope d.st), mainGlobals, d.cl, Value.none, builtinsNs) := Option.some.inj e
      simp only [Prod.mk.injEq] at z
      obtain ⟨⟨z1, z2, z3, z4, z5⟩, z6, z7, z8, z9⟩ := z
      subst z1 z2 z3 z4 z5 z6 z8 z9
      exact ⟨oc, od, f7, f9, f10, f11, f12, f13, f14, sl, z7, rfl⟩
    | _ => cases e
theorem DefL.lk {K : PySem.W.Frag} {d : DefL} (e : d.got K = d.val) (hc : d.cl = [] := by rfl) : ∃ (oc : Value) (od : Option Addr) (kV dc pm : Value) (an : Option Addr) (cd ct : Value) (sl : Array (Option Value)),
    K.lookup (d.ad K) = some ⟨oc, od, .func (PySem.W.fnOf d.name d.qual (defArgs d.st) (defBody d.st) (defScope d.st) .none kV dc pm an cd ct), sl⟩ := by
  obtain ⟨oc, od, cl, kV, dc, pm, an, cd, ct, sl, h1, h2⟩ := DefL.lkC e
  rw [hc] at h1
  obtain rfl := List.map_eq_nil_iff.mp h1
  exact ⟨oc, od, kV, dc, pm, an, cd, ct, sl, h2⟩
def codB (K : PySem.W.Frag) (f : Addr) (q : Str) : Bool := match K.lookup f with
  | some ⟨_, _, .func fd, _⟩ => PySem.W.codeIn K fd.code q
  | _ => false
theorem codB_ok {K : PySem.W.Frag} {f : Addr} {q nm qn : Str} {ps : Arguments} {bd : List Stmt} {sc : Scope} {oc kV dc pm cd ct : Value} {od an : Option Addr} {sl : Array (Option Value)}
    (l : K.lookup f = some ⟨oc, od, .func (PySem.W.fnOf nm qn ps bd sc .none kV dc pm an cd ct), sl⟩) (h : codB K f q = true) : PySem.W.codeIn K cd q = true := by
  unfold codB at h
  rw [l] at h
  exact h
def intB (o : Option (Option Value)) (i : Int) : Bool := match o with
  | some (some (.int j _)) => decide (j = i)
  | _ => false
theorem intB_ok {o : Option (Option Value)} {i : Int} (h : intB o i = true) : ∃ t, o = some (some (.int i t)) := by
  unfold intB at h
  split at h
  · rename_i j t
    rw [of_decide_eq_true h]
    exact ⟨t, rfl⟩
  · cases h
def kvN (K : PySem.W.Frag) (f : Addr) : Bool := match K.lookup f with
  | some ⟨_, _, .func fd, _⟩ => (match fd.kwdefaults with
    | .none => true
    | _ => false)
  | _ => false
theorem kvN_ok {K : PySem.W.Frag} {f : Addr} {nm qn : Str} {ps : Arguments} {bd : List Stmt} {sc : Scope} {oc kV dc pm cd ct : Value} {od an : Option Addr} {sl : Array (Option Value)}
    (l : K.lookup f = some ⟨oc, od, .func (PySem.W.fnOf nm qn ps bd sc .none kV dc pm an cd ct), sl⟩) (h : kvN K f = true) : kV = .none := by
  unfold kvN at h
  rw [l] at h
  cases kV with
  | none => rfl
  | _ => cases h
theorem DefL.lkX {K : PySem.W.Frag} {d : DefL} {A : Arguments} {B : List Stmt} {S : Scope} (e : d.got K = d.val) (ea : defArgs d.st = A) (eb : defBody d.st = B) (es : defScope d.st = S) (hc : d.cl = [] := by rfl) :
    ∃ (oc : Value) (od : Option Addr) (kV dc pm : Value) (an : Option Addr) (cd ct : Value) (sl : Array (Option Value)),
      K.lookup (d.ad K) = some ⟨oc, od, .func (PySem.W.fnOf d.name d.qual A B S .none kV dc pm an cd ct), sl⟩ := by
  subst ea eb es
  exact DefL.lk e hc
def mroE (C : Addr) : List Value → Bool
  | .ref c :: bm => decide (c = C) && PySem.HandSPX.refsVE bm
  | _ => false
def newE : List (Option Value) → Bool
  | [_, _, _, _, some (.builtin n), _] => decide (n = "ValueError.__new__")
  | _ => false
def clsE (C : Addr) : Value → Data → Bool
  | .type t, .cls cd => decide (t = "type") && (cd.hasDict && (!cd.hasDel && mroE C cd.mro))
  | _, _ => false
def excB (K : PySem.W.Frag) (C : Addr) : Bool := match K.lookup C with
  | some o => newE o.slots.toList && clsE C o.cls o.data
  | none => false
theorem excB_ok {K : PySem.W.Frag} {C : Addr} (h : excB K C = true) : ∃ nm qn N bs bm sn sb ab cl dd ma mb mc md me, K.lookup C = some (PySem.excClassObj nm qn C N bs bm true sn sb ab cl dd ma mb mc md me "ValueError.__new__") ∧ PySem.HandSPX.refsVE bm = true := by
  unfold excB at h
  split at h
  · rename_i o e
    obtain ⟨oc, od, dt, sl⟩ := o
    obtain ⟨sl⟩ := sl
    simp only [Bool.and_eq_true] at h
    obtain ⟨h1, h2⟩ := h
    unfold newE at h1
    split at h1
    · rename_i a b c d n f
      unfold clsE at h2
      split at h2
      · rename_i t cd
        obtain ⟨nm, bs, mro, N, qn, hd, sn, sb, ab, cl, hdl⟩ := cd
        simp only [Bool.and_eq_true, decide_eq_true_eq, Bool.not_eq_true'] at h1 h2
        obtain ⟨rfl, rfl, rfl, h3⟩ := h2
        subst h1
        unfold mroE at h3
        split at h3
        · rename_i c' bm
          simp only [Bool.and_eq_true, decide_eq_true_eq] at h3
          obtain ⟨rfl, h4⟩ := h3
          exact ⟨_, _, _, _, _, _, _, _, _, _, _, _, _, _, _, e, h4⟩
        · cases h3
      · cases h2
    · cases h1
  · cases h
structure SupK (P : Program) (K : PySem.W.Frag) (f cda cc D f2 : Addr) (m : Str) : Prop where
  fn : ∃ oc od fd osl, K.lookup f = some (⟨oc, od, .func fd, osl⟩ : Obj) ∧ ∃ ar : Arg, (fd.params.posonlyargs ++ fd.params.args).head? = some ar ∧ ar.arg = ("self" : Str)
  code : ∃ ccl cdd vs ccs file tf, K.lookup cda = some (⟨ccl, cdd, .fields vs, ccs⟩ : Obj) ∧ vs[2]? = some (.str file tf) ∧ ((P.main.file : Str) == file) = true
  cell : ∃ cl cld csl, K.lookup cc = some (⟨cl, cld, .cell (some (.ref D)), csl⟩ : Obj)
  cls : ∃ cd, PySem.W.clsIn K D = some cd
  sub : PySem.W.mroIn K D (.ref D) = some true
  top : (P.main.scope.names.lookup ("super" : Str)).isSome = false
  any : PySem.W.nsIn K cStatics "thirdparty.any" = some none
  met : PySem.W.ks_superIn K D D m = some (some (.ref f2))
  ty : PySem.W.typeIn K (.ref f2) = some (.type "function")
  fni : PySem.W.fnIn K f2 = true
abbrev AlL : Type := Bool × List FnL
def allB : List Bool → Bool
  | [] => true
  | b :: r => b && allB r
theorem allB_at : ∀ {l : List Bool} (i : Nat) {b : Bool}, allB l = true → l[i]? = some b → b = true
  | [], _, _, _, h => by cases h
  | c :: r, 0, b, h, e => by
    have e : c = b := Option.some.inj e
    rw [← e]
    exact (Bool.and_eq_true_iff.mp h).1
  | c :: r, i + 1, b, h, e => allB_at (l := r) i (Bool.and_eq_true_iff.mp h).2 e
def seeHL (ex : PySem.W.Frag → List Bool) (fn : List DefL) (K : PySem.W.Frag) : AlL := (allB (ex K), fn.map fun d => d.got K)
structure SaysL (ex : PySem.W.Frag → List Bool) (fn : List DefL) (K : PySem.W.Frag) : Prop where
  all : allB (ex K) = true
  defs : ∀ (i : Nat) (d : DefL), fn[i]? = some d → d.got K = d.val
theorem saysL_of {ex : PySem.W.Frag → List Bool} {fn : List DefL} {K : PySem.W.Frag} (e : seeHL ex fn K = (true, fn.map DefL.val)) : SaysL ex fn K := by
  refine ⟨congrArg Prod.fst e, fun i d h => ?_⟩
  have e2 : fn.map (fun d => d.got K) = fn.map DefL.val := congrArg Prod.snd e
  have e3 : (fn.map fun d => d.got K)[i]? = (fn.map DefL.val)[i]? := by rw [e2]
  rw [List.getElem?_map, List.getElem?_map, h] at e3
  exact Option.some.inj e3
def watchL (xs : List Str) (ex : PySem.W.Frag → List Bool) (fn : List DefL) (g : Addr → Option Obj) : AlL := addrL g xs fun as => seeHL ex fn (He.frG g as)
def hookL (xs : List Str) (ex : PySem.W.Frag → List Bool) (fn : List DefL) : PySem.W.Hook where
  α := AlL
  obs := fun s => watchL xs ex fn s.heap.get?
  val := fun _ => (true, fn.map DefL.val)
  says := fun _ h => ∃ K : PySem.W.Frag, K.In h ∧ SaysL ex fn K
  of := fun _ _ e => by
    unfold watchL addrL at e
    simp only [forceL_eq] at e
    exact ⟨_, He.frG_in, saysL_of e⟩
  keeps := fun _ _ _ ⟨K, hK, c⟩ k => ⟨K, PySem.W.Frag.In.keeps hK k, c⟩
theorem watchL_eq {xs : List Str} {ex : PySem.W.Frag → List Bool} {fn : List DefL} {g : Addr → Option Obj} {s : Shared} (h : ∀ a, g a = s.heap.get? a) : watchL xs ex fn g = (hookL xs ex fn).obs s := by
  have e : g = s.heap.get? := funext h
  rw [e]
  rfl
end DL

namespace DL
open PySem PySem.Spec PyProof.Rows L2
def top (i : Nat) : Stmt := PySem.Challenge.pw_widestgap_k35_whole_best_distances.main.body.getD i (.Pass ⟨0, 0, 0, 0⟩)
def topM (i j : Nat) : Stmt := match top i with
  | .ClassDef _ _ _ body _ _ _ _ _ _ _ => body.getD j (.Pass ⟨0, 0, 0, 0⟩)
  | _ => .Pass ⟨0, 0, 0, 0⟩
def exL0 (K : PySem.W.Frag) : List Bool := [
  He.eqO (PySem.W.nsIn K mainGlobals "is_integer") (some (some (.ref (cAt K "is_integer")))),
  codB K (cAt K "is_integer") "is_integer",
  PySem.W.keepIn K (.ref (cAt K "is_integer")),
  He.eqO (PySem.W.nsIn K mainGlobals "gaps") (some (some (.ref (cAt K "gaps")))),
  codB K (cAt K "gaps") "gaps",
  PySem.W.keepIn K (.ref (cAt K "gaps")),
  He.eqO (PySem.W.nsIn K mainGlobals "is_number") (some (some (.ref (cAt K "is_number")))),
  codB K (cAt K "is_number") "is_number",
  PySem.W.keepIn K (.ref (cAt K "is_number")),
  He.eqO (PySem.W.nsIn K mainGlobals "free_seats_orders") (some (some (.ref (cAt K "free_seats_orders")))),
  codB K (cAt K "free_seats_orders") "free_seats",
  PySem.W.keepIn K (.ref (cAt K "free_seats_orders")),
  He.eqO (PySem.W.nsIn K mainGlobals "require_free") (some (some (.ref (cAt K "require_free")))),
  codB K (cAt K "require_free") "require_free",
  PySem.W.keepIn K (.ref (cAt K "require_free")),
  He.eqO (PySem.W.nsIn K mainGlobals "middle") (some (some (.ref (cAt K "middle")))),
  codB K (cAt K "middle") "middle",
  PySem.W.keepIn K (.ref (cAt K "middle")),
  He.eqO (PySem.W.nsIn K mainGlobals "left_part") (some (some (.ref (cAt K "left_part")))),
  codB K (cAt K "left_part") "left_part"]
def exL1 (K : PySem.W.Frag) : List Bool := [
  PySem.W.keepIn K (.ref (cAt K "left_part")),
  He.eqO (PySem.W.nsIn K mainGlobals "right_part") (some (some (.ref (cAt K "right_part")))),
  codB K (cAt K "right_part") "right_part",
  PySem.W.keepIn K (.ref (cAt K "right_part")),
  He.eqO (PySem.W.nsIn K mainGlobals "number_within") (some (some (.ref (cAt K "number_within")))),
  codB K (cAt K "number_within") "number_within",
  PySem.W.keepIn K (.ref (cAt K "number_within")),
  He.eqO (PySem.W.nsIn K mainGlobals "widths_within") (some (some (.ref (cAt K "widths_within")))),
  codB K (cAt K "widths_within") "widths_within",
  PySem.W.keepIn K (.ref (cAt K "widths_within")),
  He.eqO (PySem.W.nsIn K mainGlobals "all_widths") (some (some (.ref (cAt K "all_widths")))),
  codB K (cAt K "all_widths") "all_widths",
  PySem.W.keepIn K (.ref (cAt K "all_widths")),
  He.eqO (PySem.W.nsIn K mainGlobals "later_widths") (some (some (.ref (cAt K "later_widths")))),
  codB K (cAt K "later_widths") "later_widths",
  PySem.W.keepIn K (.ref (cAt K "later_widths")),
  He.eqO (PySem.W.nsIn K mainGlobals "path_to") (some (some (.ref (cAt K "path_to")))),
  codB K (cAt K "path_to") "path_to",
  PySem.W.keepIn K (.ref (cAt K "path_to")),
  He.eqO (PySem.W.nsIn K mainGlobals "gap_of") (some (some (.ref (cAt K "gap_of"))))]
def exL2 (K : PySem.W.Frag) : List Bool := [
  codB K (cAt K "gap_of") "gap_of",
  PySem.W.keepIn K (.ref (cAt K "gap_of")),
  He.eqO (PySem.W.nsIn K mainGlobals "gap_with_rank") (some (some (.ref (cAt K "gap_with_rank")))),
  codB K (cAt K "gap_with_rank") "gap_with_rank",
  PySem.W.keepIn K (.ref (cAt K "gap_with_rank")),
  He.eqO (PySem.W.nsIn K mainGlobals "gap_at") (some (some (.ref (cAt K "gap_at")))),
  codB K (cAt K "gap_at") "gap_at",
  PySem.W.keepIn K (.ref (cAt K "gap_at")),
  He.eqO (PySem.W.nsIn K mainGlobals "seat_of") (some (some (.ref (cAt K "seat_of")))),
  codB K (cAt K "seat_of") "seat_of",
  PySem.W.keepIn K (.ref (cAt K "seat_of")),
  He.eqO (PySem.W.nsIn K mainGlobals "free_seats_distances") (some (some (.ref (cAt K "free_seats_distances")))),
  codB K (cAt K "free_seats_distances") "free_seats",
  PySem.W.keepIn K (.ref (cAt K "free_seats_distances")),
  He.eqO (PySem.W.nsIn K mainGlobals "distance_of_width") (some (some (.ref (cAt K "distance_of_width")))),
  codB K (cAt K "distance_of_width") "distance_of_width",
  PySem.W.keepIn K (.ref (cAt K "distance_of_width")),
  He.eqO (PySem.W.nsIn K mainGlobals "check_count") (some (some (.ref (cAt K "check_count")))),
  codB K (cAt K "check_count") "check_count",
  PySem.W.keepIn K (.ref (cAt K "check_count"))]
def exL3 (K : PySem.W.Frag) : List Bool := [
  He.eqO (PySem.W.nsIn K mainGlobals "distance_at") (some (some (.ref (cAt K "distance_at")))),
  codB K (cAt K "distance_at") "distance_at",
  PySem.W.keepIn K (.ref (cAt K "distance_at")),
  He.eqO (PySem.W.nsIn K mainGlobals "width_of") (some (some (.ref (cAt K "width_of")))),
  codB K (cAt K "width_of") "width_of",
  PySem.W.keepIn K (.ref (cAt K "width_of")),
  He.eqO (PySem.W.nsIn K mainGlobals "distances_of") (some (some (.ref (cAt K "distances_of")))),
  codB K (cAt K "distances_of") "distances_of",
  PySem.W.keepIn K (.ref (cAt K "distances_of")),
  He.eqO (PySem.W.nsIn K mainGlobals "most_in_gaps") (some (some (.ref (cAt K "most_in_gaps")))),
  codB K (cAt K "most_in_gaps") "most_in_gaps",
  PySem.W.keepIn K (.ref (cAt K "most_in_gaps")),
  He.eqO (PySem.W.nsIn K mainGlobals "best_distance") (some (some (.ref (cAt K "best_distance")))),
  codB K (cAt K "best_distance") "best_distance",
  PySem.W.keepIn K (.ref (cAt K "best_distance")),
  He.eqO (PySem.W.nsIn K mainGlobals "best_certificate") (some (some (.ref (cAt K "best_certificate")))),
  codB K (cAt K "best_certificate") "best_certificate",
  PySem.W.keepIn K (.ref (cAt K "best_certificate")),
  He.eqO (PySem.W.nsIn K mainGlobals "best_holds") (some (some (.ref (cAt K "best_holds")))),
  codB K (cAt K "best_holds") "best_holds"]
def exL4 (K : PySem.W.Frag) : List Bool := [
  PySem.W.keepIn K (.ref (cAt K "best_holds")),
  He.eqO (PySem.W.nsIn K mainGlobals "spread") (some (some (.ref (cAt K "spread")))),
  codB K (cAt K "spread") "spread",
  PySem.W.keepIn K (.ref (cAt K "spread")),
  He.eqO (PySem.W.nsIn K mainGlobals "_law_shuffled_script") (some (some (.ref (cAt K "_law_shuffled_script")))),
  codB K (cAt K "_law_shuffled_script") "_law_shuffled_script",
  PySem.W.keepIn K (.ref (cAt K "_law_shuffled_script")),
  He.eqO (PySem.W.nsIn K mainGlobals "_law_pull") (some (some (.ref (cAt K "_law_pull")))),
  codB K (cAt K "_law_pull") "_law_pull",
  PySem.W.keepIn K (.ref (cAt K "_law_pull")),
  He.eqO (PySem.W.nsIn K mainGlobals "_law_far_row") (some (some (.ref (cAt K "_law_far_row")))),
  codB K (cAt K "_law_far_row") "_law_far_row",
  PySem.W.keepIn K (.ref (cAt K "_law_far_row")),
  He.eqO (PySem.W.nsIn K mainGlobals "_law_free") (some (some (.ref (cAt K "_law_free")))),
  codB K (cAt K "_law_free") "_law_free",
  PySem.W.keepIn K (.ref (cAt K "_law_free")),
  He.eqO (PySem.W.nsIn K mainGlobals "_law_bounds_right") (some (some (.ref (cAt K "_law_bounds_right")))),
  codB K (cAt K "_law_bounds_right") "_law_bounds_right",
  PySem.W.keepIn K (.ref (cAt K "_law_bounds_right")),
  He.eqO (PySem.W.nsIn K mainGlobals "_law_spread_right") (some (some (.ref (cAt K "_law_spread_right"))))]
def exL5 (K : PySem.W.Frag) : List Bool := [
  codB K (cAt K "_law_spread_right") "_law_spread_right",
  PySem.W.keepIn K (.ref (cAt K "_law_spread_right")),
  He.eqO (PySem.W.nsIn K mainGlobals "law") (some (some (.ref (cAt K "law")))),
  codB K (cAt K "law") "law",
  PySem.W.keepIn K (.ref (cAt K "law")),
  He.eqO (PySem.W.nsIn K mainGlobals "abs") (some none),
  He.eqO (PySem.W.nsIn K mainGlobals "all") (some none),
  He.eqO (PySem.W.nsIn K mainGlobals "bool") (some none),
  He.eqO (PySem.W.nsIn K mainGlobals "int") (some none),
  He.eqO (PySem.W.nsIn K mainGlobals "isinstance") (some none),
  He.eqO (PySem.W.nsIn K mainGlobals "len") (some none),
  He.eqO (PySem.W.nsIn K mainGlobals "list") (some none),
  He.eqO (PySem.W.nsIn K mainGlobals "max") (some none),
  He.eqO (PySem.W.nsIn K mainGlobals "min") (some none),
  He.eqO (PySem.W.nsIn K mainGlobals "range") (some none),
  He.eqO (PySem.W.nsIn K mainGlobals "set") (some none),
  He.eqO (PySem.W.nsIn K mainGlobals "sorted") (some none),
  He.eqO (PySem.W.nsIn K mainGlobals "sum") (some none),
  He.eqO (PySem.W.nsIn K mainGlobals "tuple") (some none),
  He.eqO (PySem.W.nsIn K mainGlobals "zip") (some none)]
def exL6 (K : PySem.W.Frag) : List Bool := [
  intB (PySem.W.nsIn K mainGlobals "LISTED") 2000,
  He.eqO (PySem.W.nsIn K mainGlobals "NoCount") (some (some (.ref (cAt K "NoCount")))),
  He.eqO (PySem.W.nsIn K mainGlobals "NoIndex") (some (some (.ref (cAt K "NoIndex")))),
  He.eqO (PySem.W.nsIn K mainGlobals "NoSeat") (some (some (.ref (cAt K "NoSeat")))),
  He.eqO (PySem.W.nsIn K mainGlobals "Taken") (some (some (.ref (cAt K "Taken")))),
  excB K (cAt K "NoCount"),
  He.eqO (PySem.W.findIn K (.ref (cAt K "NoCount")) "__setattr__") (some (some (.builtin "object.__setattr__"))),
  He.eqO (PySem.W.findIn K (.ref (cAt K "NoCount")) "value") (some none),
  He.eqO (PySem.W.findIn K (.ref (cAt K "NoCount")) "__init__") (some (some (.ref (He.ma K (cAt K "NoCount") "__init__")))),
  decide (PySem.W.typeIn K (.ref (He.ma K (cAt K "NoCount") "__init__")) = some (.type "function")),
  kvN K (He.ma K (cAt K "NoCount") "__init__"),
  codB K (He.ma K (cAt K "NoCount") "__init__") "NoCount.__init__",
  PySem.W.keepIn K (.ref (cAt K "NoCount")),
  decide (PySem.W.subIn K (.ref (cAt K "NoCount")) (.type "BaseException") = some true),
  decide (PySem.W.typeIn K (.ref (cAt K "NoCount")) = some (.type "type")),
  excB K (cAt K "NoIndex"),
  He.eqO (PySem.W.findIn K (.ref (cAt K "NoIndex")) "__setattr__") (some (some (.builtin "object.__setattr__"))),
  He.eqO (PySem.W.findIn K (.ref (cAt K "NoIndex")) "index") (some none),
  He.eqO (PySem.W.findIn K (.ref (cAt K "NoIndex")) "__init__") (some (some (.ref (He.ma K (cAt K "NoIndex") "__init__")))),
  decide (PySem.W.typeIn K (.ref (He.ma K (cAt K "NoIndex") "__init__")) = some (.type "function"))]
def exL7 (K : PySem.W.Frag) : List Bool := [
  kvN K (He.ma K (cAt K "NoIndex") "__init__"),
  codB K (He.ma K (cAt K "NoIndex") "__init__") "NoIndex.__init__",
  PySem.W.keepIn K (.ref (cAt K "NoIndex")),
  decide (PySem.W.subIn K (.ref (cAt K "NoIndex")) (.type "BaseException") = some true),
  decide (PySem.W.typeIn K (.ref (cAt K "NoIndex")) = some (.type "type")),
  excB K (cAt K "NoSeat"),
  He.eqO (PySem.W.findIn K (.ref (cAt K "NoSeat")) "__setattr__") (some (some (.builtin "object.__setattr__"))),
  He.eqO (PySem.W.findIn K (.ref (cAt K "NoSeat")) "value") (some none),
  He.eqO (PySem.W.findIn K (.ref (cAt K "NoSeat")) "__init__") (some (some (.ref (He.ma K (cAt K "NoSeat") "__init__")))),
  decide (PySem.W.typeIn K (.ref (He.ma K (cAt K "NoSeat") "__init__")) = some (.type "function")),
  kvN K (He.ma K (cAt K "NoSeat") "__init__"),
  codB K (He.ma K (cAt K "NoSeat") "__init__") "NoSeat.__init__",
  PySem.W.keepIn K (.ref (cAt K "NoSeat")),
  decide (PySem.W.subIn K (.ref (cAt K "NoSeat")) (.type "BaseException") = some true),
  decide (PySem.W.typeIn K (.ref (cAt K "NoSeat")) = some (.type "type")),
  excB K (cAt K "Taken"),
  He.eqO (PySem.W.findIn K (.ref (cAt K "Taken")) "__setattr__") (some (some (.builtin "object.__setattr__"))),
  He.eqO (PySem.W.findIn K (.ref (cAt K "Taken")) "seat") (some none),
  He.eqO (PySem.W.findIn K (.ref (cAt K "Taken")) "__init__") (some (some (.ref (He.ma K (cAt K "Taken") "__init__")))),
  decide (PySem.W.typeIn K (.ref (He.ma K (cAt K "Taken") "__init__")) = some (.type "function"))]
def exL8 (K : PySem.W.Frag) : List Bool := [
  kvN K (He.ma K (cAt K "Taken") "__init__"),
  codB K (He.ma K (cAt K "Taken") "__init__") "Taken.__init__",
  PySem.W.keepIn K (.ref (cAt K "Taken")),
  decide (PySem.W.subIn K (.ref (cAt K "Taken")) (.type "BaseException") = some true),
  decide (PySem.W.typeIn K (.ref (cAt K "Taken")) = some (.type "type"))]
def exL (K : PySem.W.Frag) : List Bool := [allB (exL0 K), allB (exL1 K), allB (exL2 K), allB (exL3 K), allB (exL4 K), allB (exL5 K), allB (exL6 K), allB (exL7 K), allB (exL8 K)]
abbrev fnD0 : DefL := ⟨fun K => (cAt K "is_integer"), "is_integer", "is_integer", top 9, []⟩
abbrev fnD1 : DefL := ⟨fun K => (cAt K "gaps"), "gaps", "gaps", top 10, []⟩
abbrev fnD2 : DefL := ⟨fun K => (cAt K "is_number"), "is_number", "is_number", top 12, []⟩
abbrev fnD3 : DefL := ⟨fun K => (cAt K "free_seats_orders"), "free_seats", "free_seats", top 13, []⟩
abbrev fnD4 : DefL := ⟨fun K => (cAt K "require_free"), "require_free", "require_free", top 15, []⟩
abbrev fnD5 : DefL := ⟨fun K => (cAt K "middle"), "middle", "middle", top 16, []⟩
abbrev fnD6 : DefL := ⟨fun K => (cAt K "left_part"), "left_part", "left_part", top 17, []⟩
abbrev fnD7 : DefL := ⟨fun K => (cAt K "right_part"), "right_part", "right_part", top 18, []⟩
abbrev fnD8 : DefL := ⟨fun K => (cAt K "number_within"), "number_within", "number_within", top 19, []⟩
abbrev fnD9 : DefL := ⟨fun K => (cAt K "widths_within"), "widths_within", "widths_within", top 20, []⟩
abbrev fnD10 : DefL := ⟨fun K => (cAt K "all_widths"), "all_widths", "all_widths", top 21, []⟩
abbrev fnD11 : DefL := ⟨fun K => (cAt K "later_widths"), "later_widths", "later_widths", top 22, []⟩
abbrev fnD12 : DefL := ⟨fun K => (cAt K "path_to"), "path_to", "path_to", top 23, []⟩
abbrev fnD13 : DefL := ⟨fun K => (cAt K "gap_of"), "gap_of", "gap_of", top 24, []⟩
abbrev fnD14 : DefL := ⟨fun K => (cAt K "gap_with_rank"), "gap_with_rank", "gap_with_rank", top 25, []⟩
abbrev fnD15 : DefL := ⟨fun K => (cAt K "gap_at"), "gap_at", "gap_at", top 26, []⟩
abbrev fnD16 : DefL := ⟨fun K => (cAt K "seat_of"), "seat_of", "seat_of", top 27, []⟩
abbrev fnD17 : DefL := ⟨fun K => (cAt K "free_seats_distances"), "free_seats", "free_seats", top 29, []⟩
abbrev fnD18 : DefL := ⟨fun K => (cAt K "distance_of_width"), "distance_of_width", "distance_of_width", top 31, []⟩
abbrev fnD19 : DefL := ⟨fun K => (cAt K "check_count"), "check_count", "check_count", top 32, []⟩
abbrev fnD20 : DefL := ⟨fun K => (cAt K "distance_at"), "distance_at", "distance_at", top 33, []⟩
abbrev fnD21 : DefL := ⟨fun K => (cAt K "width_of"), "width_of", "width_of", top 34, []⟩
abbrev fnD22 : DefL := ⟨fun K => (cAt K "distances_of"), "distances_of", "distances_of", top 35, []⟩
abbrev fnD23 : DefL := ⟨fun K => (cAt K "most_in_gaps"), "most_in_gaps", "most_in_gaps", top 36, []⟩
abbrev fnD24 : DefL := ⟨fun K => (cAt K "best_distance"), "best_distance", "best_distance", top 37, []⟩
abbrev fnD25 : DefL := ⟨fun K => (cAt K "best_certificate"), "best_certificate", "best_certificate", top 38, []⟩
abbrev fnD26 : DefL := ⟨fun K => (cAt K "best_holds"), "best_holds", "best_holds", top 39, []⟩
abbrev fnD27 : DefL := ⟨fun K => (cAt K "spread"), "spread", "spread", top 40, []⟩
abbrev fnD28 : DefL := ⟨fun K => (cAt K "_law_shuffled_script"), "_law_shuffled_script", "_law_shuffled_script", top 42, []⟩
abbrev fnD29 : DefL := ⟨fun K => (cAt K "_law_pull"), "_law_pull", "_law_pull", top 43, []⟩
abbrev fnD30 : DefL := ⟨fun K => (cAt K "_law_far_row"), "_law_far_row", "_law_far_row", top 44, []⟩
abbrev fnD31 : DefL := ⟨fun K => (cAt K "_law_free"), "_law_free", "_law_free", top 45, []⟩
abbrev fnD32 : DefL := ⟨fun K => (cAt K "_law_bounds_right"), "_law_bounds_right", "_law_bounds_right", top 46, []⟩
abbrev fnD33 : DefL := ⟨fun K => (cAt K "_law_spread_right"), "_law_spread_right", "_law_spread_right", top 47, []⟩
abbrev fnD34 : DefL := ⟨fun K => (cAt K "law"), "law", "law", top 48, []⟩
abbrev fnD35 : DefL := ⟨fun K => He.ma K (cAt K "NoCount") "__init__", "__init__", "NoCount.__init__", topM 7 0, []⟩
abbrev fnD36 : DefL := ⟨fun K => He.ma K (cAt K "NoIndex") "__init__", "__init__", "NoIndex.__init__", topM 6 0, []⟩
abbrev fnD37 : DefL := ⟨fun K => He.ma K (cAt K "NoSeat") "__init__", "__init__", "NoSeat.__init__", topM 3 0, []⟩
abbrev fnD38 : DefL := ⟨fun K => He.ma K (cAt K "Taken") "__init__", "__init__", "Taken.__init__", topM 4 0, []⟩
theorem ini_NoCount : ∃ pa pb qa qb qc qd, defArgs (topM 7 0) = iA "value" pa pb ∧ defBody (topM 7 0) = iB "value" qa qb qc qd ∧ defScope (topM 7 0) = iS "value" := ⟨_, _, _, _, _, _, rfl, rfl, rfl⟩
theorem ini_NoIndex : ∃ pa pb qa qb qc qd, defArgs (topM 6 0) = iA "index" pa pb ∧ defBody (topM 6 0) = iB "index" qa qb qc qd ∧ defScope (topM 6 0) = iS "index" := ⟨_, _, _, _, _, _, rfl, rfl, rfl⟩
theorem ini_NoSeat : ∃ pa pb qa qb qc qd, defArgs (topM 3 0) = iA "value" pa pb ∧ defBody (topM 3 0) = iB "value" qa qb qc qd ∧ defScope (topM 3 0) = iS "value" := ⟨_, _, _, _, _, _, rfl, rfl, rfl⟩
theorem ini_Taken : ∃ pa pb qa qb qc qd, defArgs (topM 4 0) = iA "seat" pa pb ∧ defBody (topM 4 0) = iB "seat" qa qb qc qd ∧ defScope (topM 4 0) = iS "seat" := ⟨_, _, _, _, _, _, rfl, rfl, rfl⟩
def fnL : List DefL := [fnD0, fnD1, fnD2, fnD3, fnD4, fnD5, fnD6, fnD7, fnD8, fnD9, fnD10, fnD11, fnD12, fnD13, fnD14, fnD15, fnD16, fnD17, fnD18, fnD19, fnD20, fnD21, fnD22, fnD23, fnD24, fnD25, fnD26, fnD27, fnD28, fnD29, fnD30, fnD31, fnD32, fnD33, fnD34, fnD35, fnD36, fnD37, fnD38]
def looseL0 : List PySem.Str := [("LISTED" : PySem.Str), ("__name__" : PySem.Str), ("SeatError" : PySem.Str), ("NoSeat" : PySem.Str), ("Taken" : PySem.Str), ("TooMany" : PySem.Str), ("NoIndex" : PySem.Str), ("NoCount" : PySem.Str), ("is_integer" : PySem.Str), ("gaps" : PySem.Str), ("is_number" : PySem.Str), ("free_seats" : PySem.Str), ("free_seats_orders" : PySem.Str), ("require_free" : PySem.Str), ("middle" : PySem.Str)]
def looseL1 : List PySem.Str := [("left_part" : PySem.Str), ("right_part" : PySem.Str), ("number_within" : PySem.Str), ("widths_within" : PySem.Str), ("all_widths" : PySem.Str), ("later_widths" : PySem.Str), ("path_to" : PySem.Str), ("gap_of" : PySem.Str), ("gap_with_rank" : PySem.Str), ("gap_at" : PySem.Str), ("seat_of" : PySem.Str), ("free_seats_distances" : PySem.Str), ("distance_of_width" : PySem.Str), ("check_count" : PySem.Str), ("distance_at" : PySem.Str)]
def looseL2 : List PySem.Str := [("width_of" : PySem.Str), ("distances_of" : PySem.Str), ("most_in_gaps" : PySem.Str), ("best_distance" : PySem.Str), ("best_certificate" : PySem.Str), ("best_holds" : PySem.Str), ("spread" : PySem.Str), ("_law_shuffled_script" : PySem.Str), ("_law_pull" : PySem.Str), ("_law_far_row" : PySem.Str), ("_law_free" : PySem.Str), ("_law_bounds_right" : PySem.Str), ("_law_spread_right" : PySem.Str)]
def looseL : List PySem.Str := looseL0 ++ (looseL1 ++ (looseL2))
def gloL0 : List PySem.Str := [("is_integer" : PySem.Str), ("gaps" : PySem.Str), ("is_number" : PySem.Str), ("free_seats_orders" : PySem.Str), ("require_free" : PySem.Str), ("middle" : PySem.Str), ("left_part" : PySem.Str), ("right_part" : PySem.Str), ("number_within" : PySem.Str), ("widths_within" : PySem.Str), ("all_widths" : PySem.Str), ("later_widths" : PySem.Str), ("path_to" : PySem.Str), ("gap_of" : PySem.Str), ("gap_with_rank" : PySem.Str)]
def gloL1 : List PySem.Str := [("gap_at" : PySem.Str), ("seat_of" : PySem.Str), ("free_seats_distances" : PySem.Str), ("distance_of_width" : PySem.Str), ("check_count" : PySem.Str), ("distance_at" : PySem.Str), ("width_of" : PySem.Str), ("distances_of" : PySem.Str), ("most_in_gaps" : PySem.Str), ("best_distance" : PySem.Str), ("best_certificate" : PySem.Str), ("best_holds" : PySem.Str), ("spread" : PySem.Str), ("_law_shuffled_script" : PySem.Str), ("_law_pull" : PySem.Str)]
def gloL2 : List PySem.Str := [("_law_far_row" : PySem.Str), ("_law_free" : PySem.Str), ("_law_bounds_right" : PySem.Str), ("_law_spread_right" : PySem.Str), ("law" : PySem.Str), ("NoCount" : PySem.Str), ("NoIndex" : PySem.Str), ("NoSeat" : PySem.Str), ("Taken" : PySem.Str)]
def gloL : List PySem.Str := gloL0 ++ (gloL1 ++ (gloL2))
abbrev rowL : PySem.W.OpenRow := PySem.W.OpenLaw.row PySem.Challenge.rw_widestgap_k35_whole_best_distances
abbrev hkL : PySem.W.Hook := hookL gloL exL fnL
def obL (s : PySem.W.SharedT) : AlL := watchL gloL exL fnL (HandSHeadRun.getT s)
theorem obL_eq (s : PySem.W.SharedT) : obL s = hkL.obs s.abs := watchL_eq (HandSHeadRun.getT_eq s)
theorem runL (w : World) : HandSHeadRun.RunEq rowL (PySem.W.view rowL.prog [48]) hkL obL 30000 looseL w := by
  intro os
  kernel_rfl
end DL

namespace DL
open PySem PySem.Spec PyProof.Rows L2
abbrev rowD (s : Int) (ts : List Int) : D := .tup [.int s, .tup (ts.map D.int)]
abbrev gapD (g : Int × Int) : D := .tup [.int g.1, .int g.2]
def gapsF : Int → List Int → List (Int × Int)
  | _, [] => []
  | b, x :: xs => if b < x then (b, x - b) :: gapsF (x + 1) xs else gapsF (x + 1) xs
structure RowOk (s : Int) (ts : List Int) : Prop where
  one : 1 ≤ s
  up : ts.Pairwise (· < ·)
  lim : ∀ t ∈ ts, 0 ≤ t ∧ t < s
theorem row_inj {s s' : Int} {ts ts' : List Int} (h : rowD s ts = rowD s' ts') : s = s' ∧ ts = ts' := by
  simp only [rowD, D.tup.injEq, List.cons.injEq, D.int.injEq, and_true] at h
  exact ⟨h.1, map_int_inj h.2⟩
theorem gapsF_le : ∀ (xs : List Int) (b : Int), (gapsF b xs).length ≤ xs.length
  | [], _ => Nat.le_refl _
  | x :: xs, b => by
    have := gapsF_le xs (x + 1)
    unfold gapsF
    split <;> simp <;> omega
abbrev gapLD (g : Int × Int) : D := .lst [.int g.1, .int g.2]
theorem okNL_gaps {k : Nat} {xs : List (Int × Int)} : okNL (k + 1) (xs.map gapD) = true := okNL_map fun x _ => by simp [okN, okNL]
theorem okNL_gapsL {k : Nat} {xs : List (Int × Int)} : okNL (k + 1) (xs.map gapLD) = true := okNL_map fun x _ => by simp [okN, okNL]
theorem eqvL_snoc {a : List D} {x : D} : eqvL (a ++ [x]) [] = false := by
  cases a <;> simp [eqvL_cn]
theorem eqvL_self {a : List D} (h : okNL 49 a = true) : eqvL a a = true := by
  have := eqv_self (d := .lst a) (by simpa [okN] using h)
  rwa [eqv_lst] at this
theorem eqvL_gaps {xs ys : List (Int × Int)} : eqvL (xs.map gapD) (ys.map gapD) = (xs == ys) := eqvL_map fun x _ y _ => by
  simp only [gapD, eqv_tup, eqvL_cc, eqvL_nil, eqv_int, Bool.and_true]
  rfl
theorem gapsF_pos : ∀ (xs : List Int) (b : Int), ∀ g ∈ gapsF b xs, 0 < g.2
  | [], _, _, h => by cases h
  | x :: xs, b, g, h => by
    unfold gapsF at h
    split at h
    · rcases List.mem_cons.mp h with rfl | h
      · show 0 < x - b
        omega
      · exact gapsF_pos xs (x + 1) g h
    · exact gapsF_pos xs (x + 1) g h
theorem gapsF_ge : ∀ (xs : List Int) (b : Int), xs.Pairwise (· < ·) → (∀ x ∈ xs, b ≤ x) → ∀ g ∈ gapsF b xs, b ≤ g.1
  | [], _, _, _, _, h => by cases h
  | x :: xs, b, hp, hb, g, h => by
    obtain ⟨p1, p2⟩ := List.pairwise_cons.mp hp
    have hx := hb x List.mem_cons_self
    have ih := gapsF_ge xs (x + 1) p2 (fun y hy => by have := p1 y hy; omega)
    unfold gapsF at h
    split at h
    · rcases List.mem_cons.mp h with rfl | h
      · exact Int.le_refl _
      · have := ih g h
        omega
    · have := ih g h
      omega
theorem gapsF_end : ∀ (xs : List Int) (b : Int), ∀ g ∈ gapsF b xs, g.1 + g.2 ∈ xs
  | [], _, _, h => by cases h
  | x :: xs, b, g, h => by
    unfold gapsF at h
    split at h
    · rcases List.mem_cons.mp h with rfl | h
      · show b + (x - b) ∈ _
        rw [show b + (x - b) = x by omega]
        exact List.mem_cons_self
      · exact List.mem_cons_of_mem _ (gapsF_end xs (x + 1) g h)
    · exact List.mem_cons_of_mem _ (gapsF_end xs (x + 1) g h)
theorem row_up {s : Int} {ts : List Int} (R : RowOk s ts) : (ts ++ [s]).Pairwise (· < ·) ∧ ∀ x ∈ ts ++ [s], 0 ≤ x := by
  refine ⟨List.pairwise_append.mpr ⟨R.up, List.pairwise_singleton _ _, fun a ha b hb => ?_⟩, fun x hx => ?_⟩
  · rw [List.mem_singleton.mp hb]
    exact (R.lim a ha).2
  · rcases List.mem_append.mp hx with h | h
    · exact (R.lim x h).1
    · rw [List.mem_singleton.mp h]
      have := R.one
      omega
theorem gapsF_cons {b x : Int} {xs : List Int} : gapsF b (x :: xs) = if b < x then (b, x - b) :: gapsF (x + 1) xs else gapsF (x + 1) xs := rfl
structure Fresh (s : Int) (ts vs : List Int) : Prop where
  nd : vs.Nodup
  new : ∀ v ∈ vs, v ∉ ts
  lim : ∀ v ∈ vs, 0 ≤ v ∧ v < s
end DL

namespace DL
open PySem PySem.Spec PyProof.Rows L2
def zipD (xs ys : List D) : List D := List.zipWith (fun x y => D.tup [x, y]) xs ys
theorem zipD_get {xs ys : List D} {i : Nat} {d : D} (h : (zipD xs ys)[i]? = some d) : ∃ x y, xs[i]? = some x ∧ ys[i]? = some y ∧ d = .tup [x, y] := by
  unfold zipD at h
  rw [List.getElem?_zipWith] at h
  split at h
  · rename_i x y h1 h2
    exact ⟨x, y, h1, h2, (Option.some.inj h).symm⟩
  · cases h
theorem zipD_len {xs ys : List D} : (zipD xs ys).length = min xs.length ys.length := by simp [zipD]
section
variable {X : Cx} {W : WX} {tg e e2 : Expr} {da : DA} {p pos : Pos} {elts : List Expr} {kk : Nat} {tpos : Pos}
def diZ (a : DA) : DI := fun ρ μ Q X => a ρ μ (fun ds μ1 => match ds with
  | [.lst xs, .lst ys] => Q (zipD xs ys) μ1
  | [.tup xs, .tup ys] => Q (zipD xs ys) μ1
  | _ => False) X
def enumD (xs : List D) : List D := zipD ((List.range xs.length).map fun i : Nat => D.int (i : Int)) xs
def diE (a : DA) : DI := fun ρ μ Q X => a ρ μ (fun ds μ1 => match ds with
  | [.lst xs] => Q (enumD xs) μ1
  | _ => False) X
end
def zpP (ds : List D) (Q : List D → Prop) : Prop := match ds with
  | [.lst xs, .lst ys] => Q (zipD xs ys)
  | [.tup xs, .tup ys] => Q (zipD xs ys)
  | _ => False
section
variable {ρ : List Slot} {μ : Mu} {Q : List D → Mu → Prop} {X : DXQ} {a : DA} {xs ys : List D} {R : List D → Prop}
theorem u_diZ : diZ a ρ μ Q X = a ρ μ (fun ds μ1 => zpP ds fun l => Q l μ1) X := by
  unfold diZ zpP
  congr 1
theorem zpP_l : zpP [.lst xs, .lst ys] R = R (zipD xs ys) := rfl
theorem zpP_t : zpP [.tup xs, .tup ys] R = R (zipD xs ys) := rfl
def enP (ds : List D) (Q : List D → Prop) : Prop := match ds with
  | [.lst xs] => Q (enumD xs)
  | _ => False
theorem u_diE : diE a ρ μ Q X = a ρ μ (fun ds μ1 => enP ds fun l => Q l μ1) X := by
  unfold diE enP
  congr 1
theorem enP_l : enP [.lst xs] R = R (enumD xs) := rfl
end
end DL

namespace DL
open PySem PySem.Spec PyProof.Rows L2
section
variable {X : Cx} {W : WX} {a b : Expr} {da db : DE} {pos : Pos}
theorem op_isB : OpR X (compareOp .Is) (fun x y H Q => ∃ i j, x = .bl i ∧ y = .bl j ∧ Q (.bl (i == j)) H) := by
  intro pins s σ H x y v u Q I rx ry h
  obtain ⟨i, j, rfl, rfl, q⟩ := h
  cases rx
  cases ry
  exact is_bool (fin_bl I q rfl)
def dIsB : DR2 := fun x y Q => match x, y with
  | .bl i, .bl j => Q (.bl (i == j))
  | _, _ => False
def dNotB : DR2 := fun x y Q => match x, y with
  | .bl i, .bl j => Q (.bl (i != j))
  | _, _ => False
theorem sim_isB : SimR (fun x y H Q => ∃ i j, x = .bl i ∧ y = .bl j ∧ Q (.bl (i == j)) H) dIsB := fun {F μ H x y dx dy Qd Q} W zx zy q k => by
  unfold dIsB at q
  split at q
  · exact ⟨_, _, bz_bl zx, bz_bl zy, k _ F H _ .refl W fz_bl q⟩
  · exact q.elim
theorem d_isB (ha : PB X W a da) (hb : PB X W b db) : PD X W (.Compare a [.Is] [b] pos) (dOp dIsB da db) := d_cmp op_isB sim_isB ha hb (nomark _)
theorem isB_b {i j : Bool} {Q : D → Prop} : dIsB (.bl i) (.bl j) Q = Q (.bl (i == j)) := rfl
theorem notB_b {i j : Bool} {Q : D → Prop} : dNotB (.bl i) (.bl j) Q = Q (.bl (i != j)) := rfl
end
section
variable {X : Cx}
end
def isBl : D → Bool
  | .bl _ => true
  | _ => false
def cBl (k : Bool) : List D → Int
  | [] => 0
  | .bl b :: ds => (if b == k then 1 else 0) + cBl k ds
  | _ :: ds => cBl k ds
def cntP (ds : List D) (x : D) (Q : Int → Prop) : Prop := ∃ k, x = .bl k ∧ ds.all isBl = true ∧ Q (cBl k ds)
theorem cntP_l {ds : List D} {k : Bool} {Q : Int → Prop} (h : ds.all isBl = true) : cntP ds (.bl k) Q = Q (cBl k ds) :=
  propext ⟨fun ⟨_, e2, _, q⟩ => by cases e2; exact q, fun q => ⟨k, rfl, h, q⟩⟩
theorem cBl_n {k : Bool} : cBl k [] = 0 := rfl
theorem cBl_c {k b : Bool} {ds : List D} : cBl k (.bl b :: ds) = (if b == k then 1 else 0) + cBl k ds := rfl
theorem isBl_b {b : Bool} : isBl (.bl b) = true := rfl
def dCntB (o e : DE) : DE := fun ρ μ Q X => o ρ μ (fun d μ1 => liP d fun ds => e ρ μ1 (fun x μ2 => cntP ds x fun n => Q (.int n) μ2) X) X
section
variable {X : Cx} {W : WX} {o e : Expr} {de dx : DE} {apos cpos : Pos}
end
def ssP2 (ss : List Slot) (N : Slot → Slot → Prop) : Prop := match ss with
  | [s, t] => N s t
  | _ => False
theorem ssP2_2 {s t : Slot} {N : Slot → Slot → Prop} : ssP2 [s, t] N = N s t := rfl
def ssP3 (ss : List Slot) (N : Slot → Slot → Slot → Prop) : Prop := match ss with
  | [s, t, u] => N s t u
  | _ => False
theorem ssP3_3 {s t u : Slot} {N : Slot → Slot → Slot → Prop} : ssP3 [s, t, u] N = N s t u := rfl
theorem u_parS {i j : Nat} {a : DSl} {Dd : DEnds} {ρ : List Slot} {μ : Mu} : dParS i j a Dd ρ μ = a ρ μ (fun ss μ1 => ssP2 ss fun s t => Dd.nx ((ρ.set i s).set j t) μ1) (Dd.xc ρ) := rfl
theorem u_parS3 {i j l : Nat} {a : DSl} {Dd : DEnds} {ρ : List Slot} {μ : Mu} : dParS3 i j l a Dd ρ μ = a ρ μ (fun ss μ1 => ssP3 ss fun s t u => Dd.nx (((ρ.set i s).set j t).set l u) μ1) (Dd.xc ρ) := rfl
def DEnds.nxt (D : DEnds) (f : List Slot → Mu → Prop) : DEnds := { D with nx := f }
section
variable {D : DEnds} {f : List Slot → Mu → Prop} {ρ : List Slot} {μ : Mu} {a b : DS}
theorem u_seq : dSeq a b D ρ μ = a (D.nxt (b D)) ρ μ := rfl
theorem nxt_nx : (D.nxt f).nx = f := rfl
theorem nxt_rt : (D.nxt f).rt = D.rt := rfl
theorem nxt_xc : (D.nxt f).xc = D.xc := rfl
theorem nxt_bk : (D.nxt f).bk = D.bk := rfl
theorem nxt_ct : (D.nxt f).ct = D.ct := rfl
end
theorem seq_gen {a b : DS} {D : DEnds} {ρ : List Slot} {μ : Mu} (h : ∀ N : List Slot → Mu → Prop, (∀ ρ' μ', b D ρ' μ' → N ρ' μ') → a (D.nxt N) ρ μ) : dSeq a b D ρ μ := h _ fun _ _ h => h
theorem eqOk_cn {x : D} {xs : List D} : eqOk (.lst (x :: xs)) (.lst []) = True := eq_true (.inr (.inr ⟨_, _, rfl, rfl, by simp⟩))
theorem eqs_there : True := by
  have _ := @dAsg.eq_1
  have _ := @dgName.eq_1
  have _ := @dC.eq_1
  have _ := @dIfS.eq_1
  have _ := @dOrT.eq_1
  have _ := @dAndT.eq_1
  have _ := @dNotT.eq_1
  have _ := @dOp.eq_1
  have _ := @dCX.eq_1
  have _ := @dCntB.eq_1
  have _ := @dXF.eq_1
  have _ := @dRaise0.eq_1
  have _ := @dRaise1.eq_1
  have _ := @dTryAs.eq_1
  have _ := @dTryOnly.eq_1
  have _ := @dTup.eq_1
  have _ := @dLst.eq_1
  have _ := @dCons.eq_1
  have _ := @dNil.eq_1
  have _ := @slO.eq_1
  have _ := @slD.eq_1
  have _ := @slNil.eq_1
  have _ := @doLst.eq_1
  have _ := @dFor.eq_1
  have _ := @diScr.eq_1
  have _ := @dRet.eq_1
  have _ := @dRetN.eq_1
  have _ := @dNext.eq_1
  have _ := @dCB.eq_1
  have _ := @dCall.eq_1
  have _ := @dFl.eq_1
  have _ := @dSum.eq_1
  have _ := @dAll.eq_1
  have _ := @dAny.eq_1
  have _ := @dMaxL.eq_1
  have _ := @dMinL.eq_1
  have _ := @dDrop.eq_1
  have _ := @dLc.eq_1
  have _ := @dYes.eq_1
  have _ := @dEq.eq_1
  have _ := @dNe.eq_1
  have _ := @dObj.eq_1
  have _ := @dSetO.eq_1
  have _ := @dIf.eq_1
  have _ := @dChain.eq_1
  have _ := @dSliceS.eq_1
  have _ := @lNone.eq_1
  have _ := @dSortedS.eq_1
  have _ := @dSorted.eq_1
  have _ := @dBrk.eq_1
  have _ := @dCnt.eq_1
  have _ := @dDGet.eq_1
  have _ := @dHPut.eq_1
  have _ := @dObjD.eq_1
  have _ := @doDisp.eq_1
  have _ := @doEmp.eq_1
  have _ := @dFlD.eq_1
  have _ := @dRevL.eq_1
  have _ := @spStar.eq_1
  exact True.intro
end DL

namespace DL
open PySem PySem.Spec PyProof.Rows L2
def isLT : D → Option Bool
  | .non => some false
  | .bl _ => some false
  | .int _ => some false
  | .str _ => some false
  | .tup _ => some true
  | .lst _ => some true
  | .dic _ => some false
  | _ => none
def dIsiLT : DC := fun ds Q => match ds with
  | [x, .tup [.ty a, .ty c]] => a = "list" ∧ c = "tuple" ∧ ∃ b, isLT x = some b ∧ Q (.bl b)
  | _ => False
section
variable {X : Cx} {W : WX} {p pos : Pos} {e f : Expr} {a : DA}
end
section
variable {Q : D → Prop}
theorem lt_non : dIsiLT [.non, .tup [.ty "list", .ty "tuple"]] Q = Q (.bl false) := by simp [dIsiLT, isLT]
theorem lt_bl {b} : dIsiLT [.bl b, .tup [.ty "list", .ty "tuple"]] Q = Q (.bl false) := by simp [dIsiLT, isLT]
theorem lt_int {b} : dIsiLT [.int b, .tup [.ty "list", .ty "tuple"]] Q = Q (.bl false) := by simp [dIsiLT, isLT]
theorem lt_str {b} : dIsiLT [.str b, .tup [.ty "list", .ty "tuple"]] Q = Q (.bl false) := by simp [dIsiLT, isLT]
theorem lt_dic {b} : dIsiLT [.dic b, .tup [.ty "list", .ty "tuple"]] Q = Q (.bl false) := by simp [dIsiLT, isLT]
theorem lt_tup {b} : dIsiLT [.tup b, .tup [.ty "list", .ty "tuple"]] Q = Q (.bl true) := by simp [dIsiLT, isLT]
theorem lt_lst {b} : dIsiLT [.lst b, .tup [.ty "list", .ty "tuple"]] Q = Q (.bl true) := by simp [dIsiLT, isLT]
end
section
variable {X : Cx} {W : WX} {a b : Expr} {da db : DE} {pos : Pos}
end
mutual
def okS : Nat → D → Bool
  | 0, _ => false
  | _ + 1, .non => true
  | _ + 1, .bl _ => true
  | _ + 1, .int _ => true
  | _ + 1, .str _ => true
  | n + 1, .tup xs => decide (xs.length ≤ 50000) && okSL n xs
  | n + 1, .lst xs => decide (xs.length ≤ 50000) && okSL n xs
  | _ + 1, .dic ks => decide ((ks.map (·.1)).Nodup) && ks.all fun p => flatD p.2
  | _ + 1, .ty _ => false
  | _ + 1, .ins _ _ => false
  | _ + 1, .obj _ => false
  | _ + 1, .scr _ _ => false
  | _ + 1, .xcp _ _ _ _ => false
def okSL : Nat → List D → Bool
  | _, [] => true
  | n, x :: xs => okS n x && okSL n xs
end
mutual
theorem okS_up1 : ∀ {n : Nat} {d : D}, okS n d = true → okS (n + 1) d = true
  | 0, d, h => by simp [okS] at h
  | n + 1, .tup xs, h => by
    simp only [okS, Bool.and_eq_true] at h ⊢
    exact ⟨h.1, okSL_up1 h.2⟩
  | n + 1, .lst xs, h => by
    simp only [okS, Bool.and_eq_true] at h ⊢
    exact ⟨h.1, okSL_up1 h.2⟩
  | n + 1, .dic xs, h => by simpa [okS] using h
  | n + 1, .non, h => by simp [okS]
  | n + 1, .bl _, h => by simp [okS]
  | n + 1, .int _, h => by simp [okS]
  | n + 1, .str _, h => by simp [okS]
  | n + 1, .ty _, h => by simp [okS] at h
  | n + 1, .obj _, h => by simp [okS] at h
  | n + 1, .scr _ _, h => by simp [okS] at h
  | n + 1, .xcp _ _ _ _, h => by simp [okS] at h
  | n + 1, .ins _ _, h => by simp [okS] at h
theorem okSL_up1 : ∀ {n : Nat} {ds : List D}, okSL n ds = true → okSL (n + 1) ds = true
  | n, [], h => by simp [okSL]
  | n, x :: xs, h => by
    simp only [okSL, Bool.and_eq_true] at h ⊢
    exact ⟨okS_up1 h.1, okSL_up1 h.2⟩
end
theorem for_while {c : DT} {tb : DS} {Z : DEnds} (I : Nat → List Slot → Mu → Prop) (m : Nat) {ρ : List Slot} {μ : Mu} (h0 : I m ρ μ)
    (hs : ∀ m ρ μ (N : List Slot → Mu → Prop), I m ρ μ → (∀ m' ρ' μ', m' < m → I m' ρ' μ' → N ρ' μ') → c ρ μ (fun b μ1 => if b = true then tb { nx := N, ct := N, bk := Z.nx, rt := Z.rt, xc := Z.xc } ρ μ1 else Z.nx ρ μ1) (Z.xc ρ)) : dWhile c tb Z ρ μ :=
  ⟨I, ⟨m, h0⟩, fun m ρ μ h => hs m ρ μ _ h fun m' ρ' μ' h1 h2 => ⟨m', h1, h2⟩⟩
end DL

namespace DL
open PySem PySem.Spec PyProof.Rows L2
theorem gap_free : ∀ (xs : List Int) (b : Int), xs.Pairwise (· < ·) → (∀ x ∈ xs, b ≤ x) → ∀ g ∈ gapsF b xs, ∀ x ∈ xs, x < g.1 ∨ g.1 + g.2 ≤ x
  | [], b, _, _, g, hg, x, hx => by cases hx
  | y :: xs, b, hp, hb, g, hg, x, hx => by
    obtain ⟨h1, h2⟩ := List.pairwise_cons.mp hp
    have h3 : ∀ x ∈ xs, y + 1 ≤ x := fun x hx => by have := h1 x hx; omega
    rw [gapsF_cons] at hg
    have key : g ∈ gapsF (y + 1) xs → x < g.1 ∨ g.1 + g.2 ≤ x := fun hg => by
      rcases List.mem_cons.mp hx with rfl | hx
      · have := gapsF_ge xs (x + 1) h2 h3 g hg
        omega
      · exact gap_free xs (y + 1) h2 h3 g hg x hx
    split at hg
    · rcases List.mem_cons.mp hg with rfl | hg
      · rcases List.mem_cons.mp hx with rfl | hx
        · right
          show b + (x - b) ≤ x
          omega
        · have := h1 x hx
          right
          show b + (y - b) ≤ x
          omega
      · exact key hg
    · exact key hg
end DL

namespace DL
open PySem PySem.Spec PyProof.Rows L2
def capF (d w : Int) : Int := if 0 < (w + 1) / d - 1 then (w + 1) / d - 1 else 0
def capsF (s : Int) (ts : List Int) (d : Int) : List Int := (gapsF 0 (ts ++ [s])).map fun g => capF d g.2
def roomF (s : Int) (ts : List Int) (d : Int) : Int := (capsF s ts d).sum
theorem cap_nn {d w : Int} : 0 ≤ capF d w := by unfold capF; split <;> omega
theorem div_anti {d e n : Int} (h0 : 0 < d) (h : d ≤ e) (hn : 0 ≤ n) : n / e ≤ n / d := by
  have q0 : 0 ≤ n / e := Int.ediv_nonneg hn (by omega)
  have h1 : n / e * e ≤ n := Int.ediv_mul_le n (by omega)
  have h2 : n / e * d ≤ n / e * e := Int.mul_le_mul_of_nonneg_left h q0
  exact (Int.le_ediv_iff_mul_le h0).mpr (by omega)
theorem cap_anti {d e w : Int} (h0 : 0 < d) (h : d ≤ e) (hw : 0 ≤ w) : capF e w ≤ capF d w := by
  have := div_anti (n := w + 1) h0 h (by omega)
  unfold capF
  split <;> split <;> omega
theorem sum_map_le {α : Type} {f g : α → Int} : ∀ {l : List α}, (∀ x ∈ l, f x ≤ g x) → (l.map f).sum ≤ (l.map g).sum
  | [], _ => Int.le_refl _
  | x :: l, h => by
    have h1 := h x List.mem_cons_self
    have h2 := sum_map_le (f := f) (g := g) (l := l) fun y hy => h y (List.mem_cons_of_mem _ hy)
    simp only [List.map_cons, List.sum_cons]
    omega
theorem room_anti {s d e : Int} {ts : List Int} (h0 : 0 < d) (h : d ≤ e) : roomF s ts e ≤ roomF s ts d :=
  sum_map_le fun g hg => cap_anti h0 h (by have := gapsF_pos _ _ g hg; omega)
theorem cap_one {w : Int} (h : 0 < w) : capF 1 w = w := by
  unfold capF
  rw [Int.ediv_one, if_pos (by omega)]
  omega
theorem sum_gaps {s : Int} : ∀ (ts : List Int) (b : Int), (ts ++ [s]).Pairwise (· < ·) → (∀ x ∈ ts ++ [s], b ≤ x) → ((gapsF b (ts ++ [s])).map fun g => g.2).sum = s - b - ts.length
  | [], b, _, h => by
    have := h s (by simp)
    rw [List.nil_append, gapsF_cons]
    split
    · simp [gapsF]
    · simp [gapsF]
      omega
  | x :: ts, b, u, h => by
    have hx := h x (by simp)
    obtain ⟨u1, u2⟩ := List.pairwise_cons.mp u
    have ih := sum_gaps ts (x + 1) u2 fun y hy => u1 y hy
    rw [List.cons_append, gapsF_cons]
    split
    · rw [List.map_cons, List.sum_cons, ih]
      simp
      omega
    · rw [ih]
      simp
      omega
theorem room_one {s : Int} {ts : List Int} (R : RowOk s ts) : roomF s ts 1 = s - ts.length := by
  obtain ⟨u, p⟩ := row_up R
  have e := sum_gaps ts 0 u p
  have : capsF s ts 1 = (gapsF 0 (ts ++ [s])).map fun g => g.2 := List.map_congr_left fun g hg => cap_one (gapsF_pos _ _ g hg)
  unfold roomF
  rw [this, e]
  omega
theorem gap_le {s : Int} {ts : List Int} (R : RowOk s ts) {g : Int × Int} (hg : g ∈ gapsF 0 (ts ++ [s])) : 0 ≤ g.1 ∧ 0 < g.2 ∧ g.1 + g.2 ≤ s := by
  obtain ⟨u, p⟩ := row_up R
  have h1 := gapsF_ge _ _ u p g hg
  have h2 := gapsF_pos _ _ g hg
  have h3 := gapsF_end _ _ g hg
  refine ⟨h1, h2, ?_⟩
  rcases List.mem_append.mp h3 with h | h
  · have := (R.lim _ h).2
    omega
  · rw [List.mem_singleton.mp h]
    exact Int.le_refl _
theorem room_top {s d : Int} {ts : List Int} (R : RowOk s ts) (h : s < d) : roomF s ts d = 0 := by
  have s0 := R.one
  have : capsF s ts d = (gapsF 0 (ts ++ [s])).map fun _ => (0 : Int) := List.map_congr_left fun g hg => by
    obtain ⟨a, b, c⟩ := gap_le R hg
    have : (g.2 + 1) / d < 2 := (Int.ediv_lt_iff_lt_mul (by omega)).mpr (by omega)
    unfold capF
    rw [if_neg (by omega)]
  unfold roomF
  rw [this]
  generalize gapsF 0 (ts ++ [s]) = gs
  induction gs with
  | nil => rfl
  | cons g gs ih => rw [List.map_cons, List.sum_cons, ih]; rfl
structure IsBest (s : Int) (ts : List Int) (c d : Int) : Prop where
  lo : 1 ≤ d
  ok : c ≤ roomF s ts d
  no : roomF s ts (d + 1) < c
theorem IsBest.eq {s c d e : Int} {ts : List Int} (h : IsBest s ts c d) (g : IsBest s ts c e) : d = e := by
  have h1 : ¬ d < e := fun l => by
    have := room_anti (s := s) (ts := ts) (d := d + 1) (e := e) (by have := h.lo; omega) (by omega)
    have := g.ok
    have := h.no
    omega
  have h2 : ¬ e < d := fun l => by
    have := room_anti (s := s) (ts := ts) (d := e + 1) (e := d) (by have := g.lo; omega) (by omega)
    have := h.ok
    have := g.no
    omega
  omega
theorem IsBest.le {s c d : Int} {ts : List Int} (R : RowOk s ts) (h : IsBest s ts c d) (hc : 1 ≤ c) : d ≤ s := by
  by_cases l : d ≤ s
  · exact l
  · have := room_top (d := d) R (by omega)
    have := h.ok
    omega
theorem cap_le {d w : Int} (h : 0 < d) (hw : 0 ≤ w) : capF d w ≤ w := by
  have := cap_anti (d := 1) (e := d) (w := w) (by decide) (by omega) hw
  by_cases c : 0 < w
  · rw [cap_one c] at this
    exact this
  · have e : w = 0 := by omega
    subst e
    unfold capF at this ⊢
    simp at this ⊢
    split at this <;> omega
end DL

namespace DL
open PySem PySem.Spec PyProof.Rows L2
def itemsD (ks : List (Key × D)) : List D := ks.map fun p => .tup [keyD p.1, p.2]
theorem FzK.get {F : Hp} : ∀ {ks : List (Key × D)} {vs : List (Key × V)} {i : Nat} {k : Key} {d : D}, FzK F ks vs → ks[i]? = some (k, d) → ∃ v, vs[i]? = some (k, v) ∧ Fz F d v
  | [], _, i, k, d, h, e => by simp at e
  | (k', d') :: ks, _, 0, k, d, h, e => by
    obtain ⟨v, r, rfl, h1, h3⟩ := fzk_inv h
    simp at e
    obtain ⟨rfl, rfl⟩ := e
    exact ⟨v, by simp, h1⟩
  | (k', d') :: ks, _, i + 1, k, d, h, e => by
    obtain ⟨v, r, rfl, h1, h3⟩ := fzk_inv h
    obtain ⟨w, hw1, hw2⟩ := FzK.get (i := i) h3 (by simpa using e)
    exact ⟨w, by simpa using hw1, hw2⟩
theorem fz_keyD {F : Hp} (k : Key) : Fz F (keyD k) (kV k) := by
  cases k <;> (unfold keyD Fz; rfl)
theorem walk_itemsD {F : Hp} {a : Addr} {od : Obj} {kws : List (Key × V)} {ks : List (Key × D)} (h : F a = some (.frz od (.dK kws))) (z : FzK F ks kws) : DL.Walk (Iti a od kws) F (itemsD ks) := fun F2 μ2 H2 e W => by
  have hH := W.ext _ _ (e _ _ h)
  have hl : kws.length = ks.length := z.length
  have hi : (itemsD ks).length = ks.length := by unfold itemsD; rw [List.length_map]
  refine ⟨fun i hi' => ⟨hH, by omega⟩, fun i d x H3 hd hy => ?_, ⟨hH, by omega⟩⟩
  obtain ⟨T, k, v, hk, rfl, hT, rfl⟩ := hy
  unfold itemsD at hd
  rw [List.getElem?_map] at hd
  cases hki : ks[i]? with
  | none => rw [hki] at hd; cases hd
  | some p =>
    obtain ⟨k', d'⟩ := p
    rw [hki] at hd
    cases hd
    obtain ⟨w, hw, zw⟩ := z.get hki
    rw [hk] at hw
    cases hw
    obtain ⟨g, W', zz⟩ := new_tup W (fzl_cons (fz_keyD k) (fzl_cons (zw.mono e) fzl_nil)) hT
    exact ⟨_, g, W', zz⟩
def dcP (d : D) (Q : List (Key × D) → Prop) : Prop := match d with
  | .dic ks => Q ks
  | _ => False
theorem dcP_d {ks : List (Key × D)} {Q : List (Key × D) → Prop} : dcP (.dic ks) Q = Q ks := rfl
def diItems (a : DE) : DI := fun ρ μ Q X => a ρ μ (fun d μ1 => dcP d fun ks => Q (itemsD ks) μ1) X
section
variable {X : Cx} {W : WX} {e : Expr} {de : DE} {apos cpos : Pos}
theorem i_items {elts : List Expr} {kk : Nat} {tpos : Pos} (h : PD X W e de) (hbase : attributeBase e "items" X.env (eval e X.env) = eval e X.env := by rfl) (hline : (apos.endLine == cpos.line) = true := by rfl) :
    PID X W (.Tuple elts kk tpos) (.Call (.Attribute e "items" apos) [] [] cpos) (diItems de) := by
  obtain ⟨te, a1, a2⟩ := h.ex
  refine ⟨_, pi_items a1 hbase hline, fun {B F σ H ρ μ Qd Xd R} S q gx k => a2 S q gx fun v F' H' d μ' g S' z q' => ?_⟩
  cases d with
  | dic ks =>
    unfold Fz at z
    obtain ⟨a, od, kws, rfl, h1, z1⟩ := z
    exact ⟨a, od, kws, rfl, S'.wd.ext _ _ h1, k _ F' H' (itemsD ks) μ' g S' (walk_itemsD h1 z1) q'⟩
  | non => exact q'.elim
  | bl _ => exact q'.elim
  | int _ => exact q'.elim
  | str _ => exact q'.elim
  | ty _ => exact q'.elim
  | tup _ => exact q'.elim
  | lst _ => exact q'.elim
  | ins _ _ => exact q'.elim
  | obj _ => exact q'.elim
  | scr _ _ => exact q'.elim
  | xcp _ _ _ _ => exact q'.elim
end
def kyP (d : D) (Q : Key → Prop) : Prop := ∃ k, d = keyD k ∧ Q k
theorem kyP_i {i : Int} {Q : Key → Prop} : kyP (.int i) Q = Q (.inl i) := by
  refine propext ⟨fun ⟨k, e, q⟩ => ?_, fun q => ⟨.inl i, rfl, q⟩⟩
  cases k with
  | inl j => cases e; exact q
  | inr j => cases e
theorem kyP_s {i : Str} {Q : Key → Prop} : kyP (.str i) Q = Q (.inr i) := by
  refine propext ⟨fun ⟨k, e, q⟩ => ?_, fun q => ⟨.inr i, rfl, q⟩⟩
  cases k with
  | inl j => cases e
  | inr j => cases e; exact q
theorem lookD_val {F : Hp} {k : Key} : ∀ {ks : List (Key × D)} {vs : List (Key × V)}, FzK F ks vs → lookD ks k = none → valV vs k = none
  | [], _, h, _ => by rw [fzk_inv0 h]; rfl
  | (k', d) :: ks, _, h, e => by
    obtain ⟨v, r, rfl, h1, h3⟩ := fzk_inv h
    unfold lookD at e
    rw [List.find?_cons] at e
    unfold valV
    rw [List.find?_cons]
    dsimp only at e ⊢
    by_cases c : k' = k
    · simp [c] at e
    · rw [show decide (k' = k) = false from by simp [c]] at e ⊢
      exact lookD_val h3 e
def dGet2 (o i e : DE) : DE := fun ρ μ Q X => o ρ μ (fun dp μ1 => dcP dp fun ks => i ρ μ1 (fun dk μ2 => e ρ μ2 (fun dx μ3 => kyP dk fun k => Q ((lookD ks k).getD dx) μ3) X) X) X
section
variable {X : Cx} {W : WX} {o i e : Expr} {dO di de : DE} {apos cpos : Pos}
theorem d_get2 (hr : X.A.units + 1 < cLine) (ho : PB X W o dO) (hi : PD X W i di) (he : PD X W e de) (hbase : attributeBase o "get" X.env (eval o X.env) = eval o X.env := by rfl)
    (hfew : ((backTo cpos (starEach [i, e] X.env)).all (fun x => !x.1) && (backToKw cpos (keywordEach [] X.env)).all (fun x => x.1.isSome)
    && decide (([i, e] : List Expr).length + ([] : List Keyword).length + (if ([] : List Keyword).isEmpty then 0 else 1) < 30)) = true := by rfl)
    (hline : (apos.endLine == cpos.line) = true := by rfl) (htr : backTo cpos (starEach [i, e] X.env) = [(false, eval i X.env), (false, eval e X.env)] := by rfl) :
    PD X W (.Call (.Attribute o "get" apos) [i, e] [] cpos) (dGet2 dO di de) := by
  obtain ⟨to, o1, o2⟩ := ho.ex
  obtain ⟨ti, i1, i2⟩ := hi.ex
  obtain ⟨te, e1, e2⟩ := he.ex
  refine ⟨_, pe_dget2 hr o1 i1 e1 ⟨hbase, hfew, hline, htr⟩, fun {B F σ H ρ μ Qd Xd Q} S q gx k => o2 S q gx fun v F1 H1 dp μ1 g1 S1 z1 q1 => ?_⟩
  cases dp with
  | dic ks =>
    obtain ⟨a, kws, rfl, ha, hm, zk⟩ := (show ∃ a kws, v = .ref a ∧ Rd H1 a (.dK kws) ∧ μ1 a = none ∧ FzK F1 ks kws from z1)
    refine ⟨a, rfl, .inl ⟨_, ha⟩, i2 S1 q1 (gx.go g1) fun y F2 H2 dk μ2 g2 S2 z2 q2 => e2 S2 q2 ((gx.go g1).go g2) fun x F3 H3 dx μ3 g3 S3 z3 ⟨kk, ek, q3⟩ => ?_⟩
    have hb : ∃ b kws, V.ref a = .ref b ∧ Rd H3 b (.dK kws) ∧ μ3 b = none ∧ FzK F3 ks kws := Bz.go (g2.trans g3) (d := .dic ks) (v := .ref a) ⟨a, kws, rfl, ha, hm, zk⟩
    obtain ⟨a', kws', e', ha', hm', zk'⟩ := hb
    cases e'
    subst ek
    have ey := fz_key z2
    subst ey
    refine ⟨valV kws' kk, .inl ⟨_, _, ha', rfl, rfl⟩, ?_⟩
    dsimp only at q3
    cases el : lookD ks kk with
    | some d =>
      rw [el] at q3
      obtain ⟨w, hw, zw⟩ := zk'.look el
      rw [hw]
      exact k w F3 H3 d μ3 ((g1.trans g2).trans g3) S3 zw q3
    | none =>
      rw [el] at q3
      rw [lookD_val zk' el]
      exact k x F3 H3 dx μ3 ((g1.trans g2).trans g3) S3 z3 q3
  | non => exact q1.elim
  | bl _ => exact q1.elim
  | int _ => exact q1.elim
  | str _ => exact q1.elim
  | ty _ => exact q1.elim
  | tup _ => exact q1.elim
  | lst _ => exact q1.elim
  | ins _ _ => exact q1.elim
  | obj _ => exact q1.elim
  | scr _ _ => exact q1.elim
  | xcp _ _ _ _ => exact q1.elim
end
def slM (a : DId) (r : DSl) : DSl := fun ρ μ Q X => a ρ μ (fun ks μ1 => r ρ μ1 (fun ss μ2 => Q (.md ks :: ss) μ2) X) X
def dSetM (i : Nat) (t : DId) : DS := fun D ρ μ => t ρ μ (fun ks μ1 => D.nx (ρ.set i (.md ks)) μ1) (D.xc ρ)
section
variable {X : Cx} {W : WX} {e : Expr} {es : List Expr} {dO : DId} {r : DSl} {pos : Pos}
theorem sl_m (ha : POd X W e dO) (hr : PSl X W es r) (hs : starEach (e :: es) X.env = (false, eval e X.env) :: starEach es X.env := by rfl) : PSl X W (e :: es) (slM dO r) := by
  obtain ⟨ta, a1, a2⟩ := ha.ex
  obtain ⟨tr, r1, r2⟩ := hr.ex
  refine ⟨_, pa_cons a1 r1 hs, fun {B F σ H ρ μ Qd Xd Q} S q gx k => a2 S q gx fun p vs1 F1 H1 ds μ1 g1 S1 h0 h1 h2 h3 z1 q1 => r2 S1 q1 (gx.go g1) fun vs F2 H2 ss μ2 g2 S2 z2 q2 => ?_⟩
  refine k _ F2 H2 _ μ2 (g1.trans g2) S2 (.cons g1 g2 (s := .md ds) ⟨p, vs1, rfl, h1, z1, h2, h3, fun o j1 j2 => ?_⟩ (fun _ a e => by cases e; exact h0) z2) q2
  obtain ⟨k1, k2, _⟩ := S.grow.keep p o j1 j2
  exact h0 o k1 k2
theorem s_setM {i : Nat} {x : Str} {t : DId} {pos' : Pos} (hN : X.N.Nodup) (hi : X.N[i]? = some x) (hx : Loc X.env.scope x) (he : POd X W e t) (hs : swapsWith e (some (.Name x pos')) pos.line X.env = pure false := by rfl)
    (hf : X.fn x = true ∨ X.env.scope.names.lookup x = some .local := by first | exact .inl rfl | exact .inr rfl | assumption) : PSD X W (.Assign [.Name x pos'] e pos) (dSetM i t) := by
  obtain ⟨te, a1, a2⟩ := he.ex
  refine ⟨_, L2.ps_set hN hi hx a1 hs hf, fun {B F σ H ρ μ Dd D} S q r => a2 S q r.gox fun p vs F' H' ds μ' g S' h0 h1 h2 h3 z q' => ?_⟩
  refine r.nx F' _ H' _ μ' g.fz (S'.setO (s := .md ds) ⟨p, vs, rfl, h1, z, h2, h3, fun o j1 j2 => ?_⟩ fun j t a e1 e2 e3 e4 => ?_) q'
  · obtain ⟨k1, k2, _⟩ := S.grow.keep p o j1 j2
    exact h0 o k1 k2
  · obtain ⟨⟨o, ho⟩, hm⟩ := S.ownAt e1 e2 e3
    cases e4
    exact h0 o ho hm
end
def mdP (s : Option Slot) (Q : List (Key × D) → Prop) : Prop := match s with
  | some (.md ks) => Q ks
  | _ => False
theorem mdP_m {ks : List (Key × D)} {Q : List (Key × D) → Prop} : mdP (some (.md ks)) Q = Q ks := rfl
def dMPut (i : Nat) (ix v : DE) : DS := fun D ρ μ => v ρ μ (fun dx μ1 => mdP ρ[i]? fun ks => ix ρ μ1 (fun dk μ2 => kyP dk fun k => ks.length < sizeLine ∧ D.nx (ρ.set i (.md (putD ks k dx))) μ2) (D.xc ρ)) (D.xc ρ)
section
variable {X : Cx} {W : WX} {j e : Expr} {dj dv : DE} {x : Str} {p pos tpos : Pos}
theorem s_mput (i : Nat) (hr : X.A.units + 1 < cLine) (hv : PD X W e dv) (hj : PD X W j dj) (hN : X.N[i]? = some x := by rfl) (hvis : Vis X.env.scope x := by first | exact Or.inl rfl | exact Or.inr (Or.inl rfl) | exact Or.inr (Or.inr rfl)) (hd : (x == ("__debug__" : Str)) = false := by decide) (hcd : (x == ("__classdict__" : Str)) = false := by decide)
    (hs : swapsWith e (some (.Subscript (.Name x p) j tpos)) pos.line X.env = pure false := by rfl) : PSD X W (.Assign [.Subscript (.Name x p) j tpos] e pos) (dMPut i dj dv) := by
  obtain ⟨tv, v1, v2⟩ := hv.ex
  obtain ⟨tj, j1, j2⟩ := hj.ex
  refine ⟨_, ps_dput hr (pe_var hN hvis hd hcd) j1 v1 hs, fun {B F σ H ρ μ Dd D} S q r => v2 S q r.gox fun v F1 H1 dx μ1 g1 S1 z1 q1 => ?_⟩
  cases hx : ρ[i]? with
  | none => rw [hx] at q1; exact q1.elim
  | some sl =>
    cases sl with
    | no => rw [hx] at q1; exact q1.elim
    | fn _ _ _ _ => rw [hx] at q1; exact q1.elim
    | dat _ => rw [hx] at q1; exact q1.elim
    | ml _ => rw [hx] at q1; exact q1.elim
    | md ks =>
      rw [hx] at q1
      obtain ⟨u, hu, a, vs, rfl, hA, z, w⟩ := S1.get hx
      refine ⟨_, hu, j2 S1 q1 (r.gox.go g1) fun vi F2 H2 dk μ2 g2 S2 z2 ⟨kk, ek, hl, q2⟩ => ?_⟩
      subst ek
      have ey := fz_key z2
      subst ey
      obtain ⟨u2, hu2, a2, vs2, e2, hA2, zz, w2⟩ := S2.get hx
      rw [hu] at hu2
      cases hu2
      cases e2
      exact ⟨a, _, rfl, DPut.k hA2 (by rw [zz.length]; exact hl), r.nx F2 σ _ _ μ2 (g1.trans g2).fz (S2.upd (s := .md (putD ks kk dx)) hx rfl hu ⟨a, _, rfl, upd_same, zz.put (z1.mono g2.fz), w2⟩) q2⟩
end
end DL

namespace DL
open PySem PySem.Spec PyProof.Rows L2 L2.DX
theorem inv_in1 {X : Cx} {pins : List (Addr × Obj)} {σ : L2.St} {H : Hp} {s : Shared} (I : Inv X pins σ H s) : Inv { X with A := X.A.in1 } pins σ H s := by
  have ok := I.ok
  exact ⟨⟨ok.mod, ok.kind, ok.glob, ok.blt, ok.above, ok.inj, ok.has, ok.cab, ok.hd, ok.frames, ok.stk, ok.exf, ok.bs, ok.bsz, ok.noex, ok.exfs, ok.funs, ok.frf⟩, I.os, I.bare, I.base, I.loc, I.cell, I.free, I.freeC, I.pin, I.hok, I.len⟩
theorem inv_out1 {X : Cx} {pins : List (Addr × Obj)} {σ : L2.St} {H : Hp} {s : Shared} (ok : X.Ok) (I : Inv { X with A := X.A.in1 } pins σ H s) : Inv X pins σ H s :=
  ⟨ok, I.os, I.bare, I.base, I.loc, I.cell, I.free, I.freeC, I.pin, I.hok, I.len⟩
def tItemsF (td : TE) : TE := fun σ H Q => td σ H fun x H1 => ∃ (a : Addr) (od : Obj) (kvs : List (Key × V)), x = .ref a ∧ H1 a = some (.frz od (.dK kvs)) ∧ ∀ p, H1 p = none → Q (.ref p) (upd H1 p (itemsO p a))
theorem pe_itemsF {X : Cx} {e : Expr} {td : TE} {apos cpos : Pos} (he : PE X e td) (hbase : attributeBase e "items" X.env (eval e X.env) = eval e X.env := by rfl) (hline : (apos.endLine == cpos.line) = true := by rfl) : PE X (.Call (.Attribute e "items" apos) [] [] cpos) (tItemsF td) := by
  refine ⟨fun pins s σ H Q I h => ?_⟩
  refine wpAny_Call_method (T := "dict") (id := "dict.items") hbase rfl hline PySem.F.plainAttrs_dict PySem.F.slot_dict_items PySem.F.type_dict_items (thn (he.run pins s σ H _ I h) fun u s1 ⟨x, H1, J, rx, c, ob, kvs, ex, hc, q⟩ => ?_)
  subst ex
  obtain rfl : u = Value.ref c := rx
  obtain ⟨n0, _, _, es, ep, vs, _, _, _, mp⟩ := J.frzK hc
  refine ⟨mp.dictOf.typeIs, mp.dictOf.mapOf.noDict, ?_⟩
  show wpAny _ _ (callWith cpos (.builtin "dict.items") [.ref c] [] []) _ X.xe s1
  refine method_meetsIn PySem.F.slot_dict_items PySem.F.entry_dict_items rfl (PySem.evalArgs_none ⟨rfl, mp.dictOf.typeIs, PySem.F.args_dict_items_1 _, _, meets_dict_items (mixKind X.prog X.w) c n0, ⟨vs, mp.dictOf⟩, ?_⟩)
  have free1 : H1 s1.heap.objs.size = none := J.hok.fresh (Nat.le_refl _)
  exact ⟨.ref s1.heap.objs.size, upd H1 s1.heap.objs.size (itemsO s1.heap.objs.size c), J.laid (t' := s1.toks) (fun b u e => Heap.get?_push_of_some _ e) (Nat.le_refl _) (itemsO_ok (Heap.get?_push_size _ rfl)), rfl, q _ free1⟩
theorem pairs_at {P : Program} {w : World} : ∀ {es : List DictEntry} {kvs : List (Key × Value)}, Pairs (mixKind P w) es kvs → ∀ {j : Nat} {e : DictEntry}, es[j]? = some e → ∃ k v, kvs[j]? = some (k, v) ∧ keyIs k e.key = true ∧ e.val = v
  | _, _, .nil, j, e, h => by simp at h
  | _, _, .cons (kv := kv) h1 h2 hr, 0, e, h => by
    simp at h
    subst h
    exact ⟨kv.1, kv.2, by simp, h1, h2⟩
  | _, _, .cons h1 h2 hr, j + 1, e, h => by
    obtain ⟨k, v, e1, e2, e3⟩ := pairs_at hr (j := j) (by simpa using h)
    exact ⟨k, v, by simpa using e1, e2, e3⟩
theorem made_laid {X : Cx} {pins : List (Addr × Obj)} {σ : L2.St} {H : Hp} {s : Shared} {h' : Heap} {tk S : Nat} {kvs : List (Key × V)} {acc : List Value} {c : Nat} {as : List Addr} (I : Inv X pins σ H s) (hz : kvs.length ≤ sizeLine)
    (sub : ∀ b o, s.heap.get? b = some o → h'.get? b = some o) (hS0 : s.heap.objs.size ≤ S) (hS : h'.get? S = some { cls := .type "list", dict := none, data := .seq acc.toArray c, slots := #[] }) (hl : as.length = kvs.length) (rise : as.Pairwise (· < ·)) (above : ∀ a ∈ as, s.heap.objs.size ≤ a) (hSn : S ∉ as)
    (pr : ∀ (j : Nat) (b : Addr), as[j]? = some b → ∃ (p : Key × V) (key x : Value), kvs[j]? = some p ∧ RelV (kV p.1) key ∧ RelV p.2 x ∧ h'.get? b = some { cls := .type "tuple", data := .seq #[key, x] }) (hacc : acc = as.map Value.ref) :
    ∃ H' : Hp, (∀ b o, H b = some o → H' b = some o) ∧ H S = none ∧ (∀ t ∈ as, H t = none) ∧ H' S = some (.lst (as.map V.ref)) ∧ (∀ b, b ∉ as → b ≠ S → H' b = H b) ∧ Paired (fun (t : Addr) (q : Key × V) => H' t = some (.tup [kV q.1, q.2])) as kvs ∧ Inv X pins σ H' { s with heap := h', toks := tk } := by
  have nd : as.Nodup := List.Pairwise.imp (fun {a b} (h : a < b) => Nat.ne_of_lt h) rise
  have fresh0 : ∀ t ∈ as, H t = none := fun t ht => I.hok.fresh (above t ht)
  have noS : H S = none := I.hok.fresh hS0
  have atT := LiI.putT_at as kvs (upd H S (.lst (as.map V.ref))) (by omega) nd
  have away : ∀ b, b ∉ as → b ≠ S → LiI.putT (upd H S (.lst (as.map V.ref))) as kvs b = H b := fun b h1 h2 => by rw [LiI.putT_off as kvs _ h1, upd_ne h2]
  have under : ∀ b o, s.heap.get? b = some o → b ∉ as ∧ b ≠ S := fun b o e => ⟨fun z => absurd (Heap.lt_size e) (Nat.not_lt.mpr (above b z)), Nat.ne_of_lt (Nat.lt_of_lt_of_le (Heap.lt_size e) hS0)⟩
  have kept : ∀ b u, H b = some u → (LiI.putT (upd H S (.lst (as.map V.ref))) as kvs) b = some u := fun b u e => by
    rw [away b (fun z => by rw [fresh0 b z] at e; cases e) (fun z => by rw [z, noS] at e; cases e)]
    exact e
  have eS : LiI.putT (upd H S (.lst (as.map V.ref))) as kvs S = some (.lst (as.map V.ref)) := by rw [LiI.putT_off as kvs _ hSn, upd_same]
  refine ⟨LiI.putT (upd H S (.lst (as.map V.ref))) as kvs, kept, noS, fresh0, eS, away, atT, ?_⟩
  refine I.call' (ch := []) rfl ⟨fun x o e _ _ _ => sub x o e, fun x o e _ _ _ => ⟨o.slots, sub x o e⟩, fun b o q n _ => ?_, fun x o e _ => ⟨o, sub x o e⟩, fun x ys e => kept x _ e, fun x o u e => kept x _ e, fun x ps e => ⟨#[], by rw [kept x _ e]; simp⟩⟩ (fun b u q => ?_) I.bare fun b z => by simp at z
  · obtain ⟨z1, z2⟩ := under b o q
    rw [away b z1 z2]
    exact n
  · by_cases hb : b ∈ as
    · obtain ⟨j, pk, e1, e2, e3⟩ := LiI.paired_ix atT hb
      rw [e3] at q
      cases q
      obtain ⟨p, key, x, f0, f1, f2, f3⟩ := pr j b e1
      rw [e2] at f0
      cases f0
      exact ⟨by show 2 ≤ sizeLine; decide, [key, x], .cons f1 (.cons f2 .nil), ⟨_, f3, rfl, _, rfl⟩⟩
    · by_cases hb2 : b = S
      · rw [hb2] at q ⊢
        rw [eS] at q
        cases q
        refine ⟨by rw [List.length_map]; omega, acc, c, by rw [hacc]; exact LiI.vals_refs as, ?_⟩
        exact hS
      · rw [away b hb hb2] at q
        exact (I.hok b u q).stay (fun x v _ e => sub x v e) (fun x e => kept x _ e) fun x ys e => kept x _ e
def gtP (a b : Int × Int) : Prop := b.1 < a.1 ∨ (b.1 = a.1 ∧ b.2 ≤ a.2)
abbrev entI (e : Int × Int) : Key × V := (Sum.inl e.1, V.int e.2)
def rSortItR : List V → List V → Hp → VK → Prop := fun vs zs H Q => ∃ (p a : Addr) (od : Obj) (ks : List (Int × Int)), vs = [.ref p] ∧ zs = [.bl true] ∧ H p = some (itemsO p a) ∧ H a = some (.frz od (.dK (ks.map entI))) ∧ ks.length ≤ 100000 ∧
  ∀ (H' : Hp) (q : Addr) (ts : List Addr) (ls : List (Int × Int)), (∀ b o, H b = some o → H' b = some o) → H q = none → (∀ t ∈ ts, H t = none) → q ∉ ts → ts.Nodup → H' q = some (.lst (ts.map V.ref)) → (∀ b, b ∉ ts → b ≠ q → H' b = H b) → Paired (fun (t : Addr) (e : Int × Int) => H' t = some (.tup [.int e.1, .int e.2])) ts ls → ls.Perm ks → ls.Pairwise gtP → Q (.ref q) H'
theorem perm_refs {zs : List V} {as : List Addr} (h : zs.Perm (as.map V.ref)) : ∃ ts : List Addr, zs = ts.map V.ref ∧ ts.Perm as := by
  let bk : V → Addr := fun v => match v with
    | .ref a => a
    | _ => 0
  refine ⟨zs.map bk, ?_, ?_⟩
  · rw [List.map_map]
    have : ∀ z ∈ zs, (V.ref ∘ bk) z = z := fun z hz => by
      obtain ⟨a, _, rfl⟩ := List.mem_map.mp (h.mem_iff.mp hz)
      rfl
    rw [List.map_congr_left this, List.map_id']
  · have := h.map bk
    rw [List.map_map] at this
    have e : as.map (bk ∘ V.ref) = as := by
      have : (bk ∘ V.ref) = id := rfl
      rw [this, List.map_id]
    rw [e] at this
    exact this
theorem paired_of {α β : Type} {F : α → β → Prop} {g : α → β} : ∀ {xs : List α}, (∀ x ∈ xs, F x (g x)) → Paired F xs (xs.map g)
  | [], _ => .nil
  | x :: xs, h => .cons (h x List.mem_cons_self) (paired_of fun y hy => h y (List.mem_cons_of_mem _ hy))
theorem pairs_back {H2 : Hp} {kf : V → Int × Int} (hkf : ∀ t i j, H2 t = some (.tup [.int i, .int j]) → kf (.ref t) = (i, j)) : ∀ {as : List Addr} {ks : List (Int × Int)}, Paired (fun (t : Addr) (q : Key × V) => H2 t = some (.tup [kV q.1, q.2])) as (ks.map entI) → as.map (fun t => kf (.ref t)) = ks
  | [], [], _ => rfl
  | a :: as, [], h => by cases h
  | [], k :: ks, h => by cases h
  | a :: as, k :: ks, h => by
    cases h with
    | cons h1 h2 => rw [List.map_cons, pairs_back hkf h2, hkf _ _ _ h1]
theorem cr_sortItR {X : Cx} (hc : X.calm = true) : CallRK X (.builtin "sorted") [Str.ofString "reverse"] rSortItR := by
  intro pins s σ H vs zs us ws Q I rv rz ⟨p, a, od, ks, e0, ez, hp, ha, hl, q⟩
  subst e0 ez
  obtain rfl := Vals.ref1 rv
  obtain ⟨wb, rfl, eb⟩ := vals1 rz
  obtain rfl : wb = Value.bool true := eb
  have view : s.heap.IsItemsView p a := (show ObjOk X.prog X.w H s.heap p (itemsO p a) from I.hok p _ hp).1
  obtain ⟨hs, hgd, hx, es, ep, vs, hdt, hsz, kv, hm⟩ := I.frzK ha
  obtain ⟨_, _, _, vs', rel, o', es', ep', ho', hx', hd', _, hpr, _⟩ := I.hok a _ ha
  rw [hgd] at ho'
  cases ho'
  rw [hdt] at hd'
  cases hd'
  have hh : X.A.handled = none := I.ok.hd hc
  rw [List.length_map] at hsz
  refine PyProof.Rows.call_function_entry_kw PyProof.Rows.kind_sorted PyProof.Rows.plain_sorted PyProof.Rows.entry_sorted (PyProof.Rows.args_sorted_rev _ _) ?_
  unfold Builtin.«sorted»
  refine wpAny_bind (m := checkCount "sorted" 1 1 _) (wpAny_pure ?_)
  refine wpAny_bind (DT.collectI (A := X.A.in1) (es := es) (ep := ep) hh view ⟨od, hgd, hx, hdt⟩ (by rw [hsz]; exact Nat.le_trans hl (by unfold sizeLine; omega)) fun h' tk as hk hlt hla hG => ?_)
  refine wpAny_bind (wpAny_newList ?_ (by rw [List.length_map, hla, hsz]; exact Nat.le_trans hl (by unfold sizeLine; omega)))
  have hob : (h'.push { cls := .type "list", data := .seq (as.map Value.ref).toArray }).get? h'.objs.size = some { cls := .type "list", dict := none, data := .seq (as.map Value.ref).toArray 0, slots := #[] } := Heap.get?_push_size _ rfl
  have sub1 : ∀ x u, s.heap.get? x = some u → (h'.push { cls := .type "list", data := .seq (as.map Value.ref).toArray }).get? x = some u := fun x u e => Heap.get?_push_of_some _ (hk x u e)
  have kg : ∀ b o, h'.get? b = some o → (h'.push { cls := .type "list", data := .seq (as.map Value.ref).toArray }).get? b = some o := fun b o e => Heap.get?_push_of_some _ e
  generalize hh2 : h'.push { cls := .type "list", data := .seq (as.map Value.ref).toArray } = h2 at hob sub1 kg ⊢
  have hSn : h'.objs.size ∉ as := fun z => Nat.lt_irrefl _ (hG.there z)
  obtain ⟨H2, k1, k2, k3, k5, k6, k7, J⟩ := made_laid (h' := h2) (tk := tk) (S := h'.objs.size) (kvs := ks.map entI) (as := as) I (by rw [List.length_map]; exact Nat.le_trans hl (by unfold sizeLine; omega)) sub1 (Nat.le_of_lt hlt) hob (by rw [List.length_map, hla, hsz]) hG.rise (fun a ha => Nat.le_of_lt (hG.above a ha)) hSn (fun j b hj => by
    obtain ⟨e, he, hg⟩ := hG.pairs j b hj
    obtain ⟨k, v, f1, f2, f3⟩ := pairs_at hpr (j := j) (e := e) (by rw [Array.getElem?_toList]; exact he)
    have hj2 : j < (ks.map entI).length := by
      have := (List.getElem?_eq_some_iff.mp hj).1
      rw [List.length_map]
      omega
    obtain ⟨qv, g1, g2, g3⟩ := LiI.paired_get rel (List.getElem?_eq_getElem hj2)
    rw [f1] at g1
    cases g1
    refine ⟨_, e.key, e.val, List.getElem?_eq_getElem hj2, ?_, ?_, kg _ _ hg⟩
    · rw [g2]
      exact relV_key f2
    · rw [f3]
      exact g3) rfl
  let kf : V → Int × Int := fun v => match v with
    | .ref t => (match H2 t with
      | some (.tup [.int i, .int j]) => (i, j)
      | _ => (0, 0))
    | _ => (0, 0)
  have hkf : ∀ t i j, H2 t = some (.tup [.int i, .int j]) → kf (.ref t) = (i, j) := fun t i j e => by
    show (match H2 t with
      | some (.tup [.int i, .int j]) => (i, j)
      | _ => ((0, 0) : Int × Int)) = (i, j)
    rw [e]
  have h2t : ∀ t ∈ as, H2 t = some (.tup [.int (kf (.ref t)).1, .int (kf (.ref t)).2]) := fun t ht => by
    obtain ⟨j, pk, e1, e2, e3⟩ := LiI.paired_ix k7 ht
    rw [List.getElem?_map] at e2
    cases hk : ks[j]? with
    | none => rw [hk] at e2; cases e2
    | some e =>
      rw [hk] at e2
      cases e2
      have e4 : H2 t = some (.tup [.int e.1, .int e.2]) := e3
      rw [hkf t _ _ e4]
      exact e4
  have go := mt_sortPOR (X := { X with A := X.A.in1 }) pins _ σ H2 (.ref h'.objs.size) [.bl true] (.ref h'.objs.size) [.bool true] (fun v H3 => v = .non ∧ ∃ zs, SrtO.Srtd (ltP kf) zs ∧ zs.Perm (as.map V.ref) ∧ H3 = upd H2 h'.objs.size (.lst zs.reverse)) (inv_in1 J) rfl (.cons rfl .nil)
    ⟨h'.objs.size, as.map V.ref, kf, rfl, rfl, k5, fun y hy => by
      obtain ⟨t, ht, rfl⟩ := List.mem_map.mp hy
      exact ⟨t, rfl, h2t t ht⟩, fun zs h1 h2 => ⟨rfl, zs, h1, h2, rfl⟩⟩
  refine wpAny_bind (wpAny_holding (wpAny_mono go (fun u s' x => ?_) fun _ _ e => e))
  obtain ⟨v, H3, J3, rv, rfl, zs, g1, g2, rfl⟩ := x
  refine wpAny_pure ⟨_, rfl, .ref h'.objs.size, _, inv_out1 I.ok J3, rfl, ?_⟩
  obtain ⟨ts, hts, pts⟩ := perm_refs g2
  have pr2 : ts.reverse.Perm as := (List.reverse_perm ts).trans pts
  have mem : ∀ t, t ∈ ts.reverse ↔ t ∈ as := fun t => pr2.mem_iff
  refine q _ h'.objs.size ts.reverse (ts.reverse.map fun t => kf (.ref t)) (fun b o e => ?_) k2 (fun t ht => k3 t ((mem t).mp ht)) (fun z => hSn ((mem _).mp z)) (pr2.nodup_iff.mpr (hG.rise.imp fun {a b} (h : a < b) => Nat.ne_of_lt h)) ?_ (fun b h1 h2 => ?_) (paired_of fun t ht => ?_) ?_ ?_
  · rw [upd_ne (fun z => by rw [z, k2] at e; cases e)]
    exact k1 b o e
  · rw [upd_same, hts, ← List.map_reverse]
  · rw [upd_ne h2]
    exact k6 b (fun z => h1 ((mem b).mpr z)) h2
  · have ht' := (mem t).mp ht
    rw [upd_ne (fun z => hSn (by rw [← z]; exact ht'))]
    exact h2t t ht'
  · have e : as.map (fun t => kf (.ref t)) = ks := by
      exact pairs_back hkf k7
    rw [← e]
    exact pr2.map _
  · rw [List.pairwise_map]
    rw [List.pairwise_reverse]
    rw [hts] at g1
    have g1' : (ts.map V.ref).Pairwise (fun x y => ltP kf y x = false) := g1
    rw [List.pairwise_map] at g1'
    exact g1'.imp fun {a b} h => by
      have := SrtO.lexB_no.mp h
      unfold gtP
      omega
def extH (F H2 : Hp) (N : List Addr) : Hp := fun b => if b ∈ N then H2 b else F b
theorem new_many {F : Hp} {μ : Mu} {H H2 : Hp} {N : List Addr} (W : Wd F μ H) (hk : ∀ b o, H b = some o → H2 b = some o) (hn : ∀ b ∈ N, H b = none) (ht : ∀ b, b ∉ N → H2 b = H b) : Grow F μ H (extH F H2 N) μ H2 ∧ Wd (extH F H2 N) μ H2 := by
  have off : ∀ b o, H b = some o → b ∉ N := fun b o e z => by rw [hn b z] at e; cases e
  have eqF : ∀ b, b ∉ N → extH F H2 N b = F b := fun b z => if_neg z
  have ex : Ex F (extH F H2 N) := fun b o e => by rw [eqF b (off b o (W.ext b o e))]; exact e
  refine ⟨⟨ex, fun b o e m => ⟨hk b o e, m, fun z => by rw [eqF b (off b o e)]; exact z⟩⟩, fun b o e => ?_, fun a o e => ?_, fun b vs e => ?_⟩
  · by_cases z : b ∈ N
    · have : extH F H2 N b = H2 b := if_pos z
      rw [this] at e
      exact e
    · rw [eqF b z] at e
      exact hk b o (W.ext b o e)
  · obtain ⟨q1, q2⟩ := W.mu a o e
    obtain ⟨u, hu⟩ := q1.there
    exact ⟨q1.mono ex fun v hv => hk a v hv, by rw [eqF a (off a u hu)]; exact q2⟩
  · by_cases z : b ∈ N
    · rw [show extH F H2 N b = H2 b from if_pos z]
      exact e
    · rw [eqF b z]
      exact W.tup b vs (by rw [← ht b z]; exact e)
abbrev entD (e : Int × Int) : Key × D := (Sum.inl e.1, D.int e.2)
theorem ents_back {F : Hp} : ∀ {es : List (Int × Int)} {kws : List (Key × V)}, FzK F (es.map entD) kws → kws = es.map entI
  | [], _, h => fzk_inv0 h
  | e :: es, _, h => by
    obtain ⟨v, r, rfl, h1, h2⟩ := fzk_inv h
    unfold Fz at h1
    rw [h1, ents_back h2]
    rfl
theorem fzl_pairs {F : Hp} : ∀ {ts : List Addr} {ls : List (Int × Int)}, Paired (fun (t : Addr) (e : Int × Int) => F t = some (.tup [.int e.1, .int e.2])) ts ls → FzL F (ls.map gapD) (ts.map V.ref)
  | _, _, .nil => fzl_nil
  | _, _, .cons h t => fzl_cons (fz_tup (fzl_cons fz_int (fzl_cons fz_int fzl_nil)) h) (fzl_pairs t)
theorem paired_mem {α β : Type} {F G : α → β → Prop} : ∀ {xs : List α} {ys : List β}, Paired F xs ys → (∀ x ∈ xs, ∀ y, F x y → G x y) → Paired G xs ys
  | _, _, .nil, _ => .nil
  | _, _, .cons h t, k => .cons (k _ List.mem_cons_self _ h) (paired_mem t fun x hx => k x (List.mem_cons_of_mem _ hx))
def dSortItR (a : DE) : DE := fun ρ μ Q X => a ρ μ (fun d μ1 => dcP d fun ks => ∃ es : List (Int × Int), ks = es.map entD ∧ es.length ≤ 100000 ∧ ∀ ls : List (Int × Int), ls.Perm es → ls.Pairwise gtP → Q (.lst (ls.map gapD)) μ1) X
section
variable {X : Cx} {W : WX} {e : Expr} {de : DE} {apos cpos pos p cp kp : Pos} {j : Nat}
theorem d_sortItR (hc : X.calm = true) (hm : X.mg "sorted" = none) (h : PD X W e de) (hg : Gl X "sorted" := by rfl) (hbase : attributeBase e "items" X.env (eval e X.env) = eval e X.env := by rfl) (hline : (apos.endLine == cpos.line) = true := by rfl)
    (hs : starEach [.Call (.Attribute e "items" apos) [] [] cpos] X.env = (false, eval (.Call (.Attribute e "items" apos) [] [] cpos) X.env) :: starEach [] X.env := by rfl)
    (he : backTo pos (starEach [.Call (.Attribute e "items" apos) [] [] cpos] X.env) = (false, eval (.Call (.Attribute e "items" apos) [] [] cpos) X.env) :: backTo pos (starEach [] X.env) := by rfl) (hpl : (backTo pos (starEach [.Call (.Attribute e "items" apos) [] [] cpos] X.env)).any (·.1) = false := by rfl)
    (hall : (backToKw pos (keywordEach [⟨some "reverse", .Constant (.bool true) j cp, kp⟩] X.env)).all (·.1.isSome) = true := by rfl) (hnone : (backToKw pos (keywordEach [⟨some "reverse", .Constant (.bool true) j cp, kp⟩] X.env)).any (·.1.isNone) = false := by rfl) (hks : (backToKw pos (keywordEach [⟨some "reverse", .Constant (.bool true) j cp, kp⟩] X.env)).filterMap (·.1) = [Str.ofString "reverse"] := by rfl) :
    PD X W (.Call (.Name "sorted" p) [.Call (.Attribute e "items" apos) [] [] cpos] [⟨some "reverse", .Constant (.bool true) j cp, kp⟩] pos) (dSortItR de) := by
  obtain ⟨te, a1, a2⟩ := h.ex
  refine ⟨_, pe_callBK (cr_sortItR hc) hg hm PyProof.Rows.boot_sorted (pa_cons (pe_itemsF a1 hbase hline) pa_nil hs) (pk_cons pe_bl pk_nil) (by decide) (by decide) he hpl hall hnone hks, fun {B F σ H ρ μ Qd Xd Q} S q gx k => a2 S q gx fun v F' H' d μ' g S' z q' => ?_⟩
  cases d with
  | dic ks =>
    unfold Fz at z
    obtain ⟨a, od, kws, rfl, h1, z1⟩ := z
    obtain ⟨es, rfl, hl, q'⟩ := q'
    have e1 := ents_back z1
    subst e1
    have hH := S'.wd.ext _ _ h1
    refine ⟨a, od, _, rfl, hH, fun p hp => ?_⟩
    obtain ⟨W1, g1⟩ := S'.wd.own (o := itemsO p a) hp (fun _ z => by unfold itemsO at z; cases z)
    have hap : a ≠ p := fun z => by rw [z, hp] at hH; cases hH
    refine ⟨p, a, od, es, rfl, rfl, upd_same, by rw [upd_ne hap]; exact hH, hl, fun H2 t ts ls k1 k2 k3 k4 _ k5 ka k6 k7 k8 => ?_⟩
    obtain ⟨g2, W2⟩ := new_many (N := t :: ts) W1 k1 (fun b hb => by
      rcases List.mem_cons.mp hb with rfl | hb
      · exact k2
      · exact k3 b hb) fun b hb => ka b (fun z => hb (List.mem_cons_of_mem _ z)) (fun z => hb (by rw [z]; exact List.mem_cons_self))
    have inN : ∀ b ∈ t :: ts, extH F' H2 (t :: ts) b = H2 b := fun b hb => if_pos hb
    refine k _ _ H2 (.lst (ls.map gapD)) μ' ((g.trans g1).trans g2) ((S'.go g1 W1).go g2 W2) (fz_lst (fzl_pairs (paired_mem k6 fun x hx y hy => ?_)) (by rw [inN t List.mem_cons_self]; exact k5)) (q' ls k7 k8)
    rw [inN x (List.mem_cons_of_mem _ hx)]
    exact hy
  | non => exact q'.elim
  | bl _ => exact q'.elim
  | int _ => exact q'.elim
  | str _ => exact q'.elim
  | ty _ => exact q'.elim
  | tup _ => exact q'.elim
  | lst _ => exact q'.elim
  | ins _ _ => exact q'.elim
  | obj _ => exact q'.elim
  | scr _ _ => exact q'.elim
  | xcp _ _ _ _ => exact q'.elim
end
end DL

namespace DL
open PySem PySem.Spec PyProof.Rows L2
def cntW (w v : Nat) : Nat := if h : w = 0 then 0 else (if w = v then 1 else 0) + cntW ((w - 1) / 2) v + cntW (w / 2) v
termination_by w
decreasing_by all_goals omega
def cntI (w v : Int) : Int := (cntW w.toNat v.toNat : Int)
theorem cntI_z {w v : Int} (h : w ≤ 0) : cntI w v = 0 := by
  unfold cntI
  rw [show w.toNat = 0 from by omega, cntW]
  rfl
theorem cntI_s {w v : Int} (h : 0 < w) (hv : 0 < v) : cntI w v = (if w = v then 1 else 0) + cntI ((w - 1) / 2) v + cntI (w / 2) v := by
  unfold cntI
  rw [cntW, dif_neg (by omega)]
  rw [show ((w - 1) / 2).toNat = (w.toNat - 1) / 2 from by omega, show (w / 2).toNat = w.toNat / 2 from by omega]
  by_cases c : w = v
  · rw [if_pos c, if_pos (by rw [c])]
    push_cast
    rfl
  · rw [if_neg c, if_neg (by omega)]
    push_cast
    rfl
def levT (n p v : Int) : Int := (if n / p = v + 1 then p - n % p else 0) + (if n / p = v then n % p else 0)
theorem dm {p q x : Int} (h0 : 0 ≤ x) (h1 : x < p) : (x + p * q) / p = q ∧ (x + p * q) % p = x := by
  refine ⟨?_, ?_⟩
  · rw [Int.add_mul_ediv_left _ _ (by omega), Int.ediv_eq_zero_of_lt h0 h1]
    omega
  · rw [Int.add_mul_emod_self_left, Int.emod_eq_of_lt h0 h1]
theorem lev_step {n p v : Int} (hp : 0 < p) : levT n (2 * p) v = levT (n / 2) p v + levT ((n + 1) / 2) p v := by
  have e0 : n % (2 * p) + 2 * p * (n / (2 * p)) = n := Int.emod_add_mul_ediv n (2 * p)
  have r0 : 0 ≤ n % (2 * p) := Int.emod_nonneg _ (by omega)
  have r1 : n % (2 * p) < 2 * p := Int.emod_lt_of_pos _ (by omega)
  unfold levT
  generalize n / (2 * p) = q at e0 ⊢
  generalize n % (2 * p) = r at e0 r0 r1 ⊢
  rw [Int.mul_assoc] at e0
  generalize hX : p * q = X at e0
  have a1 : n / 2 = r / 2 + p * q := by rw [hX]; omega
  obtain ⟨d1, d2⟩ := dm (p := p) (q := q) (x := r / 2) (by omega) (by omega)
  rw [a1, d1, d2]
  by_cases c : r + 1 < 2 * p
  · have a2 : (n + 1) / 2 = (r + 1) / 2 + p * q := by rw [hX]; omega
    obtain ⟨d3, d4⟩ := dm (p := p) (q := q) (x := (r + 1) / 2) (by omega) (by omega)
    rw [a2, d3, d4]
    split <;> split <;> omega
  · have a2 : (n + 1) / 2 = 0 + p * (q + 1) := by rw [Int.mul_add, hX]; omega
    obtain ⟨d3, d4⟩ := dm (p := p) (q := q + 1) (x := 0) (by omega) (by omega)
    rw [a2, d3, d4]
    repeat (first | omega | split)
def levS (n v : Int) : Nat → Int
  | 0 => 0
  | k + 1 => levS n v k + levT n (2 ^ k) v
theorem pow_pos' (k : Nat) : (0 : Int) < 2 ^ k := Int.pow_pos (by decide)
theorem levS_step {n v : Int} : ∀ K : Nat, levS n v (K + 1) = levT n 1 v + levS (n / 2) v K + levS ((n + 1) / 2) v K
  | 0 => by simp [levS]
  | K + 1 => by
    rw [levS, levS_step K]
    rw [show (2 : Int) ^ (K + 1) = 2 * 2 ^ K from by rw [Int.pow_succ]; omega, lev_step (pow_pos' K)]
    simp only [levS]
    omega
theorem lev_one {n v : Int} : levT n 1 v = if n - 1 = v then 1 else 0 := by
  unfold levT
  rw [Int.ediv_one, Int.emod_one]
  repeat (first | omega | split)
theorem cnt_lev {v : Int} (hv : 0 < v) : ∀ (K : Nat) (n : Int), 1 ≤ n → n ≤ 2 ^ K → cntI (n - 1) v = levS n v K
  | 0, n, h0, h1 => by
    have h1' : n ≤ 1 := h1
    rw [cntI_z (by omega)]
    rfl
  | K + 1, n, h0, h1 => by
    rw [levS_step, lev_one]
    rw [show (2 : Int) ^ (K + 1) = 2 * 2 ^ K from by rw [Int.pow_succ]; omega] at h1
    have pp := pow_pos' K
    by_cases c : n = 1
    · subst c
      rw [cntI_z (by omega)]
      have h2 := cnt_lev hv K 1 (by omega) (by omega)
      rw [cntI_z (by omega)] at h2
      rw [if_neg (by omega)]
      have z : ∀ K : Nat, levS 0 v K = 0 := fun K => by
        induction K with
        | zero => rfl
        | succ K ih =>
          rw [levS, ih]
          unfold levT
          rw [Int.zero_ediv, Int.zero_emod, if_neg (by omega), if_neg (by omega)]
          rfl
      rw [show (1 : Int) / 2 = 0 from rfl, show ((1 : Int) + 1) / 2 = 1 from rfl, z, ← h2]
      rfl
    · rw [cntI_s (by omega) hv]
      rw [← cnt_lev hv K (n / 2) (by omega) (by omega), ← cnt_lev hv K ((n + 1) / 2) (by omega) (by omega)]
      rw [show (n - 1 - 1) / 2 = n / 2 - 1 from by omega, show (n - 1) / 2 = (n + 1) / 2 - 1 from by omega]
abbrev Tab := List (Int × Int)
def cntE : Tab → Int → Int
  | [], _ => 0
  | e :: r, v => if e.1 = v then e.2 else cntE r v
def addE : Tab → Int → Int → Tab
  | [], o, m => [(o, m)]
  | e :: r, o, m => if e.1 = o then (o, e.2 + m) :: r else e :: addE r o m
theorem cnt_add {o m v : Int} : ∀ es : Tab, cntE (addE es o m) v = cntE es v + if o = v then m else 0
  | [] => by
    simp only [addE, cntE]
    split <;> omega
  | e :: r => by
    unfold addE
    split
    · rename_i c
      simp only [cntE]
      rw [c]
      split <;> omega
    · rename_i c
      simp only [cntE]
      rw [cnt_add r]
      split
      · rw [if_neg (by omega)]
        omega
      · rfl
theorem mem_add {o m x : Int} : ∀ {es : Tab}, x ∈ (addE es o m).map (·.1) ↔ x = o ∨ x ∈ es.map (·.1)
  | [] => by simp [addE]
  | e :: r => by
    unfold addE
    split
    · rename_i c
      simp only [List.map_cons, List.mem_cons, c]
      constructor
      · rintro (h | h)
        · exact .inl h
        · exact .inr (.inr h)
      · rintro (h | h | h)
        · exact .inl h
        · exact .inl h
        · exact .inr h
    · simp only [List.map_cons, List.mem_cons, mem_add (es := r)]
      constructor
      · rintro (h | h | h)
        · exact .inr (.inl h)
        · exact .inl h
        · exact .inr (.inr h)
      · rintro (h | h | h)
        · exact .inr (.inl h)
        · exact .inl h
        · exact .inr (.inr h)
structure TabOk (es : Tab) : Prop where
  nd : (es.map (·.1)).Nodup
  pos : ∀ e ∈ es, 0 < e.1 ∧ 0 < e.2
theorem TabOk.nil : TabOk [] := ⟨List.nodup_nil, fun e h => by cases h⟩
theorem add_nd {o m : Int} : ∀ {es : Tab}, (es.map (·.1)).Nodup → ((addE es o m).map (·.1)).Nodup
  | [], _ => by simp [addE]
  | e :: r, h => by
    obtain ⟨h1, h2⟩ := List.nodup_cons.mp h
    unfold addE
    split
    · rename_i c
      rw [List.map_cons]
      dsimp only
      rw [← c]
      exact h
    · rename_i c
      rw [List.map_cons]
      refine List.nodup_cons.mpr ⟨fun hm => ?_, add_nd h2⟩
      rcases mem_add.mp hm with q | q
      · exact c q
      · exact h1 q
theorem add_pos {o m : Int} (ho : 0 < o) (hm : 0 < m) : ∀ {es : Tab}, (∀ e ∈ es, 0 < e.1 ∧ 0 < e.2) → ∀ e ∈ addE es o m, 0 < e.1 ∧ 0 < e.2
  | [], _, e, he => by
    simp only [addE, List.mem_singleton] at he
    subst he
    exact ⟨ho, hm⟩
  | x :: r, h, e, he => by
    unfold addE at he
    split at he
    · rcases List.mem_cons.mp he with rfl | he
      · exact ⟨ho, by have := (h x List.mem_cons_self).2; dsimp only; omega⟩
      · exact h e (List.mem_cons_of_mem _ he)
    · rcases List.mem_cons.mp he with rfl | he
      · exact h e List.mem_cons_self
      · exact add_pos ho hm (fun y hy => h y (List.mem_cons_of_mem _ hy)) e he
theorem TabOk.add {es : Tab} (h : TabOk es) {o m : Int} (ho : 0 < o) (hm : 0 < m) : TabOk (addE es o m) := ⟨add_nd h.nd, add_pos ho hm h.pos⟩
theorem add_len {o m : Int} : ∀ {es : Tab}, (addE es o m).length ≤ es.length + 1
  | [] => by simp [addE]
  | e :: r => by
    unfold addE
    split
    · simp
    · have := add_len (o := o) (m := m) (es := r)
      simp only [List.length_cons]
      omega
theorem cnt_mem {v : Int} : ∀ {es : Tab}, (es.map (·.1)).Nodup → ∀ e ∈ es, cntE es e.1 = e.2
  | [], _, e, h => by cases h
  | x :: r, nd, e, h => by
    obtain ⟨h1, h2⟩ := List.nodup_cons.mp nd
    unfold cntE
    rcases List.mem_cons.mp h with rfl | h
    · rw [if_pos rfl]
    · rw [if_neg fun c => h1 (List.mem_map.mpr ⟨e, h, c.symm⟩)]
      exact cnt_mem (v := v) h2 e h
theorem cnt_out {v : Int} : ∀ {es : Tab}, v ∉ es.map (·.1) → cntE es v = 0
  | [], _ => rfl
  | x :: r, h => by
    unfold cntE
    simp only [List.map_cons, List.mem_cons, not_or] at h
    rw [if_neg (fun c => h.1 c.symm)]
    exact cnt_out h.2
theorem look_ent {v : Int} : ∀ {es : Tab}, (lookD (es.map entD) (.inl v)) = if v ∈ es.map (·.1) then some (D.int (cntE es v)) else none
  | [] => rfl
  | e :: r => by
    unfold lookD
    rw [List.map_cons, List.find?_cons]
    dsimp only
    by_cases c : e.1 = v
    · rw [show decide ((Sum.inl e.1 : Key) = Sum.inl v) = true from by simp [c]]
      simp [cntE, c]
    · rw [show decide ((Sum.inl e.1 : Key) = Sum.inl v) = false from by simp [c]]
      dsimp only
      have ih := look_ent (v := v) (es := r)
      unfold lookD at ih
      rw [ih]
      have ec : cntE (e :: r) v = cntE r v := by
        show (if e.1 = v then e.2 else cntE r v) = _
        rw [if_neg c]
      rw [ec]
      have : v ∈ (e :: r).map (·.1) ↔ v ∈ r.map (·.1) := by
        simp only [List.map_cons, List.mem_cons]
        exact ⟨fun h => h.elim (fun z => (c z.symm).elim) id, .inr⟩
      by_cases m : v ∈ r.map (·.1)
      · rw [if_pos m, if_pos (this.mpr m)]
      · rw [if_neg m, if_neg fun z => m (this.mp z)]
theorem get_ent {es : Tab} {v : Int} : (lookD (es.map entD) (.inl v)).getD (.int 0) = .int (cntE es v) := by
  rw [look_ent]
  split
  · rfl
  · rename_i h
    rw [cnt_out h]
    rfl
theorem put_ent {o m : Int} : ∀ {es : Tab}, (es.map (·.1)).Nodup → putD (es.map entD) (.inl o) (.int (cntE es o + m)) = (addE es o m).map entD := by
  intro es nd
  unfold putD
  have key : ∀ es : Tab, ((es.map entD).any fun kv => decide (kv.1 = (Sum.inl o : Key))) = decide (o ∈ es.map (·.1)) := fun es => by
    induction es with
    | nil => rfl
    | cons e r ih =>
      rw [List.map_cons, List.any_cons, ih]
      by_cases c : e.1 = o
      · simp [c]
      · have c2 : ¬ o = e.1 := fun z => c z.symm
        simp [c, c2]
  rw [key]
  by_cases h : o ∈ es.map (·.1)
  · rw [if_pos (by simpa using h)]
    clear key
    induction es with
    | nil => cases h
    | cons e r ih =>
      obtain ⟨h1, h2⟩ := List.nodup_cons.mp nd
      unfold addE cntE
      by_cases c : e.1 = o
      · rw [if_pos c, if_pos c, List.map_cons, List.map_cons]
        have : (r.map entD).map (fun kv => if kv.1 = (Sum.inl o : Key) then (kv.1, D.int (e.2 + m)) else kv) = r.map entD := by
          rw [List.map_map]
          refine List.map_congr_left fun x hx => ?_
          have hne : x.1 ≠ o := fun z => h1 (List.mem_map.mpr ⟨x, hx, z.trans c.symm⟩)
          simp [hne]
        rw [this, List.map_cons]
        simp [c]
      · rw [if_neg c, if_neg c, List.map_cons, List.map_cons, List.map_cons]
        have hm : o ∈ r.map (·.1) := by
          rcases List.mem_cons.mp h with z | z
          · exact (c z.symm).elim
          · exact z
        rw [ih h2 hm]
        simp [c]
  · rw [if_neg (by simpa using h)]
    rw [cnt_out h]
    clear key
    induction es with
    | nil => simp [addE]
    | cons e r ih =>
      obtain ⟨h1, h2⟩ := List.nodup_cons.mp nd
      simp only [List.map_cons, List.mem_cons, not_or] at h
      unfold addE
      rw [if_neg (fun z => h.1 z.symm), List.map_cons, List.map_cons, List.cons_append, ih h2 h.2]
end DL

namespace DL
open PySem PySem.Spec PyProof.Rows L2
def WalkG (J : It) (F : Hp) (μ : Mu) (H : Hp) (ds : List D) : Prop := ∀ (F2 : Hp) (μ2 : Mu) (H2 : Hp), Grow F μ H F2 μ2 H2 → Wd F2 μ2 H2 →
  (∀ i, i < ds.length → J.go i H2) ∧ (∀ i d x H3, ds[i]? = some d → J.yld i H2 x H3 → ∃ F3, Grow F2 μ2 H2 F3 μ2 H3 ∧ Wd F3 μ2 H3 ∧ Fz F3 d x) ∧ J.stop ds.length H2
def SimJ (W : WX) (wi : TI) (t : DI) : Prop := ∀ {B : Anchor} {F : Hp} {σ : L2.St} {H : Hp} {ρ : List Slot} {μ : Mu} {Qd : List D → Mu → Prop} {Xd : DXQ} {R : It → Hp → Prop}, Sti B F σ H ρ μ → t ρ μ Qd Xd → GoX W B F σ H ρ μ Xd →
  (∀ J F' H' ds μ', Grow F μ H F' μ' H' → Sti B F' σ H' ρ μ' → WalkG J F' μ' H' ds → Qd ds μ' → R J H') → wi σ H R
structure PJD (X : Cx) (W : WX) (tg iter : Expr) (t : DI) : Prop where
  ex : ∃ wi, PI X tg iter wi ∧ SimJ W wi t
theorem PID.j {X : Cx} {W : WX} {tg iter : Expr} {t : DI} (h : PID X W tg iter t) : PJD X W tg iter t := by
  obtain ⟨wi, a1, a2⟩ := h.ex
  exact ⟨wi, a1, fun S q gx k => a2 S q gx fun J F' H' ds μ' g S' wk => k J F' H' ds μ' g S' fun F2 μ2 H2 g2 W2 => wk F2 μ2 H2 g2.fz W2⟩
def diOwn (i : Nat) : DI := fun ρ μ Q _ => mlP ρ[i]? fun ds => Q ds μ
section
variable {X : Cx} {W : WX}
variable {elt tg iter : Expr} {ifs : List Expr} {scope : Scope} {own : List (Str × Nat)} {pos : Pos} {di : DI} {dg : DG} {dt : DT} {de : DE}
end
theorem u_diOwn {i : Nat} {ρ : List Slot} {μ : Mu} {Q : List D → Mu → Prop} {X : DXQ} : diOwn i ρ μ Q X = mlP ρ[i]? fun ds => Q ds μ := rfl
end DL

namespace DL
open PySem PySem.Spec PyProof.Rows L2
def totC (gs : List (Int × Int)) (v : Int) : Int := (gs.map fun g => cntI g.2 v).sum
def sumW (gs : List (Int × Int)) : Int := (gs.map fun g => g.2).sum
def exp (ls : Tab) : List Int := ls.flatMap fun e => List.replicate e.2.toNat e.1
theorem exp_cons {e : Int × Int} {r : Tab} : exp (e :: r) = List.replicate e.2.toNat e.1 ++ exp r := rfl
def widAt : Tab → Int → Int
  | [], _ => 0
  | e :: r, i => if i < e.2 then e.1 else widAt r (i - e.2)
theorem exp_at : ∀ {ls : Tab} {i : Int}, (∀ e ∈ ls, 0 < e.2) → 0 ≤ i → i < (exp ls).length → (exp ls)[i.toNat]? = some (widAt ls i)
  | [], i, _, h0, h1 => by
    simp [exp] at h1
    omega
  | e :: r, i, hp, h0, h1 => by
    have he := hp e List.mem_cons_self
    rw [exp_cons] at h1 ⊢
    rw [List.length_append, List.length_replicate] at h1
    unfold widAt
    split
    · rw [List.getElem?_append_left (by rw [List.length_replicate]; omega), List.getElem?_replicate, if_pos (by omega)]
    · rw [List.getElem?_append_right (by rw [List.length_replicate]; omega), List.length_replicate]
      rw [show i.toNat - e.2.toNat = (i - e.2).toNat from by omega]
      exact exp_at (fun x hx => hp x (List.mem_cons_of_mem _ hx)) (by omega) (by omega)
theorem mem_exp {x : Int} : ∀ {ls : Tab}, x ∈ exp ls → x ∈ ls.map (·.1)
  | [], h => by simp [exp] at h
  | e :: r, h => by
    rw [exp_cons] at h
    rcases List.mem_append.mp h with h | h
    · rw [List.eq_of_mem_replicate h]
      simp
    · rw [List.map_cons]
      exact List.mem_cons_of_mem _ (mem_exp h)
theorem count_exp {v : Int} : ∀ {ls : Tab}, (ls.map (·.1)).Nodup → (∀ e ∈ ls, 0 < e.2) → ((exp ls).count v : Int) = cntE ls v
  | [], _, _ => by simp [exp, cntE]
  | e :: r, nd, hp => by
    obtain ⟨h1, h2⟩ := List.nodup_cons.mp nd
    have he := hp e List.mem_cons_self
    have ih := count_exp (v := v) h2 fun x hx => hp x (List.mem_cons_of_mem _ hx)
    rw [exp_cons, List.count_append, List.count_replicate]
    unfold cntE
    by_cases c : e.1 = v
    · rw [if_pos (by simpa using c), if_pos c]
      have : (exp r).count v = 0 := List.count_eq_zero.mpr fun hm => h1 (by show e.1 ∈ _; rw [show e.1 = v from c]; exact mem_exp hm)
      rw [this]
      push_cast
      omega
    · rw [if_neg (by simpa using c), if_neg c, ← ih]
      push_cast
      omega
theorem exp_srt : ∀ {ls : Tab}, ls.Pairwise gtP → (ls.map (·.1)).Nodup → (exp ls).Pairwise (· ≥ ·)
  | [], _, _ => by simp [exp]
  | e :: r, h, nd => by
    obtain ⟨h1, h2⟩ := List.pairwise_cons.mp h
    obtain ⟨n1, n2⟩ := List.nodup_cons.mp nd
    rw [exp_cons, List.pairwise_append]
    refine ⟨List.pairwise_replicate.mpr (.inr (Int.le_refl _)), exp_srt h2 n2, fun a ha b hb => ?_⟩
    rw [List.eq_of_mem_replicate ha]
    obtain ⟨x, hx, rfl⟩ := List.mem_map.mp (mem_exp hb)
    have := h1 x hx
    unfold gtP at this
    show x.1 ≤ e.1
    omega
theorem srt_eq : ∀ {l m : List Int}, l.Pairwise (· ≥ ·) → m.Pairwise (· ≥ ·) → l.Perm m → l = m
  | [], m, _, _, h => by rw [List.nil_perm.mp h]
  | x :: l, [], _, _, h => by simpa using h.length_eq
  | x :: l, y :: m, h1, h2, h => by
    obtain ⟨a1, a2⟩ := List.pairwise_cons.mp h1
    obtain ⟨b1, b2⟩ := List.pairwise_cons.mp h2
    have e : x = y := by
      have k1 : x ≤ y := by
        rcases List.mem_cons.mp (h.mem_iff.mp List.mem_cons_self) with e | e
        · omega
        · exact b1 x e
      have k2 : y ≤ x := by
        rcases List.mem_cons.mp (h.mem_iff.mpr List.mem_cons_self) with e | e
        · omega
        · exact a1 y e
      omega
    subst e
    rw [srt_eq a2 b2 h.cons_inv]
theorem cnt_perm {v : Int} {es ls : Tab} (h : ls.Perm es) (nd : (es.map (·.1)).Nodup) : cntE ls v = cntE es v := by
  have nd2 : (ls.map (·.1)).Nodup := (h.map _).nodup_iff.mpr nd
  by_cases c : v ∈ es.map (·.1)
  · obtain ⟨e, he, rfl⟩ := List.mem_map.mp c
    rw [cnt_mem (v := 0) nd e he, cnt_mem (v := 0) nd2 e (h.mem_iff.mpr he)]
  · rw [cnt_out c, cnt_out fun z => c ((h.map _).mem_iff.mp z)]
theorem seq_exp {es ls : Tab} {seq : List Int} (ok : TabOk es) (hp : ls.Perm es) (hs : ls.Pairwise gtP) (srt : seq.Pairwise (· ≥ ·)) (pos : ∀ x ∈ seq, 0 < x) (cnt : ∀ v, 0 < v → (seq.count v : Int) = cntE es v) : seq = exp ls := by
  have nd2 : (ls.map (·.1)).Nodup := (hp.map _).nodup_iff.mpr ok.nd
  have pos2 : ∀ e ∈ ls, 0 < e.1 ∧ 0 < e.2 := fun e he => ok.pos e (hp.mem_iff.mp he)
  refine srt_eq srt (exp_srt hs nd2) (List.perm_iff_count.mpr fun v => ?_)
  by_cases hv : 0 < v
  · have a := cnt v hv
    have b := count_exp (v := v) nd2 fun e he => (pos2 e he).2
    rw [cnt_perm hp ok.nd] at b
    omega
  · rw [List.count_eq_zero.mpr fun h => hv (pos v h), List.count_eq_zero.mpr fun h => ?_]
    obtain ⟨e, he, rfl⟩ := List.mem_map.mp (mem_exp h)
    exact hv (pos2 e he).1
structure NearP (P : List Int) (e : Int × Int) : Prop where
  all : ∀ o ∈ P, (e.2 + 1) / 2 ≤ absI (e.1 - o)
  at_ : ∃ o ∈ P, absI (e.1 - o) = (e.2 + 1) / 2
structure LineI (gs : List (Int × Int)) (P0 : List Int) (acc hs : List (Int × Int)) : Prop where
  cnt : ∀ v, 0 < v → ((acc.map (·.2)).count v : Int) + totC hs v = totC gs v
  pos : ∀ h ∈ hs, 0 < h.2
  nd : (hs.map (·.1)).Nodup
  srt : (acc.map (·.2)).Pairwise (· ≥ ·)
  low : ∀ a ∈ acc, ∀ h ∈ hs, h.2 ≤ a.2
  len : (acc.length : Int) + sumW hs = sumW gs
  apos : ∀ a ∈ acc, 0 < a.2
  geo : ∀ h ∈ hs, h.1 - 1 ∈ P0 ++ acc.map (·.1) ∧ h.1 + h.2 ∈ P0 ++ acc.map (·.1) ∧ ∀ o ∈ P0 ++ acc.map (·.1), o < h.1 ∨ h.1 + h.2 ≤ o
  near : ∀ pre e post, acc = pre ++ e :: post → NearP (P0 ++ pre.map (·.1)) e
def parts (b w : Int) : List (Int × Int) := [(b, (w - 1) / 2), (b + (w - 1) / 2 + 1, w / 2)].filter fun h => decide (0 < h.2)
theorem items_ent {es : Tab} : itemsD (es.map entD) = es.map gapD := by
  unfold itemsD
  rw [List.map_map]
  rfl
theorem eqs_there2 : True := by
  have _ := @dMPut.eq_1
  have _ := @dGet2.eq_1
  have _ := @dSetM.eq_1
  have _ := @slM.eq_1
  have _ := @doEmp.eq_1
  have _ := @dSortItR.eq_1
  have _ := @diItems.eq_1
  trivial
structure Later (s : Int) (ts : List Int) (ls : Tab) : Prop where
  ok : TabOk ls
  srt : ls.Pairwise gtP
  cnt : ∀ v, 0 < v → cntE ls v = totC (gapsF 0 (ts ++ [s])) v
def addT : Tab → Int → Int
  | [], _ => 0
  | e :: r, v => (if 0 < e.1 ∧ 0 < e.2 ∧ e.1 = v then e.2 else 0) + addT r v
theorem addT_lev {n p v : Int} (hp : 0 < p) (hv : 0 < v) : addT [(n / p - 1, p - n % p), (n / p, n % p)] v = levT n p v := by
  have r1 := Int.emod_lt_of_pos n hp
  have r0 := Int.emod_nonneg n (show p ≠ 0 by omega)
  unfold levT
  simp only [addT]
  by_cases a : n / p = v + 1
  · rw [if_pos (by omega), if_pos a, if_neg (by omega), if_neg (by omega)]
    omega
  · rw [if_neg (by omega), if_neg a]
    by_cases b : n / p = v
    · rw [if_pos b]
      by_cases c : 0 < n % p
      · rw [if_pos (by omega)]
        omega
      · rw [if_neg (by omega)]
        omega
    · rw [if_neg (by omega), if_neg b]
      omega
end DL

namespace DL
open PySem PySem.Spec PyProof.Rows L2
def dNeM : DR2 := fun x y Q => ∃ ks, x = .dic ks ∧ y = .dic [] ∧ Q (.bl (!ks.isEmpty))
theorem neM_d {ks : List (Key × D)} {Q : D → Prop} : dNeM (.dic ks) (.dic []) Q = Q (.bl (!ks.isEmpty)) :=
  propext ⟨fun ⟨_, e, _, q⟩ => by cases e; exact q, fun q => ⟨_, rfl, rfl, q⟩⟩
section
variable {X : Cx} {W : WX} {a b : Expr} {da db : DE} {pos : Pos}
end
def dRgL2 (a b : DE) : DE := fun ρ μ Q X => a ρ μ (fun d μ1 => b ρ μ1 (fun e μ2 => ∃ i j, d = .int i ∧ e = .int j ∧ 0 ≤ i ∧ i ≤ j ∧ j ≤ 1000000 ∧ Q (.lst (rangeD i (j - i).toNat)) μ2) X) X
section
variable {X : Cx} {W : WX} {a b : Expr} {da db : DE} {p q pos pos2 : Pos}
end
def doDisp1 (a e : DE) : DId := fun ρ μ Q X => a ρ μ (fun dk μ1 => e ρ μ1 (fun dx μ2 => kyP dk fun k => Q [(k, dx)] μ2) X) X
section
variable {X : Cx} {W : WX} {ke ve : Expr} {dk dv : DE} {pos : Pos}
end
def dListItO (i : Nat) : DE := fun ρ μ Q _ => mdP ρ[i]? fun ks => Q (.lst (itemsD ks)) μ
section
variable {X : Cx} {W : WX} {x : Str} {p q apos cpos pos : Pos}
end
theorem eqs_there3 : True := by
  have _ := @doDisp1.eq_1
  have _ := @dListItO.eq_1
  have _ := @dRgL2.eq_1
  trivial
end DL

namespace DL
open PySem PySem.Spec PyProof.Rows L2
def wl (w : Nat) : List Nat := if h : w = 0 then [] else w :: (wl ((w - 1) / 2) ++ wl (w / 2))
termination_by w
decreasing_by all_goals omega
theorem wl_z : wl 0 = [] := by rw [wl]; rfl
theorem wl_s {w : Nat} (h : w ≠ 0) : wl w = w :: (wl ((w - 1) / 2) ++ wl (w / 2)) := by rw [wl, dif_neg h]
theorem wl_len : ∀ w : Nat, (wl w).length = w := fun w => by
  induction w using Nat.strongRecOn with
  | _ w ih =>
    by_cases h : w = 0
    · subst h
      rw [wl_z]
      rfl
    · rw [wl_s h, List.length_cons, List.length_append, ih _ (by omega), ih _ (by omega)]
      omega
theorem wl_cnt {v : Nat} : ∀ w : Nat, (wl w).count v = cntW w v := fun w => by
  induction w using Nat.strongRecOn with
  | _ w ih =>
    by_cases h : w = 0
    · subst h
      rw [wl_z, cntW]
      rfl
    · rw [wl_s h, cntW, dif_neg h, List.count_cons, List.count_append, ih _ (by omega), ih _ (by omega)]
      by_cases c : w = v
      · rw [if_pos c, if_pos (by simpa using c)]
        omega
      · rw [if_neg c, if_neg (by simpa using c)]
        omega
theorem wl_pos : ∀ w : Nat, ∀ x ∈ wl w, 0 < x := fun w => by
  induction w using Nat.strongRecOn with
  | _ w ih =>
    intro x hx
    by_cases h : w = 0
    · subst h
      rw [wl_z] at hx
      cases hx
    · rw [wl_s h] at hx
      rcases List.mem_cons.mp hx with rfl | hx
      · omega
      · rcases List.mem_append.mp hx with hx | hx
        · exact ih _ (by omega) x hx
        · exact ih _ (by omega) x hx
theorem count_ofNat {n : Nat} : ∀ l : List Nat, (l.map Int.ofNat).count (Int.ofNat n) = l.count n
  | [] => rfl
  | a :: l => by
    rw [List.map_cons, List.count_cons, List.count_cons, count_ofNat l]
    by_cases c : a = n
    · subst c
      simp
    · rw [if_neg (by simp; omega), if_neg (by simpa using c)]
def wlI (w : Int) : List Int := (wl w.toNat).map Int.ofNat
def flatW (gs : List (Int × Int)) : List Int := gs.flatMap fun g => wlI g.2
theorem flatW_cons {g : Int × Int} {gs : List (Int × Int)} : flatW (g :: gs) = wlI g.2 ++ flatW gs := rfl
theorem wlI_cnt {w v : Int} (hv : 0 < v) : ((wlI w).count v : Int) = cntI w v := by
  unfold wlI cntI
  have e : v = Int.ofNat v.toNat := by simp; omega
  rw [← wl_cnt]
  conv => lhs; rw [e]
  rw [count_ofNat]
theorem flatW_cnt {v : Int} (hv : 0 < v) : ∀ gs : List (Int × Int), ((flatW gs).count v : Int) = totC gs v
  | [] => rfl
  | g :: gs => by
    have e : totC (g :: gs) v = cntI g.2 v + totC gs v := by simp [totC]
    rw [flatW_cons, List.count_append, e, ← flatW_cnt hv gs, ← wlI_cnt hv]
    push_cast
    rfl
theorem flatW_len : ∀ {gs : List (Int × Int)}, (∀ g ∈ gs, 0 < g.2) → ((flatW gs).length : Int) = sumW gs
  | [], _ => rfl
  | g :: gs, h => by
    have e : sumW (g :: gs) = g.2 + sumW gs := by simp [sumW]
    have := h g List.mem_cons_self
    rw [flatW_cons, List.length_append, e, ← flatW_len fun x hx => h x (List.mem_cons_of_mem _ hx)]
    unfold wlI
    rw [List.length_map, wl_len]
    push_cast
    omega
theorem flatW_pos {gs : List (Int × Int)} : ∀ x ∈ flatW gs, 0 < x := fun x hx => by
  obtain ⟨g, _, hg⟩ := List.mem_flatMap.mp hx
  unfold wlI at hg
  obtain ⟨n, hn, rfl⟩ := List.mem_map.mp hg
  have := wl_pos _ n hn
  simp
  omega
structure TabIs (s : Int) (ts : List Int) (tab : Tab) : Prop where
  pos : ∀ e ∈ tab, 0 < e.1 ∧ 0 < e.2
  cnt : ∀ v, 0 < v → ((exp tab).count v : Int) = totC (gapsF 0 (ts ++ [s])) v
theorem exp_pos {tab : Tab} (h : ∀ e ∈ tab, 0 < e.1 ∧ 0 < e.2) : ∀ x ∈ exp tab, 0 < x := fun x hx => by
  obtain ⟨e, he, rfl⟩ := List.mem_map.mp (mem_exp hx)
  exact (h e he).1
theorem TabIs.perm {s : Int} {ts : List Int} {tab : Tab} (T : TabIs s ts tab) : (exp tab).Perm (flatW (gapsF 0 (ts ++ [s]))) := List.perm_iff_count.mpr fun v => by
  by_cases h : 0 < v
  · have h1 := T.cnt v h
    have h2 := flatW_cnt h (gapsF 0 (ts ++ [s]))
    omega
  · rw [List.count_eq_zero.mpr fun z => h (exp_pos T.pos v z), List.count_eq_zero.mpr fun z => h (flatW_pos v z)]
theorem sumW_row {s : Int} {ts : List Int} (R : RowOk s ts) : sumW (gapsF 0 (ts ++ [s])) = s - ts.length := by
  obtain ⟨u, p⟩ := row_up R
  have := sum_gaps ts 0 u p
  unfold sumW
  omega
theorem TabIs.len {s : Int} {ts : List Int} {tab : Tab} (R : RowOk s ts) (T : TabIs s ts tab) : ((exp tab).length : Int) = s - ts.length := by
  rw [T.perm.length_eq, flatW_len fun g hg => gapsF_pos _ _ g hg, sumW_row R]
theorem Later.tab {s : Int} {ts : List Int} {ls : Tab} (L : Later s ts ls) : TabIs s ts ls :=
  ⟨L.ok.pos, fun v hv => by rw [count_exp L.ok.nd (fun e he => (L.ok.pos e he).2), L.cnt v hv]⟩
theorem sum_exp {p : Int → Bool} : ∀ {tab : Tab}, (∀ e ∈ tab, 0 < e.1 ∧ 0 < e.2) → ((tab.filter fun e => p e.1).map (·.2)).sum = (((exp tab).filter p).length : Int)
  | [], _ => rfl
  | e :: r, h => by
    have ih := sum_exp (p := p) (tab := r) fun x hx => h x (List.mem_cons_of_mem _ hx)
    have h2 := (h e List.mem_cons_self).2
    rw [exp_cons, List.filter_append, List.length_append]
    by_cases c : p e.1 = true
    · rw [show ((e :: r).filter fun e => p e.1) = e :: r.filter fun e => p e.1 from by rw [List.filter_cons, if_pos c], List.map_cons, List.sum_cons, ih, List.filter_replicate, if_pos c, List.length_replicate]
      push_cast
      omega
    · rw [show ((e :: r).filter fun e => p e.1) = r.filter fun e => p e.1 from by rw [List.filter_cons, if_neg c], ih, List.filter_replicate, if_neg c]
      simp
theorem tab_sum {s : Int} {ts : List Int} {tab : Tab} (R : RowOk s ts) (T : TabIs s ts tab) : (tab.map (·.2)).sum = s - ts.length := by
  have := sum_exp (p := fun _ => true) T.pos
  rw [List.filter_eq_self.mpr (fun _ _ => rfl), List.filter_eq_self.mpr (fun _ _ => rfl), T.len R] at this
  exact this
end DL

namespace DL
open PySem PySem.Spec PyProof.Rows L2
section
variable {P : Program} {w : World} {K : PySem.W.Frag} {mg : Str → Option Value} {base : Heap}
def FnK (P : Program) (w : World) (K : PySem.W.Frag) (mg : Str → Option Value) (base : Heap) (k : Nat) (f : Addr) (ky : Str) (sp : Sp) : Prop :=
  ∀ (A : Around) (outer : List Env) (s : Shared) (H : Hp) (us ws : List Value) (vs zs : List V) (Q : VK) (E : XK), Room k A → A.guards = some [] → Env0 P w K mg base A outer s H → Vals vs us → Vals zs ws → zs.length = 1 → sp (vs ++ zs) H Q E →
    codeAny (model P w) A (.call (.ref f) ⟨us, [ky].zip ws⟩) (CR (L2.CX P w) outer P w H s Q E) s
structure CalK (P : Program) (w : World) (K : PySem.W.Frag) (mg : Str → Option Value) (base : Heap) (k : Nat) (x ky : Str) (sp : DSp) : Prop where
  ex : ∃ (f : Addr), FnK P w K mg base k f ky (spOf sp) ∧ mg x = some (.ref f) ∧ PySem.W.keepIn K (.ref f) = true
end
def dCallK (sp : DSp) (a : DA) (e : DE) : DE := fun ρ μ Q Z => a ρ μ (fun ds μ1 => e ρ μ1 (fun d μ2 => sp (ds ++ [d]) μ2 Q Z) Z) Z
section
variable {X : Cx} {W : WX} {k j : Nat} {x ky : Str} {p pos kpos : Pos} {e v : Expr} {es : List Expr} {a : DA} {dv : DE} {sp : DSp}
end
theorem eqs_there4 : True := by
  have _ := @dCallK.eq_1
  trivial
end DL

namespace DL
open PySem PySem.Spec PyProof.Rows L2
structure TabEx (s : Int) (ts : List Int) (tab : Tab) : Prop where
  is : TabIs s ts tab
  srt : (exp tab).Pairwise (· ≥ ·)
theorem Later.ex {s : Int} {ts : List Int} {ls : Tab} (L : Later s ts ls) : TabEx s ts ls := ⟨L.tab, exp_srt L.srt L.ok.nd⟩
theorem TabEx.eq {s : Int} {ts : List Int} {a b : Tab} (A : TabEx s ts a) (B : TabEx s ts b) : exp a = exp b := srt_eq A.srt B.srt (A.is.perm.trans B.is.perm.symm)
end DL

namespace DL
open PySem PySem.Spec PyProof.Rows L2
def inoN (b : Int) (w : Nat) : List (Int × Int) :=
  if h : w = 0 then [] else inoN b ((w - 1) / 2) ++ (b, (w : Int)) :: inoN (b + ((w - 1) / 2 : Nat) + 1) (w / 2)
termination_by w
decreasing_by all_goals omega
def inoI (b w : Int) : List (Int × Int) := inoN b w.toNat
theorem inoI_z {b w : Int} (h : w ≤ 0) : inoI b w = [] := by
  unfold inoI
  rw [inoN, dif_pos (by omega)]
theorem inoI_s {b w : Int} (h : 0 < w) : inoI b w = inoI b ((w - 1) / 2) ++ (b, w) :: inoI (b + (w - 1) / 2 + 1) (w / 2) := by
  unfold inoI
  rw [inoN, dif_neg (by omega)]
  rw [show ((w - 1) / 2).toNat = (w.toNat - 1) / 2 from by omega, show (w / 2).toNat = w.toNat / 2 from by omega, show ((w.toNat : Nat) : Int) = w from by omega, show (((w.toNat - 1) / 2 : Nat) : Int) = (w - 1) / 2 from by omega]
theorem ino_ind {P : Int → Int → Prop} (hz : ∀ b w, w ≤ 0 → P b w) (hs : ∀ b w, 0 < w → P b ((w - 1) / 2) → P (b + (w - 1) / 2 + 1) (w / 2) → P b w) : ∀ b w, P b w := by
  have key : ∀ n : Nat, ∀ b w : Int, w.toNat ≤ n → P b w := by
    intro n
    induction n with
    | zero => exact fun b w h => hz b w (by omega)
    | succ n ih =>
      intro b w h
      by_cases c : w ≤ 0
      · exact hz b w c
      · exact hs b w (by omega) (ih _ _ (by omega)) (ih _ _ (by omega))
  exact fun b w => key _ b w (Nat.le_refl _)
def mid (g : Int × Int) : Int := g.1 + (g.2 - 1) / 2
theorem ino_mem : ∀ b w : Int, ∀ g ∈ inoI b w, 0 < g.2 ∧ g.2 ≤ w ∧ b ≤ g.1 ∧ g.1 + g.2 ≤ b + w := by
  refine ino_ind (fun b w h g hg => by rw [inoI_z h] at hg; cases hg) fun b w h h1 h2 g hg => ?_
  rw [inoI_s h] at hg
  rcases List.mem_append.mp hg with hg | hg
  · have := h1 g hg
    omega
  · rcases List.mem_cons.mp hg with rfl | hg
    · dsimp only
      omega
    · have := h2 g hg
      omega
theorem ino_mids : ∀ b w : Int, (inoI b w).map mid = (List.range w.toNat).map fun i : Nat => b + (i : Int) := by
  refine ino_ind (fun b w h => by rw [inoI_z h, show w.toNat = 0 from by omega]; rfl) fun b w h h1 h2 => ?_
  rw [inoI_s h, List.map_append, List.map_cons, h1, h2]
  have e : w.toNat = ((w - 1) / 2).toNat + (1 + (w / 2).toNat) := by omega
  rw [e, List.range_add, List.map_append, List.map_map, List.range_add, List.map_append]
  congr 1
  have hm : mid (b, w) = b + (w - 1) / 2 := rfl
  rw [hm]
  simp only [List.range_one, List.map_cons, List.map_nil, List.cons_append, List.nil_append, List.map_map]
  congr 1
  · simp only [Function.comp]
    omega
  · refine List.map_congr_left fun i _ => ?_
    simp only [Function.comp]
    omega
def cntV (v : Int) (l : List (Int × Int)) : Nat := l.countP fun h => decide (h.2 = v)
theorem cntV_app {v : Int} {l m : List (Int × Int)} : cntV v (l ++ m) = cntV v l + cntV v m := List.countP_append
theorem cntV_cons {v : Int} {g : Int × Int} {l : List (Int × Int)} : cntV v (g :: l) = cntV v l + if g.2 = v then 1 else 0 := by
  unfold cntV
  rw [List.countP_cons]
  simp
theorem ino_cnt {v : Int} (hv : 0 < v) : ∀ b w : Int, (cntV v (inoI b w) : Int) = cntI w v := by
  refine ino_ind (fun b w h => by rw [inoI_z h, cntI_z h]; rfl) fun b w h h1 h2 => ?_
  rw [inoI_s h, cntV_app, cntV_cons, cntI_s h hv, ← h1, ← h2]
  dsimp only
  split <;> omega
def inoG (gs : List (Int × Int)) : List (Int × Int) := gs.flatMap fun g => inoI g.1 g.2
theorem inoG_nil : inoG [] = [] := rfl
theorem inoG_cons {g : Int × Int} {gs : List (Int × Int)} : inoG (g :: gs) = inoI g.1 g.2 ++ inoG gs := rfl
theorem inoG_mem {gs : List (Int × Int)} {h : Int × Int} : h ∈ inoG gs ↔ ∃ g ∈ gs, h ∈ inoI g.1 g.2 := List.mem_flatMap
theorem inoG_cnt {v : Int} (hv : 0 < v) : ∀ gs : List (Int × Int), (cntV v (inoG gs) : Int) = totC gs v
  | [] => rfl
  | g :: gs => by
    rw [inoG_cons, cntV_app]
    have := inoG_cnt hv gs
    have := ino_cnt hv g.1 g.2
    have e : totC (g :: gs) v = cntI g.2 v + totC gs v := rfl
    omega
def Apart (gs : List (Int × Int)) : Prop := gs.Pairwise fun g h => g.1 + g.2 ≤ h.1
theorem ino_asc (b w : Int) : (inoI b w).Pairwise fun g h => mid g < mid h := by
  have e := ino_mids b w
  have : ((inoI b w).map mid).Pairwise (· < ·) := by
    rw [e]
    refine List.pairwise_map.mpr ?_
    refine List.pairwise_lt_range.imp fun h => ?_
    omega
  exact List.pairwise_map.mp this
theorem ino_midin {b w : Int} {g : Int × Int} (h : g ∈ inoI b w) : b ≤ mid g ∧ mid g < b + w := by
  have := ino_mem b w g h
  unfold mid
  omega
theorem inoG_asc : ∀ {gs : List (Int × Int)}, Apart gs → (inoG gs).Pairwise fun g h => mid g < mid h
  | [], _ => List.Pairwise.nil
  | g :: gs, h => by
    obtain ⟨h1, h2⟩ := List.pairwise_cons.mp h
    rw [inoG_cons]
    refine List.pairwise_append.mpr ⟨ino_asc _ _, inoG_asc h2, fun x hx y hy => ?_⟩
    obtain ⟨g', hg', hy⟩ := inoG_mem.mp hy
    have := ino_midin hx
    have := ino_midin hy
    have := h1 g' hg'
    omega
theorem inoG_inj {gs : List (Int × Int)} (A : Apart gs) {g h : Int × Int} (hg : g ∈ inoG gs) (hh : h ∈ inoG gs) (e : mid g = mid h) : g = h := by
  have := inoG_asc A
  obtain ⟨i, hi, rfl⟩ := List.mem_iff_getElem.mp hg
  obtain ⟨j, hj, rfl⟩ := List.mem_iff_getElem.mp hh
  rcases Nat.lt_trichotomy i j with c | c | c
  · have := List.pairwise_iff_getElem.mp this i j hi hj c
    omega
  · subst c
    rfl
  · have := List.pairwise_iff_getElem.mp this j i hj hi c
    omega
theorem inoG_nd {gs : List (Int × Int)} (A : Apart gs) : (inoG gs).Nodup := (inoG_asc A).imp fun h e => by rw [e] at h; omega
def ltG (a b : Int × Int) : Prop := b.2 < a.2 ∨ (a.2 = b.2 ∧ a.1 < b.1)
instance (a b : Int × Int) : Decidable (ltG a b) := inferInstanceAs (Decidable (_ ∨ _))
theorem ltG_irr {a : Int × Int} (h : ltG a a) : False := by
  unfold ltG at h
  omega
theorem ltG_asymm {a b : Int × Int} (h : ltG a b) (h2 : ltG b a) : False := by
  unfold ltG at h h2
  omega
theorem ltG_tri {a b : Int × Int} (h : a ≠ b) : ltG a b ∨ ltG b a := by
  obtain ⟨a1, a2⟩ := a
  obtain ⟨b1, b2⟩ := b
  unfold ltG
  dsimp only
  have : ¬ (a1 = b1 ∧ a2 = b2) := fun e => h (by rw [e.1, e.2])
  omega
theorem ltG_uniq {l m : List (Int × Int)} (h1 : l.Pairwise ltG) (h2 : m.Pairwise ltG) (p : l.Perm m) : l = m :=
  p.eq_of_pairwise (fun a b _ _ x y => (ltG_asymm x y).elim) h1 h2
def leG (a b : Int × Int) : Bool := decide (b.2 < a.2 ∨ (a.2 = b.2 ∧ a.1 ≤ b.1))
def ordG (gs : List (Int × Int)) : List (Int × Int) := (inoG gs).mergeSort leG
theorem ordG_perm (gs : List (Int × Int)) : (ordG gs).Perm (inoG gs) := List.mergeSort_perm _ _
theorem ordG_srt {gs : List (Int × Int)} (A : Apart gs) : (ordG gs).Pairwise ltG := by
  have h1 : (ordG gs).Pairwise fun a b => leG a b = true := List.pairwise_mergeSort (le := leG) (fun a b c h1 h2 => by
    simp only [leG, decide_eq_true_eq] at h1 h2 ⊢
    omega) (fun a b => by
    simp only [leG, Bool.or_eq_true, decide_eq_true_eq]
    omega) _
  have h2 : (ordG gs).Nodup := (ordG_perm gs).nodup_iff.mpr (inoG_nd A)
  refine (h1.and h2).imp fun {a b} ⟨h1, h2⟩ => ?_
  simp only [leG, decide_eq_true_eq] at h1
  rcases ltG_tri h2 with h | h
  · exact h
  · unfold ltG at h
    unfold ltG
    have : ¬ (a.1 = b.1 ∧ a.2 = b.2) := fun e => h2 (Prod.ext e.1 e.2)
    omega
theorem ordG_eq {gs L : List (Int × Int)} (A : Apart gs) (p : L.Perm (inoG gs)) (h : L.Pairwise ltG) : L = ordG gs := ltG_uniq h (ordG_srt A) (p.trans (ordG_perm gs).symm)
theorem srt_place {L : List (Int × Int)} (h : L.Pairwise ltG) {i : Nat} {g : Int × Int} (e : L[i]? = some g) : L.countP (fun x => decide (ltG x g)) = i := by
  induction L generalizing i with
  | nil => simp at e
  | cons x L ih =>
    obtain ⟨h1, h2⟩ := List.pairwise_cons.mp h
    rw [List.countP_cons]
    cases i with
    | zero =>
      simp at e
      subst e
      have z : L.countP (fun y => decide (ltG y x)) = 0 := List.countP_eq_zero.mpr fun y hy q => ltG_asymm (h1 y hy) (by simpa using q)
      rw [z, if_neg (by simpa using fun q => ltG_irr q)]
    | succ i =>
      have e' : L[i]? = some g := by simpa using e
      have hg : g ∈ L := List.mem_of_getElem? e'
      rw [ih h2 e', if_pos (by simpa using h1 g hg)]
def numG (gs : List (Int × Int)) (g : Int × Int) : Nat := (inoG gs).countP fun x => decide (ltG x g)
theorem ord_num {gs : List (Int × Int)} (A : Apart gs) {g : Int × Int} (h : g ∈ inoG gs) : (ordG gs)[numG gs g]? = some g := by
  have hm : g ∈ ordG gs := (ordG_perm gs).mem_iff.mpr h
  obtain ⟨i, hi⟩ := List.getElem?_of_mem hm
  have := srt_place (ordG_srt A) hi
  rw [(ordG_perm gs).countP_eq] at this
  unfold numG
  rw [this]
  exact hi
structure LineO (gs acc hs : List (Int × Int)) : Prop where
  perm : (acc ++ inoG hs).Perm (inoG gs)
  pos : ∀ h ∈ hs, 0 < h.2
  srt : acc.Pairwise ltG
  low : ∀ a ∈ acc, ∀ h ∈ inoG hs, ltG a h
theorem LineO.start {gs : List (Int × Int)} (h : ∀ g ∈ gs, 0 < g.2) : LineO gs [] gs := ⟨by simp, h, List.Pairwise.nil, fun a ha => by cases ha⟩
theorem LineO.done {gs acc : List (Int × Int)} (A : Apart gs) (I : LineO gs acc []) : acc = ordG gs := ordG_eq A (by simpa [inoG] using I.perm) I.srt
end DL

namespace DL
open PySem PySem.Spec PyProof.Rows L2
theorem countP_two {α : Type} {p q r : α → Bool} (h1 : ∀ x, r x = (p x || q x)) (h2 : ∀ x, (p x && q x) = false) : ∀ l : List α, l.countP r = l.countP p + l.countP q
  | [] => rfl
  | x :: l => by
    rw [List.countP_cons, List.countP_cons, List.countP_cons, countP_two h1 h2 l, h1 x]
    have := h2 x
    cases hp : p x <;> cases hq : q x <;> simp [hp, hq] at this ⊢ <;> omega
def gtC (v : Int) (l : List (Int × Int)) : Nat := l.countP fun h => decide (v < h.2)
def rkC (v x : Int) (l : List (Int × Int)) : Nat := l.countP fun h => decide (h.2 = v) && decide (mid h < x)
theorem num_split (gs : List (Int × Int)) (g : Int × Int) : numG gs g = gtC g.2 (inoG gs) + rkC g.2 (mid g) (inoG gs) := by
  unfold numG gtC rkC
  refine countP_two (fun h => ?_) (fun h => ?_) _
  · rw [Bool.eq_iff_iff]
    simp only [decide_eq_true_eq, Bool.or_eq_true, Bool.and_eq_true]
    unfold ltG mid
    constructor
    · rintro (h | ⟨h1, h2⟩)
      · exact .inl h
      · exact .inr ⟨h1, by rw [h1]; omega⟩
    · rintro (h | ⟨h1, h2⟩)
      · exact .inl h
      · exact .inr ⟨h1, by rw [h1] at h2; omega⟩
  · rw [Bool.and_eq_false_iff]
    by_cases c : g.2 < h.2
    · right
      rw [Bool.and_eq_false_iff]
      left
      simp
      omega
    · left
      simpa using c
theorem rkC_none {v x : Int} {l : List (Int × Int)} (h : ∀ g ∈ l, x ≤ mid g) : rkC v x l = 0 := List.countP_eq_zero.mpr fun g hg => by
  have := h g hg
  simp
  omega
theorem rkC_cons {v x : Int} {g : Int × Int} {l : List (Int × Int)} : rkC v x (g :: l) = rkC v x l + if g.2 = v ∧ mid g < x then 1 else 0 := by
  unfold rkC
  rw [List.countP_cons]
  simp
def wayN (b x : Int) (w : Nat) : List (Int × Int) :=
  if h : w = 0 then [] else
    if x = b + ((w - 1) / 2 : Nat) then [(b, (w : Int))] else if x < b + ((w - 1) / 2 : Nat) then (b, (w : Int)) :: wayN b x ((w - 1) / 2) else (b, (w : Int)) :: wayN (b + ((w - 1) / 2 : Nat) + 1) x (w / 2)
termination_by w
decreasing_by all_goals omega
def wayI (b w x : Int) : List (Int × Int) := wayN b x w.toNat
theorem wayI_s {b w x : Int} (h : 0 < w) : wayI b w x = if x = mid (b, w) then [(b, w)] else if x < mid (b, w) then (b, w) :: wayI b ((w - 1) / 2) x else (b, w) :: wayI (mid (b, w) + 1) (w / 2) x := by
  unfold wayI
  rw [wayN, dif_neg (by omega)]
  have hm : mid (b, w) = b + (w - 1) / 2 := rfl
  rw [show ((w - 1) / 2).toNat = (w.toNat - 1) / 2 from by omega, show (w / 2).toNat = w.toNat / 2 from by omega, show ((w.toNat : Nat) : Int) = w from by omega, show (((w.toNat - 1) / 2 : Nat) : Int) = (w - 1) / 2 from by omega, hm]
theorem way_last : ∀ b w x : Int, b ≤ x → x < b + w → ∃ (pre : List (Int × Int)) (g : Int × Int), wayI b w x = pre ++ [g] ∧ g ∈ inoI b w ∧ mid g = x := by
  intro b w x
  revert b w
  refine ino_ind (fun b w h h1 h2 => by omega) fun b w h l r h1 h2 => ?_
  have hm : mid (b, w) = b + (w - 1) / 2 := rfl
  rw [wayI_s h, inoI_s h]
  by_cases c1 : x = mid (b, w)
  · rw [if_pos c1]
    exact ⟨[], (b, w), rfl, by simp, c1.symm⟩
  · rw [if_neg c1]
    by_cases c2 : x < mid (b, w)
    · rw [if_pos c2]
      obtain ⟨pre, g, e, hg, hx⟩ := l h1 (by omega)
      exact ⟨(b, w) :: pre, g, by rw [e]; rfl, List.mem_append.mpr (.inl hg), hx⟩
    · rw [if_neg c2, hm]
      obtain ⟨pre, g, e, hg, hx⟩ := r (by omega) (by omega)
      exact ⟨(b, w) :: pre, g, by rw [e]; rfl, List.mem_append.mpr (.inr (List.mem_cons_of_mem _ hg)), hx⟩
def selW (v : Int) (l : List (Int × Int)) : List (Int × Int) := l.filter fun h => decide (h.2 = v)
theorem selW_app {v : Int} {l m : List (Int × Int)} : selW v (l ++ m) = selW v l ++ selW v m := List.filter_append ..
theorem selW_len {v : Int} {l : List (Int × Int)} : (selW v l).length = cntV v l := List.countP_eq_length_filter.symm
theorem selW_mem {v : Int} {l : List (Int × Int)} {g : Int × Int} : g ∈ selW v l ↔ g ∈ l ∧ g.2 = v := by
  unfold selW
  rw [List.mem_filter]
  simp
theorem selW_big {v b w : Int} (h : w < v) : selW v (inoI b w) = [] := List.filter_eq_nil_iff.mpr fun g hg => by
  have := ino_mem b w g hg
  simp
  omega
theorem selW_self {b w : Int} (h : 0 < w) : selW w (inoI b w) = [(b, w)] := by
  rw [inoI_s h, selW_app]
  have e : selW w ((b, w) :: inoI (b + (w - 1) / 2 + 1) (w / 2)) = (b, w) :: selW w (inoI (b + (w - 1) / 2 + 1) (w / 2)) := List.filter_cons_of_pos (by simp)
  rw [e, selW_big (by omega), selW_big (by omega)]
  rfl
theorem selW_node {v b w : Int} (h : 0 < w) (hv : v ≠ w) : selW v (inoI b w) = selW v (inoI b ((w - 1) / 2)) ++ selW v (inoI (b + (w - 1) / 2 + 1) (w / 2)) := by
  rw [inoI_s h, selW_app]
  congr 1
  exact List.filter_cons_of_neg (by simpa using fun e => hv e.symm)
theorem selW_cnt {v : Int} (hv : 0 < v) (b w : Int) : ((selW v (inoI b w)).length : Int) = cntI w v := by
  rw [selW_len]
  exact ino_cnt hv b w
theorem sel_rank {v : Int} : ∀ {l : List (Int × Int)} {r : Nat} {g : Int × Int}, l.Pairwise (fun g h => mid g < mid h) → (selW v l)[r]? = some g → rkC v (mid g) l = r
  | [], r, g, _, h => by simp [selW] at h
  | x :: l, r, g, A, h => by
    obtain ⟨a1, a2⟩ := List.pairwise_cons.mp A
    rw [rkC_cons]
    by_cases c : x.2 = v
    · have e : selW v (x :: l) = x :: selW v l := List.filter_cons_of_pos (by simpa using c)
      rw [e] at h
      cases r with
      | zero =>
        simp at h
        subst h
        rw [rkC_none (fun k hk => by have := a1 k hk; omega), if_neg (by omega)]
      | succ r =>
        have h' : (selW v l)[r]? = some g := by simpa using h
        have hg := (selW_mem.mp (List.mem_of_getElem? h')).1
        rw [sel_rank a2 h', if_pos ⟨c, a1 g hg⟩]
    · have e : selW v (x :: l) = selW v l := List.filter_cons_of_neg (by simpa using c)
      rw [e] at h
      rw [sel_rank a2 h, if_neg (fun z => c z.1)]
      rfl
theorem sel_num {gs : List (Int × Int)} (A : Apart gs) {v : Int} {r : Nat} {g : Int × Int} (h : (selW v (inoG gs))[r]? = some g) : g ∈ inoG gs ∧ numG gs g = gtC v (inoG gs) + r := by
  have hm := selW_mem.mp (List.mem_of_getElem? h)
  refine ⟨hm.1, ?_⟩
  rw [num_split, hm.2, sel_rank (inoG_asc A) h]
theorem ord_at {gs : List (Int × Int)} (A : Apart gs) {v : Int} {r : Nat} {g : Int × Int} (h : (selW v (inoG gs))[r]? = some g) : (ordG gs)[gtC v (inoG gs) + r]? = some g := by
  obtain ⟨h1, h2⟩ := sel_num A h
  rw [← h2]
  exact ord_num A h1
theorem gaps_apart : ∀ (ts : List Int) (lo : Int), (∀ t ∈ ts, lo ≤ t) → ts.Pairwise (· < ·) → Apart (gapsF lo ts) ∧ ∀ g ∈ gapsF lo ts, lo ≤ g.1
  | [], lo, _, _ => ⟨List.Pairwise.nil, fun g hg => by cases hg⟩
  | t :: ts, lo, h, hp => by
    obtain ⟨p1, p2⟩ := List.pairwise_cons.mp hp
    have ht := h t List.mem_cons_self
    obtain ⟨i1, i2⟩ := gaps_apart ts (t + 1) (fun x hx => by have := p1 x hx; omega) p2
    unfold gapsF
    split
    · refine ⟨List.pairwise_cons.mpr ⟨fun g hg => ?_, i1⟩, fun g hg => ?_⟩
      · have := i2 g hg
        dsimp only
        omega
      · rcases List.mem_cons.mp hg with rfl | hg
        · exact Int.le_refl _
        · have := i2 g hg
          omega
    · refine ⟨i1, fun g hg => ?_⟩
      have := i2 g hg
      omega
abbrev gapsR (s : Int) (ts : List Int) : List (Int × Int) := gapsF 0 (ts ++ [s])
theorem row_apart {s : Int} {ts : List Int} (R : RowOk s ts) : Apart (gapsR s ts) := by
  refine (gaps_apart (ts ++ [s]) 0 (fun t ht => ?_) ?_).1
  · have := R.one
    rcases List.mem_append.mp ht with h | h
    · exact (R.lim t h).1
    · rw [List.mem_singleton.mp h]
      omega
  · refine List.pairwise_append.mpr ⟨R.up, List.pairwise_singleton _ _, fun a ha b hb => ?_⟩
    rw [List.mem_singleton.mp hb]
    exact (R.lim a ha).2
theorem widths_perm {s : Int} {ts : List Int} {tab : Tab} (T : TabIs s ts tab) : ((inoG (gapsR s ts)).map (·.2)).Perm (exp tab) := List.perm_iff_count.mpr fun v => by
  rw [T.perm.count_eq]
  have key : ∀ gs : List (Int × Int), ((inoG gs).map (·.2)).count v = (flatW gs).count v := fun gs => by
    by_cases hv : 0 < v
    · have h1 := inoG_cnt hv gs
      have h2 := flatW_cnt hv gs
      have h3 : ((inoG gs).map (·.2)).count v = cntV v (inoG gs) := by
        unfold cntV
        rw [List.count, List.countP_map]
        refine List.countP_congr fun g _ => ?_
        simp
      omega
    · have z1 : ((inoG gs).map (·.2)).count v = 0 := List.count_eq_zero.mpr fun h => by
        obtain ⟨g, hg, rfl⟩ := List.mem_map.mp h
        obtain ⟨k, hk, hg⟩ := inoG_mem.mp hg
        exact hv (ino_mem _ _ g hg).1
      have z2 : (flatW gs).count v = 0 := List.count_eq_zero.mpr fun h => hv (flatW_pos v h)
      rw [z1, z2]
  exact key _
theorem gt_tab {s : Int} {ts : List Int} {tab : Tab} (T : TabIs s ts tab) (hp : ∀ e ∈ tab, 0 < e.1 ∧ 0 < e.2) (v : Int) : (gtC v (inoG (gapsR s ts)) : Int) = ((tab.filter fun e => decide (v < e.1)).map (·.2)).sum := by
  rw [sum_exp (p := fun x => decide (v < x)) hp, ← List.countP_eq_length_filter, ← (widths_perm T).countP_eq]
  unfold gtC
  rw [List.countP_map]
  rfl
end DL

namespace DL
open PySem PySem.Spec PyProof.Rows L2
def keysD (ks : List (Key × D)) : List D := ks.map fun p => keyD p.1
def diKeys (a : DE) : DI := fun ρ μ Q X => a ρ μ (fun d μ1 => dcP d fun ks => Q (keysD ks) μ1) X
section
variable {X : Cx} {W : WX} {tg e : Expr} {de : DE}
end
theorem dgP_i {ks : List (Key × D)} {i : Int} {Q : D → Prop} : dgP (.dic ks) (.int i) Q = itP (lookD ks (.inl i)) Q := by
  unfold dgP
  rw [itP_ex]
  refine propext ⟨fun ⟨k, d, e1, e2, q⟩ => ?_, fun ⟨d, e2, q⟩ => ⟨.inl i, d, rfl, e2, q⟩⟩
  cases k with
  | inl n => cases e1; exact ⟨d, e2, q⟩
  | inr y => cases e1
theorem keys_ent {es : Tab} : keysD (es.map entD) = (es.map (·.1)).map .int := by
  unfold keysD
  rw [List.map_map, List.map_map]
  rfl
theorem eqs_there9 : True := by
  have _ := @diKeys.eq_1
  trivial
end DL

namespace DL
open PySem PySem.Spec PyProof.Rows L2
theorem inoI_len (b w : Int) : (inoI b w).length = w.toNat := by
  have := congrArg List.length (ino_mids b w)
  simpa using this
theorem inoG_len : ∀ {gs : List (Int × Int)}, (∀ g ∈ gs, 0 < g.2) → ((inoG gs).length : Int) = sumW gs
  | [], _ => rfl
  | g :: gs, h => by
    have ih := inoG_len (gs := gs) fun x hx => h x (List.mem_cons_of_mem _ hx)
    have h0 := h g List.mem_cons_self
    rw [inoG_cons, List.length_append, inoI_len]
    have e : sumW (g :: gs) = g.2 + sumW gs := rfl
    omega
theorem ord_len {s : Int} {ts : List Int} (R : RowOk s ts) : ((ordG (gapsR s ts)).length : Int) = s - ts.length := by
  rw [(ordG_perm _).length_eq, inoG_len fun g hg => ?_, sumW_row R]
  have := gap_le R hg
  omega
theorem ino_gap {gs : List (Int × Int)} {h : Int × Int} (hh : h ∈ inoG gs) : ∃ g ∈ gs, h ∈ inoI g.1 g.2 ∧ g.1 ≤ mid h ∧ mid h < g.1 + g.2 := by
  obtain ⟨g, hg, hi⟩ := inoG_mem.mp hh
  have := ino_midin hi
  exact ⟨g, hg, hi, this.1, this.2⟩
theorem filter_one {gs : List (Int × Int)} (A : Apart gs) (hp : ∀ g ∈ gs, 0 < g.2) {g : Int × Int} {x : Int} (hg : g ∈ gs) (g1 : g.1 ≤ x) (g2 : x < g.1 + g.2) : gs.filter (fun h => decide (h.1 ≤ x) && decide (x < h.1 + h.2)) = [g] := by
  induction A with
  | nil => cases hg
  | cons a A ih =>
    rename_i k l
    have hk := hp k List.mem_cons_self
    rcases List.mem_cons.mp hg with rfl | hg'
    · rw [List.filter_cons_of_pos (by simp; omega)]
      rw [List.filter_eq_nil_iff.mpr fun y hy => ?_]
      have := a y hy
      have := hp y (List.mem_cons_of_mem _ hy)
      simp
      omega
    · have := a g hg'
      rw [List.filter_cons_of_neg (by simp; omega)]
      exact ih (fun y hy => hp y (List.mem_cons_of_mem _ hy)) hg'
theorem row_gap {s : Int} {ts : List Int} (R : RowOk s ts) : ∀ g ∈ gapsR s ts, 0 < g.2 ∧ 0 ≤ g.1 ∧ g.1 + g.2 ≤ s := fun g hg => by
  have := gap_le R hg
  omega
theorem row_asc {s : Int} {ts : List Int} (R : RowOk s ts) : (ts ++ [s]).Pairwise (· < ·) := by
  refine List.pairwise_append.mpr ⟨R.up, List.pairwise_singleton _ _, fun a ha b hb => ?_⟩
  rw [List.mem_singleton.mp hb]
  exact (R.lim a ha).2
theorem ino_free {s : Int} {ts : List Int} (R : RowOk s ts) {h : Int × Int} (hh : h ∈ inoG (gapsR s ts)) : 0 ≤ mid h ∧ mid h < s ∧ mid h ∉ ts := by
  obtain ⟨g, hg, hi, g1, g2⟩ := ino_gap hh
  have hr := row_gap R g hg
  refine ⟨by omega, by omega, fun ht => ?_⟩
  have h0 : ∀ x ∈ ts ++ [s], 0 ≤ x := fun x hx => by
    have := R.one
    rcases List.mem_append.mp hx with h | h
    · exact (R.lim x h).1
    · rw [List.mem_singleton.mp h]
      omega
  have := gap_free (ts ++ [s]) 0 (row_asc R) h0 g hg (mid h) (List.mem_append.mpr (.inl ht))
  omega
end DL

namespace DL
open PySem PySem.Spec PyProof.Rows L2
def dDivmod : DC := fun ds Q => ∃ i j : Int, ds = [.int i, .int j] ∧ 0 < j ∧ j < 1073741824 ∧ Q (.tup [.int (i / j), .int (i % j)])
theorem divmod_ii {i j : Int} {Q : D → Prop} : dDivmod [.int i, .int j] Q = (0 < j ∧ j < 1073741824 ∧ Q (.tup [.int (i / j), .int (i % j)])) :=
  propext ⟨fun ⟨_, _, e, h⟩ => by cases e; exact h, fun h => ⟨_, _, rfl, h⟩⟩
section
variable {X : Cx} {W : WX} {a b : Expr} {pa : DA} {p pos : Pos}
end
end DL

namespace DL
open PySem PySem.Spec PyProof.Rows L2
def geC (w l : Int) : Int := ((inoI 0 w).countP fun g => decide (l ≤ g.2) : Nat)
theorem ge_shift {l : Int} : ∀ b w : Int, ∀ c : Int, (inoI b w).countP (fun g => decide (l ≤ g.2)) = (inoI c w).countP (fun g => decide (l ≤ g.2)) := by
  refine ino_ind (fun b w h c => by rw [inoI_z h, inoI_z h]) fun b w h h1 h2 c => ?_
  rw [inoI_s h, inoI_s h, List.countP_append, List.countP_append, List.countP_cons, List.countP_cons, h1 c, h2 (c + (w - 1) / 2 + 1)]
theorem geC_z {w l : Int} (h : w ≤ 0) : geC w l = 0 := by
  unfold geC
  rw [inoI_z h]
  rfl
theorem geC_s {w l : Int} (h : 0 < w) : geC w l = (if l ≤ w then 1 else 0) + geC ((w - 1) / 2) l + geC (w / 2) l := by
  unfold geC
  rw [inoI_s h, List.countP_append, List.countP_cons, ge_shift (0 + (w - 1) / 2 + 1) (w / 2) 0]
  dsimp only
  by_cases c : l ≤ w
  · rw [if_pos c, if_pos (by simpa using c)]
    push_cast
    omega
  · rw [if_neg c, if_neg (by simpa using c)]
    push_cast
    omega
end DL

namespace DL
open PySem PySem.Spec PyProof.Rows L2
section
variable {s : Int}
end
section
variable {s : Int} {us : List Int} {c : Int}
end
end DL

namespace DL
open PySem PySem.Spec PyProof.Rows L2
theorem _root_.L2H.RoomH.units {k : Nat} {A : Around} (r : L2H.RoomH k A) : A.units + 64 < cLine := by have := r.un; omega
section
variable {P : Program} {w : World} {K : PySem.W.Frag} {mg : Str → Option Value} {base : Heap}
abbrev ESp := Addr → Addr → Option Addr → DSp
structure FnE (P : Program) (w : World) (K : PySem.W.Frag) (mg : Str → Option Value) (base : Heap) (k : Nat) (f : Addr) (fd : FuncData) (ps : List Str) (sp : ESp) : Prop where
  len : ∀ a C d ds μ Q Z, sp a C d ds μ Q Z → ds.length = ps.length
  run : ∀ (A : Around) (outer : List Env) (s : Shared) (H : Hp) (args : Args) (us : List Value) (vs : List V) (Q : VK) (a : Addr) (oe : Obj) (C : Addr) (d : Option Addr), L2H.RoomH k A → A.guards = some [] → Zc (.ref C) d oe → (∃ fs, oe.data = .fields fs) → L2H.PinOk outer H s (a, oe) →
    Env0 P w K mg base (A.mark (some (.ref a))) outer s H → BindsTo s fd args (ps.zip us) → Vals vs us → spOf (sp a C d) vs H Q (fun _ _ _ => False) → codeAny (model P w) (A.mark (some (.ref a))) (.call (.ref f) args) (CR (L2.CX P w) outer P w H s Q (fun _ _ _ => False)) s
structure CalE (P : Program) (w : World) (K : PySem.W.Frag) (mg : Str → Option Value) (base : Heap) (k : Nat) (x : Str) (sp : ESp) : Prop where
  ex : ∃ (f : Addr) (fd : FuncData) (ps : List Str), FnE P w K mg base k f fd ps sp ∧ mg x = some (.ref f) ∧ PySem.W.keepIn K (.ref f) = true ∧ Binds K fd ps []
end
section
variable {X : Cx} {k j : Nat} {x : Str} {p pos : Pos} {e : Expr} {es : List Expr} {da : DA} {sp : ESp} {a C : Addr} {oe : Obj} {d : Option Addr} {pn : List (Addr × Obj)}
end
end DL
namespace DL
open PySem PySem.Spec PyProof.Rows L2
def rSetOfT (K : PySem.W.Frag) (w : World) : List V → Hp → VK → Prop := fun vs H Q => ∃ (a : Addr) (ns : List Int), vs = [V.ref a] ∧ SqT K H a (ns.map V.int) ∧ ns.length + 1 < scanBound ∧
  ∀ (p : Addr) (c : Nat), c ≤ ns.length → H p = none → Q (.ref p) (upd H p (SetO w p (fun j => decide (j ∈ ns)) c))
theorem call_setOfT {X : Cx} (hc : X.calm = true) : CallR X (.type "set") (rSetOfT X.K X.w) := by
  intro pins s σ H vs us Q I r h
  obtain ⟨a, ns, rfl, hs, few, q⟩ := h
  obtain ⟨its, rv, ht, hz⟩ := I.tuple hs
  rw [Vals.ref1 r]
  refine call_set_tupI ns (I.ok.hd hc) ht (by simpa using rv.ints) few fun h' tk c R cn keep => ?_
  exact ⟨.ref _, upd H s.heap.objs.size (SetO X.w s.heap.objs.size (fun j => decide (j ∈ ns)) c), I.laid (t' := tk) keep (Nat.le_refl _) (setO_new R), rfl, q _ c cn (I.hok.fresh (Nat.le_refl _))⟩
def dSortedST : DC := fun ds Q => match ds with
  | [.tup xs] => ∃ ns : List Int, xs = ns.map D.int ∧ ns.length < 64 ∧ ∀ ns' : List Int, ns'.Pairwise (· < ·) → (∀ k, k ∈ ns' ↔ k ∈ ns) → ns'.length ≤ ns.length → Q (.lst (ns'.map D.int))
  | _ => False
section
variable {X : Cx} {W : WX} {p q pos pos2 : Pos} {e : Expr} {a : DA} {de : DE}
theorem d_sortedST (hc : X.calm = true) (hm : X.mg "sorted" = none) (hm2 : X.mg "set" = none) (ha : PAB X W [e] a) (hg : Gl X "sorted" := by rfl) (hg2 : Gl X "set" := by rfl) (he : starEach [e] X.env = (false, eval e X.env) :: starEach [] X.env := by rfl)
    (he2 : starEach [.Call (.Name "set" q) [e] [] pos2] X.env = (false, eval (.Call (.Name "set" q) [e] [] pos2) X.env) :: starEach [] X.env := by rfl) : PD X W (.Call (.Name "sorted" p) [.Call (.Name "set" q) [e] [] pos2] [] pos) (dCB dSortedST a) := by
  obtain ⟨ta, a1, a2⟩ := ha.ex
  refine ⟨_, pe_callB (cr_sortedSet hc) hg hm PyProof.Rows.boot_sorted (pa_cons (pe_callTy (call_setOfT hc) hg2 hm2 PyProof.Rows.boot_set a1 (by decide) (by decide) he) pa_nil he2) (by decide) (by decide) he2, fun {B F σ H ρ μ Qd Xd Q} S q gx k => a2 S q gx fun vs F1 H1 ds μ1 g1 S1 z1 q1 => ?_⟩
  have W1 := S1.wd.mu0
  have z1 := z1.rd S1.wd
  unfold dSortedST at q1
  split at q1
  · rename_i xs ex
    obtain ⟨ns, rfl, few, q1⟩ := q1
    rw [ex] at z1
    obtain ⟨v, r, rfl, y1, y2⟩ := bzl_inv z1
    rw [bzl_inv0 y2]
    obtain ⟨b, ws, rfl, h1, f1, y3⟩ := bz_tup W1 y1
    rw [y3.ints] at h1
    refine ⟨b, ns, rfl, .of h1, by unfold scanBound; omega, fun p c hc hp => ?_⟩
    obtain ⟨W2, g2⟩ := S1.wd.new (o := SetO X.w p (fun j => decide (j ∈ ns)) c) hp
    refine ⟨p, _, c, rfl, upd_same, by omega, fun ns' p2 k1 k2 k3 hp2 => ?_⟩
    obtain ⟨g3, W3, z3⟩ := new_lst W2 (fzl_ints ns') hp2
    exact k _ _ _ _ μ1 ((g1.trans g2).trans g3) (S1.go (g2.trans g3) W3) z3 (q1 ns' k1 (fun k => by rw [k2]; simp) (by omega))
  · exact q1.elim
theorem sortedST_t {ds : List D} {Q : D → Prop} : dSortedST [.tup ds] Q = ∃ ns : List Int, ds = ns.map D.int ∧ ns.length < 64 ∧ ∀ ns' : List Int, ns'.Pairwise (· < ·) → (∀ k, k ∈ ns' ↔ k ∈ ns) → ns'.length ≤ ns.length → Q (.lst (ns'.map D.int)) := rfl
end
end DL
namespace DL
open PySem PySem.W PySem.Calls PyProof.Rows PySem.HandSPX
section
variable {K : Frag} {mg : Str → Option Value} {x : Str} {C : Addr}
end

end DL

namespace DL
open PySem PySem.Spec PyProof.Rows L2 TL
abbrev tx (s : Str) : List Nat := s.cps.toList
theorem tx_app (a b : Str) : tx (a ++ b) = tx a ++ tx b := by
  show (a.cps ++ b.cps).toList = _
  simp
theorem tx_lit (s : String) : tx (Str.ofString s) = s.toList.map Char.toNat := by
  rw [Str.ofString_eq_toList]
def tail' : List Str → List Nat
  | [] => []
  | t :: r => 44 :: 32 :: (tx t ++ tail' r)
theorem tx_sep : tx (Str.ofString ", ") = [44, 32] := by decide +kernel
theorem tx_from : ∀ (ts : List Str) (k : Nat) (acc : Str), tx (PySem.textFrom (k + 1) acc ts) = tx acc ++ tail' ts
  | [], k, acc => by simp [PySem.textFrom, tail']
  | t :: r, k, acc => by
    show tx (PySem.textFrom (k + 1 + 1) (acc ++ ((if k + 1 > 0 then ", " else "" : String) : Str) ++ t) r) = _
    rw [tx_from, tx_app, tx_app, if_pos (by omega), tx_sep]
    simp [tail']
theorem tx_join : ∀ (t : Str) (r : List Str), tx (Str.join ", " (t :: r)) = tx t ++ tail' r
  | t, [] => by simp [Str.join, tail']
  | t, u :: r => by
    show tx (t ++ ", " ++ Str.join ", " (u :: r)) = _
    rw [tx_app, tx_app, tx_join u r, tx_sep]
    simp [tail']
theorem tx_list0 : tx (PySem.listText []) = [91, 93] := by decide +kernel
theorem tx_list (t : Str) (r : List Str) : tx (PySem.listText (t :: r)) = 91 :: (tx t ++ (tail' r ++ [93])) := by
  show tx (PySem.textFrom 1 (("[" : Str) ++ ((if 0 > 0 then ", " else "" : String) : Str) ++ t) r ++ "]") = _
  rw [tx_app, tx_from, tx_app, tx_app, show tx (Str.ofString "[") = [91] from by decide +kernel, show tx (Str.ofString "]") = [93] from by decide +kernel, show tx ((if 0 > 0 then ", " else "" : String) : Str) = [] from by decide +kernel]
  simp
theorem tx_tup0 : tx (PySem.tupleText []) = [40, 41] := by decide +kernel
theorem tx_tup1 (t : Str) : tx (PySem.tupleText [t]) = 40 :: (tx t ++ [44, 41]) := by
  show tx (("(" : Str) ++ Str.join ", " [t] ++ ((if 1 == 1 then ",)" else ")" : String) : Str)) = _
  rw [tx_app, tx_app, tx_join, show tx (Str.ofString "(") = [40] from by decide +kernel, show tx ((if 1 == 1 then ",)" else ")" : String) : Str) = [44, 41] from by decide +kernel]
  simp [tail']
theorem tx_tup2 (t u : Str) (r : List Str) : tx (PySem.tupleText (t :: u :: r)) = 40 :: (tx t ++ (tail' (u :: r) ++ [41])) := by
  show tx (("(" : Str) ++ Str.join ", " (t :: u :: r) ++ ((if (r.length + 1 + 1) == 1 then ",)" else ")" : String) : Str)) = _
  rw [tx_app, tx_app, tx_join, show tx (Str.ofString "(") = [40] from by decide +kernel, if_neg (by simp), show tx (Str.ofString ")") = [41] from by decide +kernel]
  simp
theorem tx_int (i : Int) : (∃ n : Nat, i = n ∧ tx (Str.ofString (toString i)) = numL n) ∨ (∃ n : Nat, i = Int.negSucc n ∧ tx (Str.ofString (toString i)) = 45 :: numL (n + 1)) := by
  cases i with
  | ofNat n => exact .inl ⟨n, rfl, tl_num n⟩
  | negSucc n =>
    refine .inr ⟨n, rfl, ?_⟩
    have e : toString (Int.negSucc n) = "-" ++ toString (((n + 1 : Nat) : Nat) : Int) := rfl
    rw [e, tx_lit, String.toList_append, List.map_append, ← tx_lit (toString (((n + 1 : Nat)) : Int))]
    have := tl_num (n + 1)
    rw [show tx (Str.ofString (toString (((n + 1 : Nat)) : Int))) = numL (n + 1) from this]
    rfl
def numC (c : Nat) : Bool := c == 45 || (decide (48 ≤ c) && decide (c ≤ 57))
theorem numL_C {n : Nat} : ∀ c ∈ numL n, numC c = true := fun c hc => by
  have a : ¬ c < 48 := fun h => numL_free (n := n) (s := c) (.inl h) hc
  have b : ¬ 57 < c := fun h => numL_free (n := n) (s := c) (.inr h) hc
  simp [numC]
  omega
theorem int_C {i : Int} : ∀ c ∈ tx (Str.ofString (toString i)), numC c = true := fun c hc => by
  rcases tx_int i with ⟨n, _, e⟩ | ⟨n, _, e⟩ <;> rw [e] at hc
  · exact numL_C c hc
  · rcases List.mem_cons.mp hc with rfl | hc
    · rfl
    · exact numL_C c hc
theorem int_ne {i : Int} : tx (Str.ofString (toString i)) ≠ [] := by
  rcases tx_int i with ⟨n, _, e⟩ | ⟨n, _, e⟩ <;> rw [e]
  · exact numL_ne n
  · simp
theorem int_inj {i j : Int} (h : tx (Str.ofString (toString i)) = tx (Str.ofString (toString j))) : i = j := by
  have no : ∀ (m n : Nat), numL m ≠ 45 :: numL n := fun m n h => numL_free (n := m) (s := 45) (.inl (by omega)) (by rw [h]; simp)
  rcases tx_int i with ⟨m, e1, e2⟩ | ⟨m, e1, e2⟩ <;> rcases tx_int j with ⟨n, e3, e4⟩ | ⟨n, e3, e4⟩ <;> rw [e2, e4] at h
  · rw [e1, e3, numL_inj h]
  · exact (no _ _ h).elim
  · exact (no _ _ h.symm).elim
  · have := numL_inj (List.cons.inj h).2
    rw [e1, e3, show m = n from by omega]
theorem munch {p : Nat → Bool} : ∀ {l1 l2 r1 r2 : List Nat}, (∀ c ∈ l1, p c = true) → (∀ c ∈ l2, p c = true) → (∀ c t, r1 = c :: t → p c = false) → (∀ c t, r2 = c :: t → p c = false) → l1 ++ r1 = l2 ++ r2 → l1 = l2 ∧ r1 = r2
  | [], [], r1, r2, _, _, _, _, h => ⟨rfl, h⟩
  | [], c :: l2, r1, r2, _, h2, h3, _, h => by
    have := h3 c (l2 ++ r2) h
    rw [h2 c List.mem_cons_self] at this
    cases this
  | c :: l1, [], r1, r2, h1, _, _, h4, h => by
    have := h4 c (l1 ++ r1) h.symm
    rw [h1 c List.mem_cons_self] at this
    cases this
  | c :: l1, d :: l2, r1, r2, h1, h2, h3, h4, h => by
    obtain ⟨rfl, h0⟩ := List.cons.inj h
    obtain ⟨rfl, e⟩ := munch (fun x hx => h1 x (List.mem_cons_of_mem _ hx)) (fun x hx => h2 x (List.mem_cons_of_mem _ hx)) h3 h4 h0
    exact ⟨rfl, e⟩
def Stop (r : List Nat) : Prop := ∀ c t, r = c :: t → c = 44 ∨ c = 41 ∨ c = 93
mutual
def plT : PyData → Bool
  | .none | .bool _ | .int _ => true
  | .str x => decide (tx (reprText x) = 39 :: (tx x ++ [39])) && !(tx x).contains 39
  | .list xs | .tuple xs => plTL xs
  | .dict [] => true
  | .dict _ => false
def plTL : List PyData → Bool
  | [] => true
  | x :: xs => plT x && plTL xs
end
def kd : PyData → Nat
  | .none => 0
  | .bool true => 1
  | .bool false => 2
  | .int _ => 3
  | .str _ => 4
  | .list _ => 5
  | .tuple _ => 6
  | .dict _ => 7
def kc (c : Nat) : Nat := if numC c = true then 3 else if c = 78 then 0 else if c = 84 then 1 else if c = 70 then 2 else if c = 39 then 4 else if c = 91 then 5 else if c = 40 then 6 else if c = 123 then 7 else 9
theorem kc_num {c : Nat} (h : numC c = true) : kc c = 3 := by
  unfold kc
  rw [if_pos h]
theorem kd_le : ∀ (a : PyData), kd a ≤ 7
  | .none => by simp [kd]
  | .bool true => by simp [kd]
  | .bool false => by simp [kd]
  | .int _ => by simp [kd]
  | .str _ => by simp [kd]
  | .list _ => by simp [kd]
  | .tuple _ => by simp [kd]
  | .dict _ => by simp [kd]
theorem kd_hd : ∀ {a : PyData}, plT a = true → ∃ c t, tx a.shown = c :: t ∧ kc c = kd a
  | .none, _ => ⟨78, _, rfl, rfl⟩
  | .bool true, _ => ⟨84, _, rfl, rfl⟩
  | .bool false, _ => ⟨70, _, rfl, rfl⟩
  | .int i, _ => by
    cases e : tx (Str.ofString (toString i)) with
    | nil => exact (int_ne e).elim
    | cons c t => exact ⟨c, t, e, kc_num (int_C c (by rw [e]; simp))⟩
  | .str x, h => by
    simp only [plT, Bool.and_eq_true, decide_eq_true_eq] at h
    exact ⟨39, _, h.1, rfl⟩
  | .list [], _ => ⟨91, _, tx_list0, rfl⟩
  | .list (x :: xs), _ => ⟨91, _, tx_list _ _, rfl⟩
  | .tuple [], _ => ⟨40, _, tx_tup0, rfl⟩
  | .tuple [x], _ => ⟨40, _, tx_tup1 _, rfl⟩
  | .tuple (x :: y :: xs), _ => ⟨40, _, tx_tup2 _ _ _, rfl⟩
  | .dict [], _ => ⟨123, [125], by decide +kernel, rfl⟩
  | .dict (_ :: _), h => by simp [plT] at h
theorem kd_eq {a b : PyData} {r1 r2 : List Nat} (ha : plT a = true) (hb : plT b = true) (h : tx a.shown ++ r1 = tx b.shown ++ r2) : kd a = kd b := by
  obtain ⟨c, t, e1, e2⟩ := kd_hd ha
  obtain ⟨d, u, e3, e4⟩ := kd_hd hb
  rw [e1, e3] at h
  rw [← e2, ← e4, (List.cons.inj h).1]
theorem stop_tail {ts : List Str} {c : Nat} {r : List Nat} (hc : c = 41 ∨ c = 93) : Stop (tail' ts ++ c :: r) := by
  intro d t h
  cases ts with
  | nil => rw [← (List.cons.inj h).1]; omega
  | cons x xs =>
    have h' : 44 :: 32 :: (tx x ++ tail' xs) ++ c :: r = d :: t := h
    rw [← (List.cons.inj h').1]
    omega
theorem stop_c {c : Nat} {r : List Nat} (hc : c = 44 ∨ c = 41 ∨ c = 93) : Stop (c :: r) := fun d t h => by
  rw [← (List.cons.inj h).1]
  exact hc
theorem no_close {y : PyData} {c : Nat} {r u t : List Nat} (hy : plT y = true) (hc : c = 41 ∨ c = 93) (h : c :: r = (tx y.shown ++ u) ++ t) : False := by
  obtain ⟨d, v, e1, e2⟩ := kd_hd hy
  rw [e1] at h
  have := (List.cons.inj h).1
  have k := kd_le y
  rw [← this] at e2
  have k9 : kc c = 9 := by rcases hc with rfl | rfl <;> rfl
  omega
mutual
theorem inj1 : ∀ (a b : PyData) (r1 r2 : List Nat), plT a = true → plT b = true → Stop r1 → Stop r2 → tx a.shown ++ r1 = tx b.shown ++ r2 → a = b ∧ r1 = r2
  | .none, b, r1, r2, ha, hb, s1, s2, h => by
    have k := kd_eq ha hb h
    match b, k with
    | .none, _ => exact ⟨rfl, List.append_cancel_left h⟩
  | .bool true, b, r1, r2, ha, hb, s1, s2, h => by
    have k := kd_eq ha hb h
    match b, k with
    | .bool true, _ => exact ⟨rfl, List.append_cancel_left h⟩
  | .bool false, b, r1, r2, ha, hb, s1, s2, h => by
    have k := kd_eq ha hb h
    match b, k with
    | .bool false, _ => exact ⟨rfl, List.append_cancel_left h⟩
  | .int i, b, r1, r2, ha, hb, s1, s2, h => by
    have k := kd_eq ha hb h
    match b, k with
    | .int j, _ =>
      have st : ∀ {r : List Nat}, Stop r → ∀ c t, r = c :: t → numC c = false := fun s c t e => by
        rcases s c t e with rfl | rfl | rfl <;> rfl
      obtain ⟨e1, e2⟩ := munch int_C int_C (st s1) (st s2) h
      exact ⟨by rw [int_inj e1], e2⟩
  | .str x, b, r1, r2, ha, hb, s1, s2, h => by
    have k := kd_eq ha hb h
    match b, k with
    | .str y, _ =>
      simp only [plT, Bool.and_eq_true, decide_eq_true_eq, Bool.not_eq_true'] at ha hb
      have h' : tx (reprText x) ++ r1 = tx (reprText y) ++ r2 := h
      rw [ha.1, hb.1] at h'
      have h2 : tx x ++ (39 :: r1) = tx y ++ (39 :: r2) := by simpa using h'
      have no : ∀ {z : Str}, (tx z).contains 39 = false → ∀ c ∈ tx z, (!(c == 39)) = true := fun hz c hc => by
        cases e : c == 39 with
        | false => rfl
        | true =>
          rw [beq_iff_eq.mp e] at hc
          rw [List.contains_iff_mem.mpr hc] at hz
          cases hz
      obtain ⟨e1, e2⟩ := munch (p := fun c => !(c == 39)) (no ha.2) (no hb.2) (fun c t e => by cases e; rfl) (fun c t e => by cases e; rfl) h2
      have : x = y := by
        cases x; cases y
        exact congrArg Str.mk (Array.toList_inj.mp e1)
      exact ⟨by rw [this], (List.cons.inj e2).2⟩
  | .list [], b, r1, r2, ha, hb, s1, s2, h => by
    have k := kd_eq ha hb h
    match b, k with
    | .list [], _ => exact ⟨rfl, List.append_cancel_left h⟩
    | .list (y :: ys), _ =>
      have h' : tx (PySem.listText []) ++ r1 = tx (PySem.listText (y.shown :: PyData.shownAll ys)) ++ r2 := h
      rw [tx_list, tx_list0] at h'
      simp only [plT, plTL, Bool.and_eq_true] at hb
      exact (no_close hb.1 (.inr rfl) (List.cons.inj h').2).elim
  | .list (x :: xs), b, r1, r2, ha, hb, s1, s2, h => by
    have k := kd_eq ha hb h
    match b, k with
    | .list [], _ =>
      have h' : tx (PySem.listText (x.shown :: PyData.shownAll xs)) ++ r1 = tx (PySem.listText []) ++ r2 := h
      rw [tx_list, tx_list0] at h'
      simp only [plT, plTL, Bool.and_eq_true] at ha
      exact (no_close ha.1 (.inr rfl) (List.cons.inj h').2.symm).elim
    | .list (y :: ys), _ =>
      have h' : tx (PySem.listText (x.shown :: PyData.shownAll xs)) ++ r1 = tx (PySem.listText (y.shown :: PyData.shownAll ys)) ++ r2 := h
      rw [tx_list, tx_list] at h'
      simp only [List.cons_append, List.append_assoc, List.cons.injEq, true_and, List.nil_append] at h'
      simp only [plT, plTL, Bool.and_eq_true] at ha hb
      obtain ⟨rfl, e⟩ := inj1 x y _ _ ha.1 hb.1 (stop_tail (.inr rfl)) (stop_tail (.inr rfl)) h'
      obtain ⟨rfl, e2⟩ := injT xs ys 93 r1 r2 ha.2 hb.2 (.inr rfl) e
      exact ⟨rfl, e2⟩
  | .tuple [], b, r1, r2, ha, hb, s1, s2, h => by
    have k := kd_eq ha hb h
    match b, k with
    | .tuple [], _ => exact ⟨rfl, List.append_cancel_left h⟩
    | .tuple [y], _ =>
      have h' : tx (PySem.tupleText []) ++ r1 = tx (PySem.tupleText [y.shown]) ++ r2 := h
      rw [tx_tup1, tx_tup0] at h'
      simp only [plT, plTL, Bool.and_eq_true] at hb
      exact (no_close hb.1 (.inl rfl) (List.cons.inj h').2).elim
    | .tuple (y :: z :: ys), _ =>
      have h' : tx (PySem.tupleText []) ++ r1 = tx (PySem.tupleText (y.shown :: z.shown :: PyData.shownAll ys)) ++ r2 := h
      rw [tx_tup2, tx_tup0] at h'
      simp only [plT, plTL, Bool.and_eq_true] at hb
      exact (no_close hb.1 (.inl rfl) (List.cons.inj h').2).elim
  | .tuple [x], b, r1, r2, ha, hb, s1, s2, h => by
    have k := kd_eq ha hb h
    match b, k with
    | .tuple [], _ =>
      have h' : tx (PySem.tupleText [x.shown]) ++ r1 = tx (PySem.tupleText []) ++ r2 := h
      rw [tx_tup1, tx_tup0] at h'
      simp only [plT, plTL, Bool.and_eq_true] at ha
      exact (no_close ha.1 (.inl rfl) (List.cons.inj h').2.symm).elim
    | .tuple [y], _ =>
      have h' : tx (PySem.tupleText [x.shown]) ++ r1 = tx (PySem.tupleText [y.shown]) ++ r2 := h
      rw [tx_tup1, tx_tup1] at h'
      simp only [List.cons_append, List.append_assoc, List.cons.injEq, true_and, List.nil_append] at h'
      simp only [plT, plTL, Bool.and_eq_true] at ha hb
      obtain ⟨rfl, e⟩ := inj1 x y _ _ ha.1 hb.1 (stop_c (.inl rfl)) (stop_c (.inl rfl)) h'
      exact ⟨rfl, (List.cons.inj (List.cons.inj e).2).2⟩
    | .tuple (y :: z :: ys), _ =>
      have h' : tx (PySem.tupleText [x.shown]) ++ r1 = tx (PySem.tupleText (y.shown :: z.shown :: PyData.shownAll ys)) ++ r2 := h
      rw [tx_tup1, tx_tup2] at h'
      simp only [List.cons_append, List.append_assoc, List.cons.injEq, true_and, List.nil_append] at h'
      simp only [plT, plTL, Bool.and_eq_true] at ha hb
      obtain ⟨rfl, e⟩ := inj1 x y _ _ ha.1 hb.1 (stop_c (.inl rfl)) (stop_tail (.inl rfl)) h'
      have e' : 44 :: 41 :: r1 = 44 :: 32 :: (tx z.shown ++ tail' (PyData.shownAll ys)) ++ 41 :: r2 := e
      have := (List.cons.inj (List.cons.inj e').2).1
      omega
  | .tuple (x :: u :: xs), b, r1, r2, ha, hb, s1, s2, h => by
    have k := kd_eq ha hb h
    match b, k with
    | .tuple [], _ =>
      have h' : tx (PySem.tupleText (x.shown :: u.shown :: PyData.shownAll xs)) ++ r1 = tx (PySem.tupleText []) ++ r2 := h
      rw [tx_tup2, tx_tup0] at h'
      simp only [plT, plTL, Bool.and_eq_true] at ha
      exact (no_close ha.1 (.inl rfl) (List.cons.inj h').2.symm).elim
    | .tuple [y], _ =>
      have h' : tx (PySem.tupleText (x.shown :: u.shown :: PyData.shownAll xs)) ++ r1 = tx (PySem.tupleText [y.shown]) ++ r2 := h
      rw [tx_tup1, tx_tup2] at h'
      simp only [List.cons_append, List.append_assoc, List.cons.injEq, true_and, List.nil_append] at h'
      simp only [plT, plTL, Bool.and_eq_true] at ha hb
      obtain ⟨rfl, e⟩ := inj1 x y _ _ ha.1 hb.1 (stop_tail (.inl rfl)) (stop_c (.inl rfl)) h'
      have e' : 44 :: 32 :: (tx u.shown ++ tail' (PyData.shownAll xs)) ++ 41 :: r1 = 44 :: 41 :: r2 := e
      have := (List.cons.inj (List.cons.inj e').2).1
      omega
    | .tuple (y :: z :: ys), _ =>
      have h' : tx (PySem.tupleText (x.shown :: u.shown :: PyData.shownAll xs)) ++ r1 = tx (PySem.tupleText (y.shown :: z.shown :: PyData.shownAll ys)) ++ r2 := h
      rw [tx_tup2, tx_tup2] at h'
      simp only [List.cons_append, List.append_assoc, List.cons.injEq, true_and, List.nil_append] at h'
      have ha2 : plT x = true ∧ plTL (u :: xs) = true := by simpa [plT, plTL] using ha
      have hb2 : plT y = true ∧ plTL (z :: ys) = true := by simpa [plT, plTL] using hb
      obtain ⟨rfl, e⟩ := inj1 x y _ _ ha2.1 hb2.1 (stop_tail (.inl rfl)) (stop_tail (.inl rfl)) h'
      obtain ⟨e1, e2⟩ := injT (u :: xs) (z :: ys) 41 r1 r2 ha2.2 hb2.2 (.inl rfl) e
      exact ⟨by rw [e1], e2⟩
  | .dict [], b, r1, r2, ha, hb, s1, s2, h => by
    have k := kd_eq ha hb h
    match b, k, hb with
    | .dict [], _, _ => exact ⟨rfl, List.append_cancel_left h⟩
    | .dict (_ :: _), _, hb => simp [plT] at hb
  | .dict (_ :: _), b, r1, r2, ha, hb, s1, s2, h => by simp [plT] at ha
theorem injT : ∀ (xs ys : List PyData) (c : Nat) (r1 r2 : List Nat), plTL xs = true → plTL ys = true → c = 41 ∨ c = 93 → tail' (PyData.shownAll xs) ++ c :: r1 = tail' (PyData.shownAll ys) ++ c :: r2 → xs = ys ∧ r1 = r2
  | [], [], c, r1, r2, _, _, _, h => ⟨rfl, (List.cons.inj h).2⟩
  | [], y :: ys, c, r1, r2, _, _, hc, h => by
    have h' : c :: r1 = 44 :: 32 :: (tx y.shown ++ tail' (PyData.shownAll ys)) ++ c :: r2 := h
    have := (List.cons.inj h').1
    omega
  | x :: xs, [], c, r1, r2, _, _, hc, h => by
    have h' : 44 :: 32 :: (tx x.shown ++ tail' (PyData.shownAll xs)) ++ c :: r1 = c :: r2 := h
    have := (List.cons.inj h').1
    omega
  | x :: xs, y :: ys, c, r1, r2, hx, hy, hc, h => by
    simp only [plTL, Bool.and_eq_true] at hx hy
    have h' : 44 :: 32 :: (tx x.shown ++ tail' (PyData.shownAll xs)) ++ c :: r1 = 44 :: 32 :: (tx y.shown ++ tail' (PyData.shownAll ys)) ++ c :: r2 := h
    simp only [List.cons_append, List.append_assoc, List.cons.injEq, true_and] at h'
    obtain ⟨rfl, e⟩ := inj1 x y _ _ hx.1 hy.1 (stop_tail hc) (stop_tail hc) h'
    obtain ⟨rfl, e2⟩ := injT xs ys c r1 r2 hx.2 hy.2 hc e
    exact ⟨rfl, e2⟩
end
mutual
def plD : D → Bool
  | .non | .bl _ | .int _ => true
  | .str x => plT (.str x)
  | .tup xs | .lst xs => plDL xs
  | .dic [] => true
  | _ => false
def plDL : List D → Bool
  | [] => true
  | x :: xs => plD x && plDL xs
end
mutual
theorem plD_T : ∀ {d : D}, plD d = true → plT (toPy d) = true
  | .non, _ => by simp [toPy, plT]
  | .bl _, _ => by simp [toPy, plT]
  | .int _, _ => by simp [toPy, plT]
  | .str x, h => by simpa [toPy, plD] using h
  | .tup xs, h => by
    have := plDL_T (ds := xs) (by simpa [plD] using h)
    simpa [toPy, plT] using this
  | .lst xs, h => by
    have := plDL_T (ds := xs) (by simpa [plD] using h)
    simpa [toPy, plT] using this
  | .dic [], _ => by simp [toPy, toPyK, plT]
  | .dic (_ :: _), h => by simp [plD] at h
  | .ty _, h => by simp [plD] at h
  | .obj _, h => by simp [plD] at h
  | .scr _ _, h => by simp [plD] at h
  | .xcp _ _ _ _, h => by simp [plD] at h
  | .ins _ _, h => by simp [plD] at h
theorem plDL_T : ∀ {ds : List D}, plDL ds = true → plTL (toPyL ds) = true
  | [], _ => by simp [toPyL, plTL]
  | x :: xs, h => by
    simp only [plDL, Bool.and_eq_true] at h
    simp only [toPyL, plTL, Bool.and_eq_true]
    exact ⟨plD_T h.1, plDL_T h.2⟩
end
theorem plD_dic {ks : List (Key × D)} (h : plD (.dic ks) = true) : ks = [] := by
  cases ks with
  | nil => rfl
  | cons k ks => simp [plD] at h
theorem dic_inj {ks : List (Key × D)} {b : D} (ha : plD (.dic ks) = true) (hb : plD b = true) (h : toPy (.dic ks) = toPy b) : D.dic ks = b := by
  rw [plD_dic ha] at h ⊢
  cases b <;> simp [toPy, toPyK] at h
  case dic ks2 => rw [plD_dic hb]
  all_goals simp [plD] at hb
mutual
theorem toPy_inj : ∀ (a b : D), plD a = true → plD b = true → toPy a = toPy b → a = b
  | .non, b, _, hb, h => by cases b <;> simp [toPy, plD] at h hb ⊢
  | .bl _, b, _, hb, h => by cases b <;> simp [toPy, plD] at h hb ⊢; exact h
  | .int _, b, _, hb, h => by cases b <;> simp [toPy, plD] at h hb ⊢; exact h
  | .str _, b, _, hb, h => by cases b <;> simp [toPy, plD] at h hb ⊢; exact h
  | .tup xs, b, ha, hb, h => by
    cases b <;> simp [toPy, plD] at h hb ⊢
    exact toPyL_inj xs _ (by simpa [plD] using ha) hb h
  | .lst xs, b, ha, hb, h => by
    cases b <;> simp [toPy, plD] at h hb ⊢
    exact toPyL_inj xs _ (by simpa [plD] using ha) hb h
  | .dic ks, b, ha, hb, h => dic_inj ha hb h
  | .ty _, b, ha, _, _ => by simp [plD] at ha
  | .obj _, b, ha, _, _ => by simp [plD] at ha
  | .scr _ _, b, ha, _, _ => by simp [plD] at ha
  | .xcp _ _ _ _, b, ha, _, _ => by simp [plD] at ha
  | .ins _ _, b, ha, _, _ => by simp [plD] at ha
theorem toPyL_inj : ∀ (xs ys : List D), plDL xs = true → plDL ys = true → toPyL xs = toPyL ys → xs = ys
  | [], [], _, _, _ => rfl
  | [], _ :: _, _, _, h => by simp [toPyL] at h
  | _ :: _, [], _, _, h => by simp [toPyL] at h
  | x :: xs, y :: ys, hx, hy, h => by
    simp only [plDL, Bool.and_eq_true] at hx hy
    simp only [toPyL, List.cons.injEq] at h
    rw [toPy_inj x y hx.1 hy.1 h.1, toPyL_inj xs ys hx.2 hy.2 h.2]
end
end DL

namespace HT
open PySem PySem.Spec PyProof.Rows
section
variable {prog : Program} {w : World} {A : Around} {E : Value → Shared → Prop} {s : Shared}
end
end HT
namespace DL
open PySem PySem.Spec PyProof.Rows L2
section
variable {X : Cx} {W : WX} {p pos : Pos}
def dRevT (a : DE) : DE := fun ρ μ Q X => a ρ μ (fun d μ1 => tuP (rdD μ1 d) fun xs => Q (.tup xs.reverse) μ1) X
end
end DL

namespace DL
open PySem PySem.Spec PyProof.Rows L2
def rSumT : List V → Hp → VK → Prop := fun vs H Q => ∃ (a : Addr) (ns : List Int), vs = [V.ref a] ∧ H a = some (.tup (ns.map V.int)) ∧ Q (.int ns.sum) H
theorem cr_sumT {X : Cx} (hc : X.calm = true) : CallR X (.builtin "sum") rSumT := by
  intro pins s σ H vs us Q I r ⟨a, ns, e, ha, q⟩
  subst e
  rw [Vals.ref1 r]
  obtain ⟨_, its, rv, hl⟩ := I.hok a _ ha
  have hi := Vals.ints rv
  obtain ⟨xs, hx⟩ := hi.allInts.items
  have hn : numsOf its.toArray.toList = ns := by rw [show its.toArray.toList = its from rfl, hi.numsOf]
  rw [hx] at hl hn
  rw [nums_intItems] at hn
  refine PySem.W.ktm_sumG (I.ok.hd hc) hl fun h' tk t' hk => ?_
  rw [preSum_eq, List.take_of_length_le (by simp), hn]
  exact ⟨.int _, H, I.kept hk, ⟨_, rfl⟩, q⟩
def dSumT : DC := fun ds Q => match ds with
  | [.tup xs] => ∃ ns : List Int, xs = ns.map D.int ∧ Q (.int ns.sum)
  | _ => False
theorem sumT_t {ns : List Int} {Q : D → Prop} : dSumT [.tup (ns.map D.int)] Q = Q (.int ns.sum) :=
  propext ⟨fun ⟨ms, e, q⟩ => by rw [map_int_inj e]; exact q, fun q => ⟨ns, rfl, q⟩⟩
theorem sim_sumT : SimC rSumT dSumT := fun {F μ H vs ds Qd Q} W z q k => by
  unfold dSumT at q
  split at q
  · rename_i xs
    obtain ⟨ns, rfl, q⟩ := q
    obtain ⟨v, r, rfl, z1, z2⟩ := bzl_inv z
    rw [bzl_inv0 z2]
    obtain ⟨tp, cs, rfl, h1, f1, zl⟩ := bz_tup W z1
    rw [zl.ints] at h1
    exact ⟨tp, ns, rfl, h1, k _ F H _ .refl W fz_int q⟩
  · exact q.elim
section
variable {X : Cx} {W : WX} {p pos : Pos} {e : Expr} {a : DA}
theorem d_sumT (hc : X.calm = true) (hm : X.mg "sum" = none) (ha : PAB X W [e] a) (hg : Gl X "sum" := by rfl) (he : starEach [e] X.env = (false, eval e X.env) :: starEach [] X.env := by rfl) : PD X W (.Call (.Name "sum" p) [e] [] pos) (dCB dSumT a) := d_callB (cr_sumT hc) sim_sumT hm (by decide +kernel) ha hg (he := he)
end
theorem eqs_there5 : True := by
  have _ := @dRevT.eq_1
  trivial
end DL

namespace DL
open PySem PySem.Spec PyProof.Rows L2
def ItzM (K : PySem.W.Frag) (a b : Addr) : It where
  go := fun i H => ∃ (vs ws : List V) (v w : V), SqT K H a vs ∧ SqL K H b ws ∧ vs[i]? = some v ∧ ws[i]? = some w
  yld := fun i H r H' => ∃ (T : Addr) (v w : V), r = .ref T ∧ H T = none ∧ H' = upd H T (.tup [v, w]) ∧ (∀ vs, SqT K H a vs → vs[i]? = some v) ∧ (∀ ws, SqL K H b ws → ws[i]? = some w)
  stop := fun i H => ∃ vs ws : List V, SqT K H a vs ∧ SqL K H b ws ∧ i = min vs.length ws.length
theorem sep_of {z TI TO i1 i2 a b : Addr} (D : ZipApart z TI TO i1 i2 a b) : ZipSep2 z TI TO i1 i2 [i1, a] [i2, b] where
  TIz := D.TIz
  TOz := D.TOz
  TITO := D.TITO
  TIi1 := D.TIi1
  TIi2 := D.TIi2
  mem1 := List.mem_cons_self
  mem2 := List.mem_cons_self
  zf1 := by simp only [List.mem_cons, List.not_mem_nil, or_false, not_or]; exact ⟨D.i1z.symm, D.l1z.symm⟩
  zf2 := by simp only [List.mem_cons, List.not_mem_nil, or_false, not_or]; exact ⟨D.i2z.symm, D.l2z.symm⟩
  Tf1 := by simp only [List.mem_cons, List.not_mem_nil, or_false, not_or]; exact ⟨D.TOi1, D.l1TO.symm⟩
  Tf2 := by simp only [List.mem_cons, List.not_mem_nil, or_false, not_or]; exact ⟨D.TOi2, D.l2TO.symm⟩
  sep1_2 := by simp only [List.mem_cons, List.not_mem_nil, or_false, not_or]; exact ⟨D.i12, D.l2i1.symm⟩
  sep2_1 := by simp only [List.mem_cons, List.not_mem_nil, or_false, not_or]; exact ⟨D.i12.symm, D.l1i2.symm⟩
def ZipAtM (z TI TO i1 i2 a b : Addr) (i : Nat) (h : Heap) : Prop := IsZip h z TI TO .none ∧ IsTupOf2 h TI (.ref i1) (.ref i2) ∧ (∃ v w, IsTupOf2 h TO v w) ∧ h.IsTupleIter i1 a i ∧ h.IsListIter i2 b i
theorem in_five {c z TI TO i1 i2 : Addr} (h : c ∈ [z, TI, TO, i1, i2]) : c = z ∨ c = TI ∨ c = TO ∨ c = i1 ∨ c = i2 := by simpa using h
theorem turn_zipM {P : Program} {w : World} {K : PySem.W.Frag} {elts : List Expr} {kk : Nat} {tpos : Pos} {a b z TI TO i1 i2 : Addr} (D : ZipApart z TI TO i1 i2 a b) : Turn P w K (.Tuple elts kk tpos) (ItzM K a b) [z, TI, TO, i1, i2] z (ZipAtM z TI TO i1 i2 a b) where
  mem := List.mem_cons_self
  obj := fun i h ⟨hz, hTI, ⟨v, w, hTO⟩, ⟨o1, e1, _, d1⟩, ⟨o2, e2, _, d2⟩⟩ c hc => by
    rcases in_five hc with rfl | rfl | rfl | rfl | rfl
    · exact ⟨_, hz, nofun⟩
    · exact ⟨_, hTI, nofun⟩
    · exact ⟨_, hTO, nofun⟩
    · exact ⟨o1, e1, fun v e => by rw [d1] at e; cases e⟩
    · exact ⟨o2, e2, fun v e => by rw [d2] at e; cases e⟩
  keep := fun i h h' ⟨hz, hTI, ⟨v, w, hTO⟩, h1, h2⟩ k =>
    ⟨k z (by simp) _ hz, k TI (by simp) _ hTI, ⟨v, w, k TO (by simp) _ hTO⟩, h1.at (k i1 (by simp)), h2.at (k i2 (by simp))⟩
  item := by
    rintro X rfl rfl rfl hc i pins s σ H E I hf ⟨hz, hTI, ⟨v0, w0, hTO⟩, h1, h2⟩ ⟨vs, ws, v, w, qv, qw, ev, ew⟩
    obtain ⟨us, ru, pu, _⟩ := I.tuple qv
    obtain ⟨us2, ru2, pu2, _⟩ := I.list qw
    obtain ⟨u, eu, rv⟩ := ru.get ev
    obtain ⟨u2, eu2, rw2⟩ := ru2.get ew
    have n1 : i < us.toArray.size := by simpa using (List.getElem?_eq_some_iff.mp eu).1
    have n2 : i < us2.toArray.size := by simpa using (List.getElem?_eq_some_iff.mp eu2).1
    have zlt := Heap.lt_size hz
    refine wpAny_pyNext_zipD2_item (sep_of D) (Draws.tuple (prog := X.prog) (w := X.w) (A := X.A.in1) (I.ok.hd hc) i1 a D.l1i1 us.toArray) (Draws.list (prog := X.prog) (w := X.w) (A := X.A.in1) (I.ok.hd hc) i2 b D.l2i2 us2.toArray) hz hTI hTO ⟨h1, pu⟩ ⟨h2, pu2.isList⟩ n1 n2 fun y1 y2 h' tk g1 g2 z' TO' st1 st2 hT hsz hk => ?_
    have f1 : u = y1 := by
      have : us[i]? = some y1 := by simpa using g1
      rw [eu] at this
      exact Option.some.inj this
    have f2 : u2 = y2 := by
      have : us2[i]? = some y2 := by simpa using g2
      rw [eu2] at this
      exact Option.some.inj this
    subst f1 f2
    refine ⟨_, rfl, wpAny_letOwnedTupleGo_zip (s := { s with heap := h', toks := tk }) z' fun h2' z2 sb => ?_⟩
    have T2 : h2'.get? s.heap.objs.size = some { cls := .type "tuple", data := .seq #[u, u2] } := (sb.2 _ (Nat.ne_of_gt zlt)).trans hT
    have ok2 : ObjOk X.prog X.w (upd H s.heap.objs.size (.tup [v, w])) h2' s.heap.objs.size (.tup [v, w]) := ⟨(by decide : 2 ≤ sizeLine), [u, u2], .cons rv (.cons rw2 .nil), ⟨_, T2, rfl, _, rfl⟩⟩
    have far : ∀ c o, c ∉ [z, TI, TO, i1, i2] → s.heap.get? c = some o → h2'.get? c = some o := fun c o hn e => by
      simp only [List.mem_cons, List.not_mem_nil, or_false, not_or] at hn
      exact (sb.2 c hn.1).trans (hk c o hn.1 hn.2.2.1 hn.2.2.2.1 hn.2.2.2.2 e)
    have J := I.turnedNew (t' := tk) far hf (Nat.le_refl _) ok2
    refine ⟨.ref s.heap.objs.size, _, J, rfl, ⟨_, v, w, rfl, I.hok.fresh (Nat.le_refl _), rfl, fun vs' h => by rw [I.tuple_inj h qv]; exact ev, fun ws' h => by rw [I.list_inj h qw]; exact ew⟩, ⟨z2, (sb.2 _ D.TIz).trans (hk _ _ D.TIz D.TITO D.TIi1 D.TIi2 hTI), ⟨u, u2, (sb.2 _ D.TOz).trans TO'⟩, st1.1.at fun o e => (sb.2 _ D.i1z).trans e, st2.1.at fun o e => (sb.2 _ D.i2z).trans e⟩, fun c hcm => ?_⟩
    have clt : c < s.heap.objs.size := by
      rcases in_five hcm with rfl | rfl | rfl | rfl | rfl
      · exact zlt
      · exact Heap.lt_size hTI
      · exact Heap.lt_size hTO
      · obtain ⟨_, e, _⟩ := h1
        exact Heap.lt_size e
      · obtain ⟨_, e, _⟩ := h2
        exact Heap.lt_size e
    rw [upd_ne (Nat.ne_of_lt clt)]
    exact (hf c hcm).1
  done := by
    rintro X rfl rfl rfl hc i pins s σ H E I hf ⟨hz, hTI, ⟨v0, w0, hTO⟩, h1, h2⟩ ⟨vs, ws, qv, qw, en⟩
    obtain ⟨us, ru, pu, _⟩ := I.tuple qv
    obtain ⟨us2, ru2, pu2, _⟩ := I.list qw
    have l1 : us.toArray.size = vs.length := by rw [List.size_toArray]; exact ru.length.symm
    have l2 : us2.toArray.size = ws.length := by rw [List.size_toArray]; exact ru2.length.symm
    refine wpAny_pyNext_zipD2_end (i := i) (sep_of D) (Draws.tuple (prog := X.prog) (w := X.w) (A := X.A.in1) (I.ok.hd hc) i1 a D.l1i1 us.toArray) (Draws.list (prog := X.prog) (w := X.w) (A := X.A.in1) (I.ok.hd hc) i2 b D.l2i2 us2.toArray) hz hTI hTO ⟨h1, pu⟩ ⟨h2, pu2.isList⟩ (by omega) (by omega) (by omega) fun h' tk hk => ⟨rfl, ?_⟩
    refine I.turnedL (t' := tk) (ch := [z, TI, TO, i1, i2]) (fun c o hn e => ?_) hf
    simp only [List.mem_cons, List.not_mem_nil, or_false, not_or] at hn
    exact hk c o hn.1 hn.2.2.1 hn.2.2.2.1 hn.2.2.2.2 e
  self := fun A i s Q E st h => wpAny_pyIter_zip st.1 h
def iZipM (K : PySem.W.Frag) (ta : TA) : TI := fun σ H R => ta σ H fun vs H1 => ∃ a b xs ys, vs = [V.ref a, V.ref b] ∧ SqT K H1 a xs ∧ SqL K H1 b ys ∧ R (ItzM K a b) H1
theorem pi_zipM {X : Cx} {e e2 : Expr} {ta : TA} {p pos tpos : Pos} {elts : List Expr} {kk : Nat} (hg : Gl X "zip") (hm : X.mg "zip" = none) (ha : PA X [e, e2] ta)
    (hs : starEach [e, e2] X.env = (false, eval e X.env) :: starEach [e2] X.env) (hpl : (backTo pos (starEach [e2] X.env)).any (·.1) = false) : PI X (.Tuple elts kk tpos) (.Call (.Name "zip" p) [e, e2] [] pos) (iZipM X.K ta) := by
  refine ⟨fun pins s σ H R I h => Call_ (ld_blt I hg hm PyProof.Rows.boot_zip (PyProof.Rows.callWith_type1 (thn (ha.run pos pins s σ H _ I h) fun us s1 ⟨vs, H1, I1, r1, a, b, xs, ys, ex, qx, qy, q⟩ => ?_) hs hpl))⟩
  subst ex
  cases r1 with
  | cons ra rr =>
    cases rr with
    | cons rb rr =>
      cases rr
      cases ra
      cases rb
      obtain ⟨us, ru, pu, _⟩ := I1.tuple qx
      obtain ⟨us2, ru2, pu2, _⟩ := I1.list qy
      have alt : a < s1.heap.objs.size := by
        obtain ⟨o, ho, _⟩ := id pu
        exact Heap.lt_size ho
      refine zip_begins2 (begins_tuple a us.toArray) (begins_list b us2.toArray) pu pu2.isList fun h' hz hTI hTO g1 g2 hsz hk => wpAny_pyIter_zip hz ?_
      have J : Inv X pins σ H1 { s1 with heap := h' } := I1.kept (t' := s1.toks) hk
      refine ⟨_, [s1.heap.objs.size + 4, s1.heap.objs.size + 2, s1.heap.objs.size + 3, s1.heap.objs.size, s1.heap.objs.size + 1], _, _, H1, rfl, J, turn_zipM (PySem.W.ktu_apart s1.heap.objs.size a b alt pu2.lt), ⟨hz, hTI, ⟨_, _, hTO⟩, ⟨_, g1, rfl, rfl⟩, ⟨_, g2, rfl, rfl⟩⟩, fun c hcm => ?_, q⟩
      have up : s1.heap.objs.size ≤ c := by
        rcases in_five hcm with e | e | e | e | e <;> rw [e] <;> first | exact Nat.le_add_right _ _ | exact Nat.le_refl _
      exact I1.fpOk up (I1.hok.fresh up)
theorem walk_zipM {K : PySem.W.Frag} {F : Hp} {a b : Addr} {vs ws : List V} {xs ys : List D} (h : F a = some (.tup vs)) (h' : F b = some (.lst ws)) (z : FzL F xs vs) (z' : FzL F ys ws) : DL.Walk (ItzM K a b) F (zipD xs ys) := fun F2 μ2 H2 e W => by
  have ha := W.ext _ _ (e _ _ h)
  have hb := W.ext _ _ (e _ _ h')
  refine ⟨fun i hi => ?_, fun i d x H3 hd hy => ?_, vs, ws, .of ha, .of hb, by rw [zipD_len, z.length, z'.length]⟩
  · rw [zipD_len] at hi
    obtain ⟨v, hv, _⟩ := z.get (List.getElem?_eq_getElem (show i < xs.length by omega))
    obtain ⟨w, hw, _⟩ := z'.get (List.getElem?_eq_getElem (show i < ys.length by omega))
    exact ⟨vs, ws, v, w, .of ha, .of hb, hv, hw⟩
  · obtain ⟨T, v', w', rfl, hT, rfl, q1, q2⟩ := hy
    obtain ⟨dx, dy, d1, d2, rfl⟩ := zipD_get hd
    obtain ⟨v, hv, zv⟩ := z.get d1
    obtain ⟨w, hw, zw⟩ := z'.get d2
    have f1 := q1 vs (.of ha)
    have f2 := q2 ws (.of hb)
    rw [hv] at f1
    rw [hw] at f2
    cases f1
    cases f2
    obtain ⟨g, W', zz⟩ := new_tup W (fzl_cons (zv.mono e) (fzl_cons (zw.mono e) fzl_nil)) hT
    exact ⟨_, g, W', zz⟩
def zmP (ds : List D) (Q : List D → Prop) : Prop := match ds with
  | [.tup xs, .lst ys] => Q (zipD xs ys)
  | _ => False
theorem zmP_t {xs ys : List D} {Q : List D → Prop} : zmP [.tup xs, .lst ys] Q = Q (zipD xs ys) := rfl
def diZM (a : DA) : DI := fun ρ μ Q X => a ρ μ (fun ds μ1 => zmP ds fun l => Q l μ1) X
section
variable {X : Cx} {W : WX} {e e2 : Expr} {da : DA} {p pos : Pos} {elts : List Expr} {kk : Nat} {tpos : Pos}
theorem i_zipM (hm : X.mg "zip" = none) (ha : PAD X W [e, e2] da) (hg : Gl X "zip" := by rfl) (hs : starEach [e, e2] X.env = (false, eval e X.env) :: starEach [e2] X.env := by rfl) (hpl : (backTo pos (starEach [e2] X.env)).any (·.1) = false := by rfl) :
    PID X W (.Tuple elts kk tpos) (.Call (.Name "zip" p) [e, e2] [] pos) (diZM da) := by
  obtain ⟨ta, a1, a2⟩ := ha.ex
  refine ⟨_, pi_zipM hg hm a1 hs hpl, fun {B F σ H ρ μ Qd Xd R} S q gx k => a2 S q gx fun vs F' H' ds μ' g S' z q' => ?_⟩
  unfold zmP at q'
  split at q'
  · rename_i xs ys
    obtain ⟨v, r, rfl, z1, z⟩ := fzl_inv z
    obtain ⟨w, r, rfl, z2, z⟩ := fzl_inv z
    rw [fzl_inv0 z]
    unfold Fz at z1 z2
    obtain ⟨a, vs, rfl, h1, y1⟩ := z1
    obtain ⟨b, ws, rfl, h2, y2⟩ := z2
    exact ⟨a, b, vs, ws, rfl, .of (S'.wd.ext _ _ h1), .of (S'.wd.ext _ _ h2), k _ F' H' _ μ' g S' (walk_zipM h1 h2 y1 y2) q'⟩
  · exact q'.elim
end
theorem eqs_there6 : True := by
  have _ := @diZM.eq_1
  trivial
end DL

namespace DL
open PySem PySem.Spec PyProof.Rows L2
theorem ge_nn {w l : Int} : 0 ≤ geC w l := by unfold geC; omega
theorem ge_small {l : Int} (hl : 1 ≤ l) : ∀ (n : Nat) (w : Int), w.toNat ≤ n → w < l → geC w l = 0
  | 0, w, hn, _ => geC_z (by omega)
  | n + 1, w, hn, h => by
    by_cases h0 : 0 < w
    · rw [geC_s h0, if_neg (by omega), ge_small hl n _ (by omega) (by omega), ge_small hl n _ (by omega) (by omega)]
      rfl
    · exact geC_z (by omega)
theorem ge_hi {l : Int} (hl : 1 ≤ l) : ∀ (n : Nat) (w : Int), w.toNat ≤ n → 0 ≤ w → w + 1 ≤ (geC w l + 1) * l
  | 0, w, hn, h0 => by
    have : w = 0 := by omega
    subst this
    rw [geC_z (by omega)]
    omega
  | n + 1, w, hn, h0 => by
    by_cases c : l ≤ w
    · have a := ge_hi hl n ((w - 1) / 2) (by omega) (by omega)
      have b := ge_hi hl n (w / 2) (by omega) (by omega)
      rw [geC_s (by omega), if_pos c, show 1 + geC ((w - 1) / 2) l + geC (w / 2) l + 1 = (geC ((w - 1) / 2) l + 1) + (geC (w / 2) l + 1) by omega, Int.add_mul]
      omega
    · have g := ge_nn (w := w) (l := l)
      have : 1 * l ≤ (geC w l + 1) * l := Int.mul_le_mul_of_nonneg_right (by omega) (by omega)
      omega
theorem ge_lo {l : Int} (hl : 1 ≤ l) : ∀ (n : Nat) (w : Int), w.toNat ≤ n → (l + 1) / 2 ≤ w + 1 → (geC w l + 1) * ((l + 1) / 2) ≤ w + 1
  | 0, w, hn, h0 => by
    rw [geC_z (by omega)]
    omega
  | n + 1, w, hn, h0 => by
    by_cases c : l ≤ w
    · have a := ge_lo hl n ((w - 1) / 2) (by omega) (by omega)
      have b := ge_lo hl n (w / 2) (by omega) (by omega)
      rw [geC_s (by omega), if_pos c, show 1 + geC ((w - 1) / 2) l + geC (w / 2) l + 1 = (geC ((w - 1) / 2) l + 1) + (geC (w / 2) l + 1) by omega, Int.add_mul]
      omega
    · rw [ge_small hl (n + 1) w hn (by omega)]
      omega
theorem cap_ge {l w : Int} (hl : 1 ≤ l) (hw : 0 ≤ w) : geC w l ≤ capF ((l + 1) / 2) w := by
  by_cases c : w < l
  · rw [ge_small hl w.toNat w (Nat.le_refl _) c]
    exact cap_nn
  · have h := ge_lo hl w.toNat w (Nat.le_refl _) (by omega)
    have h2 : geC w l + 1 ≤ (w + 1) / ((l + 1) / 2) := (Int.le_ediv_iff_mul_le (by omega)).mpr h
    unfold capF
    split <;> omega
theorem cap_le_ge {l w : Int} (hl : 1 ≤ l) (hw : 0 ≤ w) : capF l w ≤ geC w l := by
  have h := ge_hi hl w.toNat w (Nat.le_refl _) hw
  have h2 : (w + 1) / l ≤ geC w l + 1 := Int.ediv_le_of_le_mul (by omega) h
  have := ge_nn (w := w) (l := l)
  unfold capF
  split <;> omega
def geG (gs : List (Int × Int)) (l : Int) : Int := ((inoG gs).countP fun g => decide (l ≤ g.2) : Nat)
theorem geG_sum {l : Int} : ∀ gs : List (Int × Int), geG gs l = (gs.map fun g => geC g.2 l).sum
  | [] => rfl
  | g :: gs => by
    have ih := geG_sum (l := l) gs
    unfold geG at ih ⊢
    rw [inoG_cons, List.countP_append, List.map_cons, List.sum_cons, ← ih]
    unfold geC
    rw [ge_shift g.1 g.2 0]
    push_cast
    rfl
section
variable {s : Int} {ts : List Int}
theorem room_ge (R : RowOk s ts) {l : Int} (hl : 1 ≤ l) : geG (gapsR s ts) l ≤ roomF s ts ((l + 1) / 2) := by
  rw [geG_sum]
  unfold roomF capsF
  exact sum_map_le fun g hg => cap_ge hl (by have := gap_le R hg; omega)
theorem room_le (R : RowOk s ts) {l : Int} (hl : 1 ≤ l) : roomF s ts l ≤ geG (gapsR s ts) l := by
  rw [geG_sum]
  unfold roomF capsF
  exact sum_map_le fun g hg => cap_le_ge hl (by have := gap_le R hg; omega)
theorem ord_pos (R : RowOk s ts) {g : Int × Int} (h : g ∈ ordG (gapsR s ts)) : 0 < g.2 := by
  obtain ⟨x, hx, hm⟩ := inoG_mem.mp ((ordG_perm _).mem_iff.mp h)
  have := ino_mem _ _ g hm
  omega
theorem ord_ge (R : RowOk s ts) {i : Nat} {g : Int × Int} (h : (ordG (gapsR s ts))[i]? = some g) : (i : Int) + 1 ≤ geG (gapsR s ts) g.2 ∧ geG (gapsR s ts) (g.2 + 1) ≤ i := by
  have srt := ordG_srt (row_apart R)
  have hi := (List.getElem?_eq_some_iff.mp h).1
  unfold geG
  rw [← (ordG_perm (gapsR s ts)).countP_eq, ← (ordG_perm (gapsR s ts)).countP_eq]
  have e : ordG (gapsR s ts) = (ordG (gapsR s ts)).take i ++ g :: (ordG (gapsR s ts)).drop (i + 1) := by
    have : g = (ordG (gapsR s ts))[i] := by
      rw [List.getElem?_eq_getElem hi] at h
      exact (Option.some.inj h).symm
    rw [this, ← List.drop_eq_getElem_cons hi, List.take_append_drop]
  rw [e] at srt
  obtain ⟨s1, s2, s3⟩ := List.pairwise_append.mp srt
  have s4 := (List.pairwise_cons.mp s2).1
  rw [e, List.countP_append, List.countP_append, List.countP_cons, List.countP_cons]
  have tl : ((ordG (gapsR s ts)).take i).length = i := by rw [List.length_take]; omega
  constructor
  · rw [List.countP_eq_length.mpr fun x hx => by
      have := s3 x hx g List.mem_cons_self
      unfold ltG at this
      rw [decide_eq_true_eq]
      omega, tl, if_pos (by simp)]
    push_cast
    omega
  · have z : ((ordG (gapsR s ts)).drop (i + 1)).countP (fun x => decide (g.2 + 1 ≤ x.2)) = 0 := List.countP_eq_zero.mpr fun x hx => by
      have := s4 x hx
      unfold ltG at this
      rw [decide_eq_true_eq]
      omega
    rw [z, if_neg (by rw [decide_eq_true_eq]; omega)]
    have := List.countP_le_length (p := fun x : Int × Int => decide (g.2 + 1 ≤ x.2)) (l := (ordG (gapsR s ts)).take i)
    omega
theorem best_near (R : RowOk s ts) {i : Nat} {g : Int × Int} {d : Int} (h : (ordG (gapsR s ts))[i]? = some g) (B : IsBest s ts ((i : Int) + 1) d) : 1 ≤ g.2 ∧ (g.2 + 1) / 2 ≤ d ∧ d ≤ g.2 := by
  have hp := ord_pos R (List.mem_of_getElem? h)
  obtain ⟨h1, h2⟩ := ord_ge R h
  have h3 := room_ge R (l := g.2) (by omega)
  have h4 := room_le R (l := g.2 + 1) (by omega)
  refine ⟨by omega, ?_, ?_⟩
  · refine Int.le_of_not_gt fun lt => ?_
    have := room_anti (s := s) (ts := ts) (d := d + 1) (e := (g.2 + 1) / 2) (by have := B.lo; omega) (by omega)
    have := B.no
    omega
  · refine Int.le_of_not_gt fun lt => ?_
    have := room_anti (s := s) (ts := ts) (d := g.2 + 1) (e := d) (by omega) (by omega)
    have := B.ok
    omega
theorem later_at (R : RowOk s ts) {ls : Tab} (hL : Later s ts ls) {i : Nat} {g : Int × Int} (h : (ordG (gapsR s ts))[i]? = some g) : widAt ls i = g.2 := by
  have srt := ordG_srt (row_apart R)
  have e := seq_exp (seq := (ordG (gapsR s ts)).map (·.2)) hL.ok (List.Perm.refl _) hL.srt (List.pairwise_map.mpr (srt.imp fun {a b} h => by unfold ltG at h; show b.2 ≤ a.2; omega)) (fun x hx => by
    obtain ⟨a, ha, rfl⟩ := List.mem_map.mp hx
    exact ord_pos R ha) fun v hv => by
      have h1 : ((cntV v (inoG (gapsR s ts)) : Nat) : Int) = totC (gapsF 0 (ts ++ [s])) v := inoG_cnt hv _
      have h3 : ((ordG (gapsR s ts)).map (·.2)).count v = cntV v (inoG (gapsR s ts)) := by
        rw [((ordG_perm (gapsR s ts)).map _).count_eq]
        unfold cntV
        rw [List.count, List.countP_map]
        refine List.countP_congr fun g _ => ?_
        simp
      rw [hL.cnt v hv, h3]
      exact h1
  have hi := (List.getElem?_eq_some_iff.mp h).1
  have hl := congrArg List.length e
  rw [List.length_map] at hl
  have q := exp_at (ls := ls) (i := (i : Int)) (fun e he => (hL.ok.pos e he).2) (by omega) (by omega)
  rw [← e, List.getElem?_map, Int.toNat_natCast, h] at q
  exact (Option.some.inj q).symm
theorem best_anti {c e d f : Int} (B : IsBest s ts c d) (C : IsBest s ts e f) (h : c ≤ e) : f ≤ d := by
  refine Int.le_of_not_gt fun lt => ?_
  have := room_anti (s := s) (ts := ts) (d := d + 1) (e := f) (by have := B.lo; omega) (by omega)
  have := B.no
  have := C.ok
  omega
theorem best_all (R : RowOk s ts) {d : Int} (h1 : 1 ≤ s - ts.length) (B : IsBest s ts (s - ts.length) d) : d = 1 := by
  have := B.lo
  refine Classical.byContradiction fun ne => ?_
  have h2 := room_anti (s := s) (ts := ts) (d := 2) (e := d) (by omega) (by omega)
  have h3 := room_one R
  have h4 : roomF s ts 2 + roomF s ts 2 ≤ roomF s ts 1 := by
    unfold roomF capsF
    have : ∀ gs : List (Int × Int), (∀ g ∈ gs, 0 < g.2) → (gs.map fun g => capF 2 g.2).sum + (gs.map fun g => capF 2 g.2).sum ≤ (gs.map fun g => capF 1 g.2).sum := fun gs => by
      induction gs with
      | nil => intro _; exact Int.le_refl _
      | cons g gs ih =>
        intro h
        have a := ih fun x hx => h x (List.mem_cons_of_mem _ hx)
        have b := h g List.mem_cons_self
        rw [List.map_cons, List.map_cons, List.sum_cons, List.sum_cons, cap_one b]
        have : capF 2 g.2 + capF 2 g.2 ≤ g.2 := by
          unfold capF
          split <;> omega
        omega
    exact this _ fun g hg => by have := gap_le R hg; omega
  have := B.ok
  omega
end
end DL

namespace DL
open PySem PySem.Spec PyProof.Rows L2
def inGap (g : Int × Int) (d : Int) (m : Nat) : List Int := (List.range m).map fun k : Nat => g.1 - 1 + ((k : Int) + 1) * d
def spreadF : List (Int × Int) → Int → Nat → List Int
  | [], _, _ => []
  | g :: gs, d, c => inGap g d (min (capF d g.2).toNat c) ++ spreadF gs d (c - min (capF d g.2).toNat c)
theorem inGap_len {g : Int × Int} {d : Int} {m : Nat} : (inGap g d m).length = m := by simp [inGap]
theorem caps_nn {d : Int} : ∀ gs : List (Int × Int), 0 ≤ (gs.map fun g => capF d g.2).sum
  | [] => Int.le_refl _
  | g :: gs => by
    rw [List.map_cons, List.sum_cons]
    have := caps_nn (d := d) gs
    have := cap_nn (d := d) (w := g.2)
    omega
theorem spread_len {d : Int} : ∀ (gs : List (Int × Int)) (c : Nat), (c : Int) ≤ (gs.map fun g => capF d g.2).sum → (spreadF gs d c).length = c
  | [], c, h => by
    have : c = 0 := by simp at h; omega
    subst this
    rfl
  | g :: gs, c, h => by
    rw [List.map_cons, List.sum_cons] at h
    have n := cap_nn (d := d) (w := g.2)
    have n2 := caps_nn (d := d) gs
    rw [spreadF, List.length_append, inGap_len, spread_len gs _ (by omega)]
    omega
theorem cap_fit {d w k : Int} (hd : 1 ≤ d) (k0 : 0 ≤ k) (h : k < capF d w) : (k + 2) * d ≤ w + 1 := by
  have : k + 2 ≤ (w + 1) / d := by
    unfold capF at h
    split at h <;> omega
  exact (Int.le_ediv_iff_mul_le (by omega)).mp this
theorem inGap_in {g : Int × Int} {d x : Int} {m : Nat} (hd : 1 ≤ d) (hm : m ≤ (capF d g.2).toNat) (h : x ∈ inGap g d m) : g.1 - 1 + d ≤ x ∧ x + d ≤ g.1 + g.2 := by
  obtain ⟨k, hk, rfl⟩ := List.mem_map.mp h
  have hk := List.mem_range.mp hk
  have f := cap_fit (d := d) (w := g.2) (k := (k : Int)) hd (by omega) (by omega)
  have e1 : ((k : Int) + 2) * d = ((k : Int) + 1) * d + d := by rw [show ((k : Int) + 2) = ((k : Int) + 1) + 1 by omega, Int.add_mul]; omega
  have e2 : 1 * d ≤ ((k : Int) + 1) * d := Int.mul_le_mul_of_nonneg_right (by omega) (by omega)
  omega
theorem spread_in {d x : Int} (hd : 1 ≤ d) : ∀ (gs : List (Int × Int)) (c : Nat), x ∈ spreadF gs d c → ∃ g ∈ gs, g.1 - 1 + d ≤ x ∧ x + d ≤ g.1 + g.2
  | [], _, h => by cases h
  | g :: gs, c, h => by
    rw [spreadF] at h
    rcases List.mem_append.mp h with h | h
    · exact ⟨g, List.mem_cons_self, inGap_in hd (Nat.min_le_left _ _) h⟩
    · obtain ⟨y, hy, r⟩ := spread_in hd gs _ h
      exact ⟨y, List.mem_cons_of_mem _ hy, r⟩
theorem spread_up {d : Int} (hd : 1 ≤ d) : ∀ (gs : List (Int × Int)) (c : Nat), gs.Pairwise (fun g h => g.1 + g.2 < h.1) → (spreadF gs d c).Pairwise fun x y => x + d ≤ y
  | [], _, _ => .nil
  | g :: gs, c, hp => by
    obtain ⟨h1, h2⟩ := List.pairwise_cons.mp hp
    rw [spreadF]
    refine List.pairwise_append.mpr ⟨?_, spread_up hd gs _ h2, fun x hx y hy => ?_⟩
    · unfold inGap
      rw [List.pairwise_map]
      refine List.pairwise_lt_range.imp fun {a b} h => ?_
      have e : ((a : Int) + 1) * d + d = ((a : Int) + 2) * d := by rw [show ((a : Int) + 2) = ((a : Int) + 1) + 1 by omega, Int.add_mul ((a : Int) + 1)]; omega
      have : ((a : Int) + 2) * d ≤ ((b : Int) + 1) * d := Int.mul_le_mul_of_nonneg_right (by omega) (by omega)
      omega
    · have a := inGap_in hd (Nat.min_le_left _ _) hx
      obtain ⟨h, hh, b⟩ := spread_in hd gs _ hy
      have := h1 h hh
      omega
theorem gaps_strict : ∀ (ts : List Int) (lo : Int), (∀ t ∈ ts, lo ≤ t) → ts.Pairwise (· < ·) → (gapsF lo ts).Pairwise (fun g h => g.1 + g.2 < h.1) ∧ (∀ g ∈ gapsF lo ts, lo ≤ g.1) ∧ ∀ g ∈ gapsF lo ts, ∀ t ∈ ts, t < g.1 ∨ g.1 + g.2 ≤ t
  | [], lo, _, _ => ⟨List.Pairwise.nil, (fun g hg => by cases hg), fun g hg => by cases hg⟩
  | t :: ts, lo, h, hp => by
    obtain ⟨p1, p2⟩ := List.pairwise_cons.mp hp
    have ht := h t List.mem_cons_self
    obtain ⟨i1, i2, i3⟩ := gaps_strict ts (t + 1) (fun x hx => by have := p1 x hx; omega) p2
    have out : ∀ g ∈ gapsF (t + 1) ts, ∀ x ∈ t :: ts, x < g.1 ∨ g.1 + g.2 ≤ x := fun g hg x hx => by
      rcases List.mem_cons.mp hx with rfl | hx
      · have := i2 g hg
        omega
      · exact i3 g hg x hx
    unfold gapsF
    split
    · refine ⟨List.pairwise_cons.mpr ⟨fun g hg => ?_, i1⟩, fun g hg => ?_, fun g hg x hx => ?_⟩
      · have := i2 g hg
        dsimp only
        omega
      · rcases List.mem_cons.mp hg with rfl | hg
        · exact Int.le_refl _
        · have := i2 g hg
          omega
      · rcases List.mem_cons.mp hg with rfl | hg
        · dsimp only
          rcases List.mem_cons.mp hx with rfl | hx
          · omega
          · have := p1 x hx
            omega
        · exact out g hg x hx
    · refine ⟨i1, fun g hg => ?_, out⟩
      have := i2 g hg
      omega
theorem row_strict {s : Int} {ts : List Int} (R : RowOk s ts) : (gapsF 0 (ts ++ [s])).Pairwise (fun g h => g.1 + g.2 < h.1) ∧ (∀ g ∈ gapsF 0 (ts ++ [s]), 0 ≤ g.1) ∧ ∀ g ∈ gapsF 0 (ts ++ [s]), ∀ t ∈ ts ++ [s], t < g.1 ∨ g.1 + g.2 ≤ t := by
  refine gaps_strict (ts ++ [s]) 0 (fun t ht => ?_) ?_
  · have := R.one
    rcases List.mem_append.mp ht with h | h
    · exact (R.lim t h).1
    · rw [List.mem_singleton.mp h]
      omega
  · refine List.pairwise_append.mpr ⟨R.up, List.pairwise_singleton _ _, fun a ha b hb => ?_⟩
    rw [List.mem_singleton.mp hb]
    exact (R.lim a ha).2
theorem spread_far {s d x : Int} {ts : List Int} {c : Nat} (R : RowOk s ts) (hd : 1 ≤ d) (h : x ∈ spreadF (gapsF 0 (ts ++ [s])) d c) : (0 ≤ x ∧ x < s ∧ x ∉ ts) ∧ d ≤ x + 1 ∧ d ≤ s - x ∧ ∀ t ∈ ts, d ≤ absI (x - t) := by
  obtain ⟨g, hg, a, b⟩ := spread_in hd _ _ h
  obtain ⟨-, h0, h1⟩ := row_strict R
  have g0 := h0 g hg
  have g1 := gap_le R hg
  refine ⟨⟨by omega, by omega, fun hx => ?_⟩, by omega, by omega, fun t ht => ?_⟩
  · have := h1 g hg x (List.mem_append_left _ hx)
    omega
  · have := h1 g hg t (List.mem_append_left _ ht)
    unfold absI
    split <;> omega
end DL

namespace PySem
open Sem (wp)
end PySem

namespace DL
open PySem PySem.Spec PyProof.Rows L2
def etP (ds : List D) (Q : List D → Prop) : Prop := match ds with
  | [.tup xs] => Q (enumD xs)
  | _ => False
def diET (a : DA) : DI := fun ρ μ Q X => a ρ μ (fun ds μ1 => etP ds fun l => Q l μ1) X
section
variable {X : Cx} {W : WX} {e : Expr} {da : DA} {p pos : Pos} {elts : List Expr} {kk : Nat} {tpos : Pos}
end
theorem eqs_there7 : True := by
  have _ := @diET.eq_1
  trivial
end DL

namespace DL
open PySem PySem.Spec PyProof.Rows L2
abbrev wellK (G S t : Int) : List (Key × D) := [(.inr "great", .int G), (.inr "small", .int S), (.inr "drawn", .int t)]
def IsWell (p : Addr) (n : Nat) (μ : Mu) : Prop := ∃ (G S t : Int), μ p = some (.dK (wellK G S t)) ∧ 0 ≤ G ∧ 0 ≤ S ∧ S < 4611686018427387847 ∧ 0 ≤ t ∧ t ≤ n
theorem IsWell.up {p : Addr} {n m : Nat} {μ : Mu} (h : IsWell p n μ) (hm : n ≤ m) : IsWell p m μ := by
  obtain ⟨G, S, t, h1, h2, h3, h4, h5, h6⟩ := h
  exact ⟨G, S, t, h1, h2, h3, h4, h5, by omega⟩
def sp_l_shuffled_script (K : PySem.W.Frag) : DSp := fun ds μ Q _ => ∃ ns, ds = [.scr K ns] ∧ ns.length ≤ 1000 ∧ ∀ p μ', IsWell p 0 μ' → Q (.obj p) μ'
def sp_l_pull : DSp := fun ds μ Q _ => ∃ p n m, ds = [.obj p, .int m] ∧ 0 < m ∧ m < 2 ^ 64 ∧ n ≤ 1000000000 ∧ IsWell p n μ ∧ ∀ r μ', IsWell p (n + 1) μ' → 0 ≤ r → r < m → Q (.int r) μ'
def sp_l_far_row : DSp := fun ds μ Q _ => ∃ p n b, ds = [.obj p, .int b] ∧ 0 ≤ b ∧ b < 60 ∧ n ≤ 900000000 ∧ IsWell p n μ ∧ ∀ s ts μ', IsWell p (n + 200) μ' → RowOk s ts → 1000 ≤ s → s ≤ 10 ^ 12 → (ts.length : Int) ≤ b → Q (rowD s ts) μ'
theorem pull {p : Addr} {n : Nat} {m : Int} {μ : Mu} {Q : DQ} {Z : DXQ} (hP : IsWell p n μ) (h0 : 0 < m) (h1 : m < 2 ^ 64) (hn : n ≤ 1000000000) (h : ∀ r μ', IsWell p (n + 1) μ' → 0 ≤ r → r < m → Q (.int r) μ') : sp_l_pull [.obj p, .int m] μ Q Z := ⟨p, n, m, rfl, h0, h1, hn, hP, h⟩
theorem frow {p : Addr} {n : Nat} {b : Int} {μ : Mu} {Q : DQ} {Z : DXQ} (hP : IsWell p n μ) (h2 : 0 ≤ b) (h3 : b < 60) (hn : n ≤ 900000000) (h : ∀ s ts μ', IsWell p (n + 200) μ' → RowOk s ts → 1000 ≤ s → s ≤ 10 ^ 12 → (ts.length : Int) ≤ b → Q (rowD s ts) μ') : sp_l_far_row [.obj p, .int b] μ Q Z :=
  ⟨p, n, b, rfl, h2, h3, hn, hP, h⟩
def smallT : D → Bool
  | .tup xs => decide (xs.length ≤ 500) && xs.all fun y => match y with
    | .tup ys => decide (ys.length ≤ 500)
    | _ => true
  | _ => true
structure Sv (x : D) : Prop where
  ok1 : okR 1 x = true
  s : okS 5 x = true
  sm : smallT x = true
  sh : shortR x
  w : wR x ≤ 500
def intIn (x : D) (lo hi : Int) : Bool := match x with
  | .int i => decide (lo ≤ i) && decide (i ≤ hi)
  | _ => false
def sp_is_integer : DSp := fun ds μ Q _ => ∃ x lo hi, ds = [x, .int lo, .int hi] ∧ okR 3 x = true ∧ Q (.bl (intIn x lo hi)) μ
theorem c_is_integer {x : D} {lo hi : Int} {μ Q Z} (h : okR 3 x = true) : sp_is_integer [x, .int lo, .int hi] μ Q Z = Q (.bl (intIn x lo hi)) μ := by
  refine propext ⟨fun ⟨_, _, _, e, _, q⟩ => ?_, fun q => ⟨_, _, _, rfl, h, q⟩⟩
  simp only [List.cons.injEq, D.int.injEq, and_true] at e
  obtain ⟨rfl, rfl, rfl⟩ := e
  exact q
def sp_l_same (n : Nat) : DSp := fun ds μ Q _ => ∃ d, ds = [d, d] ∧ okS n d = true ∧ Q (.bl true) μ
theorem same {n : Nat} {d : D} {μ : Mu} {Q : DQ} {Z : DXQ} (h : okS n d = true) (q : Q (.bl true) μ) : sp_l_same n [d, d] μ Q Z := ⟨d, rfl, h, q⟩
def sp_gaps : DSp := fun ds μ Q _ => ∃ s ts, ds = [rowD s ts] ∧ ts.length ≤ 1000 ∧ Q (.tup ((gapsF 0 (ts ++ [s])).map gapD)) μ
theorem c_gaps {s : Int} {ts : List Int} {μ Q Z} (h : ts.length ≤ 1000) : sp_gaps [.tup [.int s, .tup (ts.map .int)]] μ Q Z = Q (.tup ((gapsF 0 (ts ++ [s])).map gapD)) μ :=
  propext ⟨fun ⟨s', ts', e, _, q⟩ => by obtain ⟨rfl, rfl⟩ := row_inj (List.cons.inj e).1; exact q, fun q => ⟨s, ts, rfl, h, q⟩⟩
theorem gapD_inj {g h : Int × Int} (e : gapD g = gapD h) : g = h := by
  simp only [gapD, D.tup.injEq, List.cons.injEq, D.int.injEq, and_true] at e
  exact Prod.ext e.1 e.2
def sp_widths_within : DSp := fun ds μ Q _ => ∃ w : Int, ds = [.int w] ∧ 0 ≤ w ∧ w ≤ 10 ^ 13 ∧ ∀ es : Tab, TabOk es → es.length ≤ 100 → (∀ v, 0 < v → cntE es v = cntI w v) → Q (.dic (es.map entD)) μ
theorem within {w : Int} {μ : Mu} {Q : DQ} {Z : DXQ} (h0 : 0 ≤ w) (h1 : w ≤ 10 ^ 13) (q : ∀ es : Tab, TabOk es → es.length ≤ 100 → (∀ v, 0 < v → cntE es v = cntI w v) → Q (.dic (es.map entD)) μ) : sp_widths_within [.int w] μ Q Z := ⟨w, rfl, h0, h1, q⟩
def sp_all_widths : DSp := fun ds μ Q _ => ∃ (s : Int) (ts : List Int), ds = [rowD s ts] ∧ RowOk s ts ∧ s ≤ 10 ^ 13 ∧ ts.length ≤ 100 ∧ ∀ es : Tab, TabOk es → es.length ≤ 20000 → (∀ v, 0 < v → cntE es v = totC (gapsF 0 (ts ++ [s])) v) → Q (.dic (es.map entD)) μ
theorem allw {s : Int} {ts : List Int} {μ : Mu} {Q : DQ} {Z : DXQ} (R : RowOk s ts) (hs : s ≤ 10 ^ 13) (hl : ts.length ≤ 100) (q : ∀ es : Tab, TabOk es → es.length ≤ 20000 → (∀ v, 0 < v → cntE es v = totC (gapsF 0 (ts ++ [s])) v) → Q (.dic (es.map entD)) μ) : sp_all_widths [.tup [.int s, .tup (ts.map .int)]] μ Q Z := ⟨s, ts, rfl, R, hs, hl, q⟩
def sp_later_widths : DSp := fun ds μ Q _ => ∃ (s : Int) (ts : List Int), ds = [rowD s ts] ∧ RowOk s ts ∧ s ≤ 10 ^ 13 ∧ ts.length ≤ 100 ∧ ∀ ls : Tab, Later s ts ls → ls.length ≤ 20000 → Q (.tup (ls.map gapD)) μ
theorem later {s : Int} {ts : List Int} {μ : Mu} {Q : DQ} {Z : DXQ} (R : RowOk s ts) (hs : s ≤ 10 ^ 13) (hl : ts.length ≤ 100) (q : ∀ ls : Tab, Later s ts ls → ls.length ≤ 20000 → Q (.tup (ls.map gapD)) μ) : sp_later_widths [.tup [.int s, .tup (ts.map .int)]] μ Q Z := ⟨s, ts, rfl, R, hs, hl, q⟩
def sp_is_number : DSp := fun ds μ Q _ => ∃ i lo hi : Int, ds = [.int i, .int lo, .int hi] ∧ Q (.bl (decide (lo ≤ i) && decide (i ≤ hi))) μ
theorem c_is_number {i lo hi : Int} {μ Q Z} : sp_is_number [.int i, .int lo, .int hi] μ Q Z = Q (.bl (decide (lo ≤ i) && decide (i ≤ hi))) μ := propext ⟨fun ⟨i', l', h', e, q⟩ => by
  simp only [List.cons.injEq, D.int.injEq, and_true] at e
  obtain ⟨rfl, rfl, rfl⟩ := e
  exact q, fun q => ⟨_, _, _, rfl, q⟩⟩
def sp_free_seats : DSp := fun ds μ Q _ => ∃ (s : Int) (ts : List Int), ds = [rowD s ts] ∧ Q (.int (s - ts.length)) μ
theorem c_free_seats_ {s : Int} {ts : List Int} {μ Q Z} : sp_free_seats [.tup [.int s, .tup (ts.map .int)]] μ Q Z = Q (.int (s - ts.length)) μ :=
  propext ⟨fun ⟨s', ts', e, q⟩ => by obtain ⟨rfl, rfl⟩ := row_inj (List.cons.inj e).1; exact q, fun q => ⟨s, ts, rfl, q⟩⟩
def sp_require_free : DSp := fun ds μ Q _ => ∃ (s : Int) (ts : List Int) (x : Int), ds = [rowD s ts, .int x] ∧ 0 ≤ x ∧ x < s ∧ x ∉ ts ∧ Q .non μ
def sp_middle : DSp := fun ds μ Q _ => ∃ g : Int × Int, ds = [gapD g] ∧ Q (.int (mid g)) μ
theorem c_middle {b w : Int} {μ Q Z} : sp_middle [.tup [.int b, .int w]] μ Q Z = Q (.int (b + (w - 1) / 2)) μ :=
  propext ⟨fun ⟨g, e, q⟩ => by have := gapD_inj (g := (b, w)) (List.cons.inj e).1; subst this; exact q, fun q => ⟨(b, w), rfl, q⟩⟩
def sp_left_part : DSp := fun ds μ Q _ => ∃ g : Int × Int, ds = [gapD g] ∧ Q (gapD (g.1, (g.2 - 1) / 2)) μ
theorem c_left_part {b w : Int} {μ Q Z} : sp_left_part [.tup [.int b, .int w]] μ Q Z = Q (gapD (b, (w - 1) / 2)) μ :=
  propext ⟨fun ⟨g, e, q⟩ => by have := gapD_inj (g := (b, w)) (List.cons.inj e).1; subst this; exact q, fun q => ⟨(b, w), rfl, q⟩⟩
def sp_right_part : DSp := fun ds μ Q _ => ∃ g : Int × Int, ds = [gapD g] ∧ Q (gapD (g.1 + (g.2 - 1) / 2 + 1, g.2 / 2)) μ
theorem c_right_part {b w : Int} {μ Q Z} : sp_right_part [.tup [.int b, .int w]] μ Q Z = Q (gapD (b + (w - 1) / 2 + 1, w / 2)) μ :=
  propext ⟨fun ⟨g, e, q⟩ => by have := gapD_inj (g := (b, w)) (List.cons.inj e).1; subst this; exact q, fun q => ⟨(b, w), rfl, q⟩⟩
def sp_number_within : DSp := fun ds μ Q _ => ∃ w v : Int, ds = [.int w, .int v] ∧ 0 ≤ w ∧ w ≤ 10 ^ 13 ∧ 0 < v ∧ Q (.int (cntI w v)) μ
theorem nwithin {w v : Int} {μ : Mu} {Q : DQ} {Z : DXQ} (h0 : 0 ≤ w) (h1 : w ≤ 10 ^ 13) (hv : 0 < v) (q : Q (.int (cntI w v)) μ) : sp_number_within [.int w, .int v] μ Q Z := ⟨w, v, rfl, h0, h1, hv, q⟩
def sp_path_to : DSp := fun ds μ Q _ => ∃ (s : Int) (ts : List Int) (x : Int) (g : Int × Int), ds = [rowD s ts, .int x] ∧ RowOk s ts ∧ s ≤ 10 ^ 12 ∧ ts.length ≤ 60 ∧ g ∈ gapsR s ts ∧ g.1 ≤ x ∧ x < g.1 + g.2 ∧ Q (.lst ((wayI g.1 g.2 x).map gapD)) μ
theorem pathto {s x : Int} {ts : List Int} {g : Int × Int} {μ : Mu} {Q : DQ} {Z : DXQ} (R : RowOk s ts) (hs : s ≤ 10 ^ 12) (hl : ts.length ≤ 60) (hg : g ∈ gapsR s ts) (h1 : g.1 ≤ x) (h2 : x < g.1 + g.2) (q : Q (.lst ((wayI g.1 g.2 x).map gapD)) μ) : sp_path_to [.tup [.int s, .tup (ts.map .int)], .int x] μ Q Z := ⟨s, ts, x, g, rfl, R, hs, hl, hg, h1, h2, q⟩
def sp_gap_of : DSp := fun ds μ Q _ => ∃ (s : Int) (ts : List Int) (g : Int × Int), ds = [rowD s ts, .int (mid g)] ∧ RowOk s ts ∧ s ≤ 10 ^ 12 ∧ ts.length ≤ 60 ∧ g ∈ inoG (gapsR s ts) ∧ Q (gapD g) μ
def sp_gap_with_rank : DSp := fun ds μ Q _ => ∃ (s : Int) (ts : List Int) (v : Int) (r : Nat) (g : Int × Int), ds = [rowD s ts, .int v, .int r] ∧ RowOk s ts ∧ s ≤ 10 ^ 12 ∧ ts.length ≤ 60 ∧ 0 < v ∧ (selW v (inoG (gapsR s ts)))[r]? = some g ∧ Q (gapD g) μ
theorem grank {s v : Int} {r : Nat} {ts : List Int} {g : Int × Int} {μ : Mu} {Q : DQ} {Z : DXQ} (R : RowOk s ts) (hs : s ≤ 10 ^ 12) (hl : ts.length ≤ 60) (hv : 0 < v) (h : (selW v (inoG (gapsR s ts)))[r]? = some g) (q : Q (gapD g) μ) : sp_gap_with_rank [.tup [.int s, .tup (ts.map .int)], .int v, .int r] μ Q Z := ⟨s, ts, v, r, g, rfl, R, hs, hl, hv, h, q⟩
def sp_gap_at : DSp := fun ds μ Q _ => ∃ (s : Int) (ts : List Int) (i : Nat) (g : Int × Int), ds = [rowD s ts, .int i] ∧ RowOk s ts ∧ s ≤ 10 ^ 12 ∧ ts.length ≤ 60 ∧ (ordG (gapsR s ts))[i]? = some g ∧ Q (gapD g) μ
theorem gapat {s : Int} {i : Nat} {ts : List Int} {g : Int × Int} {μ : Mu} {Q : DQ} {Z : DXQ} (R : RowOk s ts) (hs : s ≤ 10 ^ 12) (hl : ts.length ≤ 60) (h : (ordG (gapsR s ts))[i]? = some g) (q : Q (gapD g) μ) : sp_gap_at [.tup [.int s, .tup (ts.map .int)], .int i] μ Q Z := ⟨s, ts, i, g, rfl, R, hs, hl, h, q⟩
def sp_seat_of : DSp := fun ds μ Q _ => ∃ (s : Int) (ts : List Int) (i : Nat) (g : Int × Int), ds = [rowD s ts, .int i] ∧ RowOk s ts ∧ s ≤ 10 ^ 12 ∧ ts.length ≤ 60 ∧ (ordG (gapsR s ts))[i]? = some g ∧ Q (.int (mid g)) μ
theorem seatof {s : Int} {i : Nat} {ts : List Int} {g : Int × Int} {μ : Mu} {Q : DQ} {Z : DXQ} (R : RowOk s ts) (hs : s ≤ 10 ^ 12) (hl : ts.length ≤ 60) (h : (ordG (gapsR s ts))[i]? = some g) (q : Q (.int (mid g)) μ) : sp_seat_of [.tup [.int s, .tup (ts.map .int)], .int i] μ Q Z := ⟨s, ts, i, g, rfl, R, hs, hl, h, q⟩
def sp_free_seatsD : DSp := sp_free_seats
theorem c_free_seatsD_ {s : Int} {ts : List Int} {μ Q Z} : sp_free_seatsD [.tup [.int s, .tup (ts.map .int)]] μ Q Z = Q (.int (s - ts.length)) μ := c_free_seats_
def sp_check_count (K : PySem.W.Frag) : DSp := fun ds μ Q Z => ∃ (x : D) (lo hi : Int), ds = [x, .int lo, .int hi] ∧ okR 3 x = true ∧ if intIn x lo hi = true then Q .non μ else Z ⟨cAt K "NoCount", [("value", x)]⟩ μ
theorem check_count {K : PySem.W.Frag} {x : D} {lo hi : Int} {μ : Mu} {Q : DQ} {Z : DXQ} (h : okR 3 x = true) (q : if intIn x lo hi = true then Q .non μ else Z ⟨cAt K "NoCount", [("value", x)]⟩ μ) : sp_check_count K [x, .int lo, .int hi] μ Q Z := ⟨x, lo, hi, rfl, h, q⟩
def sp_most_in_gaps : DSp := fun ds μ Q _ => ∃ (s : Int) (ts : List Int) (d : Int), ds = [rowD s ts, .int d] ∧ 0 < d ∧ d < 2 ^ 62 ∧ ts.length ≤ 100 ∧ Q (.lst ((capsF s ts d).map .int)) μ
theorem most {s : Int} {ts : List Int} {d : Int} {μ : Mu} {Q : DQ} {Z : DXQ} (h : 0 < d) (h2 : d < 2 ^ 62) (h3 : ts.length ≤ 100) (q : Q (.lst ((capsF s ts d).map .int)) μ) : sp_most_in_gaps [.tup [.int s, .tup (ts.map .int)], .int d] μ Q Z := ⟨s, ts, d, rfl, h, h2, h3, q⟩
def bsel (s : Int) (ts : List Int) (x : D) (a : Prop) (b : Int → Prop) : Prop := match x with
  | .int c => if 1 ≤ c ∧ c ≤ s - ts.length then b c else a
  | _ => a
def sp_best_distance (K : PySem.W.Frag) : DSp := fun ds μ Q Z => ∃ (s : Int) (ts : List Int) (x : D), ds = [rowD s ts, x] ∧ RowOk s ts ∧ s ≤ 10 ^ 13 ∧ ts.length ≤ 60 ∧ okR 3 x = true ∧
  bsel s ts x (Z ⟨cAt K "NoCount", [("value", x)]⟩ μ) (fun c => ∀ d, IsBest s ts c d → Q (.int d) μ)
theorem best {K : PySem.W.Frag} {s : Int} {ts : List Int} {x : D} {μ : Mu} {Q : DQ} {Z : DXQ} (R : RowOk s ts) (hs : s ≤ 10 ^ 13) (h : ts.length ≤ 60) (ho : okR 3 x = true) (q : bsel s ts x (Z ⟨cAt K "NoCount", [("value", x)]⟩ μ) (fun c => ∀ d, IsBest s ts c d → Q (.int d) μ)) :
    sp_best_distance K [.tup [.int s, .tup (ts.map .int)], x] μ Q Z := ⟨s, ts, x, rfl, R, hs, h, ho, q⟩
theorem bsel_in {s c : Int} {ts : List Int} {a : Prop} {b : Int → Prop} (h0 : 1 ≤ c) (h1 : c ≤ s - ts.length) : bsel s ts (.int c) a b = b c := by
  simp only [bsel]
  rw [if_pos ⟨h0, h1⟩]
theorem cnt_in {x : D} {s : Int} {ts : List Int} : (∃ c, x = .int c ∧ 1 ≤ c ∧ c ≤ s - ts.length ∧ intIn x 1 (s - ts.length) = true) ∨ (intIn x 1 (s - ts.length) = false ∧ ∀ a b, bsel s ts x a b = a) := by
  cases x with
  | int v =>
    by_cases h : 1 ≤ v ∧ v ≤ s - ts.length
    · exact .inl ⟨v, rfl, h.1, h.2, by simp only [intIn, Bool.and_eq_true, decide_eq_true_eq]; exact h⟩
    · refine .inr ⟨?_, fun a b => by simp only [bsel]; rw [if_neg h]⟩
      simp only [intIn, Bool.and_eq_false_iff, decide_eq_false_iff_not]
      omega
  | non => exact .inr ⟨rfl, fun _ _ => rfl⟩
  | bl _ => exact .inr ⟨rfl, fun _ _ => rfl⟩
  | str _ => exact .inr ⟨rfl, fun _ _ => rfl⟩
  | ty _ => exact .inr ⟨rfl, fun _ _ => rfl⟩
  | tup _ => exact .inr ⟨rfl, fun _ _ => rfl⟩
  | lst _ => exact .inr ⟨rfl, fun _ _ => rfl⟩
  | dic _ => exact .inr ⟨rfl, fun _ _ => rfl⟩
  | ins _ _ => exact .inr ⟨rfl, fun _ _ => rfl⟩
  | obj _ => exact .inr ⟨rfl, fun _ _ => rfl⟩
  | scr _ _ => exact .inr ⟨rfl, fun _ _ => rfl⟩
  | xcp _ _ _ _ => exact .inr ⟨rfl, fun _ _ => rfl⟩
def sp_distance_of_width : DSp := fun ds μ Q _ => ∃ w : Int, ds = [.int w] ∧ Q (.int ((w + 1) / 2)) μ
theorem c_distance_of_width_ {w : Int} {μ Q Z} : sp_distance_of_width [.int w] μ Q Z = Q (.int ((w + 1) / 2)) μ :=
  propext ⟨fun ⟨w', e, q⟩ => by cases e; exact q, fun q => ⟨w, rfl, q⟩⟩
def sp_width_of : DSp := fun ds μ Q _ => ∃ (ls : Tab) (i : Int), ds = [.tup (ls.map gapD), .int i] ∧ Q (.int (widAt ls i)) μ
theorem widthof {ls : Tab} {i : Int} {μ : Mu} {Q : DQ} {Z : DXQ} (q : Q (.int (widAt ls i)) μ) : sp_width_of [.tup (ls.map gapD), .int i] μ Q Z := ⟨ls, i, rfl, q⟩
def badI (s : Int) (ts : List Int) (xs : List D) : Option D := xs.find? fun x => !intIn x 0 (s - ts.length - 1)
def isel (s : Int) (ts : List Int) (xs : List D) (a : D → Prop) (b : List Int → Prop) : Prop := match badI s ts xs with
  | some x => a x
  | none => ∀ is : List Int, xs = is.map D.int → b is
def distD (ls : Tab) (is : List Int) : D := .tup (is.map fun i => .int ((widAt ls i + 1) / 2))
def sp_distances_of (K : PySem.W.Frag) : DSp := fun ds μ Q Z => ∃ (s : Int) (ts : List Int) (xs : List D), ds = [rowD s ts, .tup xs] ∧ RowOk s ts ∧ s ≤ 10 ^ 13 ∧ ts.length ≤ 60 ∧ (∀ x ∈ xs, okR 3 x = true) ∧ xs.length ≤ 10 ∧
  isel s ts xs (fun x => Z ⟨cAt K "NoIndex", [("index", x)]⟩ μ) (fun is => ∀ ls, Later s ts ls → Q (distD ls is) μ)
structure IsDist (s : Int) (ts : List Int) (v m : Int) : Prop where
  lo : m ≤ v + 1
  hi : m ≤ s - v
  all : ∀ o ∈ ts, m ≤ absI (v - o)
  at_ : m = v + 1 ∨ m = s - v ∨ ∃ o ∈ ts, m = absI (v - o)
theorem IsDist.eq {s : Int} {ts : List Int} {v m k : Int} (h : IsDist s ts v m) (g : IsDist s ts v k) : m = k := by
  have a : k ≤ m := by
    rcases h.at_ with e | e | ⟨o, ho, e⟩
    · rw [e]; exact g.lo
    · rw [e]; exact g.hi
    · rw [e]; exact g.all o ho
  have b : m ≤ k := by
    rcases g.at_ with e | e | ⟨o, ho, e⟩
    · rw [e]; exact h.lo
    · rw [e]; exact h.hi
    · rw [e]; exact h.all o ho
  omega
def dsel (s : Int) (ts : List Int) (x : D) (a b : Prop) (c : Int → Prop) : Prop := match x with
  | .int v => if 0 ≤ v ∧ v < s then (if v ∈ ts then b else ∀ m, IsDist s ts v m → c m) else a
  | _ => a
def sp_distance_at (K : PySem.W.Frag) : DSp := fun ds μ Q Z => ∃ (s : Int) (ts : List Int) (x : D), ds = [rowD s ts, x] ∧ RowOk s ts ∧ ts.length ≤ 60 ∧ okR 3 x = true ∧
  dsel s ts x (Z ⟨cAt K "NoSeat", [("value", x)]⟩ μ) (Z ⟨cAt K "Taken", [("seat", x)]⟩ μ) (fun m => Q (.int m) μ)
def greedy : List Int → Int → List Int
  | [], _ => []
  | r :: rs, c => min r c :: greedy rs (c - min r c)
def certD (s : Int) (ts : List Int) (c d : Int) : D := .tup [.int d, .tup ((greedy (capsF s ts d) c).map .int)]
def allIn : List D → List Int → Bool
  | [], [] => true
  | x :: xs, r :: rs => intIn x 0 r && allIn xs rs
  | _, _ => false
def intV : D → Int
  | .int i => i
  | _ => 0
def holdsF (s : Int) (ts : List Int) (c : Int) : D → Bool
  | .tup [.int d, .tup xs] => (decide (1 ≤ d) && decide (d ≤ s)) && (allIn xs (capsF s ts d) && (decide ((xs.map intV).sum = c) && decide (roomF s ts (d + 1) < c)))
  | _ => false
def plainD : D → Bool
  | .ins _ _ => false
  | .obj _ => false
  | .scr _ _ => false
  | .xcp _ _ _ _ => false
  | .ty _ => false
  | _ => true
structure Vx (x : D) : Prop where
  pl : plainD x = true
  len : ∀ xs, x = .tup xs → xs.length ≤ 1000
  fst : ∀ a b, x = .tup [a, b] → okR 3 a = true ∧ plainD b = true
  snd : ∀ a ys, x = .tup [a, .tup ys] → ys.length ≤ 1000 ∧ ∀ y ∈ ys, okR 3 y = true
def sp_best_certificate (K : PySem.W.Frag) : DSp := fun ds μ Q Z => ∃ (s : Int) (ts : List Int) (x : D), ds = [rowD s ts, x] ∧ RowOk s ts ∧ s ≤ 10 ^ 13 ∧ ts.length ≤ 60 ∧ okR 3 x = true ∧
  bsel s ts x (Z ⟨cAt K "NoCount", [("value", x)]⟩ μ) (fun c => ∀ d, IsBest s ts c d → Q (certD s ts c d) μ)
theorem cert {K : PySem.W.Frag} {s : Int} {ts : List Int} {x : D} {μ : Mu} {Q : DQ} {Z : DXQ} (R : RowOk s ts) (hs : s ≤ 10 ^ 13) (h : ts.length ≤ 60) (ho : okR 3 x = true) (q : bsel s ts x (Z ⟨cAt K "NoCount", [("value", x)]⟩ μ) (fun c => ∀ d, IsBest s ts c d → Q (certD s ts c d) μ)) :
    sp_best_certificate K [.tup [.int s, .tup (ts.map .int)], x] μ Q Z := ⟨s, ts, x, rfl, R, hs, h, ho, q⟩
def sp_best_holds (K : PySem.W.Frag) : DSp := fun ds μ Q Z => ∃ (s : Int) (ts : List Int) (y x : D), ds = [rowD s ts, y, x] ∧ RowOk s ts ∧ s ≤ 10 ^ 13 ∧ ts.length ≤ 60 ∧ okR 3 y = true ∧ Vx x ∧
  bsel s ts y (Z ⟨cAt K "NoCount", [("value", y)]⟩ μ) (fun c => Q (.bl (holdsF s ts c x)) μ)
theorem holds {K : PySem.W.Frag} {s : Int} {ts : List Int} {y x : D} {μ : Mu} {Q : DQ} {Z : DXQ} (R : RowOk s ts) (hs : s ≤ 10 ^ 13) (h : ts.length ≤ 60) (ho : okR 3 y = true) (hx : Vx x) (q : bsel s ts y (Z ⟨cAt K "NoCount", [("value", y)]⟩ μ) (fun c => Q (.bl (holdsF s ts c x)) μ)) :
    sp_best_holds K [.tup [.int s, .tup (ts.map .int)], y, x] μ Q Z := ⟨s, ts, y, x, rfl, R, hs, h, ho, hx, q⟩
def sp_l_free : DSp := sp_free_seatsD
theorem c_l_free_ {s : Int} {ts : List Int} {μ Q Z} : sp_l_free [.tup [.int s, .tup (ts.map .int)]] μ Q Z = Q (.int (s - ts.length)) μ := c_free_seatsD_
def sp_spread (K : PySem.W.Frag) : DSp := fun ds μ Q _ => ∃ (s : Int) (ts : List Int) (c : Nat), ds = [rowD s ts, .int c] ∧ RowOk s ts ∧ s ≤ 10 ^ 12 ∧ ts.length ≤ 60 ∧ 1 ≤ c ∧ (c : Int) ≤ s - ts.length ∧ c ≤ 2000 ∧ ∀ d, IsBest s ts c d → Q (.tup ((spreadF (gapsF 0 (ts ++ [s])) d c).map .int)) μ
def sp_l_bounds_right (K : PySem.W.Frag) : DSp := fun ds μ Q _ => ∃ (s : Int) (ts : List Int) (c : Nat), ds = [rowD s ts, .int c] ∧ RowOk s ts ∧ 1000 ≤ s ∧ s ≤ 10 ^ 12 ∧ ts.length ≤ 40 ∧ 1 ≤ c ∧ (c : Int) ≤ s - ts.length ∧ Q (.bl true) μ
def sp_l_spread_right (K : PySem.W.Frag) : DSp := fun ds μ Q _ => ∃ (s : Int) (ts : List Int) (c : Nat), ds = [rowD s ts, .int c] ∧ RowOk s ts ∧ 1000 ≤ s ∧ s ≤ 10 ^ 12 ∧ ts.length ≤ 40 ∧ 1 ≤ c ∧ c ≤ 40 ∧ Q (.bl true) μ
def sp_law (K : PySem.W.Frag) : DSp := fun ds _ Q _ => ∃ ns, ds = [.scr K ns] ∧ ns.length ≤ 1000 ∧ ∀ μ', Q (.bl true) μ'
abbrev s_is_integer : Stmt := top 9
abbrev N_is_integer : List Str := ["value", "low", "high"]
theorem sc_is_integer : FnScope N_is_integer ["value", "low", "high"] (defScope s_is_integer) := ⟨rfl, rfl, rfl, by decide +kernel, rfl, by decide +kernel, by decide +kernel⟩
def t_is_integer : DS := (dRet (dAndV (dCB dIsi (dCons (dBor 0) (dCons (dC (.ty "int")) dNil))) (dAndV (dNotV (dCB dIsi (dCons (dBor 0) (dCons (dC (.ty "bool")) dNil)))) (dChain dLe dLe (dBor 1) (dBor 0) (dBor 2)))))
theorem b_is_integer {P : Program} {w : World} {K : PySem.W.Frag} {mg : Str → Option Value} {base : Heap} {f : Addr} {cdv : Value} {A : Around} {outer : List Env} {s : Shared} {H : Hp} {E : XK} (m_bool : mg "bool" = none) (m_int : mg "int" = none) (m_isinstance : mg "isinstance" = none) 
    (hr : Room 0 (A.deeper (envOfC "is_integer" (defScope s_is_integer) s.heap.objs.size f cdv))) (hG : A.guards = some []) :
    PSsD (bodyX P w K mg base N_is_integer "is_integer" s_is_integer f cdv A outer s H E) (fun cls d _ H => E cls d H) (defBody s_is_integer) t_is_integer :=
  have tk := takes_of (X := bodyX P w K mg base N_is_integer "is_integer" s_is_integer f cdv A outer s H E) (E := E) rfl rfl rfl rfl
  (ss_one (s_ret (d_and (d_isi m_isinstance (b_cons (d_bor 0) (b_cons (PD.b (d_bty m_int (by decide +kernel))) b_nil))) (d_and (d_not (d_isi m_isinstance (b_cons (d_bor 0) (b_cons (PD.b (d_bty m_bool (by decide +kernel))) b_nil)))) (d_one (d_chain op_le op_le (sim_I0 fun _ _ _ => fz_bl) (sim_I0 fun _ _ _ => fz_bl) (d_bor 1) (d_bor 0) (d_bor 2)))))))

abbrev s_gaps : Stmt := top 10
abbrev N_gaps : List Str := ["row", "seat", "seats", "taken", "found", "begin"]
theorem sc_gaps : FnScope N_gaps ["row"] (defScope s_gaps) := ⟨rfl, rfl, rfl, by decide +kernel, rfl, by decide +kernel, by decide +kernel⟩
def t_gaps_a6 : DS := (dAsg (dOp dAdd (dBor 1) (dC (.int 1))) (dgName 5))
def t_gaps_1 : DS := (dSeq (dIfS (dTest (dOp dGt (dBor 1) (dBor 5)))
  (dApp 4 (dTup (dCons (dVar 5) (dCons (dOp dSub (dBor 1) (dBor 5)) dNil))))
  dNext)
  t_gaps_a6)
def t_gaps_a7 : DS := (dRet (dCB dTupOf (dCons (dBor 4) dNil)))
def t_gaps_a3 : DS := (dSeq (dFor (diT (dTup (dStar (dBor 3) (dCons (dVar 2) dNil)))) (dgName 1) t_gaps_1)
  t_gaps_a7)
def t_gaps : DS := (dSeq (dAsg (dVar 0) (dgTup 2 (dgCons (dgName 2) (dgCons (dgName 3) dgNil))))
  (dSeq (dParS 4 5 (slO (doLst dNil) (slD (dC (.int 0)) slNil)))
  t_gaps_a3))
theorem b_gaps {P : Program} {w : World} {K : PySem.W.Frag} {mg : Str → Option Value} {base : Heap} {f : Addr} {cdv : Value} {A : Around} {outer : List Env} {s : Shared} {H : Hp} {E : XK} (m_tuple : mg "tuple" = none) 
    (hr : Room 0 (A.deeper (envOfC "gaps" (defScope s_gaps) s.heap.objs.size f cdv))) (hG : A.guards = some []) :
    PSsD (bodyX P w K mg base N_gaps "gaps" s_gaps f cdv A outer s H E) (fun cls d _ H => E cls d H) (defBody s_gaps) t_gaps :=
  have tk := takes_of (X := bodyX P w K mg base N_gaps "gaps" s_gaps f cdv A outer s H E) (E := E) rfl rfl rfl rfl
  (ss_cons (s_asg (d_var 0) (g_tup (n := 2) rfl (g_cons (g_name (i := 2) sc_gaps.nd rfl (by first | exact Or.inl rfl | exact Or.inr rfl)) (g_cons (g_name (i := 3) sc_gaps.nd rfl (by first | exact Or.inl rfl | exact Or.inr rfl)) g_nil))))
  (ss_cons (s_parS (i := 4) (j := 5) rfl sc_gaps.nd rfl rfl (by decide) rfl rfl (sl_o (o_lst a_nil) (sl_d d_int sl_nil)) rfl)
  (ss_cons (s_for (passes_of rfl) rfl (i_tup (d_tup (a_star (d_bor 3) (a_cons (d_var 2) a_nil)))) (g_name (i := 1) sc_gaps.nd rfl (by first | exact Or.inl rfl | exact Or.inr rfl))
  (ss_cons (s_if (t_gt (d_bor 1) (d_bor 5))
  (ss_one (s_app 4 (d_tup (a_cons (d_var 5) (a_cons (d_sub (d_bor 1) (d_bor 5)) a_nil)))))
  ss_nil)
  (ss_one (s_set (i := 5) sc_gaps.nd rfl (by first | exact Or.inl rfl | exact Or.inr rfl) (d_add (d_bor 1) (PD.b d_int))))))
  (ss_one (s_ret (d_tuple m_tuple (b_cons (d_bor 4) b_nil)))))))

abbrev s_is_number : Stmt := top 12
abbrev N_is_number : List Str := ["value", "low", "high"]
theorem sc_is_number : FnScope N_is_number ["value", "low", "high"] (defScope s_is_number) := ⟨rfl, rfl, rfl, by decide +kernel, rfl, by decide +kernel, by decide +kernel⟩
def t_is_number : DS := (dRet (dAndV (dCB dIsi (dCons (dBor 0) (dCons (dC (.ty "int")) dNil))) (dAndV (dNotV (dCB dIsi (dCons (dBor 0) (dCons (dC (.ty "bool")) dNil)))) (dChain dLe dLe (dBor 1) (dBor 0) (dBor 2)))))
theorem b_is_number {P : Program} {w : World} {K : PySem.W.Frag} {mg : Str → Option Value} {base : Heap} {f : Addr} {cdv : Value} {A : Around} {outer : List Env} {s : Shared} {H : Hp} {E : XK} (m_bool : mg "bool" = none) (m_int : mg "int" = none) (m_isinstance : mg "isinstance" = none) 
    (hr : Room 0 (A.deeper (envOfC "is_number" (defScope s_is_number) s.heap.objs.size f cdv))) (hG : A.guards = some []) :
    PSsD (bodyX P w K mg base N_is_number "is_number" s_is_number f cdv A outer s H E) (fun cls d _ H => E cls d H) (defBody s_is_number) t_is_number :=
  have tk := takes_of (X := bodyX P w K mg base N_is_number "is_number" s_is_number f cdv A outer s H E) (E := E) rfl rfl rfl rfl
  (ss_one (s_ret (d_and (d_isi m_isinstance (b_cons (d_bor 0) (b_cons (PD.b (d_bty m_int (by decide +kernel))) b_nil))) (d_and (d_not (d_isi m_isinstance (b_cons (d_bor 0) (b_cons (PD.b (d_bty m_bool (by decide +kernel))) b_nil)))) (d_one (d_chain op_le op_le (sim_I0 fun _ _ _ => fz_bl) (sim_I0 fun _ _ _ => fz_bl) (d_bor 1) (d_bor 0) (d_bor 2)))))))

abbrev s_free_seats : Stmt := top 13
abbrev N_free_seats : List Str := ["row"]
theorem sc_free_seats : FnScope N_free_seats ["row"] (defScope s_free_seats) := ⟨rfl, rfl, rfl, by decide +kernel, rfl, by decide +kernel, by decide +kernel⟩
def t_free_seats : DS := (dRet (dOp dSub (dOp dIx (dBor 0) (dC (.int 0))) (dCB dLen (dCons (dOp dIx (dBor 0) (dC (.int 1))) dNil))))
theorem b_free_seats {P : Program} {w : World} {K : PySem.W.Frag} {mg : Str → Option Value} {base : Heap} {f : Addr} {cdv : Value} {A : Around} {outer : List Env} {s : Shared} {H : Hp} {E : XK} (m_len : mg "len" = none) 
    (hr : Room 0 (A.deeper (envOfC "free_seats" (defScope s_free_seats) s.heap.objs.size f cdv))) (hG : A.guards = some []) :
    PSsD (bodyX P w K mg base N_free_seats "free_seats" s_free_seats f cdv A outer s H E) (fun cls d _ H => E cls d H) (defBody s_free_seats) t_free_seats :=
  have tk := takes_of (X := bodyX P w K mg base N_free_seats "free_seats" s_free_seats f cdv A outer s H E) (E := E) rfl rfl rfl rfl
  (ss_one (s_ret (d_sub (PD.b (d_ix (d_bor 0) (PD.b d_int))) (PD.b (d_len m_len (b_cons (PD.b (d_ix (d_bor 0) (PD.b d_int))) b_nil))))))

abbrev s_require_free : Stmt := top 15
abbrev N_require_free : List Str := ["row", "seat"]
theorem sc_require_free : FnScope N_require_free ["row", "seat"] (defScope s_require_free) := ⟨rfl, rfl, rfl, by decide +kernel, rfl, by decide +kernel, by decide +kernel⟩
def t_require_free_a3 : DS := (dIfS (dTest (dOp (dIn false) (dBor 1) (dOp dIx (dBor 0) (dC (.int 1)))))
  dNever
  dNext)
def t_require_free : DS := (dSeq (dIfS (dNotT (dTest (dCall sp_is_number (dCons (dVar 1) (dCons (dC (.int 0)) (dCons (dOp dSub (dOp dIx (dBor 0) (dC (.int 0))) (dC (.int 1))) dNil))))))
  dNever
  dNext)
  t_require_free_a3)
theorem b_require_free {P : Program} {w : World} {K : PySem.W.Frag} {mg : Str → Option Value} {base : Heap} {f : Addr} {cdv : Value} {A : Around} {outer : List Env} {s : Shared} {H : Hp} {E : XK}  (c_is_number : CalG P w K mg base 1 "is_number" sp_is_number)
    (hr : Room 1 (A.deeper (envOfC "require_free" (defScope s_require_free) s.heap.objs.size f cdv))) (hG : A.guards = some []) :
    PSsD (bodyX P w K mg base N_require_free "require_free" s_require_free f cdv A outer s H E) (fun cls d _ H => E cls d H) (defBody s_require_free) t_require_free :=
  have tk := takes_of (X := bodyX P w K mg base N_require_free "require_free" s_require_free f cdv A outer s H E) (E := E) rfl rfl rfl rfl
  (ss_cons (s_if (t_not (t_val (d_call c_is_number hr (by decide) hG tk (a_cons (d_var 1) (a_cons d_int (a_cons (d_sub (PD.b (d_ix (d_bor 0) (PD.b d_int))) (PD.b d_int)) a_nil))))))
  (ss_one s_never)
  ss_nil)
  (ss_one (s_if (t_in (d_bor 1) (PD.b (d_ix (d_bor 0) (PD.b d_int))))
  (ss_one s_never)
  ss_nil)))

abbrev s_middle : Stmt := top 16
abbrev N_middle : List Str := ["gap", "begin", "width"]
theorem sc_middle : FnScope N_middle ["gap"] (defScope s_middle) := ⟨rfl, rfl, rfl, by decide +kernel, rfl, by decide +kernel, by decide +kernel⟩
def t_middle : DS := (dSeq (dAsg (dVar 0) (dgTup 2 (dgCons (dgName 1) (dgCons (dgName 2) dgNil))))
  (dRet (dOp dAdd (dBor 1) (dOp dDiv (dOp dSub (dBor 2) (dC (.int 1))) (dC (.int 2))))))
theorem b_middle {P : Program} {w : World} {K : PySem.W.Frag} {mg : Str → Option Value} {base : Heap} {f : Addr} {cdv : Value} {A : Around} {outer : List Env} {s : Shared} {H : Hp} {E : XK}  
    (hr : Room 0 (A.deeper (envOfC "middle" (defScope s_middle) s.heap.objs.size f cdv))) (hG : A.guards = some []) :
    PSsD (bodyX P w K mg base N_middle "middle" s_middle f cdv A outer s H E) (fun cls d _ H => E cls d H) (defBody s_middle) t_middle :=
  have tk := takes_of (X := bodyX P w K mg base N_middle "middle" s_middle f cdv A outer s H E) (E := E) rfl rfl rfl rfl
  (ss_cons (s_asg (d_var 0) (g_tup (n := 2) rfl (g_cons (g_name (i := 1) sc_middle.nd rfl (by first | exact Or.inl rfl | exact Or.inr rfl)) (g_cons (g_name (i := 2) sc_middle.nd rfl (by first | exact Or.inl rfl | exact Or.inr rfl)) g_nil))))
  (ss_one (s_ret (d_add (d_bor 1) (PD.b (d_div (PD.b (d_sub (d_bor 2) (PD.b d_int))) (PD.b d_int)))))))

abbrev s_left_part : Stmt := top 17
abbrev N_left_part : List Str := ["gap", "begin", "width"]
theorem sc_left_part : FnScope N_left_part ["gap"] (defScope s_left_part) := ⟨rfl, rfl, rfl, by decide +kernel, rfl, by decide +kernel, by decide +kernel⟩
def t_left_part : DS := (dSeq (dAsg (dVar 0) (dgTup 2 (dgCons (dgName 1) (dgCons (dgName 2) dgNil))))
  (dRet (dTup (dCons (dVar 1) (dCons (dOp dDiv (dOp dSub (dBor 2) (dC (.int 1))) (dC (.int 2))) dNil)))))
theorem b_left_part {P : Program} {w : World} {K : PySem.W.Frag} {mg : Str → Option Value} {base : Heap} {f : Addr} {cdv : Value} {A : Around} {outer : List Env} {s : Shared} {H : Hp} {E : XK}  
    (hr : Room 0 (A.deeper (envOfC "left_part" (defScope s_left_part) s.heap.objs.size f cdv))) (hG : A.guards = some []) :
    PSsD (bodyX P w K mg base N_left_part "left_part" s_left_part f cdv A outer s H E) (fun cls d _ H => E cls d H) (defBody s_left_part) t_left_part :=
  have tk := takes_of (X := bodyX P w K mg base N_left_part "left_part" s_left_part f cdv A outer s H E) (E := E) rfl rfl rfl rfl
  (ss_cons (s_asg (d_var 0) (g_tup (n := 2) rfl (g_cons (g_name (i := 1) sc_left_part.nd rfl (by first | exact Or.inl rfl | exact Or.inr rfl)) (g_cons (g_name (i := 2) sc_left_part.nd rfl (by first | exact Or.inl rfl | exact Or.inr rfl)) g_nil))))
  (ss_one (s_ret (d_tup (a_cons (d_var 1) (a_cons (d_div (PD.b (d_sub (d_bor 2) (PD.b d_int))) (PD.b d_int)) a_nil))))))

abbrev s_right_part : Stmt := top 18
abbrev N_right_part : List Str := ["gap", "begin", "width"]
theorem sc_right_part : FnScope N_right_part ["gap"] (defScope s_right_part) := ⟨rfl, rfl, rfl, by decide +kernel, rfl, by decide +kernel, by decide +kernel⟩
def t_right_part : DS := (dSeq (dAsg (dVar 0) (dgTup 2 (dgCons (dgName 1) (dgCons (dgName 2) dgNil))))
  (dRet (dTup (dCons (dOp dAdd (dOp dAdd (dBor 1) (dOp dDiv (dOp dSub (dBor 2) (dC (.int 1))) (dC (.int 2)))) (dC (.int 1))) (dCons (dOp dDiv (dBor 2) (dC (.int 2))) dNil)))))
theorem b_right_part {P : Program} {w : World} {K : PySem.W.Frag} {mg : Str → Option Value} {base : Heap} {f : Addr} {cdv : Value} {A : Around} {outer : List Env} {s : Shared} {H : Hp} {E : XK}  
    (hr : Room 0 (A.deeper (envOfC "right_part" (defScope s_right_part) s.heap.objs.size f cdv))) (hG : A.guards = some []) :
    PSsD (bodyX P w K mg base N_right_part "right_part" s_right_part f cdv A outer s H E) (fun cls d _ H => E cls d H) (defBody s_right_part) t_right_part :=
  have tk := takes_of (X := bodyX P w K mg base N_right_part "right_part" s_right_part f cdv A outer s H E) (E := E) rfl rfl rfl rfl
  (ss_cons (s_asg (d_var 0) (g_tup (n := 2) rfl (g_cons (g_name (i := 1) sc_right_part.nd rfl (by first | exact Or.inl rfl | exact Or.inr rfl)) (g_cons (g_name (i := 2) sc_right_part.nd rfl (by first | exact Or.inl rfl | exact Or.inr rfl)) g_nil))))
  (ss_one (s_ret (d_tup (a_cons (d_add (PD.b (d_add (d_bor 1) (PD.b (d_div (PD.b (d_sub (d_bor 2) (PD.b d_int))) (PD.b d_int))))) (PD.b d_int)) (a_cons (d_div (d_bor 2) (PD.b d_int)) a_nil))))))

abbrev s_number_within : Stmt := top 19
abbrev N_number_within : List Str := ["width", "wanted", "found", "parts", "whole", "rest"]
theorem sc_number_within : FnScope N_number_within ["width", "wanted"] (defScope s_number_within) := ⟨rfl, rfl, rfl, by decide +kernel, rfl, by decide +kernel, by decide +kernel⟩
def t_number_within_a8 : DS := (dAsg (dOp dMul (dC (.int 2)) (dBor 3)) (dgName 3))
def t_number_within_a6 : DS := (dSeq (dIfS (dTest (dOp dEq (dBor 4) (dBor 1)))
  (dAug (fun x y => x + y) 2 (dVar 5))
  dNext)
  t_number_within_a8)
def t_number_within_a4 : DS := (dSeq (dIfS (dTest (dOp dEq (dBor 4) (dOp dAdd (dBor 1) (dC (.int 1)))))
  (dAug (fun x y => x + y) 2 (dOp dSub (dBor 3) (dBor 5)))
  dNext)
  t_number_within_a6)
def t_number_within_1 : DS := (dSeq (dParS 4 5 (slD (dOp dDiv (dOp dAdd (dBor 0) (dC (.int 1))) (dBor 3)) (slD (dOp dMod (dOp dAdd (dBor 0) (dC (.int 1))) (dBor 3)) slNil)))
  t_number_within_a4)
def t_number_within_1c : DT := (dTest (dOp dLe (dBor 3) (dOp dAdd (dBor 0) (dC (.int 1)))))
def t_number_within_a9 : DS := (dRet (dIf (dTest (dOp dGt (dBor 1) (dC (.int 0)))) (dVar 2) (dC (.int 0))))
def t_number_within_a2 : DS := (dSeq (dWhile t_number_within_1c t_number_within_1)
  t_number_within_a9)
def t_number_within : DS := (dSeq (dAsg (dTup (dCons (dC (.int 0)) (dCons (dC (.int 1)) dNil))) (dgTup 2 (dgCons (dgName 2) (dgCons (dgName 3) dgNil))))
  t_number_within_a2)
theorem b_number_within {P : Program} {w : World} {K : PySem.W.Frag} {mg : Str → Option Value} {base : Heap} {f : Addr} {cdv : Value} {A : Around} {outer : List Env} {s : Shared} {H : Hp} {E : XK}  
    (hr : Room 0 (A.deeper (envOfC "number_within" (defScope s_number_within) s.heap.objs.size f cdv))) (hG : A.guards = some []) :
    PSsD (bodyX P w K mg base N_number_within "number_within" s_number_within f cdv A outer s H E) (fun cls d _ H => E cls d H) (defBody s_number_within) t_number_within :=
  have tk := takes_of (X := bodyX P w K mg base N_number_within "number_within" s_number_within f cdv A outer s H E) (E := E) rfl rfl rfl rfl
  (ss_cons (s_asg (d_tup (a_cons d_int (a_cons d_int a_nil))) (g_tup (n := 2) rfl (g_cons (g_name (i := 2) sc_number_within.nd rfl (by first | exact Or.inl rfl | exact Or.inr rfl)) (g_cons (g_name (i := 3) sc_number_within.nd rfl (by first | exact Or.inl rfl | exact Or.inr rfl)) g_nil))))
  (ss_cons (s_while (passes_of rfl) (t_le (d_bor 3) (PD.b (d_add (d_bor 0) (PD.b d_int))))
  (ss_cons (s_parS (i := 4) (j := 5) rfl sc_number_within.nd rfl rfl (by decide) rfl rfl (sl_d (d_div (PD.b (d_add (d_bor 0) (PD.b d_int))) (d_bor 3)) (sl_d (d_mod (PD.b (d_add (d_bor 0) (PD.b d_int))) (d_bor 3)) sl_nil)) rfl)
  (ss_cons (s_if (t_eq hr.units (d_bor 4) (PD.b (d_add (d_bor 1) (PD.b d_int))))
  (ss_one (s_aug (i := 2) sc_number_within.nd rfl (by first | exact Or.inl rfl | exact Or.inr rfl) (d_sub (d_bor 3) (d_bor 5)) ip_add))
  ss_nil)
  (ss_cons (s_if (t_eq hr.units (d_bor 4) (d_bor 1))
  (ss_one (s_aug (i := 2) sc_number_within.nd rfl (by first | exact Or.inl rfl | exact Or.inr rfl) (d_var 5) ip_add))
  ss_nil)
  (ss_one (s_set (i := 3) sc_number_within.nd rfl (by first | exact Or.inl rfl | exact Or.inr rfl) (d_mul (PD.b d_int) (d_bor 3))))))))
  (ss_one (s_ret (d_if (t_gt (d_bor 1) (PD.b d_int)) (d_var 2) d_int)))))

abbrev s_widths_within : Stmt := top 20
abbrev N_widths_within : List Str := ["width", "found", "parts", "whole", "rest", "own", "many"]
theorem sc_widths_within : FnScope N_widths_within ["width"] (defScope s_widths_within) := ⟨rfl, rfl, rfl, by decide +kernel, rfl, by decide +kernel, by decide +kernel⟩
def t_widths_within_y5 : DS := (dMPut 1 (dVar 5) (dOp dAdd (dGet2 (dBor 1) (dVar 5) (dC (.int 0))) (dBor 6)))
def t_widths_within_1 : DS := (dIfS (dAndT (dTest (dOp dGt (dBor 5) (dC (.int 0)))) (dTest (dOp dGt (dBor 6) (dC (.int 0)))))
  t_widths_within_y5
  dNext)
def t_widths_within_a7 : DS := (dAsg (dOp dMul (dC (.int 2)) (dBor 2)) (dgName 2))
def t_widths_within_a4 : DS := (dSeq (dFor (diT (dTup (dCons (dTup (dCons (dOp dSub (dBor 3) (dC (.int 1))) (dCons (dOp dSub (dBor 2) (dBor 4)) dNil))) (dCons (dTup (dCons (dVar 3) (dCons (dVar 4) dNil))) dNil)))) (dgTup 2 (dgCons (dgName 5) (dgCons (dgName 6) dgNil))) t_widths_within_1)
  t_widths_within_a7)
def t_widths_within_2 : DS := (dSeq (dParS 3 4 (slD (dOp dDiv (dOp dAdd (dBor 0) (dC (.int 1))) (dBor 2)) (slD (dOp dMod (dOp dAdd (dBor 0) (dC (.int 1))) (dBor 2)) slNil)))
  t_widths_within_a4)
def t_widths_within_2c : DT := (dTest (dOp dLe (dBor 2) (dOp dAdd (dBor 0) (dC (.int 1)))))
def t_widths_within_a8 : DS := (dFreeze 1 (dRet (dVar 1)))
def t_widths_within_a2 : DS := (dSeq (dWhile t_widths_within_2c t_widths_within_2)
  t_widths_within_a8)
def t_widths_within : DS := (dSeq (dParS 1 2 (slM doEmp (slD (dC (.int 1)) slNil)))
  t_widths_within_a2)
theorem b_widths_within {P : Program} {w : World} {K : PySem.W.Frag} {mg : Str → Option Value} {base : Heap} {f : Addr} {cdv : Value} {A : Around} {outer : List Env} {s : Shared} {H : Hp} {E : XK}  
    (hr : Room 0 (A.deeper (envOfC "widths_within" (defScope s_widths_within) s.heap.objs.size f cdv))) (hG : A.guards = some []) :
    PSsD (bodyX P w K mg base N_widths_within "widths_within" s_widths_within f cdv A outer s H E) (fun cls d _ H => E cls d H) (defBody s_widths_within) t_widths_within :=
  have tk := takes_of (X := bodyX P w K mg base N_widths_within "widths_within" s_widths_within f cdv A outer s H E) (E := E) rfl rfl rfl rfl
  (ss_cons (s_parS (i := 1) (j := 2) rfl sc_widths_within.nd rfl rfl (by decide) rfl rfl (sl_m od_emp (sl_d d_int sl_nil)) rfl)
  (ss_cons (s_while (passes_of rfl) (t_le (d_bor 2) (PD.b (d_add (d_bor 0) (PD.b d_int))))
  (ss_cons (s_parS (i := 3) (j := 4) rfl sc_widths_within.nd rfl rfl (by decide) rfl rfl (sl_d (d_div (PD.b (d_add (d_bor 0) (PD.b d_int))) (d_bor 2)) (sl_d (d_mod (PD.b (d_add (d_bor 0) (PD.b d_int))) (d_bor 2)) sl_nil)) rfl)
  (ss_cons (s_for (passes_of rfl) rfl (i_tup (d_tup (a_cons (d_tup (a_cons (d_sub (d_bor 3) (PD.b d_int)) (a_cons (d_sub (d_bor 2) (d_bor 4)) a_nil))) (a_cons (d_tup (a_cons (d_var 3) (a_cons (d_var 4) a_nil))) a_nil)))) (g_tup (n := 2) rfl (g_cons (g_name (i := 5) sc_widths_within.nd rfl (by first | exact Or.inl rfl | exact Or.inr rfl)) (g_cons (g_name (i := 6) sc_widths_within.nd rfl (by first | exact Or.inl rfl | exact Or.inr rfl)) g_nil)))
  (ss_one (s_if (PWD.t (w_and (t_gt (d_bor 5) (PD.b d_int)) (w_and1 (t_gt (d_bor 6) (PD.b d_int)))))
  (ss_one (s_mput 1 (hu_of hr) (d_add (PD.b (d_get2 (hu_of hr) (d_bor 1) (d_var 5) d_int)) (d_bor 6)) (d_var 5)))
  ss_nil)))
  (ss_one (s_set (i := 2) sc_widths_within.nd rfl (by first | exact Or.inl rfl | exact Or.inr rfl) (d_mul (PD.b d_int) (d_bor 2)))))))
  (ss_one (s_freeze 1 (s_ret (d_var 1))))))

abbrev s_all_widths : Stmt := top 21
abbrev N_all_widths : List Str := ["row", "found", "begin", "width", "own", "many"]
theorem sc_all_widths : FnScope N_all_widths ["row"] (defScope s_all_widths) := ⟨rfl, rfl, rfl, by decide +kernel, rfl, by decide +kernel, by decide +kernel⟩
def t_all_widths_1 : DS := (dMPut 1 (dVar 4) (dOp dAdd (dGet2 (dBor 1) (dVar 4) (dC (.int 0))) (dBor 5)))
def t_all_widths_2 : DS := (dFor (diItems (dCall sp_widths_within (dCons (dVar 3) dNil))) (dgTup 2 (dgCons (dgName 4) (dgCons (dgName 5) dgNil))) t_all_widths_1)
def t_all_widths_a5 : DS := (dFreeze 1 (dRet (dVar 1)))
def t_all_widths_a2 : DS := (dSeq (dFor (diT (dCall sp_gaps (dCons (dVar 0) dNil))) (dgTup 2 (dgCons (dgName 2) (dgCons (dgName 3) dgNil))) t_all_widths_2)
  t_all_widths_a5)
def t_all_widths : DS := (dSeq (dSetM 1 doEmp)
  t_all_widths_a2)
theorem b_all_widths {P : Program} {w : World} {K : PySem.W.Frag} {mg : Str → Option Value} {base : Heap} {f : Addr} {cdv : Value} {A : Around} {outer : List Env} {s : Shared} {H : Hp} {E : XK}  (c_gaps : CalG P w K mg base 1 "gaps" sp_gaps) (c_widths_within : CalG P w K mg base 1 "widths_within" sp_widths_within)
    (hr : Room 1 (A.deeper (envOfC "all_widths" (defScope s_all_widths) s.heap.objs.size f cdv))) (hG : A.guards = some []) :
    PSsD (bodyX P w K mg base N_all_widths "all_widths" s_all_widths f cdv A outer s H E) (fun cls d _ H => E cls d H) (defBody s_all_widths) t_all_widths :=
  have tk := takes_of (X := bodyX P w K mg base N_all_widths "all_widths" s_all_widths f cdv A outer s H E) (E := E) rfl rfl rfl rfl
  (ss_cons (s_setM (i := 1) sc_all_widths.nd rfl (by first | exact Or.inl rfl | exact Or.inr rfl) od_emp)
  (ss_cons (s_for (passes_of rfl) rfl (i_tup (d_call c_gaps hr (by decide) hG tk (a_cons (d_var 0) a_nil))) (g_tup (n := 2) rfl (g_cons (g_name (i := 2) sc_all_widths.nd rfl (by first | exact Or.inl rfl | exact Or.inr rfl)) (g_cons (g_name (i := 3) sc_all_widths.nd rfl (by first | exact Or.inl rfl | exact Or.inr rfl)) g_nil)))
  (ss_one (s_for (passes_of rfl) rfl (i_items (d_call c_widths_within hr (by decide) hG tk (a_cons (d_var 3) a_nil))) (g_tup (n := 2) rfl (g_cons (g_name (i := 4) sc_all_widths.nd rfl (by first | exact Or.inl rfl | exact Or.inr rfl)) (g_cons (g_name (i := 5) sc_all_widths.nd rfl (by first | exact Or.inl rfl | exact Or.inr rfl)) g_nil)))
  (ss_one (s_mput 1 (hu_of hr) (d_add (PD.b (d_get2 (hu_of hr) (d_bor 1) (d_var 4) d_int)) (d_bor 5)) (d_var 4))))))
  (ss_one (s_freeze 1 (s_ret (d_var 1))))))

abbrev s_later_widths : Stmt := top 22
abbrev N_later_widths : List Str := ["row"]
theorem sc_later_widths : FnScope N_later_widths ["row"] (defScope s_later_widths) := ⟨rfl, rfl, rfl, by decide +kernel, rfl, by decide +kernel, by decide +kernel⟩
def t_later_widths : DS := (dRet (dCB dTupOf (dCons (dSortItR (dCall sp_all_widths (dCons (dVar 0) dNil))) dNil)))
theorem b_later_widths {P : Program} {w : World} {K : PySem.W.Frag} {mg : Str → Option Value} {base : Heap} {f : Addr} {cdv : Value} {A : Around} {outer : List Env} {s : Shared} {H : Hp} {E : XK} (m_sorted : mg "sorted" = none) (m_tuple : mg "tuple" = none) (c_all_widths : CalG P w K mg base 2 "all_widths" sp_all_widths)
    (hr : Room 2 (A.deeper (envOfC "later_widths" (defScope s_later_widths) s.heap.objs.size f cdv))) (hG : A.guards = some []) :
    PSsD (bodyX P w K mg base N_later_widths "later_widths" s_later_widths f cdv A outer s H E) (fun cls d _ H => E cls d H) (defBody s_later_widths) t_later_widths :=
  have tk := takes_of (X := bodyX P w K mg base N_later_widths "later_widths" s_later_widths f cdv A outer s H E) (E := E) rfl rfl rfl rfl
  (ss_one (s_ret (d_tuple m_tuple (b_cons (PD.b (d_sortItR rfl m_sorted (d_call c_all_widths hr (by decide) hG tk (a_cons (d_var 0) a_nil)))) b_nil))))

abbrev s_path_to : Stmt := top 23
abbrev N_path_to : List Str := ["row", "seat", "found", "gap"]
theorem sc_path_to : FnScope N_path_to ["row", "seat"] (defScope s_path_to) := ⟨rfl, rfl, rfl, by decide +kernel, rfl, by decide +kernel, by decide +kernel⟩
def t_path_to_1 : DS := (dApp 2 (dIf (dTest (dOp dLt (dBor 1) (dCall sp_middle (dCons (dOp dIx (dBor 2) (dNeg (dC (.int 1)))) dNil)))) (dCall sp_left_part (dCons (dOp dIx (dBor 2) (dNeg (dC (.int 1)))) dNil)) (dCall sp_right_part (dCons (dOp dIx (dBor 2) (dNeg (dC (.int 1)))) dNil))))
def t_path_to_1c : DT := (dAndT (dTest (dOp dNe (dCall sp_middle (dCons (dOp dIx (dBor 2) (dNeg (dC (.int 1)))) dNil)) (dBor 1))) (dTest (dOp dGt (dOp dIx (dOp dIx (dBor 2) (dNeg (dC (.int 1)))) (dC (.int 1))) (dC (.int 1)))))
def t_path_to_a4 : DS := (dFreeze 2 (dRet (dVar 2)))
def t_path_to_a2 : DS := (dSeq (dWhile t_path_to_1c t_path_to_1)
  t_path_to_a4)
def t_path_to : DS := (dSeq (dSetO 2 (dLc (diT (dCall sp_gaps (dCons (dVar 0) dNil))) (dgName 3) (dTest (dChain dLe dLt (dOp dIx (dBor 3) (dC (.int 0))) (dBor 1) (dOp dAdd (dOp dIx (dBor 3) (dC (.int 0))) (dOp dIx (dBor 3) (dC (.int 1)))))) (dVar 3) [3]))
  t_path_to_a2)
theorem b_path_to {P : Program} {w : World} {K : PySem.W.Frag} {mg : Str → Option Value} {base : Heap} {f : Addr} {cdv : Value} {A : Around} {outer : List Env} {s : Shared} {H : Hp} {E : XK}  (c_gaps : CalG P w K mg base 1 "gaps" sp_gaps) (c_left_part : CalG P w K mg base 1 "left_part" sp_left_part) (c_middle : CalG P w K mg base 1 "middle" sp_middle) (c_right_part : CalG P w K mg base 1 "right_part" sp_right_part)
    (hr : Room 1 (A.deeper (envOfC "path_to" (defScope s_path_to) s.heap.objs.size f cdv))) (hG : A.guards = some []) :
    PSsD (bodyX P w K mg base N_path_to "path_to" s_path_to f cdv A outer s H E) (fun cls d _ H => E cls d H) (defBody s_path_to) t_path_to :=
  have tk := takes_of (X := bodyX P w K mg base N_path_to "path_to" s_path_to f cdv A outer s H E) (E := E) rfl rfl rfl rfl
  (ss_cons (s_setLcO (own := [("gap", 3)]) (i := 2) rfl sc_path_to.nd rfl rfl (sw_true rfl rfl rfl (by decide +kernel)) (i_tup (d_call c_gaps hr (by decide) hG tk (a_cons (d_var 0) a_nil))) (blkOk_by (own := [("gap", 3)]) (N := N_path_to) (sc := defScope s_path_to) (by decide +kernel)) (fun _ => (v_name (i := 3) (by decide) sc_path_to.nd rfl (by first | exact Or.inl rfl | exact Or.inr rfl))) (fun _ => (ts_one (t_chain op_le op_lt (sim_I0 fun _ _ _ => fz_bl) (sim_I0 fun _ _ _ => fz_bl) (PD.b (d_ix (d_bor 3) (PD.b d_int))) (d_bor 1) (PD.b (d_add (PD.b (d_ix (d_bor 3) (PD.b d_int))) (PD.b (d_ix (d_bor 3) (PD.b d_int)))))))) (fun _ => (d_var 3)))
  (ss_cons (s_while (passes_of rfl) (PWD.t (w_and (t_ne hr.units (PD.b (d_call c_middle hr (by decide) hG tk (a_cons (d_ix (d_bor 2) (PD.b (d_neg d_int))) a_nil))) (d_bor 1)) (w_and1 (t_gt (PD.b (d_ix (PD.b (d_ix (d_bor 2) (PD.b (d_neg d_int)))) (PD.b d_int))) (PD.b d_int)))))
  (ss_one (s_app 2 (d_if (t_lt (d_bor 1) (PD.b (d_call c_middle hr (by decide) hG tk (a_cons (d_ix (d_bor 2) (PD.b (d_neg d_int))) a_nil)))) (d_call c_left_part hr (by decide) hG tk (a_cons (d_ix (d_bor 2) (PD.b (d_neg d_int))) a_nil)) (d_call c_right_part hr (by decide) hG tk (a_cons (d_ix (d_bor 2) (PD.b (d_neg d_int))) a_nil))))))
  (ss_one (s_freeze 2 (s_ret (d_var 2))))))

abbrev s_gap_of : Stmt := top 24
abbrev N_gap_of : List Str := ["row", "seat"]
theorem sc_gap_of : FnScope N_gap_of ["row", "seat"] (defScope s_gap_of) := ⟨rfl, rfl, rfl, by decide +kernel, rfl, by decide +kernel, by decide +kernel⟩
def t_gap_of_a2 : DS := (dRet (dOp dIx (dCall sp_path_to (dCons (dVar 0) (dCons (dVar 1) dNil))) (dNeg (dC (.int 1)))))
def t_gap_of : DS := (dSeq (dDrop (dCall sp_require_free (dCons (dVar 0) (dCons (dVar 1) dNil))))
  t_gap_of_a2)
theorem b_gap_of {P : Program} {w : World} {K : PySem.W.Frag} {mg : Str → Option Value} {base : Heap} {f : Addr} {cdv : Value} {A : Around} {outer : List Env} {s : Shared} {H : Hp} {E : XK}  (c_path_to : CalG P w K mg base 2 "path_to" sp_path_to) (c_require_free : CalG P w K mg base 2 "require_free" sp_require_free)
    (hr : Room 2 (A.deeper (envOfC "gap_of" (defScope s_gap_of) s.heap.objs.size f cdv))) (hG : A.guards = some []) :
    PSsD (bodyX P w K mg base N_gap_of "gap_of" s_gap_of f cdv A outer s H E) (fun cls d _ H => E cls d H) (defBody s_gap_of) t_gap_of :=
  have tk := takes_of (X := bodyX P w K mg base N_gap_of "gap_of" s_gap_of f cdv A outer s H E) (E := E) rfl rfl rfl rfl
  (ss_cons (s_expr (d_call c_require_free hr (by decide) hG tk (a_cons (d_var 0) (a_cons (d_var 1) a_nil))))
  (ss_one (s_ret (d_ix (PD.b (d_call c_path_to hr (by decide) hG tk (a_cons (d_var 0) (a_cons (d_var 1) a_nil)))) (PD.b (d_neg d_int))))))

abbrev s_gap_with_rank : Stmt := top 25
abbrev N_gap_with_rank : List Str := ["row", "width", "rank", "here", "gap", "many"]
theorem sc_gap_with_rank : FnScope N_gap_with_rank ["row", "width", "rank"] (defScope s_gap_with_rank) := ⟨rfl, rfl, rfl, by decide +kernel, rfl, by decide +kernel, by decide +kernel⟩
def t_gap_with_rank_a6 : DS := (dAug (fun x y => x - y) 2 (dVar 5))
def t_gap_with_rank_a4 : DS := (dSeq (dIfS (dTest (dOp dLt (dBor 2) (dBor 5)))
  dBrk
  dNext)
  t_gap_with_rank_a6)
def t_gap_with_rank_1 : DS := (dSeq (dParS 3 5 (slD (dVar 4) (slD (dCall sp_number_within (dCons (dOp dIx (dBor 4) (dC (.int 1))) (dCons (dVar 1) dNil))) slNil)))
  t_gap_with_rank_a4)
def t_gap_with_rank_y9 : DS := (dAsg (dCall sp_left_part (dCons (dVar 3) dNil)) (dgName 3))
def t_gap_with_rank_a13 : DS := (dAsg (dCall sp_right_part (dCons (dVar 3) dNil)) (dgName 3))
def t_gap_with_rank_n9 : DS := (dSeq (dAug (fun x y => x - y) 2 (dVar 5))
  t_gap_with_rank_a13)
def t_gap_with_rank_a9 : DS := (dIfS (dTest (dOp dLt (dBor 2) (dBor 5)))
  t_gap_with_rank_y9
  t_gap_with_rank_n9)
def t_gap_with_rank_2 : DS := (dSeq (dAsg (dCall sp_number_within (dCons (dOp dIx (dCall sp_left_part (dCons (dVar 3) dNil)) (dC (.int 1))) (dCons (dVar 1) dNil))) (dgName 5))
  t_gap_with_rank_a9)
def t_gap_with_rank_2c : DT := (dTest (dOp dGt (dOp dIx (dBor 3) (dC (.int 1))) (dBor 1)))
def t_gap_with_rank_a14 : DS := (dRet (dVar 3))
def t_gap_with_rank_a7 : DS := (dSeq (dWhile t_gap_with_rank_2c t_gap_with_rank_2)
  t_gap_with_rank_a14)
def t_gap_with_rank_a2 : DS := (dSeq (dFor (diT (dCall sp_gaps (dCons (dVar 0) dNil))) (dgName 4) t_gap_with_rank_1)
  t_gap_with_rank_a7)
def t_gap_with_rank : DS := (dSeq (dAsg (dTup (dCons (dC (.int 0)) (dCons (dC (.int 0)) dNil))) (dgName 3))
  t_gap_with_rank_a2)
theorem b_gap_with_rank {P : Program} {w : World} {K : PySem.W.Frag} {mg : Str → Option Value} {base : Heap} {f : Addr} {cdv : Value} {A : Around} {outer : List Env} {s : Shared} {H : Hp} {E : XK}  (c_gaps : CalG P w K mg base 1 "gaps" sp_gaps) (c_left_part : CalG P w K mg base 1 "left_part" sp_left_part) (c_number_within : CalG P w K mg base 1 "number_within" sp_number_within) (c_right_part : CalG P w K mg base 1 "right_part" sp_right_part)
    (hr : Room 1 (A.deeper (envOfC "gap_with_rank" (defScope s_gap_with_rank) s.heap.objs.size f cdv))) (hG : A.guards = some []) :
    PSsD (bodyX P w K mg base N_gap_with_rank "gap_with_rank" s_gap_with_rank f cdv A outer s H E) (fun cls d _ H => E cls d H) (defBody s_gap_with_rank) t_gap_with_rank :=
  have tk := takes_of (X := bodyX P w K mg base N_gap_with_rank "gap_with_rank" s_gap_with_rank f cdv A outer s H E) (E := E) rfl rfl rfl rfl
  (ss_cons (s_set (i := 3) sc_gap_with_rank.nd rfl (by first | exact Or.inl rfl | exact Or.inr rfl) (d_tup (a_cons d_int (a_cons d_int a_nil))))
  (ss_cons (s_for (passes_of rfl) rfl (i_tup (d_call c_gaps hr (by decide) hG tk (a_cons (d_var 0) a_nil))) (g_name (i := 4) sc_gap_with_rank.nd rfl (by first | exact Or.inl rfl | exact Or.inr rfl))
  (ss_cons (s_parS (i := 3) (j := 5) rfl sc_gap_with_rank.nd rfl rfl (by decide) rfl rfl (sl_d (d_var 4) (sl_d (d_call c_number_within hr (by decide) hG tk (a_cons (d_ix (d_bor 4) (PD.b d_int)) (a_cons (d_var 1) a_nil))) sl_nil)) rfl)
  (ss_cons (s_if (t_lt (d_bor 2) (d_bor 5))
  (ss_one s_break)
  ss_nil)
  (ss_one (s_aug (i := 2) sc_gap_with_rank.nd rfl (by first | exact Or.inl rfl | exact Or.inr rfl) (d_var 5) ip_sub)))))
  (ss_cons (s_while (passes_of rfl) (t_gt (PD.b (d_ix (d_bor 3) (PD.b d_int))) (d_bor 1))
  (ss_cons (s_set (i := 5) sc_gap_with_rank.nd rfl (by first | exact Or.inl rfl | exact Or.inr rfl) (d_call c_number_within hr (by decide) hG tk (a_cons (d_ix (PD.b (d_call c_left_part hr (by decide) hG tk (a_cons (d_var 3) a_nil))) (PD.b d_int)) (a_cons (d_var 1) a_nil))))
  (ss_one (s_if (t_lt (d_bor 2) (d_bor 5))
  (ss_one (s_set (i := 3) sc_gap_with_rank.nd rfl (by first | exact Or.inl rfl | exact Or.inr rfl) (d_call c_left_part hr (by decide) hG tk (a_cons (d_var 3) a_nil))))
  (ss_cons (s_aug (i := 2) sc_gap_with_rank.nd rfl (by first | exact Or.inl rfl | exact Or.inr rfl) (d_var 5) ip_sub)
  (ss_one (s_set (i := 3) sc_gap_with_rank.nd rfl (by first | exact Or.inl rfl | exact Or.inr rfl) (d_call c_right_part hr (by decide) hG tk (a_cons (d_var 3) a_nil)))))))))
  (ss_one (s_ret (d_var 3))))))

abbrev s_gap_at : Stmt := top 26
abbrev N_gap_at : List Str := ["row", "index", "width", "many"]
theorem sc_gap_at : FnScope N_gap_at ["row", "index"] (defScope s_gap_at) := ⟨rfl, rfl, rfl, by decide +kernel, rfl, by decide +kernel, by decide +kernel⟩
def t_gap_at_y2 : DS := (dRet (dCall sp_gap_with_rank (dCons (dVar 0) (dCons (dVar 2) (dCons (dVar 1) dNil)))))
def t_gap_at_a4 : DS := (dAug (fun x y => x - y) 1 (dVar 3))
def t_gap_at_1 : DS := (dSeq (dIfS (dTest (dOp dLt (dBor 1) (dBor 3)))
  t_gap_at_y2
  dNext)
  t_gap_at_a4)
def t_gap_at_a5 : DS := (dRet (dC .non))
def t_gap_at : DS := (dSeq (dFor (diT (dCall sp_later_widths (dCons (dVar 0) dNil))) (dgTup 2 (dgCons (dgName 2) (dgCons (dgName 3) dgNil))) t_gap_at_1)
  t_gap_at_a5)
theorem b_gap_at {P : Program} {w : World} {K : PySem.W.Frag} {mg : Str → Option Value} {base : Heap} {f : Addr} {cdv : Value} {A : Around} {outer : List Env} {s : Shared} {H : Hp} {E : XK}  (c_gap_with_rank : CalG P w K mg base 2 "gap_with_rank" sp_gap_with_rank) (c_later_widths : CalG P w K mg base 3 "later_widths" sp_later_widths)
    (hr : Room 3 (A.deeper (envOfC "gap_at" (defScope s_gap_at) s.heap.objs.size f cdv))) (hG : A.guards = some []) :
    PSsD (bodyX P w K mg base N_gap_at "gap_at" s_gap_at f cdv A outer s H E) (fun cls d _ H => E cls d H) (defBody s_gap_at) t_gap_at :=
  have tk := takes_of (X := bodyX P w K mg base N_gap_at "gap_at" s_gap_at f cdv A outer s H E) (E := E) rfl rfl rfl rfl
  (ss_cons (s_for (passes_of rfl) rfl (i_tup (d_call c_later_widths hr (by decide) hG tk (a_cons (d_var 0) a_nil))) (g_tup (n := 2) rfl (g_cons (g_name (i := 2) sc_gap_at.nd rfl (by first | exact Or.inl rfl | exact Or.inr rfl)) (g_cons (g_name (i := 3) sc_gap_at.nd rfl (by first | exact Or.inl rfl | exact Or.inr rfl)) g_nil)))
  (ss_cons (s_if (t_lt (d_bor 1) (d_bor 3))
  (ss_one (s_ret (d_call c_gap_with_rank hr (by decide) hG tk (a_cons (d_var 0) (a_cons (d_var 2) (a_cons (d_var 1) a_nil))))))
  ss_nil)
  (ss_one (s_aug (i := 1) sc_gap_at.nd rfl (by first | exact Or.inl rfl | exact Or.inr rfl) (d_var 3) ip_sub))))
  (ss_one (s_ret d_non)))

abbrev s_seat_of : Stmt := top 27
abbrev N_seat_of : List Str := ["row", "index"]
theorem sc_seat_of : FnScope N_seat_of ["row", "index"] (defScope s_seat_of) := ⟨rfl, rfl, rfl, by decide +kernel, rfl, by decide +kernel, by decide +kernel⟩
def t_seat_of_a3 : DS := (dRet (dCall sp_middle (dCons (dCall sp_gap_at (dCons (dVar 0) (dCons (dVar 1) dNil))) dNil)))
def t_seat_of : DS := (dSeq (dIfS (dNotT (dTest (dCall sp_is_number (dCons (dVar 1) (dCons (dC (.int 0)) (dCons (dOp dSub (dCall sp_free_seats (dCons (dVar 0) dNil)) (dC (.int 1))) dNil))))))
  dNever
  dNext)
  t_seat_of_a3)
theorem b_seat_of {P : Program} {w : World} {K : PySem.W.Frag} {mg : Str → Option Value} {base : Heap} {f : Addr} {cdv : Value} {A : Around} {outer : List Env} {s : Shared} {H : Hp} {E : XK}  (c_free_seats : CalG P w K mg base 1 "free_seats_orders" sp_free_seats) (c_gap_at : CalG P w K mg base 4 "gap_at" sp_gap_at) (c_is_number : CalG P w K mg base 1 "is_number" sp_is_number) (c_middle : CalG P w K mg base 1 "middle" sp_middle)
    (hr : Room 4 (A.deeper (envOfC "seat_of" (defScope s_seat_of) s.heap.objs.size f cdv))) (hG : A.guards = some []) :
    PSsD (bodyX P w K mg base N_seat_of "seat_of" s_seat_of f cdv A outer s H E) (fun cls d _ H => E cls d H) (defBody s_seat_of) t_seat_of :=
  have tk := takes_of (X := bodyX P w K mg base N_seat_of "seat_of" s_seat_of f cdv A outer s H E) (E := E) rfl rfl rfl rfl
  (ss_cons (s_if (t_not (t_val (d_call c_is_number hr (by decide) hG tk (a_cons (d_var 1) (a_cons d_int (a_cons (d_sub (PD.b (d_call c_free_seats hr (by decide) hG tk (a_cons (d_var 0) a_nil))) (PD.b d_int)) a_nil))))))
  (ss_one s_never)
  ss_nil)
  (ss_one (s_ret (d_call c_middle hr (by decide) hG tk (a_cons (d_call c_gap_at hr (by decide) hG tk (a_cons (d_var 0) (a_cons (d_var 1) a_nil))) a_nil)))))

abbrev s_free_seatsD : Stmt := top 29
abbrev N_free_seatsD : List Str := ["row"]
theorem sc_free_seatsD : FnScope N_free_seatsD ["row"] (defScope s_free_seatsD) := ⟨rfl, rfl, rfl, by decide +kernel, rfl, by decide +kernel, by decide +kernel⟩
def t_free_seatsD : DS := (dRet (dOp dSub (dOp dIx (dBor 0) (dC (.int 0))) (dCB dLen (dCons (dOp dIx (dBor 0) (dC (.int 1))) dNil))))
theorem b_free_seatsD {P : Program} {w : World} {K : PySem.W.Frag} {mg : Str → Option Value} {base : Heap} {f : Addr} {cdv : Value} {A : Around} {outer : List Env} {s : Shared} {H : Hp} {E : XK} (m_len : mg "len" = none) 
    (hr : Room 0 (A.deeper (envOfC "free_seats" (defScope s_free_seatsD) s.heap.objs.size f cdv))) (hG : A.guards = some []) :
    PSsD (bodyX P w K mg base N_free_seatsD "free_seats" s_free_seatsD f cdv A outer s H E) (fun cls d _ H => E cls d H) (defBody s_free_seatsD) t_free_seatsD :=
  have tk := takes_of (X := bodyX P w K mg base N_free_seatsD "free_seats" s_free_seatsD f cdv A outer s H E) (E := E) rfl rfl rfl rfl
  (ss_one (s_ret (d_sub (PD.b (d_ix (d_bor 0) (PD.b d_int))) (PD.b (d_len m_len (b_cons (PD.b (d_ix (d_bor 0) (PD.b d_int))) b_nil))))))

abbrev s_distance_of_width : Stmt := top 31
abbrev N_distance_of_width : List Str := ["width"]
theorem sc_distance_of_width : FnScope N_distance_of_width ["width"] (defScope s_distance_of_width) := ⟨rfl, rfl, rfl, by decide +kernel, rfl, by decide +kernel, by decide +kernel⟩
def t_distance_of_width : DS := (dRet (dOp dDiv (dOp dAdd (dBor 0) (dC (.int 1))) (dC (.int 2))))
theorem b_distance_of_width {P : Program} {w : World} {K : PySem.W.Frag} {mg : Str → Option Value} {base : Heap} {f : Addr} {cdv : Value} {A : Around} {outer : List Env} {s : Shared} {H : Hp} {E : XK}  
    (hr : Room 0 (A.deeper (envOfC "distance_of_width" (defScope s_distance_of_width) s.heap.objs.size f cdv))) (hG : A.guards = some []) :
    PSsD (bodyX P w K mg base N_distance_of_width "distance_of_width" s_distance_of_width f cdv A outer s H E) (fun cls d _ H => E cls d H) (defBody s_distance_of_width) t_distance_of_width :=
  have tk := takes_of (X := bodyX P w K mg base N_distance_of_width "distance_of_width" s_distance_of_width f cdv A outer s H E) (E := E) rfl rfl rfl rfl
  (ss_one (s_ret (d_div (PD.b (d_add (d_bor 0) (PD.b d_int))) (PD.b d_int))))

abbrev s_check_count : Stmt := top 32
abbrev N_check_count : List Str := ["value", "low", "high"]
theorem sc_check_count : FnScope N_check_count ["value", "low", "high"] (defScope s_check_count) := ⟨rfl, rfl, rfl, by decide +kernel, rfl, by decide +kernel, by decide +kernel⟩
def t_check_count (K : PySem.W.Frag) : DS := (dIfS (dNotT (dTest (dCall sp_is_integer (dCons (dVar 0) (dCons (dVar 1) (dCons (dVar 2) dNil))))))
  (dRaise1 (cAt K "NoCount") "value" (dVar 0))
  dNext)
theorem b_check_count {P : Program} {w : World} {K : PySem.W.Frag} {mg : Str → Option Value} {base : Heap} {f : Addr} {cdv : Value} {A : Around} {outer : List Env} {s : Shared} {H : Hp} {E : XK}  (c_is_integer : CalG P w K mg base 1 "is_integer" sp_is_integer) (T_NoCount : ExI K mg "NoCount" "value" (cAt K "NoCount"))
    (hr : Room 1 (A.deeper (envOfC "check_count" (defScope s_check_count) s.heap.objs.size f cdv))) (hG : A.guards = some []) :
    PSsD (bodyX P w K mg base N_check_count "check_count" s_check_count f cdv A outer s H E) (fun cls d _ H => E cls d H) (defBody s_check_count) (t_check_count K) :=
  have tk := takes_of (X := bodyX P w K mg base N_check_count "check_count" s_check_count f cdv A outer s H E) (E := E) rfl rfl rfl rfl
  (ss_one (s_if (t_not (t_val (d_call c_is_integer hr (by decide) hG tk (a_cons (d_var 0) (a_cons (d_var 1) (a_cons (d_var 2) a_nil))))))
  (ss_one (s_raise1 rfl tk (made_value T_NoCount) T_NoCount hr (d_var 0)))
  ss_nil))

abbrev s_distance_at : Stmt := top 33
abbrev N_distance_at : List Str := ["row", "seat", "seats", "taken", "other"]
theorem sc_distance_at : FnScope N_distance_at ["row", "seat"] (defScope s_distance_at) := ⟨rfl, rfl, rfl, by decide +kernel, rfl, by decide +kernel, by decide +kernel⟩
def t_distance_at_a6 (K : PySem.W.Frag) : DS := (dRet (dCB dMinL (dCons (dFl (dLc (diT (dTup (dCons (dNeg (dC (.int 1))) (dStar (dBor 3) (dCons (dVar 2) dNil))))) (dgName 4) dYes (dCB dAbs (dCons (dOp dSub (dBor 1) (dBor 4)) dNil)) [4])) dNil)))
def t_distance_at_a4 (K : PySem.W.Frag) : DS := (dSeq (dIfS (dTest (dOp (dIn false) (dBor 1) (dBor 3)))
  (dRaise1 (cAt K "Taken") "seat" (dVar 1))
  dNext)
  (t_distance_at_a6 K))
def t_distance_at_a2 (K : PySem.W.Frag) : DS := (dSeq (dIfS (dNotT (dTest (dCall sp_is_integer (dCons (dVar 1) (dCons (dC (.int 0)) (dCons (dOp dSub (dBor 2) (dC (.int 1))) dNil))))))
  (dRaise1 (cAt K "NoSeat") "value" (dVar 1))
  dNext)
  (t_distance_at_a4 K))
def t_distance_at (K : PySem.W.Frag) : DS := (dSeq (dAsg (dVar 0) (dgTup 2 (dgCons (dgName 2) (dgCons (dgName 3) dgNil))))
  (t_distance_at_a2 K))
theorem b_distance_at {P : Program} {w : World} {K : PySem.W.Frag} {mg : Str → Option Value} {base : Heap} {f : Addr} {cdv : Value} {A : Around} {outer : List Env} {s : Shared} {H : Hp} {E : XK} (m_abs : mg "abs" = none) (m_min : mg "min" = none) (c_is_integer : CalG P w K mg base 1 "is_integer" sp_is_integer) (T_NoSeat : ExI K mg "NoSeat" "value" (cAt K "NoSeat")) (T_Taken : ExI K mg "Taken" "seat" (cAt K "Taken"))
    (hr : Room 1 (A.deeper (envOfC "distance_at" (defScope s_distance_at) s.heap.objs.size f cdv))) (hG : A.guards = some []) :
    PSsD (bodyX P w K mg base N_distance_at "distance_at" s_distance_at f cdv A outer s H E) (fun cls d _ H => E cls d H) (defBody s_distance_at) (t_distance_at K) :=
  have tk := takes_of (X := bodyX P w K mg base N_distance_at "distance_at" s_distance_at f cdv A outer s H E) (E := E) rfl rfl rfl rfl
  (ss_cons (s_asg (d_var 0) (g_tup (n := 2) rfl (g_cons (g_name (i := 2) sc_distance_at.nd rfl (by first | exact Or.inl rfl | exact Or.inr rfl)) (g_cons (g_name (i := 3) sc_distance_at.nd rfl (by first | exact Or.inl rfl | exact Or.inr rfl)) g_nil))))
  (ss_cons (s_if (t_not (t_val (d_call c_is_integer hr (by decide) hG tk (a_cons (d_var 1) (a_cons d_int (a_cons (d_sub (d_bor 2) (PD.b d_int)) a_nil))))))
  (ss_one (s_raise1 rfl tk (made_value T_NoSeat) T_NoSeat hr (d_var 1)))
  ss_nil)
  (ss_cons (s_if (t_in (d_bor 1) (d_bor 3))
  (ss_one (s_raise1 rfl tk (made_seat T_Taken) T_Taken hr (d_var 1)))
  ss_nil)
  (ss_one (s_ret (d_minL rfl m_min (b_cons (PD.b (PO.d (o_lc (own := [("other", 4)]) rfl sc_distance_at.nd (i_tup (d_tup (a_cons (d_neg d_int) (a_star (d_bor 3) (a_cons (d_var 2) a_nil))))) (blkOk_by (own := [("other", 4)]) (N := N_distance_at) (sc := defScope s_distance_at) (by decide +kernel)) (fun _ => (v_name (i := 4) (by decide) sc_distance_at.nd rfl (by first | exact Or.inl rfl | exact Or.inr rfl))) (fun _ => ts_nil) (fun _ => (d_abs m_abs (b_cons (PD.b (d_sub (d_bor 1) (d_bor 4))) b_nil)))))) b_nil)))))))

abbrev s_width_of : Stmt := top 34
abbrev N_width_of : List Str := ["table", "index", "width", "many"]
theorem sc_width_of : FnScope N_width_of ["table", "index"] (defScope s_width_of) := ⟨rfl, rfl, rfl, by decide +kernel, rfl, by decide +kernel, by decide +kernel⟩
def t_width_of_a4 : DS := (dAug (fun x y => x - y) 1 (dVar 3))
def t_width_of_1 : DS := (dSeq (dIfS (dTest (dOp dLt (dBor 1) (dBor 3)))
  (dRet (dVar 2))
  dNext)
  t_width_of_a4)
def t_width_of_a5 : DS := (dRet (dC (.int 0)))
def t_width_of : DS := (dSeq (dFor (diT (dVar 0)) (dgTup 2 (dgCons (dgName 2) (dgCons (dgName 3) dgNil))) t_width_of_1)
  t_width_of_a5)
theorem b_width_of {P : Program} {w : World} {K : PySem.W.Frag} {mg : Str → Option Value} {base : Heap} {f : Addr} {cdv : Value} {A : Around} {outer : List Env} {s : Shared} {H : Hp} {E : XK}  
    (hr : Room 0 (A.deeper (envOfC "width_of" (defScope s_width_of) s.heap.objs.size f cdv))) (hG : A.guards = some []) :
    PSsD (bodyX P w K mg base N_width_of "width_of" s_width_of f cdv A outer s H E) (fun cls d _ H => E cls d H) (defBody s_width_of) t_width_of :=
  have tk := takes_of (X := bodyX P w K mg base N_width_of "width_of" s_width_of f cdv A outer s H E) (E := E) rfl rfl rfl rfl
  (ss_cons (s_for (passes_of rfl) rfl (i_tup (d_var 0)) (g_tup (n := 2) rfl (g_cons (g_name (i := 2) sc_width_of.nd rfl (by first | exact Or.inl rfl | exact Or.inr rfl)) (g_cons (g_name (i := 3) sc_width_of.nd rfl (by first | exact Or.inl rfl | exact Or.inr rfl)) g_nil)))
  (ss_cons (s_if (t_lt (d_bor 1) (d_bor 3))
  (ss_one (s_ret (d_var 2)))
  ss_nil)
  (ss_one (s_aug (i := 1) sc_width_of.nd rfl (by first | exact Or.inl rfl | exact Or.inr rfl) (d_var 3) ip_sub))))
  (ss_one (s_ret d_int)))

abbrev s_distances_of : Stmt := top 35
abbrev N_distances_of : List Str := ["row", "indexes", "index", "table"]
theorem sc_distances_of : FnScope N_distances_of ["row", "indexes"] (defScope s_distances_of) := ⟨rfl, rfl, rfl, by decide +kernel, rfl, by decide +kernel, by decide +kernel⟩
def t_distances_of_1 (K : PySem.W.Frag) : DS := (dIfS (dNotT (dTest (dCall sp_is_integer (dCons (dVar 2) (dCons (dC (.int 0)) (dCons (dOp dSub (dCall sp_free_seatsD (dCons (dVar 0) dNil)) (dC (.int 1))) dNil))))))
  (dRaise1 (cAt K "NoIndex") "index" (dVar 2))
  dNext)
def t_distances_of_a5 (K : PySem.W.Frag) : DS := (dRet (dCB dTupOf (dCons (dFl (dLc (diT (dVar 1)) (dgName 2) dYes (dCall sp_distance_of_width (dCons (dCall sp_width_of (dCons (dVar 3) (dCons (dVar 2) dNil))) dNil)) [2])) dNil)))
def t_distances_of_a4 (K : PySem.W.Frag) : DS := (dSeq (dAsg (dCall sp_later_widths (dCons (dVar 0) dNil)) (dgName 3))
  (t_distances_of_a5 K))
def t_distances_of (K : PySem.W.Frag) : DS := (dSeq (dFor (diT (dVar 1)) (dgName 2) (t_distances_of_1 K))
  (t_distances_of_a4 K))
theorem b_distances_of {P : Program} {w : World} {K : PySem.W.Frag} {mg : Str → Option Value} {base : Heap} {f : Addr} {cdv : Value} {A : Around} {outer : List Env} {s : Shared} {H : Hp} {E : XK} (m_tuple : mg "tuple" = none) (c_distance_of_width : CalG P w K mg base 1 "distance_of_width" sp_distance_of_width) (c_free_seatsD : CalG P w K mg base 1 "free_seats_distances" sp_free_seatsD) (c_is_integer : CalG P w K mg base 1 "is_integer" sp_is_integer) (c_later_widths : CalG P w K mg base 3 "later_widths" sp_later_widths) (c_width_of : CalG P w K mg base 1 "width_of" sp_width_of) (T_NoIndex : ExI K mg "NoIndex" "index" (cAt K "NoIndex"))
    (hr : Room 3 (A.deeper (envOfC "distances_of" (defScope s_distances_of) s.heap.objs.size f cdv))) (hG : A.guards = some []) :
    PSsD (bodyX P w K mg base N_distances_of "distances_of" s_distances_of f cdv A outer s H E) (fun cls d _ H => E cls d H) (defBody s_distances_of) (t_distances_of K) :=
  have tk := takes_of (X := bodyX P w K mg base N_distances_of "distances_of" s_distances_of f cdv A outer s H E) (E := E) rfl rfl rfl rfl
  (ss_cons (s_for (passes_of rfl) rfl (i_tup (d_var 1)) (g_name (i := 2) sc_distances_of.nd rfl (by first | exact Or.inl rfl | exact Or.inr rfl))
  (ss_one (s_if (t_not (t_val (d_call c_is_integer hr (by decide) hG tk (a_cons (d_var 2) (a_cons d_int (a_cons (d_sub (PD.b (d_call c_free_seatsD hr (by decide) hG tk (a_cons (d_var 0) a_nil))) (PD.b d_int)) a_nil))))))
  (ss_one (s_raise1 rfl tk (made_index T_NoIndex) T_NoIndex hr (d_var 2)))
  ss_nil)))
  (ss_cons (s_set (i := 3) sc_distances_of.nd rfl (by first | exact Or.inl rfl | exact Or.inr rfl) (d_call c_later_widths hr (by decide) hG tk (a_cons (d_var 0) a_nil)))
  (ss_one (s_ret (d_tuple m_tuple (b_cons (PD.b (PO.d (o_lc (own := [("index", 2)]) rfl sc_distances_of.nd (i_tup (d_var 1)) (blkOk_by (own := [("index", 2)]) (N := N_distances_of) (sc := defScope s_distances_of) (by decide +kernel)) (fun _ => (v_name (i := 2) (by decide) sc_distances_of.nd rfl (by first | exact Or.inl rfl | exact Or.inr rfl))) (fun _ => ts_nil) (fun _ => (d_call c_distance_of_width hr (by decide) hG takes0 (a_cons (d_call c_width_of hr (by decide) hG takes0 (a_cons (d_var 3) (a_cons (d_var 2) a_nil))) a_nil)))))) b_nil))))))

abbrev s_most_in_gaps : Stmt := top 36
abbrev N_most_in_gaps : List Str := ["row", "distance", "begin", "width"]
theorem sc_most_in_gaps : FnScope N_most_in_gaps ["row", "distance"] (defScope s_most_in_gaps) := ⟨rfl, rfl, rfl, by decide +kernel, rfl, by decide +kernel, by decide +kernel⟩
def t_most_in_gaps : DS := (dRet (dFl (dLc (diT (dCall sp_gaps (dCons (dVar 0) dNil))) (dgTup 2 (dgCons (dgName 2) (dgCons (dgName 3) dgNil))) dYes (dCB dMax2 (dCons (dC (.int 0)) (dCons (dOp dSub (dOp dDiv (dOp dAdd (dBor 3) (dC (.int 1))) (dBor 1)) (dC (.int 1))) dNil))) [2, 3])))
theorem b_most_in_gaps {P : Program} {w : World} {K : PySem.W.Frag} {mg : Str → Option Value} {base : Heap} {f : Addr} {cdv : Value} {A : Around} {outer : List Env} {s : Shared} {H : Hp} {E : XK} (m_max : mg "max" = none) (c_gaps : CalG P w K mg base 1 "gaps" sp_gaps)
    (hr : Room 1 (A.deeper (envOfC "most_in_gaps" (defScope s_most_in_gaps) s.heap.objs.size f cdv))) (hG : A.guards = some []) :
    PSsD (bodyX P w K mg base N_most_in_gaps "most_in_gaps" s_most_in_gaps f cdv A outer s H E) (fun cls d _ H => E cls d H) (defBody s_most_in_gaps) t_most_in_gaps :=
  have tk := takes_of (X := bodyX P w K mg base N_most_in_gaps "most_in_gaps" s_most_in_gaps f cdv A outer s H E) (E := E) rfl rfl rfl rfl
  (ss_one (s_ret (PO.d (o_lc (own := [("begin", 2), ("width", 3)]) rfl sc_most_in_gaps.nd (i_tup (d_call c_gaps hr (by decide) hG tk (a_cons (d_var 0) a_nil))) (blkOk_by (own := [("begin", 2), ("width", 3)]) (N := N_most_in_gaps) (sc := defScope s_most_in_gaps) (by decide +kernel)) (fun _ => (v_tup (n := 2) rfl (v_cons (v_name (i := 2) (by decide) sc_most_in_gaps.nd rfl (by first | exact Or.inl rfl | exact Or.inr rfl)) (v_cons (v_name (i := 3) (by decide) sc_most_in_gaps.nd rfl (by first | exact Or.inl rfl | exact Or.inr rfl)) v_nil)))) (fun _ => ts_nil) (fun _ => (d_max2 rfl m_max (b_cons (PD.b d_int) (b_cons (PD.b (d_sub (PD.b (d_div (PD.b (d_add (d_bor 3) (PD.b d_int))) (d_bor 1))) (PD.b d_int))) b_nil))))))))

abbrev s_best_distance : Stmt := top 37
abbrev N_best_distance : List Str := ["row", "count", "low", "high", "between"]
theorem sc_best_distance : FnScope N_best_distance ["row", "count"] (defScope s_best_distance) := ⟨rfl, rfl, rfl, by decide +kernel, rfl, by decide +kernel, by decide +kernel⟩
def t_best_distance_a5 (K : PySem.W.Frag) : DS := (dIfS (dTest (dOp dGe (dCB dSum (dCons (dCall sp_most_in_gaps (dCons (dVar 0) (dCons (dVar 4) dNil))) dNil)) (dBor 1)))
  (dAsg (dVar 4) (dgName 2))
  (dAsg (dOp dSub (dBor 4) (dC (.int 1))) (dgName 3)))
def t_best_distance_1 (K : PySem.W.Frag) : DS := (dSeq (dAsg (dOp dDiv (dOp dAdd (dOp dAdd (dBor 2) (dBor 3)) (dC (.int 1))) (dC (.int 2))) (dgName 4))
  (t_best_distance_a5 K))
def t_best_distance_1c (K : PySem.W.Frag) : DT := (dTest (dOp dLt (dBor 2) (dBor 3)))
def t_best_distance_a9 (K : PySem.W.Frag) : DS := (dRet (dVar 2))
def t_best_distance_a3 (K : PySem.W.Frag) : DS := (dSeq (dWhile (t_best_distance_1c K) (t_best_distance_1 K))
  (t_best_distance_a9 K))
def t_best_distance_a2 (K : PySem.W.Frag) : DS := (dSeq (dParS 2 3 (slD (dC (.int 1)) (slD (dOp dIx (dBor 0) (dC (.int 0))) slNil)))
  (t_best_distance_a3 K))
def t_best_distance (K : PySem.W.Frag) : DS := (dSeq (dDrop (dCall (sp_check_count K) (dCons (dVar 1) (dCons (dC (.int 1)) (dCons (dCall sp_free_seatsD (dCons (dVar 0) dNil)) dNil)))))
  (t_best_distance_a2 K))
theorem b_best_distance {P : Program} {w : World} {K : PySem.W.Frag} {mg : Str → Option Value} {base : Heap} {f : Addr} {cdv : Value} {A : Around} {outer : List Env} {s : Shared} {H : Hp} {E : XK} (m_sum : mg "sum" = none) (c_check_count : CalG P w K mg base 2 "check_count" (sp_check_count K)) (c_free_seatsD : CalG P w K mg base 1 "free_seats_distances" sp_free_seatsD) (c_most_in_gaps : CalG P w K mg base 2 "most_in_gaps" sp_most_in_gaps)
    (hr : Room 2 (A.deeper (envOfC "best_distance" (defScope s_best_distance) s.heap.objs.size f cdv))) (hG : A.guards = some []) :
    PSsD (bodyX P w K mg base N_best_distance "best_distance" s_best_distance f cdv A outer s H E) (fun cls d _ H => E cls d H) (defBody s_best_distance) (t_best_distance K) :=
  have tk := takes_of (X := bodyX P w K mg base N_best_distance "best_distance" s_best_distance f cdv A outer s H E) (E := E) rfl rfl rfl rfl
  (ss_cons (s_expr (d_call c_check_count hr (by decide) hG tk (a_cons (d_var 1) (a_cons d_int (a_cons (d_call c_free_seatsD hr (by decide) hG tk (a_cons (d_var 0) a_nil)) a_nil)))))
  (ss_cons (s_parS (i := 2) (j := 3) rfl sc_best_distance.nd rfl rfl (by decide) rfl rfl (sl_d d_int (sl_d (d_ix (d_bor 0) (PD.b d_int)) sl_nil)) rfl)
  (ss_cons (s_while (passes_of rfl) (t_lt (d_bor 2) (d_bor 3))
  (ss_cons (s_set (i := 4) sc_best_distance.nd rfl (by first | exact Or.inl rfl | exact Or.inr rfl) (d_div (PD.b (d_add (PD.b (d_add (d_bor 2) (d_bor 3))) (PD.b d_int))) (PD.b d_int)))
  (ss_one (s_if (t_ge (PD.b (d_sum rfl m_sum (b_cons (PD.b (d_call c_most_in_gaps hr (by decide) hG tk (a_cons (d_var 0) (a_cons (d_var 4) a_nil)))) b_nil))) (d_bor 1))
  (ss_one (s_set (i := 2) sc_best_distance.nd rfl (by first | exact Or.inl rfl | exact Or.inr rfl) (d_var 4)))
  (ss_one (s_set (i := 3) sc_best_distance.nd rfl (by first | exact Or.inl rfl | exact Or.inr rfl) (d_sub (d_bor 4) (PD.b d_int))))))))
  (ss_one (s_ret (d_var 2))))))

abbrev s_best_certificate : Stmt := top 38
abbrev N_best_certificate : List Str := ["row", "count", "distance", "numbers", "room", "some"]
theorem sc_best_certificate : FnScope N_best_certificate ["row", "count"] (defScope s_best_certificate) := ⟨rfl, rfl, rfl, by decide +kernel, rfl, by decide +kernel, by decide +kernel⟩
def t_best_certificate_1 (K : PySem.W.Frag) : DS := (dSeq (dAsg (dCB dMin2 (dCons (dBor 4) (dCons (dBor 1) dNil))) (dgName 5))
  (dSeq (dApp 3 (dVar 5))
  (dAug (fun x y => x - y) 1 (dVar 5))))
def t_best_certificate_a7 (K : PySem.W.Frag) : DS := (dRet (dTup (dCons (dVar 2) (dCons (dCB dTupOf (dCons (dBor 3) dNil)) dNil))))
def t_best_certificate_a3 (K : PySem.W.Frag) : DS := (dSeq (dFor (diL (dCall sp_most_in_gaps (dCons (dVar 0) (dCons (dVar 2) dNil)))) (dgName 4) (t_best_certificate_1 K))
  (t_best_certificate_a7 K))
def t_best_certificate_a2 (K : PySem.W.Frag) : DS := (dSeq (dSetO 3 (doLst dNil))
  (t_best_certificate_a3 K))
def t_best_certificate (K : PySem.W.Frag) : DS := (dSeq (dAsg (dCall (sp_best_distance K) (dCons (dVar 0) (dCons (dVar 1) dNil))) (dgName 2))
  (t_best_certificate_a2 K))
theorem b_best_certificate {P : Program} {w : World} {K : PySem.W.Frag} {mg : Str → Option Value} {base : Heap} {f : Addr} {cdv : Value} {A : Around} {outer : List Env} {s : Shared} {H : Hp} {E : XK} (m_min : mg "min" = none) (m_tuple : mg "tuple" = none) (c_best_distance : CalG P w K mg base 3 "best_distance" (sp_best_distance K)) (c_most_in_gaps : CalG P w K mg base 2 "most_in_gaps" sp_most_in_gaps)
    (hr : Room 3 (A.deeper (envOfC "best_certificate" (defScope s_best_certificate) s.heap.objs.size f cdv))) (hG : A.guards = some []) :
    PSsD (bodyX P w K mg base N_best_certificate "best_certificate" s_best_certificate f cdv A outer s H E) (fun cls d _ H => E cls d H) (defBody s_best_certificate) (t_best_certificate K) :=
  have tk := takes_of (X := bodyX P w K mg base N_best_certificate "best_certificate" s_best_certificate f cdv A outer s H E) (E := E) rfl rfl rfl rfl
  (ss_cons (s_set (i := 2) sc_best_certificate.nd rfl (by first | exact Or.inl rfl | exact Or.inr rfl) (d_call c_best_distance hr (by decide) hG tk (a_cons (d_var 0) (a_cons (d_var 1) a_nil))))
  (ss_cons (s_setO (i := 3) sc_best_certificate.nd rfl (by first | exact Or.inl rfl | exact Or.inr rfl) (o_lst a_nil))
  (ss_cons (s_for (passes_of rfl) rfl (i_list (d_call c_most_in_gaps hr (by decide) hG tk (a_cons (d_var 0) (a_cons (d_var 2) a_nil)))) (g_name (i := 4) sc_best_certificate.nd rfl (by first | exact Or.inl rfl | exact Or.inr rfl))
  (ss_cons (s_set (i := 5) sc_best_certificate.nd rfl (by first | exact Or.inl rfl | exact Or.inr rfl) (d_min2 rfl m_min (b_cons (d_bor 4) (b_cons (d_bor 1) b_nil))))
  (ss_cons (s_app 3 (d_var 5))
  (ss_one (s_aug (i := 1) sc_best_certificate.nd rfl (by first | exact Or.inl rfl | exact Or.inr rfl) (d_var 5) ip_sub)))))
  (ss_one (s_ret (d_tup (a_cons (d_var 2) (a_cons (d_tuple m_tuple (b_cons (d_bor 3) b_nil)) a_nil))))))))

abbrev s_best_holds : Stmt := top 39
abbrev N_best_holds : List Str := ["row", "count", "value", "room", "distance", "numbers", "number", "most"]
theorem sc_best_holds : FnScope N_best_holds ["row", "count", "value"] (defScope s_best_holds) := ⟨rfl, rfl, rfl, by decide +kernel, rfl, by decide +kernel, by decide +kernel⟩
def t_best_holds_a10 (K : PySem.W.Frag) : DS := (dRet (dAndV (dOp dEq (dCB dSumT (dCons (dBor 5) dNil)) (dBor 1)) (dOp dLt (dCB dSum (dCons (dCall sp_most_in_gaps (dCons (dVar 0) (dCons (dOp dAdd (dBor 4) (dC (.int 1))) dNil))) dNil)) (dBor 1))))
def t_best_holds_a8 (K : PySem.W.Frag) : DS := (dSeq (dIfS (dNotT (dTest (dCB dAll (dCons (dFl (dLc (diZM (dCons (dVar 5) (dCons (dVar 3) dNil))) (dgTup 2 (dgCons (dgName 6) (dgCons (dgName 7) dgNil))) dYes (dCall sp_is_integer (dCons (dVar 6) (dCons (dC (.int 0)) (dCons (dVar 7) dNil)))) [6, 7])) dNil))))
  (dRet (dC (.bl false)))
  dNext)
  (t_best_holds_a10 K))
def t_best_holds_a6 (K : PySem.W.Frag) : DS := (dSeq (dIfS (dOrT (dNotT (dTest (dCB dIsi (dCons (dBor 5) (dCons (dC (.ty "tuple")) dNil))))) (dTest (dOp dNe (dCB dLen (dCons (dBor 5) dNil)) (dCB dLen (dCons (dBor 3) dNil)))))
  (dRet (dC (.bl false)))
  dNext)
  (t_best_holds_a8 K))
def t_best_holds_a5 (K : PySem.W.Frag) : DS := (dSeq (dAsg (dCall sp_most_in_gaps (dCons (dVar 0) (dCons (dVar 4) dNil))) (dgName 3))
  (t_best_holds_a6 K))
def t_best_holds_a4 (K : PySem.W.Frag) : DS := (dSeq (dAsg (dVar 2) (dgTup 2 (dgCons (dgName 4) (dgCons (dgName 5) dgNil))))
  (t_best_holds_a5 K))
def t_best_holds_a2 (K : PySem.W.Frag) : DS := (dSeq (dIfS (dOrT (dNotT (dTest (dCB dIsi (dCons (dBor 2) (dCons (dC (.ty "tuple")) dNil))))) (dOrT (dTest (dOp dNe (dCB dLen (dCons (dBor 2) dNil)) (dC (.int 2)))) (dNotT (dTest (dCall sp_is_integer (dCons (dOp dIx (dBor 2) (dC (.int 0))) (dCons (dC (.int 1)) (dCons (dOp dIx (dBor 0) (dC (.int 0))) dNil))))))))
  (dRet (dC (.bl false)))
  dNext)
  (t_best_holds_a4 K))
def t_best_holds (K : PySem.W.Frag) : DS := (dSeq (dDrop (dCall (sp_check_count K) (dCons (dVar 1) (dCons (dC (.int 1)) (dCons (dCall sp_free_seatsD (dCons (dVar 0) dNil)) dNil)))))
  (t_best_holds_a2 K))
theorem b_best_holds {P : Program} {w : World} {K : PySem.W.Frag} {mg : Str → Option Value} {base : Heap} {f : Addr} {cdv : Value} {A : Around} {outer : List Env} {s : Shared} {H : Hp} {E : XK} (m_all : mg "all" = none) (m_isinstance : mg "isinstance" = none) (m_len : mg "len" = none) (m_sum : mg "sum" = none) (m_tuple : mg "tuple" = none) (m_zip : mg "zip" = none) (c_check_count : CalG P w K mg base 2 "check_count" (sp_check_count K)) (c_free_seatsD : CalG P w K mg base 1 "free_seats_distances" sp_free_seatsD) (c_is_integer : CalG P w K mg base 1 "is_integer" sp_is_integer) (c_most_in_gaps : CalG P w K mg base 2 "most_in_gaps" sp_most_in_gaps)
    (hr : Room 2 (A.deeper (envOfC "best_holds" (defScope s_best_holds) s.heap.objs.size f cdv))) (hG : A.guards = some []) :
    PSsD (bodyX P w K mg base N_best_holds "best_holds" s_best_holds f cdv A outer s H E) (fun cls d _ H => E cls d H) (defBody s_best_holds) (t_best_holds K) :=
  have tk := takes_of (X := bodyX P w K mg base N_best_holds "best_holds" s_best_holds f cdv A outer s H E) (E := E) rfl rfl rfl rfl
  (ss_cons (s_expr (d_call c_check_count hr (by decide) hG tk (a_cons (d_var 1) (a_cons d_int (a_cons (d_call c_free_seatsD hr (by decide) hG tk (a_cons (d_var 0) a_nil)) a_nil)))))
  (ss_cons (s_if (PWD.t (w_or (t_not (t_val (d_isi m_isinstance (b_cons (d_bor 2) (b_cons (PD.b (d_bty m_tuple (by decide +kernel))) b_nil))))) (w_or (t_ne hr.units (PD.b (d_len m_len (b_cons (d_bor 2) b_nil))) (PD.b d_int)) (w_or1 (t_not (t_val (d_call c_is_integer hr (by decide) hG tk (a_cons (d_ix (d_bor 2) (PD.b d_int)) (a_cons d_int (a_cons (d_ix (d_bor 0) (PD.b d_int)) a_nil))))))))))
  (ss_one (s_ret d_bl))
  ss_nil)
  (ss_cons (s_asg (d_var 2) (g_tup (n := 2) rfl (g_cons (g_name (i := 4) sc_best_holds.nd rfl (by first | exact Or.inl rfl | exact Or.inr rfl)) (g_cons (g_name (i := 5) sc_best_holds.nd rfl (by first | exact Or.inl rfl | exact Or.inr rfl)) g_nil))))
  (ss_cons (s_set (i := 3) sc_best_holds.nd rfl (by first | exact Or.inl rfl | exact Or.inr rfl) (d_call c_most_in_gaps hr (by decide) hG tk (a_cons (d_var 0) (a_cons (d_var 4) a_nil))))
  (ss_cons (s_if (PWD.t (w_or (t_not (t_val (d_isi m_isinstance (b_cons (d_bor 5) (b_cons (PD.b (d_bty m_tuple (by decide +kernel))) b_nil))))) (w_or1 (t_ne hr.units (PD.b (d_len m_len (b_cons (d_bor 5) b_nil))) (PD.b (d_len m_len (b_cons (d_bor 3) b_nil)))))))
  (ss_one (s_ret d_bl))
  ss_nil)
  (ss_cons (s_if (t_not (t_val (d_all rfl m_all (b_cons (PD.b (PO.d (o_lc (own := [("number", 6), ("most", 7)]) rfl sc_best_holds.nd (i_zipM m_zip (a_cons (d_var 5) (a_cons (d_var 3) a_nil))) (blkOk_by (own := [("number", 6), ("most", 7)]) (N := N_best_holds) (sc := defScope s_best_holds) (by decide +kernel)) (fun _ => (v_tup (n := 2) rfl (v_cons (v_name (i := 6) (by decide) sc_best_holds.nd rfl (by first | exact Or.inl rfl | exact Or.inr rfl)) (v_cons (v_name (i := 7) (by decide) sc_best_holds.nd rfl (by first | exact Or.inl rfl | exact Or.inr rfl)) v_nil)))) (fun _ => ts_nil) (fun _ => (d_call c_is_integer hr (by decide) hG takes0 (a_cons (d_var 6) (a_cons d_int (a_cons (d_var 7) a_nil)))))))) b_nil))))
  (ss_one (s_ret d_bl))
  ss_nil)
  (ss_one (s_ret (d_and (d_eq hr.units (PD.b (d_sumT rfl m_sum (b_cons (d_bor 5) b_nil))) (d_bor 1)) (d_one (d_lt (PD.b (d_sum rfl m_sum (b_cons (PD.b (d_call c_most_in_gaps hr (by decide) hG tk (a_cons (d_var 0) (a_cons (d_add (d_bor 4) (PD.b d_int)) a_nil)))) b_nil))) (d_bor 1))))))))))))

abbrev s_spread : Stmt := top 40
abbrev N_spread : List Str := ["row", "count", "distance", "found", "room", "number", "begin", "width"]
theorem sc_spread : FnScope N_spread ["row", "count"] (defScope s_spread) := ⟨rfl, rfl, rfl, by decide +kernel, rfl, by decide +kernel, by decide +kernel⟩
def t_spread_1 (K : PySem.W.Frag) : DS := (dApp 3 (dOp dAdd (dOp dSub (dBor 6) (dC (.int 1))) (dOp dMul (dOp dAdd (dBor 5) (dC (.int 1))) (dBor 2))))
def t_spread_2 (K : PySem.W.Frag) : DS := (dFor (diR1 (dCons (dCB dMin2 (dCons (dBor 4) (dCons (dOp dSub (dBor 1) (dCB dLen (dCons (dBor 3) dNil))) dNil))) dNil)) (dgName 5) (t_spread_1 K))
def t_spread_a8 (K : PySem.W.Frag) : DS := (dRet (dCB dTupOf (dCons (dBor 3) dNil)))
def t_spread_a5 (K : PySem.W.Frag) : DS := (dSeq (dFor (diZM (dCons (dCall sp_gaps (dCons (dVar 0) dNil)) (dCons (dCall sp_most_in_gaps (dCons (dVar 0) (dCons (dVar 2) dNil))) dNil))) (dgTup 2 (dgCons (dgTup 2 (dgCons (dgName 6) (dgCons (dgName 7) dgNil))) (dgCons (dgName 4) dgNil))) (t_spread_2 K))
  (t_spread_a8 K))
def t_spread_a4 (K : PySem.W.Frag) : DS := (dSeq (dSetO 3 (doLst dNil))
  (t_spread_a5 K))
def t_spread_a2 (K : PySem.W.Frag) : DS := (dSeq (dIfS (dTest (dOp dGt (dBor 1) (dC (.int 2000))))
  dNever
  dNext)
  (t_spread_a4 K))
def t_spread (K : PySem.W.Frag) : DS := (dSeq (dAsg (dCall (sp_best_distance K) (dCons (dVar 0) (dCons (dVar 1) dNil))) (dgName 2))
  (t_spread_a2 K))
theorem b_spread {P : Program} {w : World} {K : PySem.W.Frag} {mg : Str → Option Value} {base : Heap} {f : Addr} {cdv : Value} {A : Around} {outer : List Env} {s : Shared} {H : Hp} {E : XK} (m_len : mg "len" = none) (m_min : mg "min" = none) (m_range : mg "range" = none) (m_tuple : mg "tuple" = none) (m_zip : mg "zip" = none) (c_best_distance : CalG P w K mg base 3 "best_distance" (sp_best_distance K)) (c_gaps : CalG P w K mg base 1 "gaps" sp_gaps) (c_most_in_gaps : CalG P w K mg base 2 "most_in_gaps" sp_most_in_gaps) {tk_LISTED : Tok} (g_LISTED : mg "LISTED" = some (.int 2000 tk_LISTED))
    (hr : Room 3 (A.deeper (envOfC "spread" (defScope s_spread) s.heap.objs.size f cdv))) (hG : A.guards = some []) :
    PSsD (bodyX P w K mg base N_spread "spread" s_spread f cdv A outer s H E) (fun cls d _ H => E cls d H) (defBody s_spread) (t_spread K) :=
  have tk := takes_of (X := bodyX P w K mg base N_spread "spread" s_spread f cdv A outer s H E) (E := E) rfl rfl rfl rfl
  (ss_cons (s_set (i := 2) sc_spread.nd rfl (by first | exact Or.inl rfl | exact Or.inr rfl) (d_call c_best_distance hr (by decide) hG tk (a_cons (d_var 0) (a_cons (d_var 1) a_nil))))
  (ss_cons (s_if (t_gt (d_bor 1) (PD.b (d_gint g_LISTED)))
  (ss_one s_never)
  ss_nil)
  (ss_cons (s_setO (i := 3) sc_spread.nd rfl (by first | exact Or.inl rfl | exact Or.inr rfl) (o_lst a_nil))
  (ss_cons (s_for (passes_of rfl) rfl (i_zipM m_zip (a_cons (d_call c_gaps hr (by decide) hG tk (a_cons (d_var 0) a_nil)) (a_cons (d_call c_most_in_gaps hr (by decide) hG tk (a_cons (d_var 0) (a_cons (d_var 2) a_nil))) a_nil))) (g_tup (n := 2) rfl (g_cons (g_tup (n := 2) rfl (g_cons (g_name (i := 6) sc_spread.nd rfl (by first | exact Or.inl rfl | exact Or.inr rfl)) (g_cons (g_name (i := 7) sc_spread.nd rfl (by first | exact Or.inl rfl | exact Or.inr rfl)) g_nil))) (g_cons (g_name (i := 4) sc_spread.nd rfl (by first | exact Or.inl rfl | exact Or.inr rfl)) g_nil)))
  (ss_one (s_for (passes_of rfl) rfl (i_range1 m_range (a_cons (d_min2 rfl m_min (b_cons (d_bor 4) (b_cons (PD.b (d_sub (d_bor 1) (PD.b (d_len m_len (b_cons (d_bor 3) b_nil))))) b_nil))) a_nil)) (g_name (i := 5) sc_spread.nd rfl (by first | exact Or.inl rfl | exact Or.inr rfl))
  (ss_one (s_app 3 (d_add (PD.b (d_sub (d_bor 6) (PD.b d_int))) (PD.b (d_mul (PD.b (d_add (d_bor 5) (PD.b d_int))) (d_bor 2)))))))))
  (ss_one (s_ret (d_tuple m_tuple (b_cons (d_bor 3) b_nil))))))))

abbrev s_l_shuffled_script : Stmt := top 42
abbrev N_l_shuffled_script : List Str := ["_law_script", "_law_cell", "_law_great", "_law_small"]
theorem sc_l_shuffled_script : FnScope N_l_shuffled_script ["_law_script"] (defScope s_l_shuffled_script) := ⟨rfl, rfl, rfl, by decide +kernel, rfl, by decide +kernel, by decide +kernel⟩
def t_l_shuffled_script_a5 (K : PySem.W.Frag) : DS := (dAsg (dOp dMod (dOp dAdd (dOp dAdd (dOp dMul (dBor 3) (dC (.int 1000003))) (dOp dMod (dCB dAbs (dCons (dBor 1) dNil)) (dC (.int 1000000007)))) (dCB dIntOf (dCons (dOp dLt (dBor 1) (dC (.int 0))) dNil))) (dC (.int 4611686018427387847))) (dgName 3))
def t_l_shuffled_script_1 (K : PySem.W.Frag) : DS := (dSeq (dIfS (dTest (dOp dGe (dCB dAbs (dCons (dBor 1) dNil)) (dOp dPow (dC (.int 10)) (dC (.int 18)))))
  (dAsg (dOp dAdd (dOp dMul (dBor 2) (dC (.int 3))) (dCB dAbs (dCons (dBor 1) dNil))) (dgName 2))
  dNext)
  (t_l_shuffled_script_a5 K))
def t_l_shuffled_script_a6 (K : PySem.W.Frag) : DS := (dRet (dObjD (doDisp ["great", "small", "drawn"] (dCons (dVar 2) (dCons (dVar 3) (dCons (dC (.int 0)) dNil))))))
def t_l_shuffled_script_a2 (K : PySem.W.Frag) : DS := (dSeq (dFor (diL (dSliceS K 0 lNone (lSome (dC (.int 60))))) (dgName 1) (t_l_shuffled_script_1 K))
  (t_l_shuffled_script_a6 K))
def t_l_shuffled_script (K : PySem.W.Frag) : DS := (dSeq (dParS 2 3 (slD (dC (.int 0)) (slD (dOp dAdd (dC (.int 7001)) (dOp dMul (dC (.int 3)) (dCB (dLenS K) (dCons (dBor 0) dNil)))) slNil)))
  (t_l_shuffled_script_a2 K))
theorem b_l_shuffled_script {P : Program} {w : World} {K : PySem.W.Frag} {mg : Str → Option Value} {base : Heap} {f : Addr} {cdv : Value} {A : Around} {outer : List Env} {s : Shared} {H : Hp} {E : XK} (m_abs : mg "abs" = none) (m_int : mg "int" = none) (m_len : mg "len" = none) 
    (hr : Room 0 (A.deeper (envOfC "_law_shuffled_script" (defScope s_l_shuffled_script) s.heap.objs.size f cdv))) (hG : A.guards = some []) :
    PSsD (bodyX P w K mg base N_l_shuffled_script "_law_shuffled_script" s_l_shuffled_script f cdv A outer s H E) (fun cls d _ H => E cls d H) (defBody s_l_shuffled_script) (t_l_shuffled_script K) :=
  have tk := takes_of (X := bodyX P w K mg base N_l_shuffled_script "_law_shuffled_script" s_l_shuffled_script f cdv A outer s H E) (E := E) rfl rfl rfl rfl
  (ss_cons (s_parS (i := 2) (j := 3) rfl sc_l_shuffled_script.nd rfl rfl (by decide) rfl rfl (sl_d d_int (sl_d (d_add (PD.b d_int) (PD.b (d_mul (PD.b d_int) (PD.b (d_lenS m_len (b_cons (d_bor 0) b_nil)))))) sl_nil)) rfl)
  (ss_cons (s_for (passes_of rfl) rfl (i_list (d_sliceS 0 l_none (l_some d_int))) (g_name (i := 1) sc_l_shuffled_script.nd rfl (by first | exact Or.inl rfl | exact Or.inr rfl))
  (ss_cons (s_if (t_ge (PD.b (d_abs m_abs (b_cons (d_bor 1) b_nil))) (PD.b (d_pow (PD.b d_int) (PD.b d_int))))
  (ss_one (s_set (i := 2) sc_l_shuffled_script.nd rfl (by first | exact Or.inl rfl | exact Or.inr rfl) (d_add (PD.b (d_mul (d_bor 2) (PD.b d_int))) (PD.b (d_abs m_abs (b_cons (d_bor 1) b_nil))))))
  ss_nil)
  (ss_one (s_set (i := 3) sc_l_shuffled_script.nd rfl (by first | exact Or.inl rfl | exact Or.inr rfl) (d_mod (PD.b (d_add (PD.b (d_add (PD.b (d_mul (d_bor 3) (PD.b d_int))) (PD.b (d_mod (PD.b (d_abs m_abs (b_cons (d_bor 1) b_nil))) (PD.b d_int))))) (PD.b (d_int_ m_int (b_cons (PD.b (d_lt (d_bor 1) (PD.b d_int))) b_nil))))) (PD.b d_int))))))
  (ss_one (s_ret (POd.obj (od_disp (names := ["great", "small", "drawn"]) (pr_cons (d_var 2) (pr_cons (d_var 3) (pr_cons d_int pr_nil))) (by decide) (by decide) rfl rfl rfl (by simp)))))))

abbrev s_l_pull : Stmt := top 43
abbrev N_l_pull : List Str := ["_law_well", "_law_many", "_law_drawn", "_law_much", "_law_digit"]
theorem sc_l_pull : FnScope N_l_pull ["_law_well", "_law_many"] (defScope s_l_pull) := ⟨rfl, rfl, rfl, by decide +kernel, rfl, by decide +kernel, by decide +kernel⟩
def t_l_pull_y1 : DS := (dSeq (dAsg (dOp dMod (dDGet (dBor 0) (dC (.str "great"))) (dBor 1)) (dgName 4))
  (dSeq (dHPut (dVar 0) (dC (.str "great")) (dOp dDiv (dDGet (dBor 0) (dC (.str "great"))) (dBor 1)))
  (dRet (dVar 4))))
def t_l_pull_a5 : DS := (dSeq (dAsg (dOp dAdd (dDGet (dBor 0) (dC (.str "drawn"))) (dC (.int 1))) (dgName 2))
  (dSeq (dHPut (dVar 0) (dC (.str "drawn")) (dVar 2))
  (dSeq (dAsg (dOp dMod (dOp dAdd (dDGet (dBor 0) (dC (.str "small"))) (dOp dMul (dBor 2) (dC (.int 2654435769)))) (dC (.int 4611686018427387847))) (dgName 3))
  (dSeq (dAsg (dOp dMod (dOp dMul (dOp dMod (dOp dMul (dBor 3) (dBor 3)) (dC (.int 4611686018427387847))) (dOp dAdd (dOp dMul (dBor 2) (dBor 2)) (dC (.int 48271)))) (dC (.int 4611686018427387847))) (dgName 3))
  (dRet (dOp dMod (dOp dDiv (dBor 3) (dC (.int 65536))) (dBor 1)))))))
def t_l_pull : DS := (dSeq (dIfS (dTest (dOp dGt (dDGet (dBor 0) (dC (.str "great"))) (dC (.int 0))))
  t_l_pull_y1
  dNext)
  t_l_pull_a5)
theorem b_l_pull {P : Program} {w : World} {K : PySem.W.Frag} {mg : Str → Option Value} {base : Heap} {f : Addr} {cdv : Value} {A : Around} {outer : List Env} {s : Shared} {H : Hp} {E : XK}  
    (hr : Room 0 (A.deeper (envOfC "_law_pull" (defScope s_l_pull) s.heap.objs.size f cdv))) (hG : A.guards = some []) :
    PSsD (bodyX P w K mg base N_l_pull "_law_pull" s_l_pull f cdv A outer s H E) (fun cls d _ H => E cls d H) (defBody s_l_pull) t_l_pull :=
  have tk := takes_of (X := bodyX P w K mg base N_l_pull "_law_pull" s_l_pull f cdv A outer s H E) (E := E) rfl rfl rfl rfl
  (ss_cons (s_if (t_gt (PD.b (d_dget (hu_of hr) (d_bor 0) d_str)) (PD.b d_int))
  (ss_cons (s_set (i := 4) sc_l_pull.nd rfl (by first | exact Or.inl rfl | exact Or.inr rfl) (d_mod (PD.b (d_dget (hu_of hr) (d_bor 0) d_str)) (d_bor 1)))
  (ss_cons (s_hput (hu_of hr) (d_div (PD.b (d_dget (hu_of hr) (d_bor 0) d_str)) (d_bor 1)) (d_var 0) d_str)
  (ss_one (s_ret (d_var 4)))))
  ss_nil)
  (ss_cons (s_set (i := 2) sc_l_pull.nd rfl (by first | exact Or.inl rfl | exact Or.inr rfl) (d_add (PD.b (d_dget (hu_of hr) (d_bor 0) d_str)) (PD.b d_int)))
  (ss_cons (s_hput (hu_of hr) (d_var 2) (d_var 0) d_str)
  (ss_cons (s_set (i := 3) sc_l_pull.nd rfl (by first | exact Or.inl rfl | exact Or.inr rfl) (d_mod (PD.b (d_add (PD.b (d_dget (hu_of hr) (d_bor 0) d_str)) (PD.b (d_mul (d_bor 2) (PD.b d_int))))) (PD.b d_int)))
  (ss_cons (s_set (i := 3) sc_l_pull.nd rfl (by first | exact Or.inl rfl | exact Or.inr rfl) (d_mod (PD.b (d_mul (PD.b (d_mod (PD.b (d_mul (d_bor 3) (d_bor 3))) (PD.b d_int))) (PD.b (d_add (PD.b (d_mul (d_bor 2) (d_bor 2))) (PD.b d_int))))) (PD.b d_int)))
  (ss_one (s_ret (d_mod (PD.b (d_div (d_bor 3) (PD.b d_int))) (d_bor 1)))))))))

abbrev s_l_far_row : Stmt := top 44
abbrev N_l_far_row : List Str := ["_law_well", "_law_sitters", "_law_sizes", "_law_k", "_law_many", "_law_way", "_law_some", "_law_base", "_law_taken", "_law_seat"]
theorem sc_l_far_row : FnScope N_l_far_row ["_law_well", "_law_sitters"] (defScope s_l_far_row) := ⟨rfl, rfl, rfl, by decide +kernel, rfl, by decide +kernel, by decide +kernel⟩
def t_l_far_row_a6 : DS := (dApp 8 (dOp dMod (dBor 9) (dBor 4)))
def t_l_far_row_1 : DS := (dSeq (dAsg (dOp dIx (dLst (dCons (dCall sp_l_pull (dCons (dVar 0) (dCons (dVar 4) dNil))) (dCons (dOp dAdd (dBor 7) (dOp dMul (dBor 3) (dOp dAdd (dC (.int 1)) (dCall sp_l_pull (dCons (dVar 0) (dCons (dC (.int 9)) dNil)))))) (dCons (dOp dMul (dOp dAdd (dBor 3) (dC (.int 1))) (dOp dDiv (dBor 4) (dOp dAdd (dBor 6) (dC (.int 1))))) dNil)))) (dBor 5)) (dgName 9))
  t_l_far_row_a6)
def t_l_far_row_a7 : DS := (dRet (dTup (dCons (dVar 4) (dCons (dCB dTupOf (dCons (dCB dSortedS (dCons (dBor 8) dNil)) dNil)) dNil))))
def t_l_far_row_a4 : DS := (dSeq (dFor (diR1 (dCons (dVar 6) dNil)) (dgName 3) t_l_far_row_1)
  t_l_far_row_a7)
def t_l_far_row_a3 : DS := (dSeq (dParS3 6 7 8 (slD (dCall sp_l_pull (dCons (dVar 0) (dCons (dOp dAdd (dBor 1) (dC (.int 1))) dNil))) (slD (dCall sp_l_pull (dCons (dVar 0) (dCons (dVar 4) dNil))) (slO (doLst dNil) slNil))))
  t_l_far_row_a4)
def t_l_far_row_a2 : DS := (dSeq (dParS 4 5 (slD (dOp dIx (dBor 2) (dCall sp_l_pull (dCons (dVar 0) (dCons (dC (.int 3)) dNil)))) (slD (dCall sp_l_pull (dCons (dVar 0) (dCons (dC (.int 3)) dNil))) slNil)))
  t_l_far_row_a3)
def t_l_far_row : DS := (dSeq (dAsg (dLst (dCons (dOp dSub (dOp dPow (dC (.int 10)) (dC (.int 12))) (dCall sp_l_pull (dCons (dVar 0) (dCons (dC (.int 3)) dNil)))) (dCons (dOp dSub (dOp dPow (dC (.int 2)) (dC (.int 39))) (dCall sp_l_pull (dCons (dVar 0) (dCons (dC (.int 2)) dNil)))) (dCons (dOp dAdd (dC (.int 1000)) (dCall sp_l_pull (dCons (dVar 0) (dCons (dOp dPow (dC (.int 10)) (dC (.int 11))) dNil)))) dNil)))) (dgName 2))
  t_l_far_row_a2)
theorem b_l_far_row {P : Program} {w : World} {K : PySem.W.Frag} {mg : Str → Option Value} {base : Heap} {f : Addr} {cdv : Value} {A : Around} {outer : List Env} {s : Shared} {H : Hp} {E : XK} (m_range : mg "range" = none) (m_set : mg "set" = none) (m_sorted : mg "sorted" = none) (m_tuple : mg "tuple" = none) (c_l_pull : CalG P w K mg base 1 "_law_pull" sp_l_pull)
    (hr : Room 1 (A.deeper (envOfC "_law_far_row" (defScope s_l_far_row) s.heap.objs.size f cdv))) (hG : A.guards = some []) :
    PSsD (bodyX P w K mg base N_l_far_row "_law_far_row" s_l_far_row f cdv A outer s H E) (fun cls d _ H => E cls d H) (defBody s_l_far_row) t_l_far_row :=
  have tk := takes_of (X := bodyX P w K mg base N_l_far_row "_law_far_row" s_l_far_row f cdv A outer s H E) (E := E) rfl rfl rfl rfl
  (ss_cons (s_set (i := 2) sc_l_far_row.nd rfl (by first | exact Or.inl rfl | exact Or.inr rfl) (d_lst (a_cons (d_sub (PD.b (d_pow (PD.b d_int) (PD.b d_int))) (PD.b (d_call c_l_pull hr (by decide) hG tk (a_cons (d_var 0) (a_cons d_int a_nil))))) (a_cons (d_sub (PD.b (d_pow (PD.b d_int) (PD.b d_int))) (PD.b (d_call c_l_pull hr (by decide) hG tk (a_cons (d_var 0) (a_cons d_int a_nil))))) (a_cons (d_add (PD.b d_int) (PD.b (d_call c_l_pull hr (by decide) hG tk (a_cons (d_var 0) (a_cons (d_pow (PD.b d_int) (PD.b d_int)) a_nil))))) a_nil)))))
  (ss_cons (s_parS (i := 4) (j := 5) rfl sc_l_far_row.nd rfl rfl (by decide) rfl rfl (sl_d (d_ix (d_bor 2) (PD.b (d_call c_l_pull hr (by decide) hG tk (a_cons (d_var 0) (a_cons d_int a_nil))))) (sl_d (d_call c_l_pull hr (by decide) hG tk (a_cons (d_var 0) (a_cons d_int a_nil))) sl_nil)) rfl)
  (ss_cons (s_parS3 (i := 6) (j := 7) (l := 8) rfl sc_l_far_row.nd rfl rfl rfl (by decide) (by decide) (by decide) rfl rfl rfl (sl_d (d_call c_l_pull hr (by decide) hG tk (a_cons (d_var 0) (a_cons (d_add (d_bor 1) (PD.b d_int)) a_nil))) (sl_d (d_call c_l_pull hr (by decide) hG tk (a_cons (d_var 0) (a_cons (d_var 4) a_nil))) (sl_o (o_lst a_nil) sl_nil))) rfl)
  (ss_cons (s_for (passes_of rfl) rfl (i_range1 m_range (a_cons (d_var 6) a_nil)) (g_name (i := 3) sc_l_far_row.nd rfl (by first | exact Or.inl rfl | exact Or.inr rfl))
  (ss_cons (s_set (i := 9) sc_l_far_row.nd rfl (by first | exact Or.inl rfl | exact Or.inr rfl) (d_ix (PD.b (d_lst (a_cons (d_call c_l_pull hr (by decide) hG tk (a_cons (d_var 0) (a_cons (d_var 4) a_nil))) (a_cons (d_add (d_bor 7) (PD.b (d_mul (d_bor 3) (PD.b (d_add (PD.b d_int) (PD.b (d_call c_l_pull hr (by decide) hG tk (a_cons (d_var 0) (a_cons d_int a_nil))))))))) (a_cons (d_mul (PD.b (d_add (d_bor 3) (PD.b d_int))) (PD.b (d_div (d_bor 4) (PD.b (d_add (d_bor 6) (PD.b d_int)))))) a_nil))))) (d_bor 5)))
  (ss_one (s_app 8 (d_mod (d_bor 9) (d_bor 4))))))
  (ss_one (s_ret (d_tup (a_cons (d_var 4) (a_cons (d_tuple m_tuple (b_cons (PD.b (d_sortedS rfl m_sorted m_set (b_cons (d_bor 8) b_nil))) b_nil)) a_nil)))))))))

abbrev s_l_free : Stmt := top 45
abbrev N_l_free : List Str := ["_law_row"]
theorem sc_l_free : FnScope N_l_free ["_law_row"] (defScope s_l_free) := ⟨rfl, rfl, rfl, by decide +kernel, rfl, by decide +kernel, by decide +kernel⟩
def t_l_free : DS := (dRet (dOp dSub (dOp dIx (dBor 0) (dC (.int 0))) (dCB dLen (dCons (dOp dIx (dBor 0) (dC (.int 1))) dNil))))
theorem b_l_free {P : Program} {w : World} {K : PySem.W.Frag} {mg : Str → Option Value} {base : Heap} {f : Addr} {cdv : Value} {A : Around} {outer : List Env} {s : Shared} {H : Hp} {E : XK} (m_len : mg "len" = none) 
    (hr : Room 0 (A.deeper (envOfC "_law_free" (defScope s_l_free) s.heap.objs.size f cdv))) (hG : A.guards = some []) :
    PSsD (bodyX P w K mg base N_l_free "_law_free" s_l_free f cdv A outer s H E) (fun cls d _ H => E cls d H) (defBody s_l_free) t_l_free :=
  have tk := takes_of (X := bodyX P w K mg base N_l_free "_law_free" s_l_free f cdv A outer s H E) (E := E) rfl rfl rfl rfl
  (ss_one (s_ret (d_sub (PD.b (d_ix (d_bor 0) (PD.b d_int))) (PD.b (d_len m_len (b_cons (PD.b (d_ix (d_bor 0) (PD.b d_int))) b_nil))))))

abbrev s_l_bounds_right : Stmt := top 46
abbrev N_l_bounds_right : List Str := ["_law_row", "_law_count", "_law_width", "_law_told", "_law_best", "_law_near"]
theorem sc_l_bounds_right : FnScope N_l_bounds_right ["_law_row", "_law_count"] (defScope s_l_bounds_right) := ⟨rfl, rfl, rfl, by decide +kernel, rfl, by decide +kernel, by decide +kernel⟩
def t_l_bounds_right_a6 (K : PySem.W.Frag) : DS := (dRet (dAndV (dOp dEq (dOp dIx (dBor 3) (dC (.int 0))) (dBor 4)) (dAndV (dOp dEq (dCB dSumT (dCons (dOp dIx (dBor 3) (dC (.int 1))) dNil)) (dBor 1)) (dOp dIsB (dCall (sp_best_holds K) (dCons (dVar 0) (dCons (dVar 1) (dCons (dVar 3) dNil)))) (dC (.bl true))))))
def t_l_bounds_right_a5 (K : PySem.W.Frag) : DS := (dSeq (dAsg (dCall (sp_best_certificate K) (dCons (dVar 0) (dCons (dVar 1) dNil))) (dgName 3))
  (t_l_bounds_right_a6 K))
def t_l_bounds_right_a3 (K : PySem.W.Frag) : DS := (dSeq (dIfS (dOrT (dNotT (dTest (dChain dLe dLe (dBor 5) (dBor 4) (dBor 2)))) (dOrT (dTest (dOp dGt (dBor 4) (dOp dMul (dC (.int 2)) (dBor 5)))) (dTest (dOp dNe (dBor 5) (dOp dDiv (dOp dAdd (dBor 2) (dC (.int 1))) (dC (.int 2)))))))
  (dRet (dC (.bl false)))
  dNext)
  (t_l_bounds_right_a5 K))
def t_l_bounds_right_a2 (K : PySem.W.Frag) : DS := (dSeq (dAsg (dOp dIx (dCall sp_gap_of (dCons (dVar 0) (dCons (dCall sp_seat_of (dCons (dVar 0) (dCons (dOp dSub (dBor 1) (dC (.int 1))) dNil))) dNil))) (dC (.int 1))) (dgName 2))
  (t_l_bounds_right_a3 K))
def t_l_bounds_right (K : PySem.W.Frag) : DS := (dSeq (dParS 4 5 (slD (dCall (sp_best_distance K) (dCons (dVar 0) (dCons (dVar 1) dNil))) (slD (dOp dIx (dCall (spStar 1 (sp_distances_of K)) (dCons (dVar 0) (dCons (dOp dSub (dBor 1) (dC (.int 1))) dNil))) (dC (.int 0))) slNil)))
  (t_l_bounds_right_a2 K))
theorem b_l_bounds_right {P : Program} {w : World} {K : PySem.W.Frag} {mg : Str → Option Value} {base : Heap} {f : Addr} {cdv : Value} {A : Around} {outer : List Env} {s : Shared} {H : Hp} {E : XK} (m_sum : mg "sum" = none) (c_best_certificate : CalG P w K mg base 4 "best_certificate" (sp_best_certificate K)) (c_best_distance : CalG P w K mg base 3 "best_distance" (sp_best_distance K)) (c_best_holds : CalG P w K mg base 3 "best_holds" (sp_best_holds K)) (c_distances_of : CalG P w K mg base 4 "distances_of" (spStar 1 (sp_distances_of K))) (c_gap_of : CalG P w K mg base 3 "gap_of" sp_gap_of) (c_seat_of : CalG P w K mg base 5 "seat_of" sp_seat_of)
    (hr : Room 5 (A.deeper (envOfC "_law_bounds_right" (defScope s_l_bounds_right) s.heap.objs.size f cdv))) (hG : A.guards = some []) :
    PSsD (bodyX P w K mg base N_l_bounds_right "_law_bounds_right" s_l_bounds_right f cdv A outer s H E) (fun cls d _ H => E cls d H) (defBody s_l_bounds_right) (t_l_bounds_right K) :=
  have tk := takes_of (X := bodyX P w K mg base N_l_bounds_right "_law_bounds_right" s_l_bounds_right f cdv A outer s H E) (E := E) rfl rfl rfl rfl
  (ss_cons (s_parS (i := 4) (j := 5) rfl sc_l_bounds_right.nd rfl rfl (by decide) rfl rfl (sl_d (d_call c_best_distance hr (by decide) hG tk (a_cons (d_var 0) (a_cons (d_var 1) a_nil))) (sl_d (d_ix (PD.b (d_call c_distances_of hr (by decide) hG tk (a_cons (d_var 0) (a_cons (d_sub (d_bor 1) (PD.b d_int)) a_nil)))) (PD.b d_int)) sl_nil)) rfl)
  (ss_cons (s_set (i := 2) sc_l_bounds_right.nd rfl (by first | exact Or.inl rfl | exact Or.inr rfl) (d_ix (PD.b (d_call c_gap_of hr (by decide) hG tk (a_cons (d_var 0) (a_cons (d_call c_seat_of hr (by decide) hG tk (a_cons (d_var 0) (a_cons (d_sub (d_bor 1) (PD.b d_int)) a_nil))) a_nil)))) (PD.b d_int)))
  (ss_cons (s_if (PWD.t (w_or (t_not (t_chain op_le op_le (sim_I0 fun _ _ _ => fz_bl) (sim_I0 fun _ _ _ => fz_bl) (d_bor 5) (d_bor 4) (d_bor 2))) (w_or (t_gt (d_bor 4) (PD.b (d_mul (PD.b d_int) (d_bor 5)))) (w_or1 (t_ne hr.units (d_bor 5) (PD.b (d_div (PD.b (d_add (d_bor 2) (PD.b d_int))) (PD.b d_int))))))))
  (ss_one (s_ret d_bl))
  ss_nil)
  (ss_cons (s_set (i := 3) sc_l_bounds_right.nd rfl (by first | exact Or.inl rfl | exact Or.inr rfl) (d_call c_best_certificate hr (by decide) hG tk (a_cons (d_var 0) (a_cons (d_var 1) a_nil))))
  (ss_one (s_ret (d_and (d_eq hr.units (PD.b (d_ix (d_bor 3) (PD.b d_int))) (d_bor 4)) (d_and (d_eq hr.units (PD.b (d_sumT rfl m_sum (b_cons (PD.b (d_ix (d_bor 3) (PD.b d_int))) b_nil))) (d_bor 1)) (d_one (d_isB (PD.b (d_call c_best_holds hr (by decide) hG tk (a_cons (d_var 0) (a_cons (d_var 1) (a_cons (d_var 3) a_nil))))) (PD.b d_bl)))))))))))

abbrev s_l_spread_right : Stmt := top 47
abbrev N_l_spread_right : List Str := ["_law_row", "_law_count", "_law_seats", "_law_best", "_law_k", "_law_seat"]
theorem sc_l_spread_right : FnScope N_l_spread_right ["_law_row", "_law_count"] (defScope s_l_spread_right) := ⟨rfl, rfl, rfl, by decide +kernel, rfl, by decide +kernel, by decide +kernel⟩
def t_l_spread_right_a6 (K : PySem.W.Frag) : DS := (dRet (dOp dEq (dFl (dLc (diT (dVar 2)) (dgName 5) (dOrT (dTest (dOp (dIn false) (dBor 5) (dOp dIx (dBor 0) (dC (.int 1))))) (dTest (dOp dLt (dCall (sp_distance_at K) (dCons (dVar 0) (dCons (dVar 5) dNil))) (dBor 3)))) (dVar 5) [5])) (dLst dNil)))
def t_l_spread_right_a4 (K : PySem.W.Frag) : DS := (dSeq (dIfS (dTest (dOp dNe (dFl (dLc (diR2 (dCons (dC (.int 1)) (dCons (dVar 1) dNil))) (dgName 4) (dTest (dOp dLt (dOp dSub (dOp dIx (dBor 2) (dBor 4)) (dOp dIx (dBor 2) (dOp dSub (dBor 4) (dC (.int 1))))) (dBor 3))) (dVar 4) [4])) (dLst dNil)))
  (dRet (dC (.bl false)))
  dNext)
  (t_l_spread_right_a6 K))
def t_l_spread_right_a2 (K : PySem.W.Frag) : DS := (dSeq (dIfS (dOrT (dTest (dOp dNe (dCB dLen (dCons (dBor 2) dNil)) (dBor 1))) (dTest (dOp dNe (dCB dLstOf (dCons (dBor 2) dNil)) (dCB dSortedST (dCons (dBor 2) dNil)))))
  (dRet (dC (.bl false)))
  dNext)
  (t_l_spread_right_a4 K))
def t_l_spread_right (K : PySem.W.Frag) : DS := (dSeq (dAsg (dTup (dCons (dCall (sp_spread K) (dCons (dVar 0) (dCons (dVar 1) dNil))) (dCons (dCall (sp_best_distance K) (dCons (dVar 0) (dCons (dVar 1) dNil))) dNil))) (dgTup 2 (dgCons (dgName 2) (dgCons (dgName 3) dgNil))))
  (t_l_spread_right_a2 K))
theorem b_l_spread_right {P : Program} {w : World} {K : PySem.W.Frag} {mg : Str → Option Value} {base : Heap} {f : Addr} {cdv : Value} {A : Around} {outer : List Env} {s : Shared} {H : Hp} {E : XK} (m_len : mg "len" = none) (m_list : mg "list" = none) (m_range : mg "range" = none) (m_set : mg "set" = none) (m_sorted : mg "sorted" = none) (c_best_distance : CalG P w K mg base 3 "best_distance" (sp_best_distance K)) (c_distance_at : CalG P w K mg base 2 "distance_at" (sp_distance_at K)) (c_spread : CalG P w K mg base 4 "spread" (sp_spread K))
    (hr : Room 4 (A.deeper (envOfC "_law_spread_right" (defScope s_l_spread_right) s.heap.objs.size f cdv))) (hG : A.guards = some []) :
    PSsD (bodyX P w K mg base N_l_spread_right "_law_spread_right" s_l_spread_right f cdv A outer s H E) (fun cls d _ H => E cls d H) (defBody s_l_spread_right) (t_l_spread_right K) :=
  have tk := takes_of (X := bodyX P w K mg base N_l_spread_right "_law_spread_right" s_l_spread_right f cdv A outer s H E) (E := E) rfl rfl rfl rfl
  (ss_cons (s_asg (d_tup (a_cons (d_call c_spread hr (by decide) hG tk (a_cons (d_var 0) (a_cons (d_var 1) a_nil))) (a_cons (d_call c_best_distance hr (by decide) hG tk (a_cons (d_var 0) (a_cons (d_var 1) a_nil))) a_nil))) (g_tup (n := 2) rfl (g_cons (g_name (i := 2) sc_l_spread_right.nd rfl (by first | exact Or.inl rfl | exact Or.inr rfl)) (g_cons (g_name (i := 3) sc_l_spread_right.nd rfl (by first | exact Or.inl rfl | exact Or.inr rfl)) g_nil))))
  (ss_cons (s_if (PWD.t (w_or (t_ne hr.units (PD.b (d_len m_len (b_cons (d_bor 2) b_nil))) (d_bor 1)) (w_or1 (t_ne hr.units (PD.b (d_list m_list (b_cons (d_bor 2) b_nil))) (PD.b (d_sortedST rfl m_sorted m_set (b_cons (d_bor 2) b_nil)))))))
  (ss_one (s_ret d_bl))
  ss_nil)
  (ss_cons (s_if (t_ne hr.units (PD.b (PO.d (o_lc (own := [("_law_k", 4)]) rfl sc_l_spread_right.nd (i_range2 m_range (a_cons d_int (a_cons (d_var 1) a_nil))) (blkOk_by (own := [("_law_k", 4)]) (N := N_l_spread_right) (sc := defScope s_l_spread_right) (by decide +kernel)) (fun _ => (v_name (i := 4) (by decide) sc_l_spread_right.nd rfl (by first | exact Or.inl rfl | exact Or.inr rfl))) (fun _ => (ts_one (t_lt (PD.b (d_sub (PD.b (d_ix (d_bor 2) (d_bor 4))) (PD.b (d_ix (d_bor 2) (PD.b (d_sub (d_bor 4) (PD.b d_int))))))) (d_bor 3)))) (fun _ => (d_var 4))))) (PD.b (d_lst a_nil)))
  (ss_one (s_ret d_bl))
  ss_nil)
  (ss_one (s_ret (d_eq hr.units (PD.b (PO.d (o_lc (own := [("_law_seat", 5)]) rfl sc_l_spread_right.nd (i_tup (d_var 2)) (blkOk_by (own := [("_law_seat", 5)]) (N := N_l_spread_right) (sc := defScope s_l_spread_right) (by decide +kernel)) (fun _ => (v_name (i := 5) (by decide) sc_l_spread_right.nd rfl (by first | exact Or.inl rfl | exact Or.inr rfl))) (fun _ => (ts_one (PWD.t (w_or (t_in (d_bor 5) (PD.b (d_ix (d_bor 0) (PD.b d_int)))) (w_or1 (t_lt (PD.b (d_call c_distance_at hr (by decide) hG takes0 (a_cons (d_var 0) (a_cons (d_var 5) a_nil)))) (d_bor 3))))))) (fun _ => (d_var 5))))) (PD.b (d_lst a_nil))))))))

abbrev s_law : Stmt := top 48
abbrev N_law : List Str := ["_law_script", "_law_well", "_law_turn", "_law_row", "_law_free_here", "_law_counts", "_law_count", "_law_found"]
theorem sc_law : FnScope N_law ["_law_script"] (defScope s_law) := ⟨rfl, rfl, rfl, by decide +kernel, rfl, by decide +kernel, by decide +kernel⟩
def t_law_1 (K : PySem.W.Frag) : DS := (dIfS (dNotT (dTest (dCall (sp_l_bounds_right K) (dCons (dVar 3) (dCons (dVar 6) dNil)))))
  (dRet (dC (.bl false)))
  dNext)
def t_law_a12 (K : PySem.W.Frag) : DS := (dIfS (dNotT (dTest (dCall (sp_l_spread_right K) (dCons (dVar 3) (dCons (dOp dAdd (dC (.int 1)) (dCall sp_l_pull (dCons (dVar 1) (dCons (dC (.int 40)) dNil)))) dNil)))))
  (dRet (dC (.bl false)))
  dNext)
def t_law_a10 (K : PySem.W.Frag) : DS := (dSeq (dIfS (dOrT (dTest (dOp dNe (dBor 7) (dRevL (dCB dSorted (dCons (dBor 7) dNil))))) (dTest (dOp dNe (dOp dIx (dBor 7) (dNeg (dC (.int 1)))) (dC (.int 1)))))
  (dRet (dC (.bl false)))
  dNext)
  (t_law_a12 K))
def t_law_a9 (K : PySem.W.Frag) : DS := (dSeq (dSeq (dSetO 7 (dLc (diL (dVar 5)) (dgName 6) dYes (dCall (sp_best_distance K) (dCons (dVar 3) (dCons (dVar 6) dNil))) [6])) (dFreeze 7 dNext))
  (t_law_a10 K))
def t_law_a6 (K : PySem.W.Frag) : DS := (dSeq (dFor (diL (dVar 5)) (dgName 6) (t_law_1 K))
  (t_law_a9 K))
def t_law_a5 (K : PySem.W.Frag) : DS := (dSeq (dAsg (dCB dSorted (dCons (dLst (dCons (dC (.int 1)) (dCons (dOp dAdd (dC (.int 1)) (dCall sp_l_pull (dCons (dVar 1) (dCons (dC (.int 60)) dNil)))) (dCons (dOp dAdd (dC (.int 1)) (dCall sp_l_pull (dCons (dVar 1) (dCons (dVar 4) dNil)))) (dCons (dVar 4) dNil))))) dNil)) (dgName 5))
  (t_law_a6 K))
def t_law_a4 (K : PySem.W.Frag) : DS := (dSeq (dAsg (dCall sp_l_free (dCons (dVar 3) dNil)) (dgName 4))
  (t_law_a5 K))
def t_law_2 (K : PySem.W.Frag) : DS := (dSeq (dAsg (dCall sp_l_far_row (dCons (dVar 1) (dCons (dC (.int 40)) dNil))) (dgName 3))
  (t_law_a4 K))
def t_law_a14 (K : PySem.W.Frag) : DS := (dRet (dC (.bl true)))
def t_law_a2 (K : PySem.W.Frag) : DS := (dSeq (dFor (diR1 (dCons (dC (.int 3)) dNil)) (dgName 2) (t_law_2 K))
  (t_law_a14 K))
def t_law (K : PySem.W.Frag) : DS := (dSeq (dAsg (dCall (sp_l_shuffled_script K) (dCons (dVar 0) dNil)) (dgName 1))
  (t_law_a2 K))
theorem b_law {P : Program} {w : World} {K : PySem.W.Frag} {mg : Str → Option Value} {base : Heap} {f : Addr} {cdv : Value} {A : Around} {outer : List Env} {s : Shared} {H : Hp} {E : XK} (m_range : mg "range" = none) (m_sorted : mg "sorted" = none) (c_l_bounds_right : CalG P w K mg base 6 "_law_bounds_right" (sp_l_bounds_right K)) (c_l_far_row : CalG P w K mg base 2 "_law_far_row" sp_l_far_row) (c_l_free : CalG P w K mg base 1 "_law_free" sp_l_free) (c_l_pull : CalG P w K mg base 1 "_law_pull" sp_l_pull) (c_l_shuffled_script : CalG P w K mg base 1 "_law_shuffled_script" (sp_l_shuffled_script K)) (c_l_spread_right : CalG P w K mg base 5 "_law_spread_right" (sp_l_spread_right K)) (c_best_distance : CalG P w K mg base 3 "best_distance" (sp_best_distance K))
    (hr : Room 6 (A.deeper (envOfC "law" (defScope s_law) s.heap.objs.size f cdv))) (hG : A.guards = some []) :
    PSsD (bodyX P w K mg base N_law "law" s_law f cdv A outer s H E) (fun cls d _ H => E cls d H) (defBody s_law) (t_law K) :=
  have tk := takes_of (X := bodyX P w K mg base N_law "law" s_law f cdv A outer s H E) (E := E) rfl rfl rfl rfl
  (ss_cons (s_set (i := 1) sc_law.nd rfl (by first | exact Or.inl rfl | exact Or.inr rfl) (d_call c_l_shuffled_script hr (by decide) hG tk (a_cons (d_var 0) a_nil)))
  (ss_cons (s_for (passes_of rfl) rfl (i_range1 m_range (a_cons d_int a_nil)) (g_name (i := 2) sc_law.nd rfl (by first | exact Or.inl rfl | exact Or.inr rfl))
  (ss_cons (s_set (i := 3) sc_law.nd rfl (by first | exact Or.inl rfl | exact Or.inr rfl) (d_call c_l_far_row hr (by decide) hG tk (a_cons (d_var 1) (a_cons d_int a_nil))))
  (ss_cons (s_set (i := 4) sc_law.nd rfl (by first | exact Or.inl rfl | exact Or.inr rfl) (d_call c_l_free hr (by decide) hG tk (a_cons (d_var 3) a_nil)))
  (ss_cons (s_set (i := 5) sc_law.nd rfl (by first | exact Or.inl rfl | exact Or.inr rfl) (d_sorted m_sorted (b_cons (PD.b (d_lst (a_cons d_int (a_cons (d_add (PD.b d_int) (PD.b (d_call c_l_pull hr (by decide) hG tk (a_cons (d_var 1) (a_cons d_int a_nil))))) (a_cons (d_add (PD.b d_int) (PD.b (d_call c_l_pull hr (by decide) hG tk (a_cons (d_var 1) (a_cons (d_var 4) a_nil))))) (a_cons (d_var 4) a_nil)))))) b_nil)))
  (ss_cons (s_for (passes_of rfl) rfl (i_list (d_var 5)) (g_name (i := 6) sc_law.nd rfl (by first | exact Or.inl rfl | exact Or.inr rfl))
  (ss_one (s_if (t_not (t_val (d_call c_l_bounds_right hr (by decide) hG tk (a_cons (d_var 3) (a_cons (d_var 6) a_nil)))))
  (ss_one (s_ret d_bl))
  ss_nil)))
  (ss_cons (s_then 7 (s_setLcO (own := [("_law_count", 6)]) (i := 7) rfl sc_law.nd rfl rfl (sw_true rfl rfl rfl (by decide +kernel)) (i_list (d_var 5)) (blkOk_by (own := [("_law_count", 6)]) (N := N_law) (sc := defScope s_law) (by decide +kernel)) (fun _ => (v_name (i := 6) (by decide) sc_law.nd rfl (by first | exact Or.inl rfl | exact Or.inr rfl))) (fun _ => ts_nil) (fun _ => (d_call c_best_distance hr (by decide) hG takes0 (a_cons (d_var 3) (a_cons (d_var 6) a_nil))))))
  (ss_cons (s_if (PWD.t (w_or (t_ne hr.units (d_bor 7) (PD.b (d_revL (PD.b (d_sorted m_sorted (b_cons (d_bor 7) b_nil)))))) (w_or1 (t_ne hr.units (PD.b (d_ix (d_bor 7) (PD.b (d_neg d_int)))) (PD.b d_int)))))
  (ss_one (s_ret d_bl))
  ss_nil)
  (ss_one (s_if (t_not (t_val (d_call c_l_spread_right hr (by decide) hG tk (a_cons (d_var 3) (a_cons (d_add (PD.b d_int) (PD.b (d_call c_l_pull hr (by decide) hG tk (a_cons (d_var 1) (a_cons d_int a_nil))))) a_nil)))))
  (ss_one (s_ret d_bl))
  ss_nil)))))))))
  (ss_one (s_ret d_bl))))

end DL

namespace DL
open PySem PySem.Spec PyProof.Rows L2
local macro_rules | `(tactic| trivial) => `(tactic| first | simp (config := { maxSteps := 3000000, implicitDefEqProofs := false }) (disch := first | omega | (refine id ?_; simp only [okN, okNL, okNL_ints, okNL_nats, okNL_bls, okNL_gaps, okNL_gapsL, okNL_append, Bool.and_self, Bool.and_true, Bool.true_and]; done) | assumption) only [rowD, gapD, gapLD, u_seq, nxt_nx, nxt_rt, nxt_xc, nxt_bk, nxt_ct, dAsg.eq_1, dgTup_t, dgTup_l, dgCons_c, dgNil_n, dgName.eq_1, u_var, u_bor, dC.eq_1, slP_d, boP_d, boP_l, boP_m, mlP_l, frP_d, frP_l, frP_m, frS_some, frS_none, dIfS.eq_1, u_test, dOrT.eq_1, dAndT.eq_1, dNotT.eq_1, dOp.eq_1, rd_int, rd_bl, rd_str, rd_non, rd_tup, rd_lst, rd_ty, rd_scr, rd_dic, rd_mL, rd_mD, rd_xcp, isX_ty, isX_obj, isX_tup, dCX.eq_1, isB_b, notB_b, dCntB.eq_1, cntP_l, cBl_n, cBl_c, isBl_b,  u_diZ, zpP_l, zpP_t, u_diE, enP_l, leP_p, dXF.eq_1, xfP_1, dRaise0.eq_1, dRaise1.eq_1, dTryAs.eq_1, dTryOnly.eq_1, blP_bl, inP_int, sqP_t, sqP_l, liP_l, tuP_t, cutP_l, cutP_t, catP_l, rgP_int, itP_some, r1P_i, r2P_i,
  u_andV, u_orV, u_notV, u_neg, u_star, u_diL, u_diT, u_some, u_slice, u_doOf, u_doCat, u_doRg, u_rgT, u_rgL, u_r1, u_r2, u_oset, ix_l, ix_t, add_ii, add_ss, add_ll, add_tt, sub_ii, mul_ii, mul_li, mod_ii, div_ii, pow_ii, lt_ii, le_ii, gt_ii, ge_ii, isN_n, notN_n, in_l, in_t, len_l, len_t, len_s, abs_i, max_ii, min_ii, int_i, int_b, tupOf_l, tupOf_t, lstOf_l, lstOf_t, is_l, bs_l, sortedT_t, repr_d, lenS_s, isi_non_int, isi_non_bool, isi_non_str, isi_non_tuple, isi_non_list, isi_non_dict, isi_bl_int, isi_bl_bool, isi_bl_str, isi_bl_tuple, isi_bl_list, isi_bl_dict, isi_int_int, isi_int_bool, isi_int_str, isi_int_tuple, isi_int_list, isi_int_dict, isi_str_int, isi_str_bool, isi_str_str, isi_str_tuple, isi_str_list, isi_str_dict, isi_tup_int, isi_tup_bool, isi_tup_str, isi_tup_tuple, isi_tup_list, isi_tup_dict, isi_lst_int, isi_lst_bool, isi_lst_str, isi_lst_tuple, isi_lst_list, isi_lst_dict, isi_dic_int, isi_dic_bool, isi_dic_str, isi_dic_tuple, isi_dic_list, isi_dic_dict, tyName,
  u_app, u_sext, dSIx, u_aug, dTup.eq_1, dLst.eq_1, dCons.eq_1, dNil.eq_1, u_parS, ssP2_2, u_parS3, ssP3_3, slO.eq_1, slD.eq_1, slNil.eq_1, doLst.eq_1, dFor.eq_1, diScr.eq_1, dRet.eq_1, dRetN.eq_1, dNext.eq_1, dCB.eq_1, dCall.eq_1, dFl.eq_1, dSum.eq_1, dAll.eq_1, dAny.eq_1, dMaxL.eq_1, dMinL.eq_1, isNon, u_frz, dDrop.eq_1, dLc.eq_1, dYes.eq_1, wipeS, dEq.eq_1, dNe.eq_1, dObj.eq_1, dSetO.eq_1, dIf.eq_1, dChain.eq_1, dSliceS.eq_1, lNone.eq_1, mset_same, mset_mset, dSortedS.eq_1, dSorted.eq_1, dBrk.eq_1, dCnt.eq_1,
  flatD, flat_ints, in_ints, take_map, drop_map, cmul_true, cdiv_true, cpow_true, gt_iff_lt, ge_iff_le, Int.reduceToNat, Int.reducePow, Int.reduceAdd, Int.reduceSub, Int.reduceLT, Int.reduceLE, Nat.reduceAdd, Nat.reduceMul, Nat.reduceLT, Nat.reduceLeDiff, Int.reduceMod, Int.reduceDiv, Int.reduceNeg, Int.reduceMul, Int.reduceEq, Int.reduceBEq, nc0, nc1, nc2, nc3, nc4, nc5, nc6, nc7, nc8, nc9, ex_some, ex_ints, ex_bls, le_line, lt_line, at0, at1, at2, at3, at4, at5, atI_map, atI_last, Option.map_some, cut_to, cut_from, cut_neg1, dDGet.eq_1, dHPut.eq_1, dObjD.eq_1, doDisp.eq_1, doEmp.eq_1, dFlD.eq_1, dRevL.eq_1, dgP_s, spStar.eq_1, eqOk_cn, eqOk_of, eqOk_str, eqv_tup, eqv_lst, eqv_tl, eqv_lt, eqv_nn, eqv_nt, eqv_tn, eqv_in, eqv_it, eqv_ti, eqv_bb, eqv_int, eqv_non_int, eqv_str, eqvL_nil, eqvL_cn, eqvL_nc, eqvL_cc, eqvL_ints, eqvL_snoc, eqvL_gaps, eqv_self, eqvL_self,
  List.getElem?_cons_succ, List.getElem?_cons_zero, List.set_cons_succ, List.set_cons_zero, List.map_cons, List.map_nil, List.length_cons, List.length_nil, List.length_map, List.length_append, List.length_take, List.length_drop, List.take_zero, List.drop_zero, List.take_succ_cons, List.drop_succ_cons, Nat.zero_le, Nat.zero_add, List.append_nil, List.nil_append, List.cons_append, decide_eq_true_eq, Bool.not_true, Bool.not_false, Bool.not_eq_true', decide_eq_false_iff_not, Bool.false_eq_true, Option.some.injEq, reduceCtorEq, if_true, if_false, ite_true, ite_false, true_and, and_true, and_self, exists_eq_left', exists_eq', Slot.ml.injEq, Slot.dat.injEq, D.scr.injEq, not_true_eq_false, not_false_eq_true, beq_self_eq_true, bne_self_eq_false, Bool.true_eq_false, decide_true, decide_false, Bool.and_true, Bool.true_and, Bool.and_false, Bool.false_and, Bool.or_true, Bool.true_or, Bool.or_false, Bool.false_or, ne_eq] | skip)
theorem look_wg {a b c : D} : lookD [(.inr "great", a), (.inr "small", b), (.inr "drawn", c)] (.inr "great") = some a := rfl
theorem look_ws {a b c : D} : lookD [(.inr "great", a), (.inr "small", b), (.inr "drawn", c)] (.inr "small") = some b := rfl
theorem look_wd {a b c : D} : lookD [(.inr "great", a), (.inr "small", b), (.inr "drawn", c)] (.inr "drawn") = some c := rfl
theorem put_wd {a b c d : D} : putD [(.inr "great", a), (.inr "small", b), (.inr "drawn", c)] (.inr "drawn") d = [(.inr "great", a), (.inr "small", b), (.inr "drawn", d)] := rfl
theorem e12 : (10 : Int) ^ 12 = 1000000000000 := by decide
theorem r_l_shuffled_script (K : PySem.W.Frag) : Keeps1 (sp_l_shuffled_script K) N_l_shuffled_script (t_l_shuffled_script K) := by
  rintro _ μ Q Z ⟨ns, rfl, hl, q⟩
  show t_l_shuffled_script K _ [.dat (.scr K ns), .no, .no, .no] μ
  unfold t_l_shuffled_script
  trivial
  unfold t_l_shuffled_script_a2
  trivial
  refine for_rest (fun r ρ μ' => ∃ (G S : Int) (s3 : Slot), ρ = [.dat (.scr K ns), s3, .dat (.int G), .dat (.int S)] ∧ μ' = μ ∧ 0 ≤ G ∧ 0 ≤ S ∧ S < 4611686018427387847) (ns.take 60) ⟨0, 7001 + 3 * (ns.length : Int), _, rfl, rfl, by omega, by omega, by omega⟩ ?_ ?_
  · rintro x r _ μ N - ⟨G, S, s3, rfl, rfl, G0, S0, S1⟩ k
    trivial
    unfold t_l_shuffled_script_1
    refine seq_gen fun N2 k2 => ?_
    have next : ∀ (G' : Int), 0 ≤ G' → N2 [.dat (.scr K ns), .dat (.int x), .dat (.int G'), .dat (.int S)] μ := fun G' hG => k2 _ _ (by
      unfold t_l_shuffled_script_a5
      trivial
      refine k _ _ ⟨G', _, _, rfl, rfl, hG, Int.emod_nonneg _ (by decide), Int.emod_lt_of_pos _ (by decide)⟩)
    trivial
    split
    · split
      · exact next _ (by omega)
      · exact next _ G0
    · split
      · exact next _ (by omega)
      · exact next _ G0
  · rintro _ _ ⟨G, S, s3, rfl, rfl, G0, S0, S1⟩
    unfold t_l_shuffled_script_a6
    trivial
    intro p hp
    exact q p _ ⟨G, S, 0, by rw [mset_same]; rfl, G0, S0, S1, Int.le_refl _, by omega⟩
theorem r_l_pull : Keeps1 sp_l_pull N_l_pull t_l_pull := by
  rintro _ μ Q Z ⟨p, n, m, rfl, m0, m1, hn, ⟨G, S, t, e, G0, S0, S1, t0, t1⟩, h⟩
  show t_l_pull _ [.dat (.obj p), .dat (.int m), .no, .no, .no] μ
  have e1 : rdD μ (.obj p) = .dic (wellK G S t) := rd_objD e
  unfold t_l_pull
  trivial
  simp only [e1, dgP_s, look_wg]
  trivial
  by_cases g0 : 0 < G
  · rw [if_pos g0]
    unfold t_l_pull_y1
    trivial
    simp only [e1, dgP_s, look_wg]
    trivial
    refine ⟨m0, ?_⟩
    rw [hpP_s e (by simp)]
    exact h _ _ ⟨G / m, S, t, by rw [mset_same]; rfl, Int.ediv_nonneg G0 (by omega), S0, S1, t0, by omega⟩ (Int.emod_nonneg _ (by omega)) (Int.emod_lt_of_pos _ m0)
  · rw [if_neg g0]
    unfold t_l_pull_a5
    trivial
    simp only [e1, dgP_s, look_wd]
    trivial
    rw [hpP_s e (by simp), put_wd]
    simp only [rd_mD, dgP_s, look_ws]
    trivial
    generalize hx1 : (S + (t + 1) * 2654435769) % 4611686018427387847 = x1
    have b1 : 0 ≤ x1 ∧ x1 < 4611686018427387847 := by
      rw [← hx1]
      exact ⟨Int.emod_nonneg _ (by decide), Int.emod_lt_of_pos _ (by decide)⟩
    generalize hx2 : x1 * x1 % 4611686018427387847 = x2
    have b2 : 0 ≤ x2 ∧ x2 < 4611686018427387847 := by
      rw [← hx2]
      exact ⟨Int.emod_nonneg _ (by decide), Int.emod_lt_of_pos _ (by decide)⟩
    trivial
    refine ⟨m0, h _ _ ⟨G, S, t + 1, by rw [mset_same], G0, S0, S1, by omega, by omega⟩ (Int.emod_nonneg _ (by omega)) (Int.emod_lt_of_pos _ m0)⟩
theorem row_of {s : Int} {ts fs : List Int} (s0 : 1 ≤ s) (u1 : ts.Pairwise (· < ·)) (u2 : ∀ k, k ∈ ts ↔ k ∈ fs) (hf : ∀ f ∈ fs, 0 ≤ f ∧ f < s) : RowOk s ts := ⟨s0, u1, fun t ht => hf t ((u2 t).mp ht)⟩
theorem r_is_integer : Keeps1 sp_is_integer N_is_integer t_is_integer := by
  rintro _ μ Q Z ⟨x, lo, hi, rfl, ho, q⟩
  show t_is_integer _ [.dat x, .dat (.int lo), .dat (.int hi)] μ
  unfold t_is_integer
  cases x with
  | int i =>
    unfold intIn at q
    trivial
    by_cases h : lo ≤ i
    · simpa [h] using q
    · simpa [h] using q
  | non => trivial; exact q
  | bl _ => trivial; exact q
  | str _ => trivial; exact q
  | tup _ => trivial; exact q
  | lst _ => trivial; exact q
  | dic _ => trivial; exact q
  | ty _ => simp [okR] at ho
  | ins _ _ => simp [okR] at ho
  | obj _ => simp [okR] at ho
  | scr _ _ => simp [okR] at ho
  | xcp _ _ _ _ => simp [okR] at ho
theorem r_l_far_row : Keeps1 sp_l_far_row N_l_far_row t_l_far_row := by
  rintro _ μ Q Z ⟨p, n, b, rfl, b0, b1, hn, hP, h⟩
  show t_l_far_row _ [.dat (.obj p), .dat (.int b), .no, .no, .no, .no, .no, .no, .no, .no] μ
  have e1 := e12
  unfold t_l_far_row
  trivial
  refine pull hP (by decide) (by decide) (by omega) fun z1 μ1 hP1 z10 z11 => ?_
  trivial
  refine pull hP1 (by decide) (by decide) (by omega) fun z2 μ2 hP2 z20 z21 => ?_
  trivial
  refine pull hP2 (by decide) (by decide) (by omega) fun z3 μ3 hP3 z30 z31 => ?_
  trivial
  unfold t_l_far_row_a2
  trivial
  refine pull hP3 (by decide) (by decide) (by omega) fun i4 μ4 hP4 i40 i41 => ?_
  trivial
  obtain ⟨s, es, s0, s1⟩ : ∃ s : Int, atI [D.int (1000000000000 - z1), .int (549755813888 - z2), .int (1000 + z3)] i4 = some (.int s) ∧ 1000 ≤ s ∧ s ≤ 1000000000000 := by
    have : i4 = 0 ∨ i4 = 1 ∨ i4 = 2 := by omega
    rcases this with rfl | rfl | rfl
    · exact ⟨_, rfl, by omega, by omega⟩
    · exact ⟨_, rfl, by omega, by omega⟩
    · exact ⟨_, rfl, by omega, by omega⟩
  simp only [es]
  trivial
  refine pull hP4 (by decide) (by decide) (by omega) fun way μ5 hP5 w0 w1 => ?_
  trivial
  unfold t_l_far_row_a3
  trivial
  refine pull hP5 (by omega) (by omega) (by omega) fun m μ6 hP6 m0 m1 => ?_
  trivial
  refine pull hP6 (by omega) (by omega) (by omega) fun base μ7 hP7 b2 b3 => ?_
  trivial
  unfold t_l_far_row_a4
  trivial
  refine for_range (fun i ρ μ => ∃ (fs : List Int) (s8 s9 : Slot), ρ = [.dat (.obj p), .dat (.int b), .dat (.lst [.int (1000000000000 - z1), .int (549755813888 - z2), .int (1000 + z3)]), s8, .dat (.int s), .dat (.int way), .dat (.int m), .dat (.int base), .ml (fs.map .int), s9] ∧ IsWell p (n + 7 + 2 * i) μ ∧ fs.length = i ∧ ∀ f ∈ fs, 0 ≤ f ∧ f < s) m.toNat ⟨[], _, _, rfl, hP7, rfl, by simp⟩ ?_ ?_
  · rintro i _ μ N hi ⟨fs, s8, s9, rfl, hP, hl, hf⟩ k
    trivial
    unfold t_l_far_row_1
    trivial
    refine pull hP (by omega) (by omega) (by omega) fun v μ8 hP8 v0 v1 => ?_
    trivial
    refine pull hP8 (by decide) (by decide) (by omega) fun u μ9 hP9 u0 u1 => ?_
    trivial
    have em : ∀ f : Int, fs.map D.int ++ [.int f] = (fs ++ [f]).map D.int := fun f => by simp
    obtain ⟨f, ef⟩ : ∃ f : Int, atI [D.int v, .int (base + (i : Int) * (1 + u)), .int (((i : Int) + 1) * (s / (m + 1)))] way = some (.int f) := by
      have : way = 0 ∨ way = 1 ∨ way = 2 := by omega
      rcases this with rfl | rfl | rfl
      · exact ⟨_, rfl⟩
      · exact ⟨_, rfl⟩
      · exact ⟨_, rfl⟩
    simp only [ef]
    trivial
    unfold t_l_far_row_a6
    trivial
    refine ⟨by omega, ?_⟩
    rw [em]
    refine k _ _ ⟨fs ++ [f % s], _, _, rfl, hP9.up (by omega), by simp [hl], fun g hg => ?_⟩
    rcases List.mem_append.mp hg with q | q
    · exact hf g q
    · rw [List.mem_singleton.mp q]
      exact ⟨Int.emod_nonneg _ (by omega), Int.emod_lt_of_pos _ (by omega)⟩
  · rintro _ μ8 ⟨fs, s8, s9, rfl, hP, hl, hf⟩
    unfold t_l_far_row_a7
    trivial
    refine ⟨by omega, fun ts u1 u2 u3 => h s ts μ8 (hP.up (by omega)) (row_of (by omega) u1 u2 hf) s0 (by omega) (by omega)⟩
local macro_rules | `(tactic| trivial) => `(tactic| first | simp (config := { maxSteps := 3000000, implicitDefEqProofs := false }) (disch := first | omega | (refine id ?_; simp only [okN, okNL, okNL_ints, okNL_nats, okNL_bls, okNL_gaps, okNL_gapsL, okNL_append, Bool.and_self, Bool.and_true, Bool.true_and]; done) | assumption) only [rowD, gapD, gapLD, u_seq, nxt_nx, nxt_rt, nxt_xc, nxt_bk, nxt_ct, dAsg.eq_1, dgTup_t, dgTup_l, dgCons_c, dgNil_n, dgName.eq_1, u_var, u_bor, dC.eq_1, slP_d, boP_d, boP_l, boP_m, mlP_l, frP_d, frP_l, frP_m, frS_some, frS_none, dIfS.eq_1, u_test, dOrT.eq_1, dAndT.eq_1, dNotT.eq_1, dOp.eq_1, rd_int, rd_bl, rd_str, rd_non, rd_tup, rd_lst, rd_ty, rd_scr, rd_dic, rd_mL, rd_mD, rd_xcp, isX_ty, isX_obj, isX_tup, dCX.eq_1, isB_b, notB_b, dCntB.eq_1, cntP_l, cBl_n, cBl_c, isBl_b,  u_diZ, zpP_l, zpP_t, u_diE, enP_l, leP_p, dXF.eq_1, xfP_1, dRaise0.eq_1, dRaise1.eq_1, dTryAs.eq_1, dTryOnly.eq_1, blP_bl, inP_int, sqP_t, sqP_l, liP_l, tuP_t, cutP_l, cutP_t, catP_l, rgP_int, itP_some, r1P_i, r2P_i,
  u_andV, u_orV, u_notV, u_neg, u_star, u_diL, u_diT, u_some, u_slice, u_doOf, u_doCat, u_doRg, u_rgT, u_rgL, u_r1, u_r2, u_oset, ix_l, ix_t, add_ii, add_ss, add_ll, add_tt, sub_ii, mul_ii, mul_li, mod_ii, div_ii, pow_ii, lt_ii, le_ii, gt_ii, ge_ii, isN_n, notN_n, in_l, in_t, len_l, len_t, len_s, abs_i, max_ii, min_ii, int_i, int_b, tupOf_l, tupOf_t, lstOf_l, lstOf_t, is_l, bs_l, sortedT_t, repr_d, lenS_s, isi_non_int, isi_non_bool, isi_non_str, isi_non_tuple, isi_non_list, isi_non_dict, isi_bl_int, isi_bl_bool, isi_bl_str, isi_bl_tuple, isi_bl_list, isi_bl_dict, isi_int_int, isi_int_bool, isi_int_str, isi_int_tuple, isi_int_list, isi_int_dict, isi_str_int, isi_str_bool, isi_str_str, isi_str_tuple, isi_str_list, isi_str_dict, isi_tup_int, isi_tup_bool, isi_tup_str, isi_tup_tuple, isi_tup_list, isi_tup_dict, isi_lst_int, isi_lst_bool, isi_lst_str, isi_lst_tuple, isi_lst_list, isi_lst_dict, isi_dic_int, isi_dic_bool, isi_dic_str, isi_dic_tuple, isi_dic_list, isi_dic_dict, tyName,
  u_app, u_sext, dSIx, u_aug, dTup.eq_1, dLst.eq_1, dCons.eq_1, dNil.eq_1, u_parS, ssP2_2, u_parS3, ssP3_3, slO.eq_1, slD.eq_1, slNil.eq_1, doLst.eq_1, dFor.eq_1, diScr.eq_1, dRet.eq_1, dRetN.eq_1, dNext.eq_1, dCB.eq_1, dCall.eq_1, dFl.eq_1, dSum.eq_1, dAll.eq_1, dAny.eq_1, dMaxL.eq_1, dMinL.eq_1, isNon, u_frz, dDrop.eq_1, dLc.eq_1, dYes.eq_1, wipeS, dEq.eq_1, dNe.eq_1, dObj.eq_1, dSetO.eq_1, dIf.eq_1, dChain.eq_1, dSliceS.eq_1, lNone.eq_1, mset_same, mset_mset, dSortedS.eq_1, dSorted.eq_1, dBrk.eq_1, dCnt.eq_1,
  flatD, flat_ints, in_ints, take_map, drop_map, cmul_true, cdiv_true, cpow_true, gt_iff_lt, ge_iff_le, Int.reduceToNat, Int.reducePow, Int.reduceAdd, Int.reduceSub, Int.reduceLT, Int.reduceLE, Nat.reduceAdd, Nat.reduceMul, Nat.reduceLT, Nat.reduceLeDiff, Int.reduceMod, Int.reduceDiv, Int.reduceNeg, Int.reduceMul, Int.reduceEq, Int.reduceBEq, nc0, nc1, nc2, nc3, nc4, nc5, nc6, nc7, nc8, nc9, ex_some, ex_ints, ex_bls, le_line, lt_line, at0, at1, at2, at3, at4, at5, atI_map, atI_last, Option.map_some, cut_to, cut_from, cut_neg1, dDGet.eq_1, dHPut.eq_1, dObjD.eq_1, doDisp.eq_1, doEmp.eq_1, dFlD.eq_1, dRevL.eq_1, dgP_s, spStar.eq_1, eqOk_cn, eqOk_of, eqOk_str, eqv_tup, eqv_lst, eqv_tl, eqv_lt, eqv_nn, eqv_nt, eqv_tn, eqv_in, eqv_it, eqv_ti, eqv_bb, eqv_int, eqv_non_int, eqv_str, eqvL_nil, eqvL_cn, eqvL_nc, eqvL_cc, eqvL_ints, eqvL_snoc, eqvL_gaps, eqv_self, eqvL_self,
  List.getElem?_cons_succ, List.getElem?_cons_zero, List.set_cons_succ, List.set_cons_zero, List.map_cons, List.map_nil, List.length_cons, List.length_nil, List.length_map, List.length_append, List.length_take, List.length_drop, List.take_zero, List.drop_zero, List.take_succ_cons, List.drop_succ_cons, Nat.zero_le, Nat.zero_add, List.append_nil, List.nil_append, List.cons_append, decide_eq_true_eq, Bool.not_true, Bool.not_false, Bool.not_eq_true', decide_eq_false_iff_not, Bool.false_eq_true, Option.some.injEq, reduceCtorEq, if_true, if_false, ite_true, ite_false, true_and, and_true, and_self, exists_eq_left', exists_eq', Slot.ml.injEq, Slot.dat.injEq, D.scr.injEq, not_true_eq_false, not_false_eq_true, beq_self_eq_true, bne_self_eq_false, Bool.true_eq_false, decide_true, decide_false, Bool.and_true, Bool.true_and, Bool.and_false, Bool.false_and, Bool.or_true, Bool.true_or, Bool.or_false, Bool.false_or, ne_eq] | skip)
theorem r_gaps : Keeps1 sp_gaps N_gaps t_gaps := by
  rintro _ μ Q Z ⟨s, ts, rfl, hl, q⟩
  show t_gaps _ [.dat (rowD s ts), .no, .no, .no, .no, .no] μ
  unfold t_gaps
  trivial
  unfold t_gaps_a3
  trivial
  have e : ts.map D.int ++ [D.int s] = (ts ++ [s]).map D.int := by simp
  rw [e]
  refine for_rest (fun r ρ μ' => ∃ s1 b acc, ρ = [.dat (rowD s ts), s1, .dat (.int s), .dat (.tup (ts.map .int)), .ml acc, .dat (.int b)] ∧ μ' = μ ∧ acc.length + r.length ≤ 2000 ∧ acc ++ (gapsF b r).map gapD = (gapsF 0 (ts ++ [s])).map gapD) (ts ++ [s]) ⟨_, 0, [], rfl, rfl, by simp; omega, rfl⟩ ?_ ?_
  · rintro x r _ _ N - ⟨s1, b, acc, rfl, rfl, hl2, ea⟩ k
    have hl3 : acc.length + r.length + 1 ≤ 2000 := by simpa [Nat.add_assoc] using hl2
    unfold t_gaps_1 t_gaps_a6
    trivial
    have e : gapsF b (x :: r) = if b < x then (b, x - b) :: gapsF (x + 1) r else gapsF (x + 1) r := rfl
    rw [e] at ea
    by_cases hb : b < x
    · rw [if_pos hb] at ea ⊢
      exact k _ _ ⟨_, _, _, rfl, rfl, by simp; omega, by rw [← ea]; simp⟩
    · rw [if_neg hb] at ea ⊢
      exact k _ _ ⟨_, _, _, rfl, rfl, by omega, ea⟩
  · rintro _ _ ⟨s1, b, acc, rfl, rfl, _, ea⟩
    unfold t_gaps_a7
    trivial
    rw [show acc = acc ++ (gapsF b []).map gapD by simp [gapsF], ea]
    exact q
end DL

namespace DL
open PySem PySem.Spec PyProof.Rows L2
local macro_rules | `(tactic| trivial) => `(tactic| first | simp (config := { maxSteps := 3000000, implicitDefEqProofs := false }) (disch := first | omega | (refine id ?_; simp only [okN, okNL, okNL_ints, okNL_nats, okNL_bls, okNL_gaps, okNL_gapsL, okNL_append, Bool.and_self, Bool.and_true, Bool.true_and]; done) | assumption) only [divmod_ii, diKeys.eq_1, dgP_i, keys_ent, neM_d, List.isEmpty_nil, List.isEmpty_cons, dRgL2.eq_1, doDisp1.eq_1, dListItO.eq_1, dMPut.eq_1, dGet2.eq_1, dSetM.eq_1, slM.eq_1, doEmp.eq_1, mdP_m, kyP_i, kyP_s, dcP_d, dSortItR.eq_1, u_diOwn, diItems.eq_1, get_ent, items_ent, lt_non, lt_bl, lt_int, lt_str, lt_dic, lt_tup, lt_lst, rowD, gapD, gapLD, u_seq, nxt_nx, nxt_rt, nxt_xc, nxt_bk, nxt_ct, dAsg.eq_1, dgTup_t, dgTup_l, dgCons_c, dgNil_n, dgName.eq_1, u_var, u_bor, dC.eq_1, slP_d, boP_d, boP_l, boP_m, mlP_l, frP_d, frP_l, frP_m, frS_some, frS_none, dIfS.eq_1, u_test, dOrT.eq_1, dAndT.eq_1, dNotT.eq_1, dOp.eq_1, rd_int, rd_bl, rd_str, rd_non, rd_tup, rd_lst, rd_ty, rd_scr, rd_dic, rd_mL, rd_mD, rd_xcp, isX_ty, isX_obj, isX_tup, dCX.eq_1, isB_b, notB_b, dCntB.eq_1, cntP_l, cBl_n, cBl_c, isBl_b,  u_diZ, zpP_l, zpP_t, u_diE, enP_l, leP_p, dXF.eq_1, xfP_1, dRaise0.eq_1, dRaise1.eq_1, dTryAs.eq_1, dTryOnly.eq_1, blP_bl, inP_int, sqP_t, sqP_l, liP_l, tuP_t, cutP_l, cutP_t, catP_l, rgP_int, itP_some, r1P_i, r2P_i,
  u_andV, u_orV, u_notV, u_neg, u_star, u_diL, u_diT, u_some, u_slice, u_doOf, u_doCat, u_doRg, u_rgT, u_rgL, u_r1, u_r2, u_oset, ix_l, ix_t, add_ii, add_ss, add_ll, add_tt, sub_ii, mul_ii, mul_li, mod_ii, div_ii, pow_ii, lt_ii, le_ii, gt_ii, ge_ii, isN_n, notN_n, in_l, in_t, len_l, len_t, len_s, abs_i, max_ii, min_ii, int_i, int_b, tupOf_l, tupOf_t, lstOf_l, lstOf_t, is_l, bs_l, sortedT_t, repr_d, lenS_s, isi_non_int, isi_non_bool, isi_non_str, isi_non_tuple, isi_non_list, isi_non_dict, isi_bl_int, isi_bl_bool, isi_bl_str, isi_bl_tuple, isi_bl_list, isi_bl_dict, isi_int_int, isi_int_bool, isi_int_str, isi_int_tuple, isi_int_list, isi_int_dict, isi_str_int, isi_str_bool, isi_str_str, isi_str_tuple, isi_str_list, isi_str_dict, isi_tup_int, isi_tup_bool, isi_tup_str, isi_tup_tuple, isi_tup_list, isi_tup_dict, isi_lst_int, isi_lst_bool, isi_lst_str, isi_lst_tuple, isi_lst_list, isi_lst_dict, isi_dic_int, isi_dic_bool, isi_dic_str, isi_dic_tuple, isi_dic_list, isi_dic_dict, tyName,
  u_app, u_sext, dSIx, u_aug, dTup.eq_1, dLst.eq_1, dCons.eq_1, dNil.eq_1, u_parS, ssP2_2, u_parS3, ssP3_3, slO.eq_1, slD.eq_1, slNil.eq_1, doLst.eq_1, dFor.eq_1, diScr.eq_1, dRet.eq_1, dRetN.eq_1, dNext.eq_1, dCB.eq_1, dCall.eq_1, dFl.eq_1, dSum.eq_1, dAll.eq_1, dAny.eq_1, dMaxL.eq_1, dMinL.eq_1, isNon, u_frz, dDrop.eq_1, dLc.eq_1, dYes.eq_1, wipeS, dEq.eq_1, dNe.eq_1, dObj.eq_1, dSetO.eq_1, dIf.eq_1, dChain.eq_1, dSliceS.eq_1, lNone.eq_1, mset_same, mset_mset, dSortedS.eq_1, dSorted.eq_1, dBrk.eq_1, dCnt.eq_1,
  flatD, flat_ints, in_ints, take_map, drop_map, cmul_true, cdiv_true, cpow_true, gt_iff_lt, ge_iff_le, Int.reduceToNat, Int.reducePow, Int.reduceAdd, Int.reduceSub, Int.reduceLT, Int.reduceLE, Nat.reduceAdd, Nat.reduceMul, Nat.reduceLT, Nat.reduceLeDiff, Int.reduceMod, Int.reduceDiv, Int.reduceNeg, Int.reduceMul, Int.reduceEq, Int.reduceBEq, nc0, nc1, nc2, nc3, nc4, nc5, nc6, nc7, nc8, nc9, ex_some, ex_ints, ex_bls, le_line, lt_line, at0, at1, at2, at3, at4, at5, atI_map, atI_last, Option.map_some, cut_to, cut_from, cut_neg1, dDGet.eq_1, dHPut.eq_1, dObjD.eq_1, doDisp.eq_1, doEmp.eq_1, dFlD.eq_1, dRevL.eq_1, dgP_s, spStar.eq_1, eqOk_cn, eqOk_of, eqOk_str, eqv_tup, eqv_lst, eqv_tl, eqv_lt, eqv_nn, eqv_nt, eqv_tn, eqv_in, eqv_it, eqv_ti, eqv_bb, eqv_int, eqv_non_int, eqv_str, eqvL_nil, eqvL_cn, eqvL_nc, eqvL_cc, eqvL_ints, eqvL_snoc, eqvL_gaps, eqv_self, eqvL_self,
  List.getElem?_cons_succ, List.getElem?_cons_zero, List.set_cons_succ, List.set_cons_zero, List.map_cons, List.map_nil, List.length_cons, List.length_nil, List.length_map, List.length_append, List.length_take, List.length_drop, List.take_zero, List.drop_zero, List.take_succ_cons, List.drop_succ_cons, Nat.zero_le, Nat.zero_add, List.append_nil, List.nil_append, List.cons_append, decide_eq_true_eq, Bool.not_true, Bool.not_false, Bool.not_eq_true', decide_eq_false_iff_not, Bool.false_eq_true, Option.some.injEq, reduceCtorEq, if_true, if_false, ite_true, ite_false, true_and, and_true, and_self, exists_eq_left', exists_eq', Slot.ml.injEq, Slot.dat.injEq, D.scr.injEq, not_true_eq_false, not_false_eq_true, beq_self_eq_true, bne_self_eq_false, Bool.true_eq_false, decide_true, decide_false, Bool.and_true, Bool.true_and, Bool.and_false, Bool.false_and, Bool.or_true, Bool.true_or, Bool.or_false, Bool.false_or, ne_eq] | skip)
theorem pow_k {k : Nat} {w : Int} (h : (2 : Int) ^ k ≤ w + 1) (hw : w ≤ 10 ^ 13) : k < 45 := by
  by_cases c : k < 45
  · exact c
  · have h1 : (2 : Nat) ^ 45 ≤ 2 ^ k := Nat.pow_le_pow_right (by decide) (by omega)
    have h2 : ((2 ^ k : Nat) : Int) = (2 : Int) ^ k := by push_cast; rfl
    have h3 : (2 : Nat) ^ 45 = 35184372088832 := by decide
    have h4 : (10 : Int) ^ 13 = 10000000000000 := by decide
    omega
theorem r_widths_within : Keeps1 sp_widths_within N_widths_within t_widths_within := by
  rintro _ μ Q Z ⟨w, rfl, w0, w1, q⟩
  show t_widths_within _ [.dat (.int w), .no, .no, .no, .no, .no, .no] μ
  unfold t_widths_within
  trivial
  unfold t_widths_within_a2
  refine seq_gen fun N k => ?_
  refine for_while (fun n ρ μ' => ∃ (es : Tab) (j : Nat) (s3 s4 s5 s6 : Slot), ρ = [.dat (.int w), .md (es.map entD), .dat (.int (2 ^ j)), s3, s4, s5, s6] ∧ μ' = μ ∧ TabOk es ∧ es.length ≤ 2 * j ∧ j ≤ 45 ∧ (∀ v, 0 < v → cntE es v = levS (w + 1) v j) ∧ n = (2 * w + 2 - 2 ^ j).toNat) _ ⟨[], 0, _, _, _, _, rfl, rfl, .nil, by simp, by decide, fun v hv => rfl, rfl⟩ ?_
  rintro n _ μ2 N2 ⟨es, j, s3, s4, s5, s6, rfl, rfl, ok, hl, hj, hc, rfl⟩ k2
  have pj := pow_pos' j
  have pj1 : (2 : Int) ^ (j + 1) = 2 * 2 ^ j := by rw [Int.pow_succ]; omega
  generalize hp : (2 : Int) ^ j = p at *
  unfold t_widths_within_2c
  trivial
  by_cases c : p ≤ w + 1
  · rw [if_pos c]
    have j45 := pow_k (k := j) (w := w) (by rw [hp]; exact c) w1
    have hw13 : (10 : Int) ^ 13 = 10000000000000 := by decide
    unfold t_widths_within_2
    trivial
    refine ⟨pj, ?_⟩
    unfold t_widths_within_a4
    refine seq_gen fun N3 k3 => ?_
    trivial
    rw [show [D.tup [D.int ((w + 1) / p - 1), D.int (p - (w + 1) % p)], D.tup [D.int ((w + 1) / p), D.int ((w + 1) % p)]] = [((w + 1) / p - 1, p - (w + 1) % p), ((w + 1) / p, (w + 1) % p)].map gapD from rfl]
    refine for_rest (fun r ρ μ' => ∃ (fs : Tab) (s5 s6 : Slot), ρ = [.dat (.int w), .md (fs.map entD), .dat (.int p), .dat (.int ((w + 1) / p)), .dat (.int ((w + 1) % p)), s5, s6] ∧ μ' = μ2 ∧ TabOk fs ∧ fs.length + r.length ≤ 2 * j + 2 ∧ ∀ v, 0 < v → cntE fs v + addT r v = levS (w + 1) v j + levT (w + 1) p v) _ ⟨es, _, _, rfl, rfl, ok, by simp; omega, fun v hv => by rw [addT_lev pj hv, hc v hv]⟩ ?_ ?_
    · rintro ⟨o, m⟩ r _ μ3 N4 - ⟨fs, s5, s6, rfl, rfl, ok2, hl2, hc2⟩ k4
      have hl3 : fs.length + r.length + 1 ≤ 2 * j + 2 := by simpa [Nat.add_assoc] using hl2
      trivial
      unfold t_widths_within_1
      trivial
      by_cases c1 : 0 < o
      · rw [if_pos c1]
        by_cases c2 : 0 < m
        · rw [if_pos c2]
          unfold t_widths_within_y5
          trivial
          rw [put_ent ok2.nd]
          refine k4 _ _ ⟨addE fs o m, _, _, rfl, rfl, ok2.add c1 c2, ?_, fun v hv => ?_⟩
          · have := add_len (o := o) (m := m) (es := fs)
            omega
          · have := hc2 v hv
            unfold addT at this
            rw [cnt_add]
            dsimp only at this
            by_cases e : o = v
            · rw [if_pos e]
              rw [if_pos ⟨c1, c2, e⟩] at this
              omega
            · rw [if_neg e]
              rw [if_neg fun z => e z.2.2] at this
              omega
        · rw [if_neg c2]
          refine k4 _ _ ⟨fs, _, _, rfl, rfl, ok2, by omega, fun v hv => ?_⟩
          have := hc2 v hv
          unfold addT at this
          rw [if_neg fun z => c2 z.2.1] at this
          omega
      · rw [if_neg c1]
        refine k4 _ _ ⟨fs, _, _, rfl, rfl, ok2, by omega, fun v hv => ?_⟩
        have := hc2 v hv
        unfold addT at this
        rw [if_neg fun z => c1 z.1] at this
        omega
    · rintro _ _ ⟨fs, s5, s6, rfl, rfl, ok2, hl2, hc2⟩
      refine k3 _ _ ?_
      unfold t_widths_within_a7
      trivial
      refine k2 _ _ _ ?_ ⟨fs, j + 1, _, _, _, _, by rw [pj1], rfl, ok2, by simp at hl2; omega, by omega, fun v hv => ?_, rfl⟩
      · rw [pj1]
        omega
      · have := hc2 v hv
        simp only [addT] at this
        rw [levS, hp]
        omega
  · rw [if_neg c]
    refine k _ _ ?_
    unfold t_widths_within_a8
    trivial
    refine q es ok (by omega) fun v hv => ?_
    rw [hc v hv]
    have := cnt_lev hv j (w + 1) (by omega) (by omega)
    rw [← this]
    congr 1
    omega
theorem r_all_widths : Keeps1 sp_all_widths N_all_widths t_all_widths := by
  rintro _ μ Q Z ⟨s, ts, rfl, R, hs, hl, q⟩
  show t_all_widths _ [.dat (rowD s ts), .no, .no, .no, .no, .no] μ
  have hs13 : (10 : Int) ^ 13 = 10000000000000 := by decide
  unfold t_all_widths
  trivial
  unfold t_all_widths_a2
  trivial
  rw [c_gaps (by omega)]
  trivial
  have hg := gapsF_le (ts ++ [s]) 0
  rw [List.length_append] at hg
  simp only [List.length_cons, List.length_nil] at hg
  have hin : ∀ g ∈ gapsF 0 (ts ++ [s]), 0 < g.2 ∧ g.2 ≤ 10 ^ 13 := fun g h => by
    obtain ⟨a, b, c⟩ := gap_le R h
    omega
  generalize gapsF 0 (ts ++ [s]) = gs at *
  refine for_rest (fun r ρ μ' => ∃ (es : Tab) (s2 s3 s4 s5 : Slot), ρ = [.dat (rowD s ts), .md (es.map entD), s2, s3, s4, s5] ∧ μ' = μ ∧ TabOk es ∧ es.length + 100 * r.length ≤ 20000 ∧ ∀ v, 0 < v → cntE es v + totC r v = totC gs v) gs ⟨[], _, _, _, _, rfl, rfl, .nil, by simp; omega, fun v hv => by simp [cntE]⟩ ?_ ?_
  · rintro ⟨b, w⟩ r _ μ2 N ⟨l, el⟩ ⟨es, s2, s3, s4, s5, rfl, rfl, ok, hl2, hc⟩ k
    have hw := hin (b, w) (by rw [el]; simp)
    dsimp only at hw
    simp only [List.length_cons] at hl2
    trivial
    unfold t_all_widths_2
    trivial
    refine within (by omega) hw.2 fun ws okw hlw hcw => ?_
    trivial
    refine for_rest (fun r2 ρ μ' => ∃ (fs : Tab) (s4 s5 : Slot), ρ = [.dat (rowD s ts), .md (fs.map entD), .dat (.int b), .dat (.int w), s4, s5] ∧ μ' = μ2 ∧ TabOk fs ∧ (∀ e ∈ r2, 0 < e.1 ∧ 0 < e.2) ∧ (r2.map (·.1)).Nodup ∧ fs.length + r2.length ≤ es.length + ws.length ∧ ∀ v, 0 < v → cntE fs v + cntE r2 v = cntE es v + cntE ws v) ws ⟨es, _, _, rfl, rfl, ok, okw.pos, okw.nd, Nat.le_refl _, fun v hv => rfl⟩ ?_ ?_
    · rintro ⟨o, m⟩ r2 _ μ3 N4 - ⟨fs, s4, s5, rfl, rfl, ok2, hp2, nd2, hl3, hc2⟩ k4
      have hl4 : fs.length + r2.length + 1 ≤ es.length + ws.length := by simpa [Nat.add_assoc] using hl3
      obtain ⟨o0, m0⟩ := hp2 (o, m) List.mem_cons_self
      dsimp only at o0 m0
      obtain ⟨n1, n2⟩ := List.nodup_cons.mp nd2
      trivial
      unfold t_all_widths_1
      trivial
      rw [put_ent ok2.nd]
      refine k4 _ _ ⟨addE fs o m, _, _, rfl, rfl, ok2.add o0 m0, fun e he => hp2 e (List.mem_cons_of_mem _ he), n2, ?_, fun v hv => ?_⟩
      · have := add_len (o := o) (m := m) (es := fs)
        omega
      · have := hc2 v hv
        have ec : cntE ((o, m) :: r2) v = if o = v then m else cntE r2 v := rfl
        rw [ec] at this
        rw [cnt_add]
        by_cases e : o = v
        · rw [if_pos e] at this ⊢
          have z : cntE r2 v = 0 := cnt_out (by rw [← e]; exact n1)
          omega
        · rw [if_neg e] at this ⊢
          omega
    · rintro _ _ ⟨fs, s4, s5, rfl, rfl, ok2, -, -, hl3, hc2⟩
      refine k _ _ ⟨fs, _, _, _, _, rfl, rfl, ok2, by simp at hl3; omega, fun v hv => ?_⟩
      have h1 := hc2 v hv
      have h2 := hc v hv
      rw [hcw v hv] at h1
      have e1 : totC ((b, w) :: r) v = cntI w v + totC r v := rfl
      have e2 : cntE [] v = 0 := rfl
      omega
  · rintro _ _ ⟨es, s2, s3, s4, s5, rfl, rfl, ok, hl2, hc⟩
    unfold t_all_widths_a5
    trivial
    refine q es ok (by simp at hl2; omega) fun v hv => ?_
    have h2 := hc v hv
    have e2 : totC [] v = 0 := rfl
    omega
theorem r_later_widths : Keeps1 sp_later_widths N_later_widths t_later_widths := by
  rintro _ μ Q Z ⟨s, ts, rfl, R, hs, hl, q⟩
  show t_later_widths _ [.dat (rowD s ts)] μ
  unfold t_later_widths
  trivial
  refine allw R hs hl fun es ok le hc => ?_
  trivial
  refine ⟨es, rfl, by omega, fun ls hp hsr => ?_⟩
  trivial
  refine q ls ⟨⟨(hp.map _).nodup_iff.mpr ok.nd, fun e he => ok.pos e (hp.mem_iff.mp he)⟩, hsr, fun v hv => by rw [cnt_perm hp ok.nd, hc v hv]⟩ (by rw [hp.length_eq]; exact le)
theorem r_is_number : Keeps1 sp_is_number N_is_number t_is_number := by
  rintro _ μ Q Z ⟨i, lo, hi, rfl, q⟩
  show t_is_number _ [.dat (.int i), .dat (.int lo), .dat (.int hi)] μ
  unfold t_is_number
  trivial
  by_cases h : lo ≤ i
  · simpa [h] using q
  · simpa [h] using q
theorem r_free_seats : Keeps1 sp_free_seats N_free_seats t_free_seats := by
  rintro _ μ Q Z ⟨s, ts, rfl, q⟩
  show t_free_seats _ [.dat (rowD s ts)] μ
  unfold t_free_seats
  trivial
  exact q
theorem r_middle : Keeps1 sp_middle N_middle t_middle := by
  rintro _ μ Q Z ⟨⟨b, w⟩, rfl, q⟩
  show t_middle _ [.dat (gapD (b, w)), .no, .no] μ
  unfold t_middle
  trivial
  exact q
theorem r_left_part : Keeps1 sp_left_part N_left_part t_left_part := by
  rintro _ μ Q Z ⟨⟨b, w⟩, rfl, q⟩
  show t_left_part _ [.dat (gapD (b, w)), .no, .no] μ
  unfold t_left_part
  trivial
  exact q
theorem r_right_part : Keeps1 sp_right_part N_right_part t_right_part := by
  rintro _ μ Q Z ⟨⟨b, w⟩, rfl, q⟩
  show t_right_part _ [.dat (gapD (b, w)), .no, .no] μ
  unfold t_right_part
  trivial
  exact q
theorem r_number_within : Keeps1 sp_number_within N_number_within t_number_within := by
  rintro _ μ Q Z ⟨w, v, rfl, w0, w1, hv, q⟩
  show t_number_within _ [.dat (.int w), .dat (.int v), .no, .no, .no, .no] μ
  have hw13 : (10 : Int) ^ 13 = 10000000000000 := by decide
  unfold t_number_within
  trivial
  unfold t_number_within_a2
  refine seq_gen fun N k => ?_
  refine for_while (fun n ρ μ' => ∃ (j : Nat) (s4 s5 : Slot), ρ = [.dat (.int w), .dat (.int v), .dat (.int (levS (w + 1) v j)), .dat (.int (2 ^ j)), s4, s5] ∧ μ' = μ ∧ j ≤ 45 ∧ n = (2 * w + 2 - 2 ^ j).toNat) _ ⟨0, _, _, rfl, rfl, by decide, rfl⟩ ?_
  rintro n _ μ2 N2 ⟨j, s4, s5, rfl, rfl, hj, rfl⟩ k2
  have pj := pow_pos' j
  have pj1 : (2 : Int) ^ (j + 1) = 2 * 2 ^ j := by rw [Int.pow_succ]; omega
  have es : levS (w + 1) v (j + 1) = levS (w + 1) v j + levT (w + 1) (2 ^ j) v := rfl
  have hfin := cnt_lev hv j (w + 1) (by omega)
  have pk : (2 : Int) ^ j ≤ w + 1 → j < 45 := fun c => pow_k c w1
  generalize levS (w + 1) v j = L at *
  generalize hp : (2 : Int) ^ j = p at *
  unfold t_number_within_1c
  trivial
  by_cases c : p ≤ w + 1
  · rw [if_pos c]
    have j45 := pk c
    unfold t_number_within_1
    trivial
    refine ⟨pj, ?_⟩
    unfold levT at es
    generalize (w + 1) / p = a at es ⊢
    generalize (w + 1) % p = r at es ⊢
    have next : ∀ M : Int, M = L + ((if a = v + 1 then p - r else 0) + if a = v then r else 0) → ∀ s4 s5, t_number_within_a8 { nx := N2, ct := N2, bk := N, rt := Q, xc := fun x => Z } [.dat (.int w), .dat (.int v), .dat (.int M), .dat (.int p), s4, s5] μ2 := fun M hM s4 s5 => by
      unfold t_number_within_a8
      trivial
      refine k2 _ _ _ ?_ ⟨j + 1, s4, s5, by rw [es, ← hM, pj1], rfl, by omega, rfl⟩
      rw [pj1]
      omega
    have step2 : ∀ M : Int, M = L + (if a = v + 1 then p - r else 0) → t_number_within_a6 { nx := N2, ct := N2, bk := N, rt := Q, xc := fun x => Z } [.dat (.int w), .dat (.int v), .dat (.int M), .dat (.int p), .dat (.int a), .dat (.int r)] μ2 := fun M hM => by
      unfold t_number_within_a6
      refine seq_gen fun N3 k3 => ?_
      trivial
      by_cases c2 : a = v
      · rw [if_pos (by simpa using c2)]
        exact k3 _ _ (next _ (by rw [if_pos c2, hM]; omega) _ _)
      · rw [if_neg (by simpa using c2)]
        exact k3 _ _ (next _ (by rw [if_neg c2, hM]; omega) _ _)
    unfold t_number_within_a4
    refine seq_gen fun N3 k3 => ?_
    trivial
    by_cases c1 : a = v + 1
    · rw [if_pos (by simpa using c1)]
      exact k3 _ _ (step2 _ (by rw [if_pos c1]))
    · rw [if_neg (by simpa using c1)]
      exact k3 _ _ (step2 _ (by rw [if_neg c1]; omega))
  · rw [if_neg c]
    refine k _ _ ?_
    unfold t_number_within_a9
    trivial
    have := hfin (by omega)
    rw [show w + 1 - 1 = w from by omega] at this
    rw [← this, if_pos hv]
    exact q
theorem r_require_free : Keeps1 sp_require_free N_require_free t_require_free := by
  rintro _ μ Q Z ⟨s, ts, x, rfl, h0, h1, h2, q⟩
  show t_require_free _ [.dat (rowD s ts), .dat (.int x)] μ
  unfold t_require_free
  refine seq_gen fun N k => ?_
  trivial
  rw [c_is_number, show (decide (0 ≤ x) && decide (x ≤ s - 1)) = true from by simp; omega]
  trivial
  refine k _ _ ?_
  unfold t_require_free_a3
  trivial
  rw [if_neg h2]
  exact q
theorem r_path_to : Keeps1 sp_path_to N_path_to t_path_to := by
  rintro _ μ Q Z ⟨s, ts, x, g, rfl, R, hs, hl, hg, g1, g2, q⟩
  show t_path_to _ [.dat (rowD s ts), .dat (.int x), .no, .no] μ
  have hlen := gapsF_le (ts ++ [s]) 0
  rw [List.length_append] at hlen
  simp only [List.length_cons, List.length_nil] at hlen
  have fo := filter_one (row_apart R) (fun g hg => (row_gap R g hg).1) hg g1 g2
  unfold t_path_to
  refine seq_gen fun N k => ?_
  trivial
  rw [c_gaps (by omega)]
  trivial
  refine lc_if (fun h : Int × Int => decide (h.1 ≤ x) && decide (x < h.1 + h.2)) gapD (gapsR s ts) (by unfold gapsR; omega) (fun g _ Kk a ha hT hF => ?_) ?_
  · trivial
    by_cases c1 : g.1 ≤ x
    · by_cases c2 : x < g.1 + g.2
      · simp only [c1, c2]
        trivial
        exact ⟨ha, hT (by simp [c1, c2])⟩
      · simp only [c1, c2]
        trivial
        exact hF (by simp [c2])
    · simp only [c1]
      trivial
      exact hF (by simp [c1])
  rw [fo]
  trivial
  refine k _ _ ?_
  unfold t_path_to_a2
  refine seq_gen fun N k => ?_
  have e12 : (10 : Int) ^ 12 = 1000000000000 := by decide
  have h44 : (2 : Int) ^ 44 = 17592186044416 := by decide
  have hgr := row_gap R g hg
  refine for_while (fun n ρ μ' => ∃ (pre : List (Int × Int)) (h : Int × Int) (s3 : Slot), ρ = [.dat (rowD s ts), .dat (.int x), .ml (pre.map gapD ++ [gapD h]), s3] ∧ μ' = μ ∧ wayI g.1 g.2 x = pre ++ wayI h.1 h.2 x ∧ h.1 ≤ x ∧ x < h.1 + h.2 ∧ h.2 < 2 ^ n ∧ pre.length + n = 44) 44 ⟨[], g, _, rfl, rfl, rfl, g1, g2, by omega, rfl⟩ ?_
  rintro n _ μ2 N2 ⟨pre, h, s3, rfl, rfl, hw, h1, h2, hn, hpl⟩ k2
  have hm : mid h = h.1 + (h.2 - 1) / 2 := rfl
  have ws := wayI_s (b := h.1) (w := h.2) (x := x) (by omega)
  have hms : mid (h.1, h.2) = mid h := rfl
  rw [hms] at ws
  unfold t_path_to_1c
  trivial
  rw [c_middle, ← hm]
  trivial
  by_cases c1 : x = mid h
  · subst c1
    trivial
    refine k _ _ ?_
    unfold t_path_to_a4
    trivial
    rw [hw, ws, if_pos rfl] at q
    simpa using q
  · have cb : (mid h == x) = false := by
      rw [beq_eq_false_iff_ne]
      exact fun e => c1 e.symm
    rw [cb]
    trivial
    rw [if_neg c1] at ws
    by_cases c2 : 1 < h.2
    · rw [if_pos c2]
      have hpl' : pre.length ≤ 44 := by omega
      obtain ⟨n, rfl⟩ : ∃ m, n = m + 1 := by
        cases n with
        | zero =>
          have : (2 : Int) ^ 0 = 1 := rfl
          omega
        | succ m => exact ⟨m, rfl⟩
      have pn : (2 : Int) ^ (n + 1) = 2 * 2 ^ n := by rw [Int.pow_succ]; omega
      rw [pn] at hn
      unfold t_path_to_1
      trivial
      rw [c_middle, ← hm]
      trivial
      by_cases c3 : x < mid h
      · rw [if_pos c3] at ws ⊢
        rw [c_left_part]
        trivial
        refine k2 n _ _ (by omega) ⟨pre ++ [h], (h.1, (h.2 - 1) / 2), s3, by simp [gapD], rfl, by rw [hw, ws]; simp, h1, by dsimp only; omega, by dsimp only; omega, by simp; omega⟩
      · rw [if_neg c3] at ws ⊢
        rw [c_right_part]
        trivial
        refine k2 n _ _ (by omega) ⟨pre ++ [h], (h.1 + (h.2 - 1) / 2 + 1, h.2 / 2), s3, by simp [gapD], rfl, by rw [hw, ws]; simp [hm], by dsimp only; omega, by dsimp only; omega, by dsimp only; omega, by simp; omega⟩
    · exfalso
      omega
theorem r_gap_of : Keeps1 sp_gap_of N_gap_of t_gap_of := by
  rintro _ μ Q Z ⟨s, ts, h, rfl, R, hs, hl, hh, q⟩
  show t_gap_of _ [.dat (rowD s ts), .dat (.int (mid h))] μ
  obtain ⟨f0, f1, f2⟩ := ino_free R hh
  obtain ⟨g, hg, hi, g1, g2⟩ := ino_gap hh
  obtain ⟨pre, h', e, hi', hm⟩ := way_last g.1 g.2 (mid h) g1 g2
  have : h' = h := inoG_inj (row_apart R) (inoG_mem.mpr ⟨g, hg, hi'⟩) hh hm
  subst this
  unfold t_gap_of
  trivial
  refine ⟨s, ts, _, rfl, f0, f1, f2, ?_⟩
  unfold t_gap_of_a2
  trivial
  refine pathto R hs hl hg g1 g2 ?_
  rw [e, List.map_append]
  trivial
  exact q
theorem r_gap_with_rank : Keeps1 sp_gap_with_rank N_gap_with_rank t_gap_with_rank := by
  rintro _ μ Q Z ⟨s, ts, v, r, g, rfl, R, hs, hl, hv, hsel, q⟩
  show t_gap_with_rank _ [.dat (rowD s ts), .dat (.int v), .dat (.int r), .no, .no, .no] μ
  have e12 : (10 : Int) ^ 12 = 1000000000000 := by decide
  have e13 : (10 : Int) ^ 13 = 10000000000000 := by decide
  have hlen := gapsF_le (ts ++ [s]) 0
  rw [List.length_append] at hlen
  simp only [List.length_cons, List.length_nil] at hlen
  have hgr : ∀ k ∈ gapsR s ts, 0 < k.2 ∧ k.2 ≤ 1000000000000 := fun k hk => by
    have := row_gap R k hk
    omega
  unfold t_gap_with_rank
  trivial
  unfold t_gap_with_rank_a2
  refine seq_gen fun N k => ?_
  trivial
  rw [c_gaps (by omega)]
  trivial
  have down : ∀ (h : Int × Int) (r : Nat) (s4 s5 : Slot), 0 < h.2 → h.2 ≤ 1000000000000 → (selW v (inoI h.1 h.2))[r]? = some g → N [.dat (rowD s ts), .dat (.int v), .dat (.int r), .dat (gapD h), s4, s5] μ := fun h r s4 s5 h0 h1 hs => by
    refine k _ _ ?_
    unfold t_gap_with_rank_a7
    refine seq_gen fun N k => ?_
    refine for_while (fun n ρ μ' => ∃ (h : Int × Int) (r : Nat) (s4 s5 : Slot), ρ = [.dat (rowD s ts), .dat (.int v), .dat (.int r), .dat (gapD h), s4, s5] ∧ μ' = μ ∧ 0 < h.2 ∧ h.2 ≤ 1000000000000 ∧ (selW v (inoI h.1 h.2))[r]? = some g ∧ n = h.2.toNat) _ ⟨h, r, s4, s5, rfl, rfl, h0, h1, hs, rfl⟩ ?_
    rintro n _ μ2 N2 ⟨h, r, s4, s5, rfl, rfl, h0, h1, hs, rfl⟩ k2
    unfold t_gap_with_rank_2c
    trivial
    by_cases c : v < h.2
    · rw [if_pos c]
      unfold t_gap_with_rank_2
      refine seq_gen fun N3 k3 => ?_
      trivial
      rw [c_left_part]
      trivial
      refine nwithin (by omega) (by omega) hv ?_
      trivial
      refine k3 _ _ ?_
      have sn := selW_node (v := v) (b := h.1) (w := h.2) h0 (by omega)
      have sl := selW_cnt hv h.1 ((h.2 - 1) / 2)
      rw [sn] at hs
      have pos_of : ∀ {b w : Int} {j : Nat}, (selW v (inoI b w))[j]? = some g → 0 < w := fun {b w j} hj => by
        by_cases cw : 0 < w
        · exact cw
        · rw [inoI_z (by omega)] at hj
          simp [selW] at hj
      unfold t_gap_with_rank_a9
      trivial
      by_cases c2 : (r : Int) < cntI ((h.2 - 1) / 2) v
      · rw [if_pos c2]
        rw [List.getElem?_append_left (by omega)] at hs
        unfold t_gap_with_rank_y9
        trivial
        rw [c_left_part]
        trivial
        exact k2 _ _ _ (by have := pos_of hs; omega) ⟨(h.1, (h.2 - 1) / 2), r, _, _, rfl, rfl, pos_of hs, by dsimp only; omega, hs, rfl⟩
      · rw [if_neg c2]
        rw [List.getElem?_append_right (by omega)] at hs
        unfold t_gap_with_rank_n9
        trivial
        unfold t_gap_with_rank_a13
        trivial
        rw [c_right_part]
        trivial
        rw [show (r : Int) - cntI ((h.2 - 1) / 2) v = ((r - (selW v (inoI h.1 ((h.2 - 1) / 2))).length : Nat) : Int) from by omega]
        exact k2 _ _ _ (by have := pos_of hs; omega) ⟨(h.1 + (h.2 - 1) / 2 + 1, h.2 / 2), _, _, _, rfl, rfl, pos_of hs, by dsimp only; omega, hs, rfl⟩
    · rw [if_neg c]
      refine k _ _ ?_
      unfold t_gap_with_rank_a14
      trivial
      have hw : h.2 = v := by
        by_cases cw : h.2 < v
        · rw [selW_big cw] at hs
          simp at hs
        · omega
      rw [← hw, selW_self h0] at hs
      have : g = h := by
        cases r with
        | zero => simpa using hs.symm
        | succ r => simp at hs
      rw [this] at q
      exact q
  refine for_rest (fun rs ρ μ' => ∃ (r : Nat) (h : Int × Int) (s4 s5 : Slot), ρ = [.dat (rowD s ts), .dat (.int v), .dat (.int r), .dat (gapD h), s4, s5] ∧ μ' = μ ∧ (selW v (inoG rs))[r]? = some g) (gapsR s ts) ⟨r, (0, 0), _, _, rfl, rfl, hsel⟩ ?_ ?_
  · rintro a rs _ μ2 N2 ⟨l, el⟩ ⟨r, h, s4, s5, rfl, rfl, hs⟩ k2
    have ha := hgr a (by rw [el]; simp)
    have sl := selW_cnt hv a.1 a.2
    rw [inoG_cons, selW_app] at hs
    trivial
    unfold t_gap_with_rank_1
    refine seq_gen fun N3 k3 => ?_
    trivial
    refine nwithin (by omega) (by omega) hv ?_
    trivial
    refine k3 _ _ ?_
    unfold t_gap_with_rank_a4
    refine seq_gen fun N4 k4 => ?_
    trivial
    by_cases c : (r : Int) < cntI a.2 v
    · rw [if_pos c]
      rw [List.getElem?_append_left (by omega)] at hs
      exact down a r _ _ ha.1 ha.2 hs
    · rw [if_neg c]
      refine k4 _ _ ?_
      rw [List.getElem?_append_right (by omega)] at hs
      unfold t_gap_with_rank_a6
      trivial
      rw [show (r : Int) - cntI a.2 v = ((r - (selW v (inoI a.1 a.2)).length : Nat) : Int) from by omega]
      exact k2 _ _ ⟨_, a, _, _, rfl, rfl, hs⟩
  · rintro _ μ2 ⟨r, h, s4, s5, rfl, rfl, hs⟩
    rw [inoG_nil] at hs
    simp [selW] at hs
theorem srt_keys : ∀ {ls : Tab}, ls.Pairwise gtP → (ls.map (·.1)).Nodup → ls.Pairwise fun a b => b.1 < a.1
  | [], _, _ => List.Pairwise.nil
  | e :: ls, h, nd => by
    obtain ⟨h1, h2⟩ := List.pairwise_cons.mp h
    obtain ⟨n1, n2⟩ := List.nodup_cons.mp nd
    refine List.pairwise_cons.mpr ⟨fun b hb => ?_, srt_keys h2 n2⟩
    have hg := h1 b hb
    have hne : e.1 ≠ b.1 := fun z => n1 (List.mem_map.mpr ⟨b, hb, z.symm⟩)
    unfold gtP at hg
    omega
theorem wider_pre {pre r : Tab} {e : Int × Int} (h : (pre ++ e :: r).Pairwise fun a b => b.1 < a.1) : (pre ++ e :: r).filter (fun x => decide (e.1 < x.1)) = pre := by
  obtain ⟨h1, h2, h3⟩ := List.pairwise_append.mp h
  rw [List.filter_append, List.filter_eq_self.mpr fun a ha => ?_, List.filter_eq_nil_iff.mpr fun a ha => ?_, List.append_nil]
  · rcases List.mem_cons.mp ha with rfl | ha
    · simp
    · have := (List.pairwise_cons.mp h2).1 a ha
      simp
      omega
  · have := h3 a ha e List.mem_cons_self
    simpa using this
theorem r_gap_at : Keeps1 sp_gap_at N_gap_at t_gap_at := by
  rintro _ μ Q Z ⟨s, ts, i, g, rfl, R, hs, hl, hi, q⟩
  show t_gap_at _ [.dat (rowD s ts), .dat (.int i), .no, .no] μ
  have e12 : (10 : Int) ^ 12 = 1000000000000 := by decide
  have e13 : (10 : Int) ^ 13 = 10000000000000 := by decide
  unfold t_gap_at
  refine seq_gen fun N k => ?_
  trivial
  refine later R (by omega) (by omega) fun ls L le => ?_
  trivial
  have T := L.tab
  have sk := srt_keys L.srt L.ok.nd
  refine for_rest (fun r ρ μ' => ∃ (pre : Tab) (j : Nat) (s2 s3 : Slot), ρ = [.dat (rowD s ts), .dat (.int j), s2, s3] ∧ μ' = μ ∧ ls = pre ++ r ∧ (i : Int) = (pre.map (·.2)).sum + j) ls ⟨[], i, _, _, rfl, rfl, rfl, by simp⟩ ?_ ?_
  · rintro ⟨v, m⟩ r _ μ2 N2 - ⟨pre, j, s2, s3, rfl, rfl, el, ei⟩ k2
    have hpos := L.ok.pos (v, m) (by rw [el]; simp)
    dsimp only at hpos
    have gt := gt_tab T T.pos v
    rw [el] at sk gt
    rw [wider_pre (e := (v, m)) sk] at gt
    have cv := L.cnt v hpos.1
    have cm := cnt_mem (v := v) L.ok.nd (v, m) (by rw [el]; simp)
    have sl : ((selW v (inoG (gapsR s ts))).length : Int) = m := by
      rw [selW_len, inoG_cnt hpos.1]
      exact cv.symm.trans cm
    trivial
    unfold t_gap_at_1
    refine seq_gen fun N3 k3 => ?_
    trivial
    by_cases c : (j : Int) < m
    · rw [if_pos c]
      obtain ⟨g', hg'⟩ : ∃ g', (selW v (inoG (gapsR s ts)))[j]? = some g' := ⟨_, List.getElem?_eq_getElem (by omega)⟩
      have ho := ord_at (row_apart R) hg'
      rw [show gtC v (inoG (gapsR s ts)) + j = i from by omega, hi] at ho
      cases ho
      unfold t_gap_at_y2
      trivial
      exact grank R hs hl hpos.1 hg' q
    · rw [if_neg c]
      refine k3 _ _ ?_
      unfold t_gap_at_a4
      trivial
      rw [show (j : Int) - m = ((j - m.toNat : Nat) : Int) from by omega]
      refine k2 _ _ ⟨pre ++ [(v, m)], _, _, _, rfl, rfl, by rw [el]; simp, ?_⟩
      rw [List.map_append, List.sum_append]
      simp only [List.map_cons, List.map_nil, List.sum_cons, List.sum_nil]
      omega
  · rintro _ μ2 ⟨pre, j, s2, s3, rfl, rfl, el, ei⟩
    exfalso
    rw [List.append_nil] at el
    have hli := (List.getElem?_eq_some_iff.mp hi).1
    have ol := ord_len R
    have tsum := tab_sum R T
    rw [el] at tsum
    omega
theorem r_seat_of : Keeps1 sp_seat_of N_seat_of t_seat_of := by
  rintro _ μ Q Z ⟨s, ts, i, g, rfl, R, hs, hl, hi, q⟩
  show t_seat_of _ [.dat (rowD s ts), .dat (.int i)] μ
  have hli := (List.getElem?_eq_some_iff.mp hi).1
  have ol := ord_len R
  unfold t_seat_of
  refine seq_gen fun N k => ?_
  trivial
  rw [c_free_seats_]
  trivial
  rw [c_is_number, show (decide ((0 : Int) ≤ (i : Int)) && decide ((i : Int) ≤ s - ts.length - 1)) = true from by simp; omega]
  trivial
  refine k _ _ ?_
  unfold t_seat_of_a3
  trivial
  refine gapat R hs hl hi ?_
  trivial
  rw [c_middle]
  trivial
  exact q
end DL

namespace DL
open PySem PySem.Spec PyProof.Rows L2
local macro_rules | `(tactic| trivial) => `(tactic| first | simp (config := { maxSteps := 3000000, implicitDefEqProofs := false }) (disch := first | omega | (refine id ?_; simp only [okN, okNL, okNL_ints, okNL_nats, okNL_bls, okNL_gaps, okNL_gapsL, okNL_append, Bool.and_self, Bool.and_true, Bool.true_and]; done) | assumption) only [diZM.eq_1, zmP_t, dRevT.eq_1, rowD, gapD, gapLD, u_seq, nxt_nx, nxt_rt, nxt_xc, nxt_bk, nxt_ct, dAsg.eq_1, dgTup_t, dgTup_l, dgCons_c, dgNil_n, dgName.eq_1, u_var, u_bor, dC.eq_1, slP_d, boP_d, boP_l, boP_m, mlP_l, frP_d, frP_l, frP_m, frS_some, frS_none, dIfS.eq_1, u_test, dOrT.eq_1, dAndT.eq_1, dNotT.eq_1, dOp.eq_1, rd_int, rd_bl, rd_str, rd_non, rd_tup, rd_lst, rd_ty, rd_scr, rd_dic, rd_mL, rd_mD, rd_xcp, isX_ty, isX_obj, isX_tup, dCX.eq_1, isB_b, notB_b, dCntB.eq_1, cntP_l, cBl_n, cBl_c, isBl_b,  u_diZ, zpP_l, zpP_t, u_diE, enP_l, leP_p, dXF.eq_1, xfP_1, dRaise0.eq_1, dRaise1.eq_1, dTryAs.eq_1, dTryOnly.eq_1, blP_bl, inP_int, sqP_t, sqP_l, liP_l, tuP_t, cutP_l, cutP_t, catP_l, rgP_int, itP_some, r1P_i, r2P_i,
  u_andV, u_orV, u_notV, u_neg, u_star, u_diL, u_diT, u_some, u_slice, u_doOf, u_doCat, u_doRg, u_rgT, u_rgL, u_r1, u_r2, u_oset, ix_l, ix_t, add_ii, add_ss, add_ll, add_tt, sub_ii, mul_ii, mul_li, mod_ii, div_ii, pow_ii, lt_ii, le_ii, gt_ii, ge_ii, isN_n, notN_n, in_l, in_t, len_l, len_t, len_s, abs_i, max_ii, min_ii, int_i, int_b, tupOf_l, tupOf_t, lstOf_l, lstOf_t, is_l, bs_l, sortedT_t, repr_d, lenS_s, isi_non_int, isi_non_bool, isi_non_str, isi_non_tuple, isi_non_list, isi_non_dict, isi_bl_int, isi_bl_bool, isi_bl_str, isi_bl_tuple, isi_bl_list, isi_bl_dict, isi_int_int, isi_int_bool, isi_int_str, isi_int_tuple, isi_int_list, isi_int_dict, isi_str_int, isi_str_bool, isi_str_str, isi_str_tuple, isi_str_list, isi_str_dict, isi_tup_int, isi_tup_bool, isi_tup_str, isi_tup_tuple, isi_tup_list, isi_tup_dict, isi_lst_int, isi_lst_bool, isi_lst_str, isi_lst_tuple, isi_lst_list, isi_lst_dict, isi_dic_int, isi_dic_bool, isi_dic_str, isi_dic_tuple, isi_dic_list, isi_dic_dict, tyName,
  u_app, u_sext, dSIx, u_aug, dTup.eq_1, dLst.eq_1, dCons.eq_1, dNil.eq_1, u_parS, ssP2_2, u_parS3, ssP3_3, slO.eq_1, slD.eq_1, slNil.eq_1, doLst.eq_1, dFor.eq_1, diScr.eq_1, dRet.eq_1, dRetN.eq_1, dNext.eq_1, dCB.eq_1, dCall.eq_1, dFl.eq_1, dSum.eq_1, dAll.eq_1, dAny.eq_1, dMaxL.eq_1, dMinL.eq_1, isNon, u_frz, dDrop.eq_1, dLc.eq_1, dYes.eq_1, wipeS, dEq.eq_1, dNe.eq_1, dObj.eq_1, dSetO.eq_1, dIf.eq_1, dChain.eq_1, dSliceS.eq_1, lNone.eq_1, mset_same, mset_mset, dSortedS.eq_1, dSorted.eq_1, dBrk.eq_1, dCnt.eq_1,
  flatD, flat_ints, in_ints, take_map, drop_map, cmul_true, cdiv_true, cpow_true, gt_iff_lt, ge_iff_le, Int.reduceToNat, Int.reducePow, Int.reduceAdd, Int.reduceSub, Int.reduceLT, Int.reduceLE, Nat.reduceAdd, Nat.reduceMul, Nat.reduceLT, Nat.reduceLeDiff, Int.reduceMod, Int.reduceDiv, Int.reduceNeg, Int.reduceMul, Int.reduceEq, Int.reduceBEq, nc0, nc1, nc2, nc3, nc4, nc5, nc6, nc7, nc8, nc9, ex_some, ex_ints, ex_bls, le_line, lt_line, at0, at1, at2, at3, at4, at5, atI_map, atI_last, Option.map_some, cut_to, cut_from, cut_neg1, dDGet.eq_1, dHPut.eq_1, dObjD.eq_1, doDisp.eq_1, doEmp.eq_1, dFlD.eq_1, dRevL.eq_1, dgP_s, spStar.eq_1, eqOk_cn, eqOk_of, eqOk_str, eqv_tup, eqv_lst, eqv_tl, eqv_lt, eqv_nn, eqv_nt, eqv_tn, eqv_in, eqv_it, eqv_ti, eqv_bb, eqv_int, eqv_non_int, eqv_str, eqvL_nil, eqvL_cn, eqvL_nc, eqvL_cc, eqvL_ints, eqvL_snoc, eqvL_gaps, eqv_self, eqvL_self,
  List.getElem?_cons_succ, List.getElem?_cons_zero, List.set_cons_succ, List.set_cons_zero, List.map_cons, List.map_nil, List.length_cons, List.length_nil, List.length_map, List.length_append, List.length_take, List.length_drop, List.take_zero, List.drop_zero, List.take_succ_cons, List.drop_succ_cons, Nat.zero_le, Nat.zero_add, List.append_nil, List.nil_append, List.cons_append, decide_eq_true_eq, Bool.not_true, Bool.not_false, Bool.not_eq_true', decide_eq_false_iff_not, Bool.false_eq_true, Option.some.injEq, reduceCtorEq, if_true, if_false, ite_true, ite_false, true_and, and_true, and_self, exists_eq_left', exists_eq', Slot.ml.injEq, Slot.dat.injEq, D.scr.injEq, not_true_eq_false, not_false_eq_true, beq_self_eq_true, bne_self_eq_false, Bool.true_eq_false, decide_true, decide_false, Bool.and_true, Bool.true_and, Bool.and_false, Bool.false_and, Bool.or_true, Bool.true_or, Bool.or_false, Bool.false_or, ne_eq] | skip)
theorem r_free_seatsD : Keeps1 sp_free_seatsD N_free_seatsD t_free_seatsD := by
  rintro _ μ Q Z ⟨s, ts, rfl, q⟩
  show t_free_seatsD _ [.dat (rowD s ts)] μ
  unfold t_free_seatsD
  trivial
  exact q
theorem r_check_count (K : PySem.W.Frag) : Keeps1 (sp_check_count K) N_check_count (t_check_count K) := by
  rintro _ μ Q Z ⟨x, lo, hi, rfl, hx, q⟩
  show t_check_count K _ [.dat x, .dat (.int lo), .dat (.int hi)] μ
  unfold t_check_count
  trivial
  rw [c_is_integer hx]
  cases c : intIn x lo hi with
  | true =>
    rw [c] at q
    trivial
    exact q
  | false =>
    rw [c] at q
    trivial
    exact q
theorem max_cap {d w : Int} : (if 0 < (w + 1) / d - 1 then (w + 1) / d - 1 else 0) = capF d w := rfl
theorem r_most_in_gaps : Keeps1 sp_most_in_gaps N_most_in_gaps t_most_in_gaps := by
  rintro _ μ Q Z ⟨s, ts, d, rfl, d0, d1, hl, q⟩
  show t_most_in_gaps _ [.dat (rowD s ts), .dat (.int d), .no, .no] μ
  unfold t_most_in_gaps
  trivial
  rw [c_gaps (by omega)]
  trivial
  have hg := gapsF_le (ts ++ [s]) 0
  rw [List.length_append] at hg
  refine lc_if (fun _ => true) (fun g : Int × Int => .int (capF d g.2)) (gapsF 0 (ts ++ [s])) (by simp at hg; omega) (fun g _ Kk acc ha hT hF => ?_) ?_
  · trivial
    rw [max_cap]
    exact ⟨ha, hT rfl⟩
  · rw [List.filter_eq_self.mpr (fun _ _ => rfl)]
    trivial
    unfold capsF at q
    rw [List.map_map] at q
    exact q
theorem r_best_distance (K : PySem.W.Frag) : Keeps1 (sp_best_distance K) N_best_distance (t_best_distance K) := by
  rintro _ μ Q Z ⟨s, ts, x, rfl, R, hs, hl, hx, q⟩
  show t_best_distance K _ [.dat (rowD s ts), .dat x, .no, .no, .no] μ
  have s0 := R.one
  have e1 : (10 : Int) ^ 13 = 10000000000000 := by decide
  unfold t_best_distance
  refine seq_gen fun N k => ?_
  trivial
  rw [c_free_seatsD_]
  trivial
  refine check_count hx ?_
  rcases cnt_in (x := x) (s := s) (ts := ts) with ⟨c, rfl, c0, c1, e⟩ | ⟨e, e2⟩
  · rw [bsel_in c0 c1] at q
    rw [if_pos e]
    refine k _ _ ?_
    unfold t_best_distance_a2
    trivial
    unfold t_best_distance_a3
    refine seq_gen fun N2 k2 => ?_
    refine for_while (fun n ρ μ' => ∃ (lo hi : Int) (s4 : Slot), ρ = [.dat (rowD s ts), .dat (.int c), .dat (.int lo), .dat (.int hi), s4] ∧ μ' = μ ∧ 1 ≤ lo ∧ lo ≤ hi ∧ hi ≤ s ∧ c ≤ roomF s ts lo ∧ roomF s ts (hi + 1) < c ∧ n = (hi - lo).toNat) _ ⟨1, s, _, rfl, rfl, by omega, by omega, by omega, by rw [room_one R]; exact c1, by rw [room_top R (by omega)]; omega, rfl⟩ ?_
    rintro n _ _ N3 ⟨lo, hi, s4, rfl, rfl, a0, a1, a2, a3, a4, rfl⟩ k3
    unfold t_best_distance_1c
    trivial
    by_cases h : lo < hi
    · rw [if_pos h]
      unfold t_best_distance_1
      trivial
      unfold t_best_distance_a5
      trivial
      refine most (by omega) (by omega) (by omega) ?_
      trivial
      rw [show (capsF s ts ((lo + hi + 1) / 2)).sum = roomF s ts ((lo + hi + 1) / 2) from rfl]
      by_cases h2 : c ≤ roomF s ts ((lo + hi + 1) / 2)
      · rw [if_pos h2]
        exact k3 _ _ _ (by omega) ⟨_, _, _, rfl, rfl, by omega, by omega, by omega, h2, a4, rfl⟩
      · rw [if_neg h2]
        refine k3 _ _ _ ?_ ⟨_, (lo + hi + 1) / 2 - 1, _, rfl, rfl, by omega, by omega, by omega, a3, ?_, rfl⟩
        · omega
        · rw [show (lo + hi + 1) / 2 - 1 + 1 = (lo + hi + 1) / 2 from by omega]
          omega
    · rw [if_neg h]
      refine k2 _ _ ?_
      unfold t_best_distance_a9
      trivial
      have : hi = lo := by omega
      subst this
      exact q _ ⟨a0, a3, a4⟩
  · rw [e2] at q
    rw [e]
    trivial
    exact q
theorem r_distance_of_width : Keeps1 sp_distance_of_width N_distance_of_width t_distance_of_width := by
  rintro _ μ Q Z ⟨w, rfl, q⟩
  show t_distance_of_width _ [.dat (.int w)] μ
  unfold t_distance_of_width
  trivial
  exact q
theorem r_width_of : Keeps1 sp_width_of N_width_of t_width_of := by
  rintro _ μ Q Z ⟨ls, i, rfl, q⟩
  show t_width_of _ [.dat (.tup (ls.map gapD)), .dat (.int i), .no, .no] μ
  unfold t_width_of
  trivial
  refine for_rest (fun r ρ μ' => ∃ (j : Int) (s2 s3 : Slot), ρ = [.dat (.tup (ls.map gapD)), .dat (.int j), s2, s3] ∧ μ' = μ ∧ widAt r j = widAt ls i) ls ⟨i, _, _, rfl, rfl, rfl⟩ ?_ ?_
  · rintro ⟨w, m⟩ r _ μ2 N - ⟨j, s2, s3, rfl, rfl, e⟩ k
    have ec : widAt ((w, m) :: r) j = if j < m then w else widAt r (j - m) := rfl
    rw [ec] at e
    trivial
    unfold t_width_of_1
    trivial
    by_cases c : j < m
    · rw [if_pos c] at e ⊢
      rw [e]
      exact q
    · rw [if_neg c] at e ⊢
      unfold t_width_of_a4
      trivial
      exact k _ _ ⟨_, _, _, rfl, rfl, e⟩
  · rintro _ μ2 ⟨j, s2, s3, rfl, rfl, e⟩
    have ec : widAt [] j = 0 := rfl
    unfold t_width_of_a5
    trivial
    rw [← ec, e]
    exact q
theorem ints_badI {s : Int} {ts : List Int} : ∀ {xs : List D}, badI s ts xs = none → ∃ is : List Int, xs = is.map D.int ∧ ∀ i ∈ is, 0 ≤ i ∧ i < s - ts.length
  | [], _ => ⟨[], rfl, fun i h => by cases h⟩
  | x :: xs, h => by
    unfold badI at h
    rw [List.find?_cons] at h
    split at h
    · cases h
    · rename_i e
      obtain ⟨is, h1, h2⟩ := ints_badI (xs := xs) h
      cases x <;> simp [intIn] at e
      rename_i i
      refine ⟨i :: is, by rw [h1]; rfl, fun v hv => ?_⟩
      rcases List.mem_cons.mp hv with rfl | hv
      · omega
      · exact h2 v hv
theorem r_distances_of (K : PySem.W.Frag) : Keeps1 (sp_distances_of K) N_distances_of (t_distances_of K) := by
  rintro _ μ Q Z ⟨s, ts, xs, rfl, R, hs, hl, hx, hl2, q⟩
  show t_distances_of K _ [.dat (rowD s ts), .dat (.tup xs), .no, .no] μ
  unfold t_distances_of
  refine seq_gen fun N k => ?_
  trivial
  suffices h : dForGo (dgName 2) (t_distances_of_1 K) (DEnds.nxt { nx := fun x μ' => Q D.non μ', rt := Q, xc := fun x => Z } N) (xs.map id) [.dat (rowD s ts), .dat (.tup xs), .no, .no] μ by simpa using h
  unfold isel at q
  refine for_rest (fun r ρ μ' => ∃ s2, ρ = [.dat (rowD s ts), .dat (.tup xs), s2, .no] ∧ μ' = μ ∧ badI s ts r = badI s ts xs) xs ⟨_, rfl, rfl, rfl⟩ ?_ ?_
  · rintro v r _ μ2 N2 ⟨l, el⟩ ⟨s2, rfl, rfl, e⟩ k2
    have hv := hx v (by rw [el]; simp)
    have e' : badI s ts xs = if intIn v 0 (s - ts.length - 1) = false then some v else badI s ts r := by
      rw [← e]
      unfold badI
      rw [List.find?_cons]
      cases intIn v 0 (s - ts.length - 1) <;> rfl
    simp only [id]
    trivial
    unfold t_distances_of_1
    trivial
    rw [c_free_seatsD_]
    trivial
    rw [c_is_integer hv]
    cases c : intIn v 0 (s - ts.length - 1) with
    | true =>
      rw [c] at e'
      trivial
      exact k2 _ _ ⟨_, rfl, rfl, by rw [e', if_neg (by decide)]⟩
    | false =>
      rw [c] at e'
      rw [if_pos rfl] at e'
      trivial
      rw [e'] at q
      exact q
  · rintro _ μ2 ⟨s2, rfl, rfl, e⟩
    have hb : badI s ts xs = none := by rw [← e]; rfl
    rw [hb] at q
    dsimp only at q
    obtain ⟨is, e1, -⟩ := ints_badI hb
    have q' := q is e1
    clear q e
    subst e1
    refine k _ _ ?_
    unfold t_distances_of_a4
    trivial
    refine later R hs (by omega) fun ls hL hll => ?_
    unfold t_distances_of_a5
    trivial
    rw [List.length_map] at hl2
    refine lc_ints (fun _ => true) (fun i => (widAt ls i + 1) / 2) is (by omega) (fun i _ Kk acc ha hT hF => ?_) ?_
    · trivial
      refine widthof ?_
      trivial
      rw [c_distance_of_width_]
      exact ⟨ha, hT rfl⟩
    · rw [List.filter_eq_self.mpr (fun _ _ => rfl)]
      trivial
      have := q' ls hL
      unfold distD at this
      rw [List.map_map]
      exact this
theorem absI_lo {v : Int} (h : 0 ≤ v) : absI v = v := by unfold absI; split <;> omega
theorem absI_hi {v : Int} (h : v ≤ 0) : absI v = -v := by unfold absI; split <;> omega
theorem dist_of {s v m : Int} {ts : List Int} (h0 : 0 ≤ v) (h1 : v < s) (hm : m ∈ (-1 :: (ts ++ [s])).map fun o => absI (v - o)) (ha : ∀ y, y ∈ ((-1 :: (ts ++ [s])).map fun o => absI (v - o)) → m ≤ y) : IsDist s ts v m := by
  have e1 : absI (v - -1) = v + 1 := by rw [absI_lo (by omega)]; omega
  have e2 : absI (v - s) = s - v := by rw [absI_hi (by omega)]; omega
  refine ⟨?_, ?_, fun o ho => ha _ (List.mem_map.mpr ⟨o, by simp [ho], rfl⟩), ?_⟩
  · rw [← e1]
    exact ha _ (by simp)
  · rw [← e2]
    exact ha _ (by simp)
  · obtain ⟨o, ho, rfl⟩ := List.mem_map.mp hm
    rcases List.mem_cons.mp ho with rfl | ho
    · exact .inl e1
    · rcases List.mem_append.mp ho with ho | ho
      · exact .inr (.inr ⟨o, ho, rfl⟩)
      · rw [List.mem_singleton.mp ho]
        exact .inr (.inl e2)
theorem int_in {x : D} {s : Int} : (∃ v, x = .int v ∧ 0 ≤ v ∧ v < s) ∨ (intIn x 0 (s - 1) = false ∧ ∀ a b c, dsel s ts x a b c = a) := by
  cases x with
  | int v =>
    by_cases h : 0 ≤ v ∧ v < s
    · exact .inl ⟨v, rfl, h⟩
    · refine .inr ⟨?_, fun a b c => by simp only [dsel]; rw [if_neg h]⟩
      simp only [intIn, Bool.and_eq_false_iff, decide_eq_false_iff_not]
      omega
  | non => exact .inr ⟨rfl, fun _ _ _ => rfl⟩
  | bl _ => exact .inr ⟨rfl, fun _ _ _ => rfl⟩
  | str _ => exact .inr ⟨rfl, fun _ _ _ => rfl⟩
  | ty _ => exact .inr ⟨rfl, fun _ _ _ => rfl⟩
  | tup _ => exact .inr ⟨rfl, fun _ _ _ => rfl⟩
  | lst _ => exact .inr ⟨rfl, fun _ _ _ => rfl⟩
  | dic _ => exact .inr ⟨rfl, fun _ _ _ => rfl⟩
  | ins _ _ => exact .inr ⟨rfl, fun _ _ _ => rfl⟩
  | obj _ => exact .inr ⟨rfl, fun _ _ _ => rfl⟩
  | scr _ _ => exact .inr ⟨rfl, fun _ _ _ => rfl⟩
  | xcp _ _ _ _ => exact .inr ⟨rfl, fun _ _ _ => rfl⟩
theorem int_yes {v s : Int} (h0 : 0 ≤ v) (h1 : v < s) : intIn (.int v) 0 (s - 1) = true := by
  simp only [intIn, Bool.and_eq_true, decide_eq_true_eq]
  omega
theorem dsel_in {s v : Int} {ts : List Int} {a b : Prop} {c : Int → Prop} (h0 : 0 ≤ v) (h1 : v < s) : dsel s ts (.int v) a b c = (if v ∈ ts then b else ∀ m, IsDist s ts v m → c m) := by
  simp only [dsel]
  rw [if_pos ⟨h0, h1⟩]
theorem r_distance_at (K : PySem.W.Frag) : Keeps1 (sp_distance_at K) N_distance_at (t_distance_at K) := by
  rintro _ μ Q Z ⟨s, ts, x, rfl, R, hl, ho, q⟩
  show t_distance_at K _ [.dat (rowD s ts), .dat x, .no, .no, .no] μ
  unfold t_distance_at
  trivial
  unfold t_distance_at_a2
  trivial
  rw [c_is_integer ho]
  rcases int_in (x := x) (s := s) (ts := ts) with ⟨v, rfl, v0, v1⟩ | ⟨e, e2⟩
  · rw [dsel_in v0 v1] at q
    rw [int_yes v0 v1]
    trivial
    unfold t_distance_at_a4
    trivial
    by_cases h : v ∈ ts
    · rw [if_pos h] at q ⊢
      exact q
    · rw [if_neg h] at q ⊢
      unfold t_distance_at_a6
      trivial
      rw [show D.int (-1) :: (ts.map D.int ++ [D.int s]) = (-1 :: (ts ++ [s])).map D.int by simp]
      refine lc_ints (fun _ => true) (fun o => absI (v - o)) (-1 :: (ts ++ [s])) (by simp; omega) (fun o _ Kk acc ha hT hF => ?_) ?_
      · trivial
        simp only [absI_eq]
        exact ⟨ha, hT rfl⟩
      · rw [List.filter_eq_self.mpr (fun _ _ => rfl)]
        trivial
        exact ⟨(-1 :: (ts ++ [s])).map fun o => absI (v - o), rfl, by simp, fun m hm ha => q m (dist_of v0 v1 hm ha)⟩
  · rw [e2] at q
    rw [e]
    trivial
    exact q
end DL

namespace DL
open PySem PySem.Spec PyProof.Rows L2
local macro_rules | `(tactic| trivial) => `(tactic| first | simp (config := { maxSteps := 3000000, implicitDefEqProofs := false }) (disch := first | omega | (refine id ?_; simp only [okN, okNL, okNL_ints, okNL_nats, okNL_bls, okNL_gaps, okNL_gapsL, okNL_append, Bool.and_self, Bool.and_true, Bool.true_and]; done) | assumption) only [diZM.eq_1, zmP_t, dRevT.eq_1, rowD, gapD, gapLD, u_seq, nxt_nx, nxt_rt, nxt_xc, nxt_bk, nxt_ct, dAsg.eq_1, dgTup_t, dgTup_l, dgCons_c, dgNil_n, dgName.eq_1, u_var, u_bor, dC.eq_1, slP_d, boP_d, boP_l, boP_m, mlP_l, frP_d, frP_l, frP_m, frS_some, frS_none, dIfS.eq_1, u_test, dOrT.eq_1, dAndT.eq_1, dNotT.eq_1, dOp.eq_1, rd_int, rd_bl, rd_str, rd_non, rd_tup, rd_lst, rd_ty, rd_scr, rd_dic, rd_mL, rd_mD, rd_xcp, isX_ty, isX_obj, isX_tup, dCX.eq_1, isB_b, notB_b, dCntB.eq_1, cntP_l, cBl_n, cBl_c, isBl_b,  u_diZ, zpP_l, zpP_t, u_diE, enP_l, leP_p, dXF.eq_1, xfP_1, dRaise0.eq_1, dRaise1.eq_1, dTryAs.eq_1, dTryOnly.eq_1, blP_bl, inP_int, sqP_t, sqP_l, liP_l, tuP_t, cutP_l, cutP_t, catP_l, rgP_int, itP_some, r1P_i, r2P_i,
  u_andV, u_orV, u_notV, u_neg, u_star, u_diL, u_diT, u_some, u_slice, u_doOf, u_doCat, u_doRg, u_rgT, u_rgL, u_r1, u_r2, u_oset, ix_l, ix_t, add_ii, add_ss, add_ll, add_tt, sub_ii, mul_ii, mul_li, mod_ii, div_ii, pow_ii, lt_ii, le_ii, gt_ii, ge_ii, isN_n, notN_n, in_l, in_t, len_l, len_t, len_s, abs_i, max_ii, min_ii, int_i, int_b, tupOf_l, tupOf_t, lstOf_l, lstOf_t, is_l, bs_l, sortedT_t, repr_d, lenS_s, isi_non_int, isi_non_bool, isi_non_str, isi_non_tuple, isi_non_list, isi_non_dict, isi_bl_int, isi_bl_bool, isi_bl_str, isi_bl_tuple, isi_bl_list, isi_bl_dict, isi_int_int, isi_int_bool, isi_int_str, isi_int_tuple, isi_int_list, isi_int_dict, isi_str_int, isi_str_bool, isi_str_str, isi_str_tuple, isi_str_list, isi_str_dict, isi_tup_int, isi_tup_bool, isi_tup_str, isi_tup_tuple, isi_tup_list, isi_tup_dict, isi_lst_int, isi_lst_bool, isi_lst_str, isi_lst_tuple, isi_lst_list, isi_lst_dict, isi_dic_int, isi_dic_bool, isi_dic_str, isi_dic_tuple, isi_dic_list, isi_dic_dict, tyName,
  u_app, u_sext, dSIx, u_aug, dTup.eq_1, dLst.eq_1, dCons.eq_1, dNil.eq_1, u_parS, ssP2_2, u_parS3, ssP3_3, slO.eq_1, slD.eq_1, slNil.eq_1, doLst.eq_1, dFor.eq_1, diScr.eq_1, dRet.eq_1, dRetN.eq_1, dNext.eq_1, dCB.eq_1, dCall.eq_1, dFl.eq_1, dSum.eq_1, dAll.eq_1, dAny.eq_1, dMaxL.eq_1, dMinL.eq_1, isNon, u_frz, dDrop.eq_1, dLc.eq_1, dYes.eq_1, wipeS, dEq.eq_1, dNe.eq_1, dObj.eq_1, dSetO.eq_1, dIf.eq_1, dChain.eq_1, dSliceS.eq_1, lNone.eq_1, mset_same, mset_mset, dSortedS.eq_1, dSorted.eq_1, dBrk.eq_1, dCnt.eq_1,
  flatD, flat_ints, in_ints, take_map, drop_map, cmul_true, cdiv_true, cpow_true, gt_iff_lt, ge_iff_le, Int.reduceToNat, Int.reducePow, Int.reduceAdd, Int.reduceSub, Int.reduceLT, Int.reduceLE, Nat.reduceAdd, Nat.reduceMul, Nat.reduceLT, Nat.reduceLeDiff, Int.reduceMod, Int.reduceDiv, Int.reduceNeg, Int.reduceMul, Int.reduceEq, Int.reduceBEq, nc0, nc1, nc2, nc3, nc4, nc5, nc6, nc7, nc8, nc9, ex_some, ex_ints, ex_bls, le_line, lt_line, at0, at1, at2, at3, at4, at5, atI_map, atI_last, Option.map_some, cut_to, cut_from, cut_neg1, dDGet.eq_1, dHPut.eq_1, dObjD.eq_1, doDisp.eq_1, doEmp.eq_1, dFlD.eq_1, dRevL.eq_1, dgP_s, spStar.eq_1, eqOk_cn, eqOk_of, eqOk_str, eqv_tup, eqv_lst, eqv_tl, eqv_lt, eqv_nn, eqv_nt, eqv_tn, eqv_in, eqv_it, eqv_ti, eqv_bb, eqv_int, eqv_non_int, eqv_str, eqvL_nil, eqvL_cn, eqvL_nc, eqvL_cc, eqvL_ints, eqvL_snoc, eqvL_gaps, eqv_self, eqvL_self,
  List.getElem?_cons_succ, List.getElem?_cons_zero, List.set_cons_succ, List.set_cons_zero, List.map_cons, List.map_nil, List.length_cons, List.length_nil, List.length_map, List.length_append, List.length_take, List.length_drop, List.take_zero, List.drop_zero, List.take_succ_cons, List.drop_succ_cons, Nat.zero_le, Nat.zero_add, List.append_nil, List.nil_append, List.cons_append, decide_eq_true_eq, Bool.not_true, Bool.not_false, Bool.not_eq_true', decide_eq_false_iff_not, Bool.false_eq_true, Option.some.injEq, reduceCtorEq, if_true, if_false, ite_true, ite_false, true_and, and_true, and_self, exists_eq_left', exists_eq', Slot.ml.injEq, Slot.dat.injEq, D.scr.injEq, not_true_eq_false, not_false_eq_true, beq_self_eq_true, bne_self_eq_false, Bool.true_eq_false, decide_true, decide_false, Bool.and_true, Bool.true_and, Bool.and_false, Bool.false_and, Bool.or_true, Bool.true_or, Bool.or_false, Bool.false_or, ne_eq] | skip)
theorem caps_len {s d : Int} {ts : List Int} (h : ts.length ≤ 100) : (capsF s ts d).length ≤ 101 := by
  have hg := gapsF_le (ts ++ [s]) 0
  rw [List.length_append] at hg
  simp only [List.length_cons, List.length_nil] at hg
  unfold capsF
  rw [List.length_map]
  omega
theorem min_if {m c : Int} : (if c < m then c else m) = min m c := by
  split <;> omega
theorem r_best_certificate (K : PySem.W.Frag) : Keeps1 (sp_best_certificate K) N_best_certificate (t_best_certificate K) := by
  rintro _ μ Q Z ⟨s, ts, x, rfl, R, hs, hl, ho, q⟩
  show t_best_certificate K _ [.dat (rowD s ts), .dat x, .no, .no, .no, .no] μ
  have e1 : (10 : Int) ^ 13 = 10000000000000 := by decide
  unfold t_best_certificate
  trivial
  refine best R hs hl ho ?_
  rcases cnt_in (x := x) (s := s) (ts := ts) with ⟨c, rfl, c0, c1, e⟩ | ⟨e, e2⟩
  · rw [bsel_in c0 c1] at q ⊢
    intro d hd
    have hdl := hd.le R c0
    have hd1 := hd.lo
    have q' := q d hd
    unfold t_best_certificate_a2
    trivial
    unfold t_best_certificate_a3
    refine seq_gen fun N k => ?_
    trivial
    refine most (by omega) (by omega) (by omega) ?_
    have hcl := caps_len (s := s) (d := d) (ts := ts) (by omega)
    unfold certD at q'
    generalize capsF s ts d = cs at q' hcl ⊢
    trivial
    refine for_rest (fun r ρ μ' => ∃ (n : Int) (acc : List Int) (s4 s5 : Slot), ρ = [.dat (rowD s ts), .dat (.int n), .dat (.int d), .ml (acc.map .int), s4, s5] ∧ μ' = μ ∧ acc.length + r.length ≤ 101 ∧ acc ++ greedy r n = greedy cs c) cs ⟨c, [], _, _, rfl, rfl, by simpa using hcl, rfl⟩ ?_ ?_
    · rintro v r _ μ2 N2 - ⟨n, acc, s4, s5, rfl, rfl, hl2, ea⟩ k2
      have hl3 : acc.length + r.length + 1 ≤ 101 := by simpa [Nat.add_assoc] using hl2
      have eg : greedy (v :: r) n = min v n :: greedy r (n - min v n) := rfl
      rw [eg] at ea
      trivial
      unfold t_best_certificate_1
      trivial
      simp only [min_if]
      generalize min v n = m at ea ⊢
      trivial
      exact k2 _ _ ⟨n - m, acc ++ [m], _, _, by rw [List.map_append]; rfl, rfl, by simp; omega, by rw [← ea]; simp⟩
    · rintro _ μ2 ⟨n, acc, s4, s5, rfl, rfl, hl2, ea⟩
      refine k _ _ ?_
      unfold t_best_certificate_a7
      trivial
      have eg : greedy [] n = [] := rfl
      rw [eg, List.append_nil] at ea
      rw [ea]
      exact q'
  · rw [e2] at q ⊢
    exact q
theorem allIn_len : ∀ {xs : List D} {cs : List Int}, xs.length ≠ cs.length → allIn xs cs = false
  | [], [], h => (h rfl).elim
  | [], _ :: _, _ => rfl
  | _ :: _, [], _ => rfl
  | x :: xs, r :: rs, h => by
    have : xs.length ≠ rs.length := fun e => h (by simp [e])
    simp [allIn, allIn_len this]
theorem allIn_ints : ∀ {xs : List D} {cs : List Int}, allIn xs cs = true → xs = (xs.map intV).map D.int
  | [], _, _ => rfl
  | x :: xs, [], h => by simp [allIn] at h
  | x :: xs, r :: rs, h => by
    simp only [allIn, Bool.and_eq_true] at h
    cases x <;> simp [intIn] at h
    rw [List.map_cons, List.map_cons, ← allIn_ints h.2]
    rfl
theorem allIn_zip : ∀ {xs : List D} {cs : List Int}, xs.length = cs.length → allIn xs cs = ((xs.zip cs).map fun p => intIn p.1 0 p.2).all id
  | [], [], _ => rfl
  | [], _ :: _, h => by simp at h
  | _ :: _, [], h => by simp at h
  | x :: xs, r :: rs, h => by
    have h' : xs.length = rs.length := by simpa using h
    rw [List.zip_cons_cons, List.map_cons, List.all_cons, ← allIn_zip h']
    rfl
theorem zipD_zip : ∀ {xs : List D} {cs : List Int}, zipD xs (cs.map .int) = (xs.zip cs).map fun p => D.tup [p.1, .int p.2]
  | [], _ => rfl
  | _ :: _, [] => rfl
  | x :: xs, r :: rs => by
    have ih := zipD_zip (xs := xs) (cs := rs)
    unfold zipD at ih ⊢
    rw [List.map_cons, List.zipWith_cons_cons, List.zip_cons_cons, List.map_cons, ih]
theorem hf_fst {s c : Int} {ts : List Int} {a b : D} (h : intIn a 1 s = false) : holdsF s ts c (.tup [a, b]) = false := by
  cases a with
  | int d =>
    cases b with
    | tup ys =>
      have h' : (decide (1 ≤ d) && decide (d ≤ s)) = false := h
      simp only [holdsF]
      rw [h', Bool.false_and]
    | _ => rfl
  | _ => rfl
theorem holds_a8 {K : PySem.W.Frag} {D1 : DEnds} {s c d : Int} {ts : List Int} {ys : List D} {μ : Mu} {r2 : Slot} (hs : s ≤ 10 ^ 13) (hl : ts.length ≤ 60) (d0 : 1 ≤ d) (d1 : d ≤ s) (hy : ys.length = (capsF s ts d).length) (hok : ∀ y ∈ ys, okR 3 y = true)
    (q : D1.rt (.bl (holdsF s ts c (.tup [.int d, .tup ys]))) μ) : t_best_holds_a8 K D1 [.dat (rowD s ts), .dat (.int c), r2, .dat (.lst ((capsF s ts d).map .int)), .dat (.int d), .dat (.tup ys), .no, .no] μ := by
  have e1 : (10 : Int) ^ 13 = 10000000000000 := by decide
  have hcl := caps_len (s := s) (d := d) (ts := ts) (by omega)
  have hz : (ys.zip (capsF s ts d)).length ≤ 101 := by rw [List.length_zip]; omega
  unfold t_best_holds_a8
  refine seq_gen fun N k => ?_
  trivial
  rw [zipD_zip]
  refine lc_if (fun _ => true) (fun p : D × Int => .bl (intIn p.1 0 p.2)) (ys.zip (capsF s ts d)) (by omega) (fun p hp Kk a hh hT hF => ?_) ?_
  · trivial
    rw [c_is_integer (hok _ (List.of_mem_zip hp).1)]
    exact ⟨hh, hT rfl⟩
  rw [List.filter_eq_self.mpr (fun _ _ => rfl), show (ys.zip (capsF s ts d)).map (fun p : D × Int => D.bl (intIn p.1 0 p.2)) = ((ys.zip (capsF s ts d)).map fun p => intIn p.1 0 p.2).map D.bl from by rw [List.map_map]; rfl]
  trivial
  rw [← allIn_zip hy]
  have hh : holdsF s ts c (.tup [.int d, .tup ys]) = (allIn ys (capsF s ts d) && (decide ((ys.map intV).sum = c) && decide (roomF s ts (d + 1) < c))) := by
    simp only [holdsF]
    rw [show (decide (1 ≤ d) && decide (d ≤ s)) = true from by simp [d0, d1], Bool.true_and]
  rw [hh] at q
  cases ha : allIn ys (capsF s ts d) with
  | false =>
    rw [ha, Bool.false_and] at q
    trivial
    exact q
  | true =>
    rw [ha, Bool.true_and] at q
    have ei := allIn_ints ha
    trivial
    refine k _ _ ?_
    unfold t_best_holds_a10
    trivial
    generalize ys.map intV = ns at q ei
    subst ei
    simp only [sumT_t]
    trivial
    by_cases h1 : ns.sum = c
    · rw [show decide (ns.sum = c) = true from by simp [h1], Bool.true_and] at q
      rw [show (ns.sum == c) = true from by simp [h1]]
      trivial
      refine most (by omega) (by omega) (by omega) ?_
      trivial
      exact q
    · rw [show decide (ns.sum = c) = false from by simp [h1], Bool.false_and] at q
      rw [show (ns.sum == c) = false from by simp [h1]]
      trivial
      exact q
theorem hf_len {s c : Int} {ts : List Int} {a : D} {ys : List D} {d : Int} (h : ys.length ≠ (capsF s ts d).length) : holdsF s ts c (.tup [.int d, .tup ys]) = false := by
  simp only [holdsF]
  rw [allIn_len h, Bool.false_and, Bool.and_false]
theorem hf_one {s c : Int} {ts : List Int} {a : D} : holdsF s ts c (.tup [a]) = false := by cases a <;> rfl
theorem hf_more {s c : Int} {ts : List Int} {a b d : D} {r : List D} : holdsF s ts c (.tup (a :: b :: d :: r)) = false := by
  cases a <;> first | rfl | (cases b <;> rfl)
theorem holds_a5 {K : PySem.W.Frag} {D1 : DEnds} {s c d : Int} {ts : List Int} {b : D} {μ : Mu} {r2 : Slot} (hs : s ≤ 10 ^ 13) (hl : ts.length ≤ 60) (d0 : 1 ≤ d) (d1 : d ≤ s) (hb : plainD b = true) (hok : ∀ ys, b = .tup ys → ys.length ≤ 1000 ∧ ∀ y ∈ ys, okR 3 y = true)
    (q : D1.rt (.bl (holdsF s ts c (.tup [.int d, b]))) μ) : t_best_holds_a5 K D1 [.dat (rowD s ts), .dat (.int c), r2, .no, .dat (.int d), .dat b, .no, .no] μ := by
  have e1 : (10 : Int) ^ 13 = 10000000000000 := by decide
  unfold t_best_holds_a5
  trivial
  refine most (by omega) (by omega) (by omega) ?_
  trivial
  have hcl := caps_len (s := s) (d := d) (ts := ts) (by omega)
  unfold t_best_holds_a6
  refine seq_gen fun N k => ?_
  cases b with
  | tup ys =>
    obtain ⟨hyl, hok⟩ := hok ys rfl
    trivial
    by_cases h : ys.length = (capsF s ts d).length
    · rw [show ((ys.length : Int) == ((capsF s ts d).length : Int)) = true from by simp [h]]
      trivial
      exact k _ _ (holds_a8 hs hl d0 d1 h hok q)
    · rw [show ((ys.length : Int) == ((capsF s ts d).length : Int)) = false from by simp; omega]
      trivial
      rw [hf_len (a := .non) h] at q
      exact q
  | non => trivial; exact q
  | bl _ => trivial; exact q
  | int _ => trivial; exact q
  | str _ => trivial; exact q
  | lst _ => trivial; exact q
  | dic _ => trivial; exact q
  | ty _ => simp [plainD] at hb
  | ins _ _ => simp [plainD] at hb
  | obj _ => simp [plainD] at hb
  | scr _ _ => simp [plainD] at hb
  | xcp _ _ _ _ => simp [plainD] at hb
theorem holds_a2 {K : PySem.W.Frag} {D1 : DEnds} {s c : Int} {ts : List Int} {x : D} {μ : Mu} (hs : s ≤ 10 ^ 13) (hl : ts.length ≤ 60) (hx : Vx x)
    (q : D1.rt (.bl (holdsF s ts c x)) μ) : t_best_holds_a2 K D1 [.dat (rowD s ts), .dat (.int c), .dat x, .no, .no, .no, .no, .no] μ := by
  unfold t_best_holds_a2
  refine seq_gen fun N k => ?_
  have hp := hx.pl
  cases x with
  | tup xs =>
    have hxl := hx.len xs rfl
    match xs with
    | [] =>
      trivial
      exact q
    | [a] =>
      rw [hf_one] at q
      trivial
      exact q
    | a :: b :: c' :: r =>
      have hne : (((a :: b :: c' :: r).length : Int) == 2) = false := by simp; omega
      have hpos : 0 ≤ (r.length : Int) := by omega
      generalize hz : a :: b :: c' :: r = zs at *
      trivial
      rw [hne]
      trivial
      subst hz
      rw [hf_more] at q
      exact q
    | [a, b] =>
      obtain ⟨ha, hb⟩ := hx.fst a b rfl
      trivial
      rw [c_is_integer ha]
      cases ea : intIn a 1 s with
      | false =>
        trivial
        rw [hf_fst ea] at q
        exact q
      | true =>
        trivial
        refine k _ _ ?_
        cases a <;> simp only [intIn, Bool.false_eq_true, Bool.and_eq_true, decide_eq_true_eq] at ea
        rename_i d
        unfold t_best_holds_a4
        trivial
        exact holds_a5 hs hl ea.1 ea.2 hb (fun ys e => by subst e; exact hx.snd _ ys rfl) q
  | non => trivial; exact q
  | bl _ => trivial; exact q
  | int _ => trivial; exact q
  | str _ => trivial; exact q
  | lst _ => trivial; exact q
  | dic _ => trivial; exact q
  | ty _ => simp [plainD] at hp
  | ins _ _ => simp [plainD] at hp
  | obj _ => simp [plainD] at hp
  | scr _ _ => simp [plainD] at hp
  | xcp _ _ _ _ => simp [plainD] at hp
theorem r_best_holds (K : PySem.W.Frag) : Keeps1 (sp_best_holds K) N_best_holds (t_best_holds K) := by
  rintro _ μ Q Z ⟨s, ts, y, x, rfl, R, hs, hl, ho, hx, q⟩
  show t_best_holds K _ [.dat (rowD s ts), .dat y, .dat x, .no, .no, .no, .no, .no] μ
  unfold t_best_holds
  trivial
  rw [c_free_seatsD_]
  trivial
  refine check_count ho ?_
  rcases cnt_in (x := y) (s := s) (ts := ts) with ⟨c, rfl, c0, c1, e⟩ | ⟨e, e2⟩
  · rw [e, if_pos rfl]
    rw [bsel_in c0 c1] at q
    exact holds_a2 hs hl hx q
  · rw [e, if_neg (by decide)]
    rw [e2] at q
    exact q
end DL

namespace DL
open PySem PySem.Spec PyProof.Rows L2
local macro_rules | `(tactic| trivial) => `(tactic| first | simp (config := { maxSteps := 3000000, implicitDefEqProofs := false }) (disch := first | omega | (refine id ?_; simp only [okN, okNL, okNL_ints, okNL_nats, okNL_bls, okNL_gaps, okNL_gapsL, okNL_append, Bool.and_self, Bool.and_true, Bool.true_and]; done) | assumption) only [diZM.eq_1, zmP_t, dRevT.eq_1, rowD, gapD, gapLD, u_seq, nxt_nx, nxt_rt, nxt_xc, nxt_bk, nxt_ct, dAsg.eq_1, dgTup_t, dgTup_l, dgCons_c, dgNil_n, dgName.eq_1, u_var, u_bor, dC.eq_1, slP_d, boP_d, boP_l, boP_m, mlP_l, frP_d, frP_l, frP_m, frS_some, frS_none, dIfS.eq_1, u_test, dOrT.eq_1, dAndT.eq_1, dNotT.eq_1, dOp.eq_1, rd_int, rd_bl, rd_str, rd_non, rd_tup, rd_lst, rd_ty, rd_scr, rd_dic, rd_mL, rd_mD, rd_xcp, isX_ty, isX_obj, isX_tup, dCX.eq_1, isB_b, notB_b, dCntB.eq_1, cntP_l, cBl_n, cBl_c, isBl_b,  u_diZ, zpP_l, zpP_t, u_diE, enP_l, leP_p, dXF.eq_1, xfP_1, dRaise0.eq_1, dRaise1.eq_1, dTryAs.eq_1, dTryOnly.eq_1, blP_bl, inP_int, sqP_t, sqP_l, liP_l, tuP_t, cutP_l, cutP_t, catP_l, rgP_int, itP_some, r1P_i, r2P_i,
  u_andV, u_orV, u_notV, u_neg, u_star, u_diL, u_diT, u_some, u_slice, u_doOf, u_doCat, u_doRg, u_rgT, u_rgL, u_r1, u_r2, u_oset, ix_l, ix_t, add_ii, add_ss, add_ll, add_tt, sub_ii, mul_ii, mul_li, mod_ii, div_ii, pow_ii, lt_ii, le_ii, gt_ii, ge_ii, isN_n, notN_n, in_l, in_t, len_l, len_t, len_s, abs_i, max_ii, min_ii, int_i, int_b, tupOf_l, tupOf_t, lstOf_l, lstOf_t, is_l, bs_l, sortedT_t, repr_d, lenS_s, isi_non_int, isi_non_bool, isi_non_str, isi_non_tuple, isi_non_list, isi_non_dict, isi_bl_int, isi_bl_bool, isi_bl_str, isi_bl_tuple, isi_bl_list, isi_bl_dict, isi_int_int, isi_int_bool, isi_int_str, isi_int_tuple, isi_int_list, isi_int_dict, isi_str_int, isi_str_bool, isi_str_str, isi_str_tuple, isi_str_list, isi_str_dict, isi_tup_int, isi_tup_bool, isi_tup_str, isi_tup_tuple, isi_tup_list, isi_tup_dict, isi_lst_int, isi_lst_bool, isi_lst_str, isi_lst_tuple, isi_lst_list, isi_lst_dict, isi_dic_int, isi_dic_bool, isi_dic_str, isi_dic_tuple, isi_dic_list, isi_dic_dict, tyName,
  u_app, u_sext, dSIx, u_aug, dTup.eq_1, dLst.eq_1, dCons.eq_1, dNil.eq_1, u_parS, ssP2_2, u_parS3, ssP3_3, slO.eq_1, slD.eq_1, slNil.eq_1, doLst.eq_1, dFor.eq_1, diScr.eq_1, dRet.eq_1, dRetN.eq_1, dNext.eq_1, dCB.eq_1, dCall.eq_1, dFl.eq_1, dSum.eq_1, dAll.eq_1, dAny.eq_1, dMaxL.eq_1, dMinL.eq_1, isNon, u_frz, dDrop.eq_1, dLc.eq_1, dYes.eq_1, wipeS, dEq.eq_1, dNe.eq_1, dObj.eq_1, dSetO.eq_1, dIf.eq_1, dChain.eq_1, dSliceS.eq_1, lNone.eq_1, mset_same, mset_mset, dSortedS.eq_1, dSorted.eq_1, dBrk.eq_1, dCnt.eq_1,
  flatD, flat_ints, in_ints, take_map, drop_map, cmul_true, cdiv_true, cpow_true, gt_iff_lt, ge_iff_le, Int.reduceToNat, Int.reducePow, Int.reduceAdd, Int.reduceSub, Int.reduceLT, Int.reduceLE, Nat.reduceAdd, Nat.reduceMul, Nat.reduceLT, Nat.reduceLeDiff, Int.reduceMod, Int.reduceDiv, Int.reduceNeg, Int.reduceMul, Int.reduceEq, Int.reduceBEq, nc0, nc1, nc2, nc3, nc4, nc5, nc6, nc7, nc8, nc9, ex_some, ex_ints, ex_bls, le_line, lt_line, at0, at1, at2, at3, at4, at5, atI_map, atI_last, Option.map_some, cut_to, cut_from, cut_neg1, dDGet.eq_1, dHPut.eq_1, dObjD.eq_1, doDisp.eq_1, doEmp.eq_1, dFlD.eq_1, dRevL.eq_1, dgP_s, spStar.eq_1, eqOk_cn, eqOk_of, eqOk_str, eqv_tup, eqv_lst, eqv_tl, eqv_lt, eqv_nn, eqv_nt, eqv_tn, eqv_in, eqv_it, eqv_ti, eqv_bb, eqv_int, eqv_non_int, eqv_str, eqvL_nil, eqvL_cn, eqvL_nc, eqvL_cc, eqvL_ints, eqvL_snoc, eqvL_gaps, eqv_self, eqvL_self,
  List.getElem?_cons_succ, List.getElem?_cons_zero, List.set_cons_succ, List.set_cons_zero, List.map_cons, List.map_nil, List.length_cons, List.length_nil, List.length_map, List.length_append, List.length_take, List.length_drop, List.take_zero, List.drop_zero, List.take_succ_cons, List.drop_succ_cons, Nat.zero_le, Nat.zero_add, List.append_nil, List.nil_append, List.cons_append, decide_eq_true_eq, Bool.not_true, Bool.not_false, Bool.not_eq_true', decide_eq_false_iff_not, Bool.false_eq_true, Option.some.injEq, reduceCtorEq, if_true, if_false, ite_true, ite_false, true_and, and_true, and_self, exists_eq_left', exists_eq', Slot.ml.injEq, Slot.dat.injEq, D.scr.injEq, not_true_eq_false, not_false_eq_true, beq_self_eq_true, bne_self_eq_false, Bool.true_eq_false, decide_true, decide_false, Bool.and_true, Bool.true_and, Bool.and_false, Bool.false_and, Bool.or_true, Bool.true_or, Bool.or_false, Bool.false_or, ne_eq] | skip)
theorem zip_caps {d : Int} : ∀ gs : List (Int × Int), zipD (gs.map gapD) ((gs.map fun g => capF d g.2).map .int) = gs.map fun g => D.tup [gapD g, .int (capF d g.2)]
  | [] => rfl
  | g :: gs => by
    rw [List.map_cons, List.map_cons, List.map_cons, List.map_cons, ← zip_caps gs]
    rfl
theorem r_spread (K : PySem.W.Frag) : Keeps1 (sp_spread K) N_spread (t_spread K) := by
  rintro _ μ Q Z ⟨s, ts, c, rfl, R, hs, hl, c0, c1, c2, q⟩
  have e12 : (10 : Int) ^ 12 = 1000000000000 := by decide
  have e13 : (10 : Int) ^ 13 = 10000000000000 := by decide
  show t_spread K _ [.dat (rowD s ts), .dat (.int c), .no, .no, .no, .no, .no, .no] μ
  unfold t_spread
  refine seq_gen fun N k => ?_
  trivial
  refine best R (by omega) (by omega) (by simp [okR]) ?_
  rw [bsel_in (by omega) (by omega)]
  intro d B
  have q := q d B
  have d1 := B.lo
  have d2 := B.le R (by omega)
  trivial
  refine k _ _ ?_
  clear k
  unfold t_spread_a2
  refine seq_gen fun N k => ?_
  trivial
  rw [if_neg (by omega)]
  refine k _ _ ?_
  clear k
  unfold t_spread_a4
  trivial
  unfold t_spread_a5
  refine seq_gen fun N k => ?_
  trivial
  rw [c_gaps (by omega)]
  refine most (by omega) (by omega) (by omega) ?_
  unfold capsF
  trivial
  rw [zip_caps]
  generalize hfull : spreadF (gapsF 0 (ts ++ [s])) d c = full at *
  refine for_rest (fun r ρ μ' => ∃ (L : List Int) (r4 r5 r6 r7 : Slot), ρ = [.dat (rowD s ts), .dat (.int c), .dat (.int d), .ml (L.map .int), r4, r5, r6, r7] ∧ μ' = μ ∧ L ++ spreadF r d (c - L.length) = full ∧ L.length ≤ c) (gapsF 0 (ts ++ [s])) ⟨[], _, _, _, _, rfl, rfl, by simpa using hfull, by simp⟩ ?_ ?_
  · rintro ⟨b, w⟩ r _ ν N2 - ⟨L, r4, r5, r6, r7, rfl, hν, e, hL⟩ k2
    have hc := cap_nn (d := d) (w := w)
    trivial
    unfold t_spread_2
    trivial
    have hm : (if (c : Int) - (L.length : Int) < capF d w then (c : Int) - (L.length : Int) else capF d w).toNat = min (capF d w).toNat (c - L.length) := by split <;> omega
    rw [hm]
    refine for_range (fun i ρ μ' => ∃ r5 : Slot, ρ = [.dat (rowD s ts), .dat (.int c), .dat (.int d), .ml ((L ++ inGap (b, w) d i).map .int), .dat (.int (capF d w)), r5, .dat (.int b), .dat (.int w)] ∧ μ' = ν) (min (capF d w).toNat (c - L.length)) ⟨r5, by simp [inGap], rfl⟩ ?_ ?_
    · rintro i _ _ N3 hi ⟨r5, rfl, rfl⟩ k3
      trivial
      unfold t_spread_1
      trivial
      refine ⟨by rw [inGap_len, sizeLine_eq]; omega, ?_⟩
      refine k3 _ _ ⟨.dat (.int i), ?_, rfl⟩
      rw [show L ++ inGap (b, w) d (i + 1) = (L ++ inGap (b, w) d i) ++ [b - 1 + ((i : Int) + 1) * d] by
        unfold inGap
        rw [List.range_succ, List.map_append, List.append_assoc]
        rfl, List.map_append (l₁ := L ++ inGap (b, w) d i)]
      rfl
    · rintro _ _ ⟨r5, rfl, rfl⟩
      refine k2 _ _ ⟨_, _, _, _, _, rfl, hν, ?_, ?_⟩
      · rw [← e, spreadF, List.append_assoc, List.length_append, inGap_len, Nat.sub_sub]
      · rw [List.length_append, inGap_len]
        omega
  · rintro _ _ ⟨L, r4, r5, r6, r7, rfl, rfl, e, hL⟩
    refine k _ _ ?_
    clear k
    unfold t_spread_a8
    trivial
    rw [spreadF, List.append_nil] at e
    rw [e]
    exact q
end DL

namespace DL
open PySem PySem.Spec PyProof.Rows L2
local macro_rules | `(tactic| trivial) => `(tactic| first | simp (config := { maxSteps := 3000000, implicitDefEqProofs := false }) (disch := first | omega | (refine id ?_; simp only [okN, okNL, okNL_ints, okNL_nats, okNL_bls, okNL_gaps, okNL_gapsL, okNL_append, Bool.and_self, Bool.and_true, Bool.true_and]; done) | assumption) only [diZM.eq_1, zmP_t, dRevT.eq_1, rowD, gapD, gapLD, u_seq, nxt_nx, nxt_rt, nxt_xc, nxt_bk, nxt_ct, dAsg.eq_1, dgTup_t, dgTup_l, dgCons_c, dgNil_n, dgName.eq_1, u_var, u_bor, dC.eq_1, slP_d, boP_d, boP_l, boP_m, mlP_l, frP_d, frP_l, frP_m, frS_some, frS_none, dIfS.eq_1, u_test, dOrT.eq_1, dAndT.eq_1, dNotT.eq_1, dOp.eq_1, rd_int, rd_bl, rd_str, rd_non, rd_tup, rd_lst, rd_ty, rd_scr, rd_dic, rd_mL, rd_mD, rd_xcp, isX_ty, isX_obj, isX_tup, dCX.eq_1, isB_b, notB_b, dCntB.eq_1, cntP_l, cBl_n, cBl_c, isBl_b,  u_diZ, zpP_l, zpP_t, u_diE, enP_l, leP_p, dXF.eq_1, xfP_1, dRaise0.eq_1, dRaise1.eq_1, dTryAs.eq_1, dTryOnly.eq_1, blP_bl, inP_int, sqP_t, sqP_l, liP_l, tuP_t, cutP_l, cutP_t, catP_l, rgP_int, itP_some, r1P_i, r2P_i,
  u_andV, u_orV, u_notV, u_neg, u_star, u_diL, u_diT, u_some, u_slice, u_doOf, u_doCat, u_doRg, u_rgT, u_rgL, u_r1, u_r2, u_oset, ix_l, ix_t, add_ii, add_ss, add_ll, add_tt, sub_ii, mul_ii, mul_li, mod_ii, div_ii, pow_ii, lt_ii, le_ii, gt_ii, ge_ii, isN_n, notN_n, in_l, in_t, len_l, len_t, len_s, abs_i, max_ii, min_ii, int_i, int_b, tupOf_l, tupOf_t, lstOf_l, lstOf_t, is_l, bs_l, sortedT_t, repr_d, lenS_s, isi_non_int, isi_non_bool, isi_non_str, isi_non_tuple, isi_non_list, isi_non_dict, isi_bl_int, isi_bl_bool, isi_bl_str, isi_bl_tuple, isi_bl_list, isi_bl_dict, isi_int_int, isi_int_bool, isi_int_str, isi_int_tuple, isi_int_list, isi_int_dict, isi_str_int, isi_str_bool, isi_str_str, isi_str_tuple, isi_str_list, isi_str_dict, isi_tup_int, isi_tup_bool, isi_tup_str, isi_tup_tuple, isi_tup_list, isi_tup_dict, isi_lst_int, isi_lst_bool, isi_lst_str, isi_lst_tuple, isi_lst_list, isi_lst_dict, isi_dic_int, isi_dic_bool, isi_dic_str, isi_dic_tuple, isi_dic_list, isi_dic_dict, tyName,
  u_app, u_sext, dSIx, u_aug, dTup.eq_1, dLst.eq_1, dCons.eq_1, dNil.eq_1, u_parS, ssP2_2, u_parS3, ssP3_3, slO.eq_1, slD.eq_1, slNil.eq_1, doLst.eq_1, dFor.eq_1, diScr.eq_1, dRet.eq_1, dRetN.eq_1, dNext.eq_1, dCB.eq_1, dCall.eq_1, dFl.eq_1, dSum.eq_1, dAll.eq_1, dAny.eq_1, dMaxL.eq_1, dMinL.eq_1, isNon, u_frz, dDrop.eq_1, dLc.eq_1, dYes.eq_1, wipeS, dEq.eq_1, dNe.eq_1, dObj.eq_1, dSetO.eq_1, dIf.eq_1, dChain.eq_1, dSliceS.eq_1, lNone.eq_1, mset_same, mset_mset, dSortedS.eq_1, dSorted.eq_1, dBrk.eq_1, dCnt.eq_1,
  flatD, flat_ints, in_ints, take_map, drop_map, cmul_true, cdiv_true, cpow_true, gt_iff_lt, ge_iff_le, Int.reduceToNat, Int.reducePow, Int.reduceAdd, Int.reduceSub, Int.reduceLT, Int.reduceLE, Nat.reduceAdd, Nat.reduceMul, Nat.reduceLT, Nat.reduceLeDiff, Int.reduceMod, Int.reduceDiv, Int.reduceNeg, Int.reduceMul, Int.reduceEq, Int.reduceBEq, nc0, nc1, nc2, nc3, nc4, nc5, nc6, nc7, nc8, nc9, ex_some, ex_ints, ex_bls, le_line, lt_line, at0, at1, at2, at3, at4, at5, atI_map, atI_last, Option.map_some, cut_to, cut_from, cut_neg1, dDGet.eq_1, dHPut.eq_1, dObjD.eq_1, doDisp.eq_1, doEmp.eq_1, dFlD.eq_1, dRevL.eq_1, dgP_s, spStar.eq_1, eqOk_cn, eqOk_of, eqOk_str, eqv_tup, eqv_lst, eqv_tl, eqv_lt, eqv_nn, eqv_nt, eqv_tn, eqv_in, eqv_it, eqv_ti, eqv_bb, eqv_int, eqv_non_int, eqv_str, eqvL_nil, eqvL_cn, eqvL_nc, eqvL_cc, eqvL_ints, eqvL_snoc, eqvL_gaps, eqv_self, eqvL_self,
  List.getElem?_cons_succ, List.getElem?_cons_zero, List.set_cons_succ, List.set_cons_zero, List.map_cons, List.map_nil, List.length_cons, List.length_nil, List.length_map, List.length_append, List.length_take, List.length_drop, List.take_zero, List.drop_zero, List.take_succ_cons, List.drop_succ_cons, Nat.zero_le, Nat.zero_add, List.append_nil, List.nil_append, List.cons_append, decide_eq_true_eq, Bool.not_true, Bool.not_false, Bool.not_eq_true', decide_eq_false_iff_not, Bool.false_eq_true, Option.some.injEq, reduceCtorEq, if_true, if_false, ite_true, ite_false, true_and, and_true, and_self, exists_eq_left', exists_eq', Slot.ml.injEq, Slot.dat.injEq, D.scr.injEq, not_true_eq_false, not_false_eq_true, beq_self_eq_true, bne_self_eq_false, Bool.true_eq_false, decide_true, decide_false, Bool.and_true, Bool.true_and, Bool.and_false, Bool.false_and, Bool.or_true, Bool.true_or, Bool.or_false, Bool.false_or, ne_eq] | skip)
theorem sum_nn : ∀ {cs : List Int}, (∀ r ∈ cs, 0 ≤ r) → 0 ≤ cs.sum
  | [], _ => by simp
  | r :: rs, h => by
    have h1 := h r List.mem_cons_self
    have h2 := sum_nn (cs := rs) fun x hx => h x (List.mem_cons_of_mem _ hx)
    rw [List.sum_cons]
    omega
theorem intV_ints (ns : List Int) : (ns.map D.int).map intV = ns := by
  rw [List.map_map]
  exact List.map_id' ns
theorem allIn_sum : ∀ {ys : List D} {cs : List Int}, allIn ys cs = true → (ys.map intV).sum ≤ cs.sum
  | [], [], _ => Int.le_refl _
  | [], _ :: _, h => by simp [allIn] at h
  | _ :: _, [], h => by simp [allIn] at h
  | x :: xs, r :: rs, h => by
    simp only [allIn, Bool.and_eq_true] at h
    have ih := allIn_sum h.2
    cases x <;> simp [intIn] at h
    simp only [List.map_cons, List.sum_cons, intV]
    omega
theorem hf_right {s c d : Int} {ts : List Int} {ys : List D} (R : RowOk s ts) (c0 : 1 ≤ c) (d0 : 1 ≤ d) : holdsF s ts c (.tup [.int d, .tup ys]) = (allIn ys (capsF s ts d) && (decide ((ys.map intV).sum = c) && decide (roomF s ts (d + 1) < c))) := by
  simp only [holdsF]
  by_cases h : d ≤ s
  · rw [show (decide (1 ≤ d) && decide (d ≤ s)) = true from by simp [d0, h], Bool.true_and]
  · rw [show (decide (1 ≤ d) && decide (d ≤ s)) = false from by simp [h], Bool.false_and]
    cases ha : allIn ys (capsF s ts d) with
    | false => rfl
    | true =>
      have h1 := allIn_sum ha
      have h2 : (capsF s ts d).sum = 0 := room_top R (by omega)
      rw [show decide ((ys.map intV).sum = c) = false from by simp; omega]
      rfl
theorem greedy_all : ∀ {cs : List Int} {c : Int}, (∀ r ∈ cs, 0 ≤ r) → 0 ≤ c → allIn ((greedy cs c).map .int) cs = true
  | [], _, _, _ => rfl
  | r :: rs, c, h, hc => by
    have h1 := h r List.mem_cons_self
    have ih := greedy_all (cs := rs) (c := c - min r c) (fun x hx => h x (List.mem_cons_of_mem _ hx)) (by omega)
    show (intIn (.int (min r c)) 0 r && allIn ((greedy rs (c - min r c)).map .int) rs) = true
    rw [ih, Bool.and_true]
    simp only [intIn, Bool.and_eq_true, decide_eq_true_eq]
    omega
theorem greedy_sum : ∀ {cs : List Int} {c : Int}, (∀ r ∈ cs, 0 ≤ r) → 0 ≤ c → c ≤ cs.sum → (greedy cs c).sum = c
  | [], c, _, hc, h => by
    simp at h
    show (0 : Int) = c
    omega
  | r :: rs, c, hr, hc, h => by
    rw [List.sum_cons] at h
    have h1 := hr r List.mem_cons_self
    have h2 := sum_nn (cs := rs) fun x hx => hr x (List.mem_cons_of_mem _ hx)
    have ih := greedy_sum (cs := rs) (c := c - min r c) (fun x hx => hr x (List.mem_cons_of_mem _ hx)) (by omega) (by omega)
    show (min r c :: greedy rs (c - min r c)).sum = c
    rw [List.sum_cons, ih]
    omega
theorem greedy_len : ∀ {cs : List Int} {c : Int}, (greedy cs c).length = cs.length
  | [], _ => rfl
  | r :: rs, c => by
    show (greedy rs (c - min r c)).length + 1 = rs.length + 1
    rw [greedy_len]
theorem greedy_in : ∀ {cs : List Int} {c b : Int}, (∀ r ∈ cs, 0 ≤ r ∧ r ≤ b) → 0 ≤ c → ∀ n ∈ greedy cs c, 0 ≤ n ∧ n ≤ b
  | [], _, _, _, _, n, hn => by cases hn
  | r :: rs, c, b, h, hc, n, hn => by
    have h1 := h r List.mem_cons_self
    have hn : n ∈ min r c :: greedy rs (c - min r c) := hn
    rcases List.mem_cons.mp hn with rfl | hn
    · omega
    · exact greedy_in (fun x hx => h x (List.mem_cons_of_mem _ hx)) (by omega) n hn
theorem caps_in {s d : Int} {ts : List Int} (R : RowOk s ts) (h : 1 ≤ d) : ∀ r ∈ capsF s ts d, 0 ≤ r ∧ r ≤ s := fun r hr => by
  obtain ⟨g, hg, rfl⟩ := List.mem_map.mp hr
  obtain ⟨a, b, c⟩ := gap_le R hg
  have h1 := cap_nn (d := d) (w := g.2)
  have h2 := cap_le (d := d) (w := g.2) (by omega) (by omega)
  exact ⟨h1, by omega⟩
theorem cert_holds {s c d : Int} {ts : List Int} (R : RowOk s ts) (c0 : 1 ≤ c) (B : IsBest s ts c d) : holdsF s ts c (certD s ts c d) = true := by
  have hd := B.le R c0
  have hi := caps_in (d := d) R B.lo
  have h0 : ∀ r ∈ capsF s ts d, 0 ≤ r := fun r hr => (hi r hr).1
  have h1 := greedy_all (c := c) h0 (by omega)
  have h2 := greedy_sum (c := c) h0 (by omega) B.ok
  unfold certD
  rw [hf_right R c0 B.lo, h1, intV_ints, h2]
  simp [B.no]
theorem asc_mem : ∀ {a b : List Int}, a.Pairwise (· < ·) → b.Pairwise (· < ·) → (∀ k, k ∈ a ↔ k ∈ b) → a = b
  | [], [], _, _, _ => rfl
  | [], y :: b, _, _, h => by simpa using (h y).mpr List.mem_cons_self
  | x :: a, [], _, _, h => by simpa using (h x).mp List.mem_cons_self
  | x :: a, y :: b, pa, pb, h => by
    obtain ⟨a1, a2⟩ := List.pairwise_cons.mp pa
    obtain ⟨b1, b2⟩ := List.pairwise_cons.mp pb
    have e : x = y := by
      have hx := (h x).mp List.mem_cons_self
      have hy := (h y).mpr List.mem_cons_self
      rcases List.mem_cons.mp hx with e | hx
      · exact e
      · rcases List.mem_cons.mp hy with e | hy
        · exact e.symm
        · have := a1 y hy
          have := b1 x hx
          omega
    subst e
    rw [asc_mem a2 b2 fun k => ⟨fun hk => ?_, fun hk => ?_⟩]
    · rcases List.mem_cons.mp ((h k).mp (List.mem_cons_of_mem _ hk)) with e | r
      · have := a1 k hk
        omega
      · exact r
    · rcases List.mem_cons.mp ((h k).mpr (List.mem_cons_of_mem _ hk)) with e | r
      · have := b1 k hk
        omega
      · exact r
theorem r_l_free : Keeps1 sp_l_free N_l_free t_l_free := by
  rintro _ μ Q Z ⟨s, ts, rfl, q⟩
  show t_l_free _ [.dat (rowD s ts)] μ
  unfold t_l_free
  trivial
  exact q
theorem r_l_bounds_right (K : PySem.W.Frag) : Keeps1 (sp_l_bounds_right K) N_l_bounds_right (t_l_bounds_right K) := by
  rintro _ μ Q Z ⟨s, ts, c, rfl, R, s0, hs, hl, c0, c1, q⟩
  obtain ⟨i, rfl⟩ : ∃ i, c = i + 1 := ⟨c - 1, by omega⟩
  have e12 : (10 : Int) ^ 12 = 1000000000000 := by decide
  have e13 : (10 : Int) ^ 13 = 10000000000000 := by decide
  have ol := ord_len R
  obtain ⟨g, hg⟩ : ∃ g, (ordG (gapsR s ts))[i]? = some g := ⟨_, List.getElem?_eq_getElem (by omega)⟩
  have hm := (ordG_perm _).mem_iff.mp (List.mem_of_getElem? hg)
  have ei : (((i + 1 : Nat) : Int) - 1) = (i : Int) := by omega
  show t_l_bounds_right K _ [.dat (rowD s ts), .dat (.int ((i + 1 : Nat) : Int)), .no, .no, .no, .no] μ
  unfold t_l_bounds_right
  refine seq_gen fun N k => ?_
  trivial
  refine best R (by omega) (by omega) (by simp [okR]) ?_
  rw [bsel_in (by omega) (by omega)]
  intro d B
  have B2 : IsBest s ts ((i : Int) + 1) d := by
    rw [show ((i + 1 : Nat) : Int) = (i : Int) + 1 by omega] at B
    exact B
  obtain ⟨b1, b2, b3⟩ := best_near R hg B2
  trivial
  rw [ei]
  refine ⟨s, ts, [.int (i : Int)], rfl, R, by omega, by omega, by simp [okR], by simp, ?_⟩
  have hb : badI s ts [.int (i : Int)] = none := by
    unfold badI
    rw [List.find?_cons_of_neg (by simp [intIn]; omega)]
    rfl
  unfold isel
  rw [hb]
  intro is eis ls hL
  have eis : is = [(i : Int)] := by
    cases is with
    | nil => cases eis
    | cons a r =>
      cases r with
      | nil =>
        simp only [List.map_cons, List.map_nil, List.cons.injEq, D.int.injEq, and_true] at eis
        rw [← eis]
      | cons _ _ => simp at eis
  subst eis
  unfold distD
  rw [List.map_cons, List.map_nil, later_at R hL hg]
  trivial
  refine k _ _ ?_
  clear k
  unfold t_l_bounds_right_a2
  refine seq_gen fun N k => ?_
  trivial
  rw [ei]
  refine seatof R (by omega) (by omega) hg ?_
  trivial
  refine ⟨s, ts, g, rfl, R, by omega, by omega, hm, ?_⟩
  trivial
  refine k _ _ ?_
  clear k
  unfold t_l_bounds_right_a3
  refine seq_gen fun N k => ?_
  trivial
  rw [if_pos b2, if_neg (by omega), if_neg (by omega)]
  refine k _ _ ?_
  clear k
  unfold t_l_bounds_right_a5
  refine seq_gen fun N k => ?_
  trivial
  refine cert R (by omega) (by omega) (by simp [okR]) ?_
  rw [bsel_in (by omega) (by omega)]
  intro d2 B3
  rw [B3.eq B]
  trivial
  refine k _ _ ?_
  clear k
  have hi := caps_in (d := d) R B.lo
  have hin := greedy_in (c := ((i + 1 : Nat) : Int)) (b := s) hi (by omega)
  have hsum := greedy_sum (cs := capsF s ts d) (c := ((i + 1 : Nat) : Int)) (fun r hr => (hi r hr).1) (by omega) B.ok
  have hch := cert_holds R (by omega) B
  have hcl := caps_len (s := s) (d := d) (ts := ts) (by omega)
  have hgl := greedy_len (cs := capsF s ts d) (c := ((i + 1 : Nat) : Int))
  unfold t_l_bounds_right_a6 certD
  unfold certD at hch
  generalize greedy (capsF s ts d) ((i + 1 : Nat) : Int) = gs at *
  trivial
  simp only [sumT_t]
  rw [hsum]
  have vx : Vx (.tup [.int d, .tup (gs.map .int)]) := by
    refine ⟨rfl, fun xs e => ?_, fun a b e => ?_, fun a ys e => ?_⟩
    · cases e
      simp
    · simp only [D.tup.injEq, List.cons.injEq, and_true] at e
      obtain ⟨rfl, rfl⟩ := e
      exact ⟨by simp [okR], rfl⟩
    · simp only [D.tup.injEq, List.cons.injEq, and_true] at e
      obtain ⟨rfl, rfl⟩ := e
      refine ⟨by rw [List.length_map]; omega, fun y hy => ?_⟩
      obtain ⟨n, -, rfl⟩ := List.mem_map.mp hy
      simp [okR]
  trivial
  refine holds R (by omega) (by omega) (by simp [okR]) vx ?_
  rw [bsel_in (by omega) (by omega), hch]
  trivial
  exact q
theorem r_l_spread_right (K : PySem.W.Frag) : Keeps1 (sp_l_spread_right K) N_l_spread_right (t_l_spread_right K) := by
  rintro _ μ Q Z ⟨s, ts, c, rfl, R, s0, hs, hl, c0, c1, q⟩
  have e12 : (10 : Int) ^ 12 = 1000000000000 := by decide
  have e13 : (10 : Int) ^ 13 = 10000000000000 := by decide
  show t_l_spread_right K _ [.dat (rowD s ts), .dat (.int c), .no, .no, .no, .no] μ
  unfold t_l_spread_right
  refine seq_gen fun N k => ?_
  trivial
  refine ⟨s, ts, c, rfl, R, by omega, by omega, by omega, by omega, by omega, fun d B => ?_⟩
  trivial
  refine best R (by omega) (by omega) (by simp [okR]) ?_
  rw [bsel_in (by omega) (by omega)]
  intro d2 B2
  rw [B2.eq B]
  trivial
  refine k _ _ ?_
  clear k
  have hlen := spread_len (d := d) (gapsF 0 (ts ++ [s])) c B.ok
  have hup := spread_up B.lo (gapsF 0 (ts ++ [s])) c (row_strict R).1
  have hfar := fun x h => spread_far (x := x) (c := c) R B.lo h
  have d1 := B.lo
  generalize spreadF (gapsF 0 (ts ++ [s])) d c = L at *
  unfold t_l_spread_right_a2
  refine seq_gen fun N k => ?_
  trivial
  rw [if_neg (by simp [hlen])]
  rw [sortedST_t]
  refine ⟨L, rfl, by omega, fun ns' hs1 hs2 hs3 => ?_⟩
  obtain rfl := asc_mem hs1 (hup.imp fun {a b} h => by omega) hs2
  trivial
  refine k _ _ ?_
  clear k
  unfold t_l_spread_right_a4
  refine seq_gen fun N k => ?_
  trivial
  rw [show ((c : Int) - 1).toNat = c - 1 by omega]
  refine lc_if (e := fun i : Nat => D.int (1 + (i : Int))) (fun _ => false) (fun i => .int (1 + (i : Int))) (List.range (c - 1)) (by simp; omega) (fun i hi Kk a ha hT hF => ?_) ?_
  · have hi := List.mem_range.mp hi
    have h1 : ns'[i]? = some ns'[i] := List.getElem?_eq_getElem (by omega)
    have h2 : ns'[i + 1]? = some ns'[i + 1] := List.getElem?_eq_getElem (by omega)
    have hlt := List.pairwise_iff_getElem.mp hup i (i + 1) (by omega) (by omega) (by omega)
    trivial
    rw [show (1 + (i : Int)) - 1 = (i : Int) by omega, show (1 + (i : Int)) = ((i + 1 : Nat) : Int) by omega, atI_nat, atI_nat, h1, h2]
    trivial
    rw [if_neg (by omega)]
    exact hF rfl
  · rw [List.filter_eq_nil_iff.mpr (fun _ _ => by simp), List.map_nil]
    trivial
    refine k _ _ ?_
    clear k
    unfold t_l_spread_right_a6
    trivial
    refine lc_ints (fun _ => false) (fun x => x) ns' (by omega) (fun x hx Kk a ha hT hF => ?_) ?_
    · obtain ⟨⟨x0, x1, x2⟩, f1, f2, f3⟩ := hfar x hx
      trivial
      rw [if_neg x2]
      refine ⟨s, ts, .int x, rfl, R, by omega, by simp [okR], ?_⟩
      rw [dsel_in x0 x1, if_neg x2]
      intro m hm
      have hdm : d ≤ m := by
        rcases hm.at_ with e | e | ⟨o, ho, e⟩
        · omega
        · omega
        · rw [e]
          exact f3 o ho
      trivial
      rw [if_neg (by omega)]
      exact hF rfl
    · rw [List.filter_eq_nil_iff.mpr (fun _ _ => by simp)]
      trivial
      exact q
theorem best_ex {s c : Int} {ts : List Int} (R : RowOk s ts) (c0 : 1 ≤ c) (c1 : c ≤ s - ts.length) : ∃ d, IsBest s ts c d := by
  have go : ∀ n : Nat, roomF s ts (1 + n) < c → ∃ d, IsBest s ts c d := fun n => by
    induction n with
    | zero =>
      intro h
      have h := show roomF s ts 1 < c from h
      have := room_one R
      omega
    | succ n ih =>
      intro h
      by_cases b : c ≤ roomF s ts (1 + n)
      · exact ⟨1 + n, by omega, b, by rw [show (1 : Int) + (n : Int) + 1 = 1 + ((n + 1 : Nat) : Int) by omega]; exact h⟩
      · exact ih (by omega)
  refine go s.toNat ?_
  have := R.one
  rw [room_top R (by omega)]
  omega
noncomputable def bestC (s : Int) (ts : List Int) (c : Int) : Int := open Classical in if h : ∃ d, IsBest s ts c d then Classical.choose h else 0
theorem bestC_is {s c : Int} {ts : List Int} (R : RowOk s ts) (c0 : 1 ≤ c) (c1 : c ≤ s - ts.length) : IsBest s ts c (bestC s ts c) := by
  unfold bestC
  rw [dif_pos (best_ex R c0 c1)]
  exact Classical.choose_spec (best_ex R c0 c1)
theorem law_2 (K : PySem.W.Frag) {D1 : DEnds} {p : Addr} {n : Nat} {μ : Mu} {r0 r2 r3 r4 r5 r6 r7 : Slot} (hP : IsWell p n μ) (hn : n ≤ 100000) (q : ∀ r3 r4 r5 r6 r7 μ', IsWell p (n + 300) μ' → D1.nx [r0, .dat (.obj p), r2, r3, r4, r5, r6, r7] μ') :
    t_law_2 K D1 [r0, .dat (.obj p), r2, r3, r4, r5, r6, r7] μ := by
  have e12 : (10 : Int) ^ 12 = 1000000000000 := by decide
  unfold t_law_2
  refine seq_gen fun N k => ?_
  trivial
  refine frow hP (by decide) (by decide) (by omega) fun s ts μ1 hP1 R s0 hs hl => ?_
  trivial
  refine k _ _ ?_
  clear k
  unfold t_law_a4
  refine seq_gen fun N k => ?_
  trivial
  rw [c_l_free_]
  trivial
  refine k _ _ ?_
  clear k
  unfold t_law_a5
  refine seq_gen fun N k => ?_
  trivial
  refine pull hP1 (by decide) (by decide) (by omega) fun a μ2 hP2 a0 a1 => ?_
  trivial
  refine pull hP2 (by omega) (by omega) (by omega) fun b μ3 hP3 b0 b1 => ?_
  trivial
  refine ⟨[1, 1 + a, 1 + b, s - ts.length], rfl, fun cs hp hsd => ?_⟩
  have hin : ∀ x ∈ cs, 1 ≤ x ∧ x ≤ s - ts.length := fun x hx => by
    have := hp.mem_iff.mp hx
    simp only [List.mem_cons, List.not_mem_nil, or_false] at this
    omega
  have hlen := hp.length_eq
  have hmem : s - ts.length ∈ cs := hp.mem_iff.mpr (by simp)
  refine k _ _ ?_
  clear k
  unfold t_law_a6
  refine seq_gen fun N k => ?_
  trivial
  refine for_any (fun ρ μ' => ∃ r6, ρ = [r0, .dat (.obj p), r2, .dat (rowD s ts), .dat (.int (s - ts.length)), .dat (.lst (cs.map .int)), r6, r7] ∧ μ' = μ3) _ ⟨_, rfl, rfl⟩ ?_ ?_
  · rintro d _ _ N2 hd ⟨r6, rfl, rfl⟩ k2
    obtain ⟨x, hx, rfl⟩ := List.mem_map.mp hd
    obtain ⟨h1, h2⟩ := hin x hx
    trivial
    unfold t_law_1
    trivial
    refine ⟨s, ts, x.toNat, by rw [Int.toNat_of_nonneg (by omega)], R, by omega, by omega, by omega, by omega, by omega, ?_⟩
    trivial
    exact k2 _ _ ⟨_, rfl, rfl⟩
  rintro _ _ ⟨r6, rfl, rfl⟩
  refine k _ _ ?_
  clear k
  unfold t_law_a9
  refine seq_gen fun N k => ?_
  trivial
  refine lc_if (e := D.int) (fun _ => true) (fun x => .int (bestC s ts x)) cs (by rw [hlen]; simp) (fun x hx Kk acc ha hT hF => ?_) ?_
  · obtain ⟨h1, h2⟩ := hin x hx
    have hB := bestC_is R h1 h2
    trivial
    refine best R (by omega) (by omega) (by simp [okR]) ?_
    rw [bsel_in h1 h2]
    intro d B
    rw [B.eq hB]
    exact ⟨ha, hT rfl⟩
  rw [List.filter_eq_self.mpr (fun _ _ => rfl)]
  trivial
  refine k _ _ ?_
  clear k
  have hge : (cs.map (bestC s ts)).Pairwise (· ≥ ·) := List.pairwise_map.mpr (List.Pairwise.imp_of_mem (fun {x y} hx hy h => best_anti (bestC_is R (hin x hx).1 (hin x hx).2) (bestC_is R (hin y hy).1 (hin y hy).2) h) hsd)
  have hlast : ∃ l : List Int, cs.map (bestC s ts) = l ++ [1] := by
    have ne : cs ≠ [] := fun e => by rw [e] at hmem; cases hmem
    have e := List.dropLast_concat_getLast ne
    have hm2 := List.getLast_mem ne
    have e2 : cs.getLast ne = s - ts.length := by
      have h1 := (hin _ hm2).2
      rw [← e] at hmem hsd
      rcases List.mem_append.mp hmem with h | h
      · have := (List.pairwise_append.mp hsd).2.2 _ h _ (List.mem_singleton.mpr rfl)
        omega
      · exact (List.mem_singleton.mp h).symm
    refine ⟨cs.dropLast.map (bestC s ts), ?_⟩
    conv => lhs; rw [← e]
    rw [List.map_append, List.map_cons, List.map_nil, e2, best_all R (by omega) (bestC_is R (by omega) (by omega))]
  have hel : (cs.map (bestC s ts)).length = 4 := by rw [List.length_map, hlen]; rfl
  rw [show List.map (fun x => D.int (bestC s ts x)) cs = (cs.map (bestC s ts)).map D.int by rw [List.map_map]; rfl]
  generalize cs.map (bestC s ts) = es at *
  unfold t_law_a10
  refine seq_gen fun N k => ?_
  trivial
  intro ns' p' s'
  have er : ns'.reverse = es := srt_eq (List.pairwise_reverse.mpr (s'.imp fun {x y} h => h)) hge ((List.reverse_perm ns').trans p')
  rw [← List.map_reverse, er]
  have okL : okN 50 (.lst (es.map .int)) = true := by simp only [okN, okNL_ints]
  refine ⟨of_eq_true (eqOk_of okL okL), ?_⟩
  rw [eqvL_self okNL_ints, if_neg (by decide)]
  obtain ⟨l, rfl⟩ := hlast
  have hl3 : l.length = 3 := by rw [List.length_append] at hel; simpa using hel
  have ea : atI (l ++ [1]) (-1) = some 1 := by
    rcases l with _ | ⟨x, _ | ⟨y, _ | ⟨z, _ | ⟨w, r⟩⟩⟩⟩
    · cases hl3
    · cases hl3
    · cases hl3
    · rfl
    · simp at hl3
  rw [ea]
  trivial
  refine k _ _ ?_
  clear k
  unfold t_law_a12
  trivial
  refine pull hP3 (by decide) (by decide) (by omega) fun r μ4 hP4 q0 q1 => ?_
  trivial
  refine ⟨s, ts, (1 + r).toNat, by rw [Int.toNat_of_nonneg (by omega)], R, by omega, by omega, by omega, by omega, by omega, ?_⟩
  trivial
  exact q _ _ _ _ _ _ (hP4.up (by omega))
theorem r_law (K : PySem.W.Frag) : Keeps1 (sp_law K) N_law (t_law K) := by
  rintro _ μ Q Z ⟨ns, rfl, hl, q⟩
  show t_law K _ [.dat (.scr K ns), .no, .no, .no, .no, .no, .no, .no] μ
  unfold t_law
  trivial
  refine ⟨ns, rfl, hl, fun p μ1 hP => ?_⟩
  unfold t_law_a2
  refine seq_gen fun N k => ?_
  trivial
  refine for_range (fun i ρ μ => ∃ r2 r3 r4 r5 r6 r7, ρ = [.dat (.scr K ns), .dat (.obj p), r2, r3, r4, r5, r6, r7] ∧ IsWell p (300 * i) μ) 3 ⟨_, _, _, _, _, _, rfl, hP⟩ ?_ ?_
  · rintro i _ μ N2 hi ⟨r2, r3, r4, r5, r6, r7, rfl, hP⟩ k2
    trivial
    refine law_2 K hP (by omega) fun r3 r4 r5 r6 r7 μ2 hP2 => k2 _ _ ⟨_, _, _, _, _, _, rfl, ?_⟩
    rw [Nat.mul_succ]
    exact hP2
  · rintro _ μ ⟨r2, r3, r4, r5, r6, r7, rfl, hP⟩
    refine k _ _ ?_
    unfold t_law_a14
    trivial
    exact q _
end DL

namespace DL
open PySem PySem.Spec PyProof.Rows L2
theorem l_is_integer : ∀ ds μ Q Z, sp_is_integer ds μ Q Z → ds.length = 3 := by
  intro ds μ Q Z h
  unfold sp_is_integer at h
  first
  | (obtain ⟨rfl, _⟩ := h; rfl)
  | (rcases h with ⟨_, h⟩; (repeat (first | (obtain ⟨rfl, _⟩ := h; rfl) | (rcases h with ⟨_, h⟩))); done)
  | (rcases h with h | h <;> (repeat (first | (obtain ⟨rfl, _⟩ := h; rfl) | (rcases h with ⟨_, h⟩))); done)
  | (repeat' (first | (obtain ⟨rfl, _⟩ := h; rfl) | (refine Or.elim h (fun h => ?_) (fun h => ?_)) | (rcases h with ⟨_, h⟩)))
theorem l_gaps : ∀ ds μ Q Z, sp_gaps ds μ Q Z → ds.length = 1 := by
  intro ds μ Q Z h
  unfold sp_gaps at h
  first
  | (obtain ⟨rfl, _⟩ := h; rfl)
  | (rcases h with ⟨_, h⟩; (repeat (first | (obtain ⟨rfl, _⟩ := h; rfl) | (rcases h with ⟨_, h⟩))); done)
  | (rcases h with h | h <;> (repeat (first | (obtain ⟨rfl, _⟩ := h; rfl) | (rcases h with ⟨_, h⟩))); done)
  | (repeat' (first | (obtain ⟨rfl, _⟩ := h; rfl) | (refine Or.elim h (fun h => ?_) (fun h => ?_)) | (rcases h with ⟨_, h⟩)))
theorem l_is_number : ∀ ds μ Q Z, sp_is_number ds μ Q Z → ds.length = 3 := by
  intro ds μ Q Z h
  unfold sp_is_number at h
  first
  | (obtain ⟨rfl, _⟩ := h; rfl)
  | (rcases h with ⟨_, h⟩; (repeat (first | (obtain ⟨rfl, _⟩ := h; rfl) | (rcases h with ⟨_, h⟩))); done)
  | (rcases h with h | h <;> (repeat (first | (obtain ⟨rfl, _⟩ := h; rfl) | (rcases h with ⟨_, h⟩))); done)
  | (repeat' (first | (obtain ⟨rfl, _⟩ := h; rfl) | (refine Or.elim h (fun h => ?_) (fun h => ?_)) | (rcases h with ⟨_, h⟩)))
theorem l_free_seats : ∀ ds μ Q Z, sp_free_seats ds μ Q Z → ds.length = 1 := by
  intro ds μ Q Z h
  unfold sp_free_seats at h
  first
  | (obtain ⟨rfl, _⟩ := h; rfl)
  | (rcases h with ⟨_, h⟩; (repeat (first | (obtain ⟨rfl, _⟩ := h; rfl) | (rcases h with ⟨_, h⟩))); done)
  | (rcases h with h | h <;> (repeat (first | (obtain ⟨rfl, _⟩ := h; rfl) | (rcases h with ⟨_, h⟩))); done)
  | (repeat' (first | (obtain ⟨rfl, _⟩ := h; rfl) | (refine Or.elim h (fun h => ?_) (fun h => ?_)) | (rcases h with ⟨_, h⟩)))
theorem l_require_free : ∀ ds μ Q Z, sp_require_free ds μ Q Z → ds.length = 2 := by
  intro ds μ Q Z h
  unfold sp_require_free at h
  first
  | (obtain ⟨rfl, _⟩ := h; rfl)
  | (rcases h with ⟨_, h⟩; (repeat (first | (obtain ⟨rfl, _⟩ := h; rfl) | (rcases h with ⟨_, h⟩))); done)
  | (rcases h with h | h <;> (repeat (first | (obtain ⟨rfl, _⟩ := h; rfl) | (rcases h with ⟨_, h⟩))); done)
  | (repeat' (first | (obtain ⟨rfl, _⟩ := h; rfl) | (refine Or.elim h (fun h => ?_) (fun h => ?_)) | (rcases h with ⟨_, h⟩)))
theorem l_middle : ∀ ds μ Q Z, sp_middle ds μ Q Z → ds.length = 1 := by
  intro ds μ Q Z h
  unfold sp_middle at h
  first
  | (obtain ⟨rfl, _⟩ := h; rfl)
  | (rcases h with ⟨_, h⟩; (repeat (first | (obtain ⟨rfl, _⟩ := h; rfl) | (rcases h with ⟨_, h⟩))); done)
  | (rcases h with h | h <;> (repeat (first | (obtain ⟨rfl, _⟩ := h; rfl) | (rcases h with ⟨_, h⟩))); done)
  | (repeat' (first | (obtain ⟨rfl, _⟩ := h; rfl) | (refine Or.elim h (fun h => ?_) (fun h => ?_)) | (rcases h with ⟨_, h⟩)))
theorem l_left_part : ∀ ds μ Q Z, sp_left_part ds μ Q Z → ds.length = 1 := by
  intro ds μ Q Z h
  unfold sp_left_part at h
  first
  | (obtain ⟨rfl, _⟩ := h; rfl)
  | (rcases h with ⟨_, h⟩; (repeat (first | (obtain ⟨rfl, _⟩ := h; rfl) | (rcases h with ⟨_, h⟩))); done)
  | (rcases h with h | h <;> (repeat (first | (obtain ⟨rfl, _⟩ := h; rfl) | (rcases h with ⟨_, h⟩))); done)
  | (repeat' (first | (obtain ⟨rfl, _⟩ := h; rfl) | (refine Or.elim h (fun h => ?_) (fun h => ?_)) | (rcases h with ⟨_, h⟩)))
theorem l_right_part : ∀ ds μ Q Z, sp_right_part ds μ Q Z → ds.length = 1 := by
  intro ds μ Q Z h
  unfold sp_right_part at h
  first
  | (obtain ⟨rfl, _⟩ := h; rfl)
  | (rcases h with ⟨_, h⟩; (repeat (first | (obtain ⟨rfl, _⟩ := h; rfl) | (rcases h with ⟨_, h⟩))); done)
  | (rcases h with h | h <;> (repeat (first | (obtain ⟨rfl, _⟩ := h; rfl) | (rcases h with ⟨_, h⟩))); done)
  | (repeat' (first | (obtain ⟨rfl, _⟩ := h; rfl) | (refine Or.elim h (fun h => ?_) (fun h => ?_)) | (rcases h with ⟨_, h⟩)))
theorem l_number_within : ∀ ds μ Q Z, sp_number_within ds μ Q Z → ds.length = 2 := by
  intro ds μ Q Z h
  unfold sp_number_within at h
  first
  | (obtain ⟨rfl, _⟩ := h; rfl)
  | (rcases h with ⟨_, h⟩; (repeat (first | (obtain ⟨rfl, _⟩ := h; rfl) | (rcases h with ⟨_, h⟩))); done)
  | (rcases h with h | h <;> (repeat (first | (obtain ⟨rfl, _⟩ := h; rfl) | (rcases h with ⟨_, h⟩))); done)
  | (repeat' (first | (obtain ⟨rfl, _⟩ := h; rfl) | (refine Or.elim h (fun h => ?_) (fun h => ?_)) | (rcases h with ⟨_, h⟩)))
theorem l_widths_within : ∀ ds μ Q Z, sp_widths_within ds μ Q Z → ds.length = 1 := by
  intro ds μ Q Z h
  unfold sp_widths_within at h
  first
  | (obtain ⟨rfl, _⟩ := h; rfl)
  | (rcases h with ⟨_, h⟩; (repeat (first | (obtain ⟨rfl, _⟩ := h; rfl) | (rcases h with ⟨_, h⟩))); done)
  | (rcases h with h | h <;> (repeat (first | (obtain ⟨rfl, _⟩ := h; rfl) | (rcases h with ⟨_, h⟩))); done)
  | (repeat' (first | (obtain ⟨rfl, _⟩ := h; rfl) | (refine Or.elim h (fun h => ?_) (fun h => ?_)) | (rcases h with ⟨_, h⟩)))
theorem l_all_widths : ∀ ds μ Q Z, sp_all_widths ds μ Q Z → ds.length = 1 := by
  intro ds μ Q Z h
  unfold sp_all_widths at h
  first
  | (obtain ⟨rfl, _⟩ := h; rfl)
  | (rcases h with ⟨_, h⟩; (repeat (first | (obtain ⟨rfl, _⟩ := h; rfl) | (rcases h with ⟨_, h⟩))); done)
  | (rcases h with h | h <;> (repeat (first | (obtain ⟨rfl, _⟩ := h; rfl) | (rcases h with ⟨_, h⟩))); done)
  | (repeat' (first | (obtain ⟨rfl, _⟩ := h; rfl) | (refine Or.elim h (fun h => ?_) (fun h => ?_)) | (rcases h with ⟨_, h⟩)))
theorem l_later_widths : ∀ ds μ Q Z, sp_later_widths ds μ Q Z → ds.length = 1 := by
  intro ds μ Q Z h
  unfold sp_later_widths at h
  first
  | (obtain ⟨rfl, _⟩ := h; rfl)
  | (rcases h with ⟨_, h⟩; (repeat (first | (obtain ⟨rfl, _⟩ := h; rfl) | (rcases h with ⟨_, h⟩))); done)
  | (rcases h with h | h <;> (repeat (first | (obtain ⟨rfl, _⟩ := h; rfl) | (rcases h with ⟨_, h⟩))); done)
  | (repeat' (first | (obtain ⟨rfl, _⟩ := h; rfl) | (refine Or.elim h (fun h => ?_) (fun h => ?_)) | (rcases h with ⟨_, h⟩)))
theorem l_path_to : ∀ ds μ Q Z, sp_path_to ds μ Q Z → ds.length = 2 := by
  intro ds μ Q Z h
  unfold sp_path_to at h
  first
  | (obtain ⟨rfl, _⟩ := h; rfl)
  | (rcases h with ⟨_, h⟩; (repeat (first | (obtain ⟨rfl, _⟩ := h; rfl) | (rcases h with ⟨_, h⟩))); done)
  | (rcases h with h | h <;> (repeat (first | (obtain ⟨rfl, _⟩ := h; rfl) | (rcases h with ⟨_, h⟩))); done)
  | (repeat' (first | (obtain ⟨rfl, _⟩ := h; rfl) | (refine Or.elim h (fun h => ?_) (fun h => ?_)) | (rcases h with ⟨_, h⟩)))
theorem l_gap_of : ∀ ds μ Q Z, sp_gap_of ds μ Q Z → ds.length = 2 := by
  intro ds μ Q Z h
  unfold sp_gap_of at h
  first
  | (obtain ⟨rfl, _⟩ := h; rfl)
  | (rcases h with ⟨_, h⟩; (repeat (first | (obtain ⟨rfl, _⟩ := h; rfl) | (rcases h with ⟨_, h⟩))); done)
  | (rcases h with h | h <;> (repeat (first | (obtain ⟨rfl, _⟩ := h; rfl) | (rcases h with ⟨_, h⟩))); done)
  | (repeat' (first | (obtain ⟨rfl, _⟩ := h; rfl) | (refine Or.elim h (fun h => ?_) (fun h => ?_)) | (rcases h with ⟨_, h⟩)))
theorem l_gap_with_rank : ∀ ds μ Q Z, sp_gap_with_rank ds μ Q Z → ds.length = 3 := by
  intro ds μ Q Z h
  unfold sp_gap_with_rank at h
  first
  | (obtain ⟨rfl, _⟩ := h; rfl)
  | (rcases h with ⟨_, h⟩; (repeat (first | (obtain ⟨rfl, _⟩ := h; rfl) | (rcases h with ⟨_, h⟩))); done)
  | (rcases h with h | h <;> (repeat (first | (obtain ⟨rfl, _⟩ := h; rfl) | (rcases h with ⟨_, h⟩))); done)
  | (repeat' (first | (obtain ⟨rfl, _⟩ := h; rfl) | (refine Or.elim h (fun h => ?_) (fun h => ?_)) | (rcases h with ⟨_, h⟩)))
theorem l_gap_at : ∀ ds μ Q Z, sp_gap_at ds μ Q Z → ds.length = 2 := by
  intro ds μ Q Z h
  unfold sp_gap_at at h
  first
  | (obtain ⟨rfl, _⟩ := h; rfl)
  | (rcases h with ⟨_, h⟩; (repeat (first | (obtain ⟨rfl, _⟩ := h; rfl) | (rcases h with ⟨_, h⟩))); done)
  | (rcases h with h | h <;> (repeat (first | (obtain ⟨rfl, _⟩ := h; rfl) | (rcases h with ⟨_, h⟩))); done)
  | (repeat' (first | (obtain ⟨rfl, _⟩ := h; rfl) | (refine Or.elim h (fun h => ?_) (fun h => ?_)) | (rcases h with ⟨_, h⟩)))
theorem l_seat_of : ∀ ds μ Q Z, sp_seat_of ds μ Q Z → ds.length = 2 := by
  intro ds μ Q Z h
  unfold sp_seat_of at h
  first
  | (obtain ⟨rfl, _⟩ := h; rfl)
  | (rcases h with ⟨_, h⟩; (repeat (first | (obtain ⟨rfl, _⟩ := h; rfl) | (rcases h with ⟨_, h⟩))); done)
  | (rcases h with h | h <;> (repeat (first | (obtain ⟨rfl, _⟩ := h; rfl) | (rcases h with ⟨_, h⟩))); done)
  | (repeat' (first | (obtain ⟨rfl, _⟩ := h; rfl) | (refine Or.elim h (fun h => ?_) (fun h => ?_)) | (rcases h with ⟨_, h⟩)))
theorem l_free_seatsD : ∀ ds μ Q Z, sp_free_seatsD ds μ Q Z → ds.length = 1 := by
  intro ds μ Q Z h
  unfold sp_free_seatsD at h
  first
  | (obtain ⟨rfl, _⟩ := h; rfl)
  | (rcases h with ⟨_, h⟩; (repeat (first | (obtain ⟨rfl, _⟩ := h; rfl) | (rcases h with ⟨_, h⟩))); done)
  | (rcases h with h | h <;> (repeat (first | (obtain ⟨rfl, _⟩ := h; rfl) | (rcases h with ⟨_, h⟩))); done)
  | (repeat' (first | (obtain ⟨rfl, _⟩ := h; rfl) | (refine Or.elim h (fun h => ?_) (fun h => ?_)) | (rcases h with ⟨_, h⟩)))
theorem l_distance_of_width : ∀ ds μ Q Z, sp_distance_of_width ds μ Q Z → ds.length = 1 := by
  intro ds μ Q Z h
  unfold sp_distance_of_width at h
  first
  | (obtain ⟨rfl, _⟩ := h; rfl)
  | (rcases h with ⟨_, h⟩; (repeat (first | (obtain ⟨rfl, _⟩ := h; rfl) | (rcases h with ⟨_, h⟩))); done)
  | (rcases h with h | h <;> (repeat (first | (obtain ⟨rfl, _⟩ := h; rfl) | (rcases h with ⟨_, h⟩))); done)
  | (repeat' (first | (obtain ⟨rfl, _⟩ := h; rfl) | (refine Or.elim h (fun h => ?_) (fun h => ?_)) | (rcases h with ⟨_, h⟩)))
theorem l_check_count (K : PySem.W.Frag) : ∀ ds μ Q Z, (sp_check_count K) ds μ Q Z → ds.length = 3 := by
  intro ds μ Q Z h
  unfold sp_check_count at h
  first
  | (obtain ⟨rfl, _⟩ := h; rfl)
  | (rcases h with ⟨_, h⟩; (repeat (first | (obtain ⟨rfl, _⟩ := h; rfl) | (rcases h with ⟨_, h⟩))); done)
  | (rcases h with h | h <;> (repeat (first | (obtain ⟨rfl, _⟩ := h; rfl) | (rcases h with ⟨_, h⟩))); done)
  | (repeat' (first | (obtain ⟨rfl, _⟩ := h; rfl) | (refine Or.elim h (fun h => ?_) (fun h => ?_)) | (rcases h with ⟨_, h⟩)))
theorem l_distance_at (K : PySem.W.Frag) : ∀ ds μ Q Z, (sp_distance_at K) ds μ Q Z → ds.length = 2 := by
  intro ds μ Q Z h
  unfold sp_distance_at at h
  first
  | (obtain ⟨rfl, _⟩ := h; rfl)
  | (rcases h with ⟨_, h⟩; (repeat (first | (obtain ⟨rfl, _⟩ := h; rfl) | (rcases h with ⟨_, h⟩))); done)
  | (rcases h with h | h <;> (repeat (first | (obtain ⟨rfl, _⟩ := h; rfl) | (rcases h with ⟨_, h⟩))); done)
  | (repeat' (first | (obtain ⟨rfl, _⟩ := h; rfl) | (refine Or.elim h (fun h => ?_) (fun h => ?_)) | (rcases h with ⟨_, h⟩)))
theorem l_width_of : ∀ ds μ Q Z, sp_width_of ds μ Q Z → ds.length = 2 := by
  intro ds μ Q Z h
  unfold sp_width_of at h
  first
  | (obtain ⟨rfl, _⟩ := h; rfl)
  | (rcases h with ⟨_, h⟩; (repeat (first | (obtain ⟨rfl, _⟩ := h; rfl) | (rcases h with ⟨_, h⟩))); done)
  | (rcases h with h | h <;> (repeat (first | (obtain ⟨rfl, _⟩ := h; rfl) | (rcases h with ⟨_, h⟩))); done)
  | (repeat' (first | (obtain ⟨rfl, _⟩ := h; rfl) | (refine Or.elim h (fun h => ?_) (fun h => ?_)) | (rcases h with ⟨_, h⟩)))
theorem l_most_in_gaps : ∀ ds μ Q Z, sp_most_in_gaps ds μ Q Z → ds.length = 2 := by
  intro ds μ Q Z h
  unfold sp_most_in_gaps at h
  first
  | (obtain ⟨rfl, _⟩ := h; rfl)
  | (rcases h with ⟨_, h⟩; (repeat (first | (obtain ⟨rfl, _⟩ := h; rfl) | (rcases h with ⟨_, h⟩))); done)
  | (rcases h with h | h <;> (repeat (first | (obtain ⟨rfl, _⟩ := h; rfl) | (rcases h with ⟨_, h⟩))); done)
  | (repeat' (first | (obtain ⟨rfl, _⟩ := h; rfl) | (refine Or.elim h (fun h => ?_) (fun h => ?_)) | (rcases h with ⟨_, h⟩)))
theorem l_best_distance (K : PySem.W.Frag) : ∀ ds μ Q Z, (sp_best_distance K) ds μ Q Z → ds.length = 2 := by
  intro ds μ Q Z h
  unfold sp_best_distance at h
  first
  | (obtain ⟨rfl, _⟩ := h; rfl)
  | (rcases h with ⟨_, h⟩; (repeat (first | (obtain ⟨rfl, _⟩ := h; rfl) | (rcases h with ⟨_, h⟩))); done)
  | (rcases h with h | h <;> (repeat (first | (obtain ⟨rfl, _⟩ := h; rfl) | (rcases h with ⟨_, h⟩))); done)
  | (repeat' (first | (obtain ⟨rfl, _⟩ := h; rfl) | (refine Or.elim h (fun h => ?_) (fun h => ?_)) | (rcases h with ⟨_, h⟩)))
theorem l_best_certificate (K : PySem.W.Frag) : ∀ ds μ Q Z, (sp_best_certificate K) ds μ Q Z → ds.length = 2 := by
  intro ds μ Q Z h
  unfold sp_best_certificate at h
  first
  | (obtain ⟨rfl, _⟩ := h; rfl)
  | (rcases h with ⟨_, h⟩; (repeat (first | (obtain ⟨rfl, _⟩ := h; rfl) | (rcases h with ⟨_, h⟩))); done)
  | (rcases h with h | h <;> (repeat (first | (obtain ⟨rfl, _⟩ := h; rfl) | (rcases h with ⟨_, h⟩))); done)
  | (repeat' (first | (obtain ⟨rfl, _⟩ := h; rfl) | (refine Or.elim h (fun h => ?_) (fun h => ?_)) | (rcases h with ⟨_, h⟩)))
theorem l_best_holds (K : PySem.W.Frag) : ∀ ds μ Q Z, (sp_best_holds K) ds μ Q Z → ds.length = 3 := by
  intro ds μ Q Z h
  unfold sp_best_holds at h
  first
  | (obtain ⟨rfl, _⟩ := h; rfl)
  | (rcases h with ⟨_, h⟩; (repeat (first | (obtain ⟨rfl, _⟩ := h; rfl) | (rcases h with ⟨_, h⟩))); done)
  | (rcases h with h | h <;> (repeat (first | (obtain ⟨rfl, _⟩ := h; rfl) | (rcases h with ⟨_, h⟩))); done)
  | (repeat' (first | (obtain ⟨rfl, _⟩ := h; rfl) | (refine Or.elim h (fun h => ?_) (fun h => ?_)) | (rcases h with ⟨_, h⟩)))
theorem l_spread (K : PySem.W.Frag) : ∀ ds μ Q Z, (sp_spread K) ds μ Q Z → ds.length = 2 := by
  intro ds μ Q Z h
  unfold sp_spread at h
  first
  | (obtain ⟨rfl, _⟩ := h; rfl)
  | (rcases h with ⟨_, h⟩; (repeat (first | (obtain ⟨rfl, _⟩ := h; rfl) | (rcases h with ⟨_, h⟩))); done)
  | (rcases h with h | h <;> (repeat (first | (obtain ⟨rfl, _⟩ := h; rfl) | (rcases h with ⟨_, h⟩))); done)
  | (repeat' (first | (obtain ⟨rfl, _⟩ := h; rfl) | (refine Or.elim h (fun h => ?_) (fun h => ?_)) | (rcases h with ⟨_, h⟩)))
theorem l_l_shuffled_script (K : PySem.W.Frag) : ∀ ds μ Q Z, (sp_l_shuffled_script K) ds μ Q Z → ds.length = 1 := by
  intro ds μ Q Z h
  unfold sp_l_shuffled_script at h
  first
  | (obtain ⟨rfl, _⟩ := h; rfl)
  | (rcases h with ⟨_, h⟩; (repeat (first | (obtain ⟨rfl, _⟩ := h; rfl) | (rcases h with ⟨_, h⟩))); done)
  | (rcases h with h | h <;> (repeat (first | (obtain ⟨rfl, _⟩ := h; rfl) | (rcases h with ⟨_, h⟩))); done)
  | (repeat' (first | (obtain ⟨rfl, _⟩ := h; rfl) | (refine Or.elim h (fun h => ?_) (fun h => ?_)) | (rcases h with ⟨_, h⟩)))
theorem l_l_pull : ∀ ds μ Q Z, sp_l_pull ds μ Q Z → ds.length = 2 := by
  intro ds μ Q Z h
  unfold sp_l_pull at h
  first
  | (obtain ⟨rfl, _⟩ := h; rfl)
  | (rcases h with ⟨_, h⟩; (repeat (first | (obtain ⟨rfl, _⟩ := h; rfl) | (rcases h with ⟨_, h⟩))); done)
  | (rcases h with h | h <;> (repeat (first | (obtain ⟨rfl, _⟩ := h; rfl) | (rcases h with ⟨_, h⟩))); done)
  | (repeat' (first | (obtain ⟨rfl, _⟩ := h; rfl) | (refine Or.elim h (fun h => ?_) (fun h => ?_)) | (rcases h with ⟨_, h⟩)))
theorem l_l_far_row : ∀ ds μ Q Z, sp_l_far_row ds μ Q Z → ds.length = 2 := by
  intro ds μ Q Z h
  unfold sp_l_far_row at h
  first
  | (obtain ⟨rfl, _⟩ := h; rfl)
  | (rcases h with ⟨_, h⟩; (repeat (first | (obtain ⟨rfl, _⟩ := h; rfl) | (rcases h with ⟨_, h⟩))); done)
  | (rcases h with h | h <;> (repeat (first | (obtain ⟨rfl, _⟩ := h; rfl) | (rcases h with ⟨_, h⟩))); done)
  | (repeat' (first | (obtain ⟨rfl, _⟩ := h; rfl) | (refine Or.elim h (fun h => ?_) (fun h => ?_)) | (rcases h with ⟨_, h⟩)))
theorem l_l_free : ∀ ds μ Q Z, sp_l_free ds μ Q Z → ds.length = 1 := by
  intro ds μ Q Z h
  unfold sp_l_free at h
  first
  | (obtain ⟨rfl, _⟩ := h; rfl)
  | (rcases h with ⟨_, h⟩; (repeat (first | (obtain ⟨rfl, _⟩ := h; rfl) | (rcases h with ⟨_, h⟩))); done)
  | (rcases h with h | h <;> (repeat (first | (obtain ⟨rfl, _⟩ := h; rfl) | (rcases h with ⟨_, h⟩))); done)
  | (repeat' (first | (obtain ⟨rfl, _⟩ := h; rfl) | (refine Or.elim h (fun h => ?_) (fun h => ?_)) | (rcases h with ⟨_, h⟩)))
theorem l_l_bounds_right (K : PySem.W.Frag) : ∀ ds μ Q Z, (sp_l_bounds_right K) ds μ Q Z → ds.length = 2 := by
  intro ds μ Q Z h
  unfold sp_l_bounds_right at h
  first
  | (obtain ⟨rfl, _⟩ := h; rfl)
  | (rcases h with ⟨_, h⟩; (repeat (first | (obtain ⟨rfl, _⟩ := h; rfl) | (rcases h with ⟨_, h⟩))); done)
  | (rcases h with h | h <;> (repeat (first | (obtain ⟨rfl, _⟩ := h; rfl) | (rcases h with ⟨_, h⟩))); done)
  | (repeat' (first | (obtain ⟨rfl, _⟩ := h; rfl) | (refine Or.elim h (fun h => ?_) (fun h => ?_)) | (rcases h with ⟨_, h⟩)))
theorem l_l_spread_right (K : PySem.W.Frag) : ∀ ds μ Q Z, (sp_l_spread_right K) ds μ Q Z → ds.length = 2 := by
  intro ds μ Q Z h
  unfold sp_l_spread_right at h
  first
  | (obtain ⟨rfl, _⟩ := h; rfl)
  | (rcases h with ⟨_, h⟩; (repeat (first | (obtain ⟨rfl, _⟩ := h; rfl) | (rcases h with ⟨_, h⟩))); done)
  | (rcases h with h | h <;> (repeat (first | (obtain ⟨rfl, _⟩ := h; rfl) | (rcases h with ⟨_, h⟩))); done)
  | (repeat' (first | (obtain ⟨rfl, _⟩ := h; rfl) | (refine Or.elim h (fun h => ?_) (fun h => ?_)) | (rcases h with ⟨_, h⟩)))
theorem l_law (K : PySem.W.Frag) : ∀ ds μ Q Z, (sp_law K) ds μ Q Z → ds.length = 1 := by
  intro ds μ Q Z h
  unfold sp_law at h
  first
  | (obtain ⟨rfl, _⟩ := h; rfl)
  | (rcases h with ⟨_, h⟩; (repeat (first | (obtain ⟨rfl, _⟩ := h; rfl) | (rcases h with ⟨_, h⟩))); done)
  | (rcases h with h | h <;> (repeat (first | (obtain ⟨rfl, _⟩ := h; rfl) | (rcases h with ⟨_, h⟩))); done)
  | (repeat' (first | (obtain ⟨rfl, _⟩ := h; rfl) | (refine Or.elim h (fun h => ?_) (fun h => ?_)) | (rcases h with ⟨_, h⟩)))
theorem ok_is_integer {P : Program} {w : World} {K : PySem.W.Frag} {mg : Str → Option Value} {base : Heap} {f : Addr} {fd : FuncData} (F : Fun K "is_integer" "is_integer" s_is_integer f fd) (m_bool : mg "bool" = none) (m_int : mg "int" = none) (m_isinstance : mg "isinstance" = none)  : FnV P w K mg base 1 f fd ["value", "low", "high"] (spOf sp_is_integer) :=
  fn_body F sc_is_integer (fun ds μ Q Z h => l_is_integer ds μ Q Z h) fun cdv A outer s H E hr hG => ⟨_, b_is_integer m_bool m_int m_isinstance hr hG, r_is_integer⟩
theorem ok_gaps {P : Program} {w : World} {K : PySem.W.Frag} {mg : Str → Option Value} {base : Heap} {f : Addr} {fd : FuncData} (F : Fun K "gaps" "gaps" s_gaps f fd) (m_tuple : mg "tuple" = none)  : FnV P w K mg base 1 f fd ["row"] (spOf sp_gaps) :=
  fn_body F sc_gaps (fun ds μ Q Z h => l_gaps ds μ Q Z h) fun cdv A outer s H E hr hG => ⟨_, b_gaps m_tuple hr hG, r_gaps⟩
theorem ok_is_number {P : Program} {w : World} {K : PySem.W.Frag} {mg : Str → Option Value} {base : Heap} {f : Addr} {fd : FuncData} (F : Fun K "is_number" "is_number" s_is_number f fd) (m_bool : mg "bool" = none) (m_int : mg "int" = none) (m_isinstance : mg "isinstance" = none)  : FnV P w K mg base 1 f fd ["value", "low", "high"] (spOf sp_is_number) :=
  fn_body F sc_is_number (fun ds μ Q Z h => l_is_number ds μ Q Z h) fun cdv A outer s H E hr hG => ⟨_, b_is_number m_bool m_int m_isinstance hr hG, r_is_number⟩
theorem ok_free_seats {P : Program} {w : World} {K : PySem.W.Frag} {mg : Str → Option Value} {base : Heap} {f : Addr} {fd : FuncData} (F : Fun K "free_seats" "free_seats" s_free_seats f fd) (m_len : mg "len" = none)  : FnV P w K mg base 1 f fd ["row"] (spOf sp_free_seats) :=
  fn_body F sc_free_seats (fun ds μ Q Z h => l_free_seats ds μ Q Z h) fun cdv A outer s H E hr hG => ⟨_, b_free_seats m_len hr hG, r_free_seats⟩
theorem ok_require_free {P : Program} {w : World} {K : PySem.W.Frag} {mg : Str → Option Value} {base : Heap} {f : Addr} {fd : FuncData} (F : Fun K "require_free" "require_free" s_require_free f fd)  (c_is_number : CalG P w K mg base 1 "is_number" sp_is_number) : FnV P w K mg base 2 f fd ["row", "seat"] (spOf sp_require_free) :=
  fn_body F sc_require_free (fun ds μ Q Z h => l_require_free ds μ Q Z h) fun cdv A outer s H E hr hG => ⟨_, b_require_free c_is_number hr hG, r_require_free⟩
theorem ok_middle {P : Program} {w : World} {K : PySem.W.Frag} {mg : Str → Option Value} {base : Heap} {f : Addr} {fd : FuncData} (F : Fun K "middle" "middle" s_middle f fd)   : FnV P w K mg base 1 f fd ["gap"] (spOf sp_middle) :=
  fn_body F sc_middle (fun ds μ Q Z h => l_middle ds μ Q Z h) fun cdv A outer s H E hr hG => ⟨_, b_middle  hr hG, r_middle⟩
theorem ok_left_part {P : Program} {w : World} {K : PySem.W.Frag} {mg : Str → Option Value} {base : Heap} {f : Addr} {fd : FuncData} (F : Fun K "left_part" "left_part" s_left_part f fd)   : FnV P w K mg base 1 f fd ["gap"] (spOf sp_left_part) :=
  fn_body F sc_left_part (fun ds μ Q Z h => l_left_part ds μ Q Z h) fun cdv A outer s H E hr hG => ⟨_, b_left_part  hr hG, r_left_part⟩
theorem ok_right_part {P : Program} {w : World} {K : PySem.W.Frag} {mg : Str → Option Value} {base : Heap} {f : Addr} {fd : FuncData} (F : Fun K "right_part" "right_part" s_right_part f fd)   : FnV P w K mg base 1 f fd ["gap"] (spOf sp_right_part) :=
  fn_body F sc_right_part (fun ds μ Q Z h => l_right_part ds μ Q Z h) fun cdv A outer s H E hr hG => ⟨_, b_right_part  hr hG, r_right_part⟩
theorem ok_number_within {P : Program} {w : World} {K : PySem.W.Frag} {mg : Str → Option Value} {base : Heap} {f : Addr} {fd : FuncData} (F : Fun K "number_within" "number_within" s_number_within f fd)   : FnV P w K mg base 1 f fd ["width", "wanted"] (spOf sp_number_within) :=
  fn_body F sc_number_within (fun ds μ Q Z h => l_number_within ds μ Q Z h) fun cdv A outer s H E hr hG => ⟨_, b_number_within  hr hG, r_number_within⟩
theorem ok_widths_within {P : Program} {w : World} {K : PySem.W.Frag} {mg : Str → Option Value} {base : Heap} {f : Addr} {fd : FuncData} (F : Fun K "widths_within" "widths_within" s_widths_within f fd)   : FnV P w K mg base 1 f fd ["width"] (spOf sp_widths_within) :=
  fn_body F sc_widths_within (fun ds μ Q Z h => l_widths_within ds μ Q Z h) fun cdv A outer s H E hr hG => ⟨_, b_widths_within  hr hG, r_widths_within⟩
theorem ok_all_widths {P : Program} {w : World} {K : PySem.W.Frag} {mg : Str → Option Value} {base : Heap} {f : Addr} {fd : FuncData} (F : Fun K "all_widths" "all_widths" s_all_widths f fd)  (c_gaps : CalG P w K mg base 1 "gaps" sp_gaps) (c_widths_within : CalG P w K mg base 1 "widths_within" sp_widths_within) : FnV P w K mg base 2 f fd ["row"] (spOf sp_all_widths) :=
  fn_body F sc_all_widths (fun ds μ Q Z h => l_all_widths ds μ Q Z h) fun cdv A outer s H E hr hG => ⟨_, b_all_widths c_gaps c_widths_within hr hG, r_all_widths⟩
theorem ok_later_widths {P : Program} {w : World} {K : PySem.W.Frag} {mg : Str → Option Value} {base : Heap} {f : Addr} {fd : FuncData} (F : Fun K "later_widths" "later_widths" s_later_widths f fd) (m_sorted : mg "sorted" = none) (m_tuple : mg "tuple" = none) (c_all_widths : CalG P w K mg base 2 "all_widths" sp_all_widths) : FnV P w K mg base 3 f fd ["row"] (spOf sp_later_widths) :=
  fn_body F sc_later_widths (fun ds μ Q Z h => l_later_widths ds μ Q Z h) fun cdv A outer s H E hr hG => ⟨_, b_later_widths m_sorted m_tuple c_all_widths hr hG, r_later_widths⟩
theorem ok_path_to {P : Program} {w : World} {K : PySem.W.Frag} {mg : Str → Option Value} {base : Heap} {f : Addr} {fd : FuncData} (F : Fun K "path_to" "path_to" s_path_to f fd)  (c_gaps : CalG P w K mg base 1 "gaps" sp_gaps) (c_left_part : CalG P w K mg base 1 "left_part" sp_left_part) (c_middle : CalG P w K mg base 1 "middle" sp_middle) (c_right_part : CalG P w K mg base 1 "right_part" sp_right_part) : FnV P w K mg base 2 f fd ["row", "seat"] (spOf sp_path_to) :=
  fn_body F sc_path_to (fun ds μ Q Z h => l_path_to ds μ Q Z h) fun cdv A outer s H E hr hG => ⟨_, b_path_to c_gaps c_left_part c_middle c_right_part hr hG, r_path_to⟩
theorem ok_gap_of {P : Program} {w : World} {K : PySem.W.Frag} {mg : Str → Option Value} {base : Heap} {f : Addr} {fd : FuncData} (F : Fun K "gap_of" "gap_of" s_gap_of f fd)  (c_path_to : CalG P w K mg base 2 "path_to" sp_path_to) (c_require_free : CalG P w K mg base 2 "require_free" sp_require_free) : FnV P w K mg base 3 f fd ["row", "seat"] (spOf sp_gap_of) :=
  fn_body F sc_gap_of (fun ds μ Q Z h => l_gap_of ds μ Q Z h) fun cdv A outer s H E hr hG => ⟨_, b_gap_of c_path_to c_require_free hr hG, r_gap_of⟩
theorem ok_gap_with_rank {P : Program} {w : World} {K : PySem.W.Frag} {mg : Str → Option Value} {base : Heap} {f : Addr} {fd : FuncData} (F : Fun K "gap_with_rank" "gap_with_rank" s_gap_with_rank f fd)  (c_gaps : CalG P w K mg base 1 "gaps" sp_gaps) (c_left_part : CalG P w K mg base 1 "left_part" sp_left_part) (c_number_within : CalG P w K mg base 1 "number_within" sp_number_within) (c_right_part : CalG P w K mg base 1 "right_part" sp_right_part) : FnV P w K mg base 2 f fd ["row", "width", "rank"] (spOf sp_gap_with_rank) :=
  fn_body F sc_gap_with_rank (fun ds μ Q Z h => l_gap_with_rank ds μ Q Z h) fun cdv A outer s H E hr hG => ⟨_, b_gap_with_rank c_gaps c_left_part c_number_within c_right_part hr hG, r_gap_with_rank⟩
theorem ok_gap_at {P : Program} {w : World} {K : PySem.W.Frag} {mg : Str → Option Value} {base : Heap} {f : Addr} {fd : FuncData} (F : Fun K "gap_at" "gap_at" s_gap_at f fd)  (c_gap_with_rank : CalG P w K mg base 2 "gap_with_rank" sp_gap_with_rank) (c_later_widths : CalG P w K mg base 3 "later_widths" sp_later_widths) : FnV P w K mg base 4 f fd ["row", "index"] (spOf sp_gap_at) :=
  fn_body F sc_gap_at (fun ds μ Q Z h => l_gap_at ds μ Q Z h) fun cdv A outer s H E hr hG => ⟨_, b_gap_at c_gap_with_rank c_later_widths hr hG, r_gap_at⟩
theorem ok_seat_of {P : Program} {w : World} {K : PySem.W.Frag} {mg : Str → Option Value} {base : Heap} {f : Addr} {fd : FuncData} (F : Fun K "seat_of" "seat_of" s_seat_of f fd)  (c_free_seats : CalG P w K mg base 1 "free_seats_orders" sp_free_seats) (c_gap_at : CalG P w K mg base 4 "gap_at" sp_gap_at) (c_is_number : CalG P w K mg base 1 "is_number" sp_is_number) (c_middle : CalG P w K mg base 1 "middle" sp_middle) : FnV P w K mg base 5 f fd ["row", "index"] (spOf sp_seat_of) :=
  fn_body F sc_seat_of (fun ds μ Q Z h => l_seat_of ds μ Q Z h) fun cdv A outer s H E hr hG => ⟨_, b_seat_of c_free_seats c_gap_at c_is_number c_middle hr hG, r_seat_of⟩
theorem ok_free_seatsD {P : Program} {w : World} {K : PySem.W.Frag} {mg : Str → Option Value} {base : Heap} {f : Addr} {fd : FuncData} (F : Fun K "free_seats" "free_seats" s_free_seatsD f fd) (m_len : mg "len" = none)  : FnV P w K mg base 1 f fd ["row"] (spOf sp_free_seatsD) :=
  fn_body F sc_free_seatsD (fun ds μ Q Z h => l_free_seatsD ds μ Q Z h) fun cdv A outer s H E hr hG => ⟨_, b_free_seatsD m_len hr hG, r_free_seatsD⟩
theorem ok_distance_of_width {P : Program} {w : World} {K : PySem.W.Frag} {mg : Str → Option Value} {base : Heap} {f : Addr} {fd : FuncData} (F : Fun K "distance_of_width" "distance_of_width" s_distance_of_width f fd)   : FnV P w K mg base 1 f fd ["width"] (spOf sp_distance_of_width) :=
  fn_body F sc_distance_of_width (fun ds μ Q Z h => l_distance_of_width ds μ Q Z h) fun cdv A outer s H E hr hG => ⟨_, b_distance_of_width  hr hG, r_distance_of_width⟩
theorem ok_check_count {P : Program} {w : World} {K : PySem.W.Frag} {mg : Str → Option Value} {base : Heap} {f : Addr} {fd : FuncData} (F : Fun K "check_count" "check_count" s_check_count f fd)  (c_is_integer : CalG P w K mg base 1 "is_integer" sp_is_integer) (T_NoCount : ExI K mg "NoCount" "value" (cAt K "NoCount")) : FnV P w K mg base 2 f fd ["value", "low", "high"] (spOf (sp_check_count K)) :=
  fn_body F sc_check_count (fun ds μ Q Z h => l_check_count K ds μ Q Z h) fun cdv A outer s H E hr hG => ⟨_, b_check_count c_is_integer T_NoCount hr hG, r_check_count K⟩
theorem ok_distance_at {P : Program} {w : World} {K : PySem.W.Frag} {mg : Str → Option Value} {base : Heap} {f : Addr} {fd : FuncData} (F : Fun K "distance_at" "distance_at" s_distance_at f fd) (m_abs : mg "abs" = none) (m_min : mg "min" = none) (c_is_integer : CalG P w K mg base 1 "is_integer" sp_is_integer) (T_NoSeat : ExI K mg "NoSeat" "value" (cAt K "NoSeat")) (T_Taken : ExI K mg "Taken" "seat" (cAt K "Taken")) : FnV P w K mg base 2 f fd ["row", "seat"] (spOf (sp_distance_at K)) :=
  fn_body F sc_distance_at (fun ds μ Q Z h => l_distance_at K ds μ Q Z h) fun cdv A outer s H E hr hG => ⟨_, b_distance_at m_abs m_min c_is_integer T_NoSeat T_Taken hr hG, r_distance_at K⟩
theorem ok_width_of {P : Program} {w : World} {K : PySem.W.Frag} {mg : Str → Option Value} {base : Heap} {f : Addr} {fd : FuncData} (F : Fun K "width_of" "width_of" s_width_of f fd)   : FnV P w K mg base 1 f fd ["table", "index"] (spOf sp_width_of) :=
  fn_body F sc_width_of (fun ds μ Q Z h => l_width_of ds μ Q Z h) fun cdv A outer s H E hr hG => ⟨_, b_width_of  hr hG, r_width_of⟩
theorem ok_distances_of {P : Program} {w : World} {K : PySem.W.Frag} {mg : Str → Option Value} {base : Heap} {f : Addr} {fd : FuncData} (F : Fun K "distances_of" "distances_of" s_distances_of f fd) (hb : ∀ us rest : List Value, us.length = (["row"] : List Str).length → bindArgs fd ⟨us ++ rest, []⟩ = (newTuple rest >>= fun t => pure ((["row"] : List Str).zip us ++ [(("indexes" : Str), t)]))) (m_tuple : mg "tuple" = none) (c_distance_of_width : CalG P w K mg base 1 "distance_of_width" sp_distance_of_width) (c_free_seatsD : CalG P w K mg base 1 "free_seats_distances" sp_free_seatsD) (c_is_integer : CalG P w K mg base 1 "is_integer" sp_is_integer) (c_later_widths : CalG P w K mg base 3 "later_widths" sp_later_widths) (c_width_of : CalG P w K mg base 1 "width_of" sp_width_of) (T_NoIndex : ExI K mg "NoIndex" "index" (cAt K "NoIndex")) : FnW P w K mg base 4 f (spOf (spStar 1 (sp_distances_of K))) :=
  fn_bodyS (ps := ["row"]) (pv := "indexes") F sc_distances_of hb fun cdv A outer s H E hr hG => ⟨_, b_distances_of m_tuple c_distance_of_width c_free_seatsD c_is_integer c_later_widths c_width_of T_NoIndex hr hG, r_distances_of K⟩
theorem ok_most_in_gaps {P : Program} {w : World} {K : PySem.W.Frag} {mg : Str → Option Value} {base : Heap} {f : Addr} {fd : FuncData} (F : Fun K "most_in_gaps" "most_in_gaps" s_most_in_gaps f fd) (m_max : mg "max" = none) (c_gaps : CalG P w K mg base 1 "gaps" sp_gaps) : FnV P w K mg base 2 f fd ["row", "distance"] (spOf sp_most_in_gaps) :=
  fn_body F sc_most_in_gaps (fun ds μ Q Z h => l_most_in_gaps ds μ Q Z h) fun cdv A outer s H E hr hG => ⟨_, b_most_in_gaps m_max c_gaps hr hG, r_most_in_gaps⟩
theorem ok_best_distance {P : Program} {w : World} {K : PySem.W.Frag} {mg : Str → Option Value} {base : Heap} {f : Addr} {fd : FuncData} (F : Fun K "best_distance" "best_distance" s_best_distance f fd) (m_sum : mg "sum" = none) (c_check_count : CalG P w K mg base 2 "check_count" (sp_check_count K)) (c_free_seatsD : CalG P w K mg base 1 "free_seats_distances" sp_free_seatsD) (c_most_in_gaps : CalG P w K mg base 2 "most_in_gaps" sp_most_in_gaps) : FnV P w K mg base 3 f fd ["row", "count"] (spOf (sp_best_distance K)) :=
  fn_body F sc_best_distance (fun ds μ Q Z h => l_best_distance K ds μ Q Z h) fun cdv A outer s H E hr hG => ⟨_, b_best_distance m_sum c_check_count c_free_seatsD c_most_in_gaps hr hG, r_best_distance K⟩
theorem ok_best_certificate {P : Program} {w : World} {K : PySem.W.Frag} {mg : Str → Option Value} {base : Heap} {f : Addr} {fd : FuncData} (F : Fun K "best_certificate" "best_certificate" s_best_certificate f fd) (m_min : mg "min" = none) (m_tuple : mg "tuple" = none) (c_best_distance : CalG P w K mg base 3 "best_distance" (sp_best_distance K)) (c_most_in_gaps : CalG P w K mg base 2 "most_in_gaps" sp_most_in_gaps) : FnV P w K mg base 4 f fd ["row", "count"] (spOf (sp_best_certificate K)) :=
  fn_body F sc_best_certificate (fun ds μ Q Z h => l_best_certificate K ds μ Q Z h) fun cdv A outer s H E hr hG => ⟨_, b_best_certificate m_min m_tuple c_best_distance c_most_in_gaps hr hG, r_best_certificate K⟩
theorem ok_best_holds {P : Program} {w : World} {K : PySem.W.Frag} {mg : Str → Option Value} {base : Heap} {f : Addr} {fd : FuncData} (F : Fun K "best_holds" "best_holds" s_best_holds f fd) (m_all : mg "all" = none) (m_isinstance : mg "isinstance" = none) (m_len : mg "len" = none) (m_sum : mg "sum" = none) (m_tuple : mg "tuple" = none) (m_zip : mg "zip" = none) (c_check_count : CalG P w K mg base 2 "check_count" (sp_check_count K)) (c_free_seatsD : CalG P w K mg base 1 "free_seats_distances" sp_free_seatsD) (c_is_integer : CalG P w K mg base 1 "is_integer" sp_is_integer) (c_most_in_gaps : CalG P w K mg base 2 "most_in_gaps" sp_most_in_gaps) : FnV P w K mg base 3 f fd ["row", "count", "value"] (spOf (sp_best_holds K)) :=
  fn_body F sc_best_holds (fun ds μ Q Z h => l_best_holds K ds μ Q Z h) fun cdv A outer s H E hr hG => ⟨_, b_best_holds m_all m_isinstance m_len m_sum m_tuple m_zip c_check_count c_free_seatsD c_is_integer c_most_in_gaps hr hG, r_best_holds K⟩
theorem ok_spread {P : Program} {w : World} {K : PySem.W.Frag} {mg : Str → Option Value} {base : Heap} {f : Addr} {fd : FuncData} (F : Fun K "spread" "spread" s_spread f fd) (m_len : mg "len" = none) (m_min : mg "min" = none) (m_range : mg "range" = none) (m_tuple : mg "tuple" = none) (m_zip : mg "zip" = none) (c_best_distance : CalG P w K mg base 3 "best_distance" (sp_best_distance K)) (c_gaps : CalG P w K mg base 1 "gaps" sp_gaps) (c_most_in_gaps : CalG P w K mg base 2 "most_in_gaps" sp_most_in_gaps) {tk_LISTED : Tok} (g_LISTED : mg "LISTED" = some (.int 2000 tk_LISTED)) : FnV P w K mg base 4 f fd ["row", "count"] (spOf (sp_spread K)) :=
  fn_body F sc_spread (fun ds μ Q Z h => l_spread K ds μ Q Z h) fun cdv A outer s H E hr hG => ⟨_, b_spread m_len m_min m_range m_tuple m_zip c_best_distance c_gaps c_most_in_gaps g_LISTED hr hG, r_spread K⟩
theorem ok_l_shuffled_script {P : Program} {w : World} {K : PySem.W.Frag} {mg : Str → Option Value} {base : Heap} {f : Addr} {fd : FuncData} (F : Fun K "_law_shuffled_script" "_law_shuffled_script" s_l_shuffled_script f fd) (m_abs : mg "abs" = none) (m_int : mg "int" = none) (m_len : mg "len" = none)  : FnV P w K mg base 1 f fd ["_law_script"] (spOf (sp_l_shuffled_script K)) :=
  fn_body F sc_l_shuffled_script (fun ds μ Q Z h => l_l_shuffled_script K ds μ Q Z h) fun cdv A outer s H E hr hG => ⟨_, b_l_shuffled_script m_abs m_int m_len hr hG, r_l_shuffled_script K⟩
theorem ok_l_pull {P : Program} {w : World} {K : PySem.W.Frag} {mg : Str → Option Value} {base : Heap} {f : Addr} {fd : FuncData} (F : Fun K "_law_pull" "_law_pull" s_l_pull f fd)   : FnV P w K mg base 1 f fd ["_law_well", "_law_many"] (spOf sp_l_pull) :=
  fn_body F sc_l_pull (fun ds μ Q Z h => l_l_pull ds μ Q Z h) fun cdv A outer s H E hr hG => ⟨_, b_l_pull  hr hG, r_l_pull⟩
theorem ok_l_far_row {P : Program} {w : World} {K : PySem.W.Frag} {mg : Str → Option Value} {base : Heap} {f : Addr} {fd : FuncData} (F : Fun K "_law_far_row" "_law_far_row" s_l_far_row f fd) (m_range : mg "range" = none) (m_set : mg "set" = none) (m_sorted : mg "sorted" = none) (m_tuple : mg "tuple" = none) (c_l_pull : CalG P w K mg base 1 "_law_pull" sp_l_pull) : FnV P w K mg base 2 f fd ["_law_well", "_law_sitters"] (spOf sp_l_far_row) :=
  fn_body F sc_l_far_row (fun ds μ Q Z h => l_l_far_row ds μ Q Z h) fun cdv A outer s H E hr hG => ⟨_, b_l_far_row m_range m_set m_sorted m_tuple c_l_pull hr hG, r_l_far_row⟩
theorem ok_l_free {P : Program} {w : World} {K : PySem.W.Frag} {mg : Str → Option Value} {base : Heap} {f : Addr} {fd : FuncData} (F : Fun K "_law_free" "_law_free" s_l_free f fd) (m_len : mg "len" = none)  : FnV P w K mg base 1 f fd ["_law_row"] (spOf sp_l_free) :=
  fn_body F sc_l_free (fun ds μ Q Z h => l_l_free ds μ Q Z h) fun cdv A outer s H E hr hG => ⟨_, b_l_free m_len hr hG, r_l_free⟩
theorem ok_l_bounds_right {P : Program} {w : World} {K : PySem.W.Frag} {mg : Str → Option Value} {base : Heap} {f : Addr} {fd : FuncData} (F : Fun K "_law_bounds_right" "_law_bounds_right" s_l_bounds_right f fd) (m_sum : mg "sum" = none) (c_best_certificate : CalG P w K mg base 4 "best_certificate" (sp_best_certificate K)) (c_best_distance : CalG P w K mg base 3 "best_distance" (sp_best_distance K)) (c_best_holds : CalG P w K mg base 3 "best_holds" (sp_best_holds K)) (c_distances_of : CalG P w K mg base 4 "distances_of" (spStar 1 (sp_distances_of K))) (c_gap_of : CalG P w K mg base 3 "gap_of" sp_gap_of) (c_seat_of : CalG P w K mg base 5 "seat_of" sp_seat_of) : FnV P w K mg base 6 f fd ["_law_row", "_law_count"] (spOf (sp_l_bounds_right K)) :=
  fn_body F sc_l_bounds_right (fun ds μ Q Z h => l_l_bounds_right K ds μ Q Z h) fun cdv A outer s H E hr hG => ⟨_, b_l_bounds_right m_sum c_best_certificate c_best_distance c_best_holds c_distances_of c_gap_of c_seat_of hr hG, r_l_bounds_right K⟩
theorem ok_l_spread_right {P : Program} {w : World} {K : PySem.W.Frag} {mg : Str → Option Value} {base : Heap} {f : Addr} {fd : FuncData} (F : Fun K "_law_spread_right" "_law_spread_right" s_l_spread_right f fd) (m_len : mg "len" = none) (m_list : mg "list" = none) (m_range : mg "range" = none) (m_set : mg "set" = none) (m_sorted : mg "sorted" = none) (c_best_distance : CalG P w K mg base 3 "best_distance" (sp_best_distance K)) (c_distance_at : CalG P w K mg base 2 "distance_at" (sp_distance_at K)) (c_spread : CalG P w K mg base 4 "spread" (sp_spread K)) : FnV P w K mg base 5 f fd ["_law_row", "_law_count"] (spOf (sp_l_spread_right K)) :=
  fn_body F sc_l_spread_right (fun ds μ Q Z h => l_l_spread_right K ds μ Q Z h) fun cdv A outer s H E hr hG => ⟨_, b_l_spread_right m_len m_list m_range m_set m_sorted c_best_distance c_distance_at c_spread hr hG, r_l_spread_right K⟩
theorem ok_law {P : Program} {w : World} {K : PySem.W.Frag} {mg : Str → Option Value} {base : Heap} {f : Addr} {fd : FuncData} (F : Fun K "law" "law" s_law f fd) (m_range : mg "range" = none) (m_sorted : mg "sorted" = none) (c_l_bounds_right : CalG P w K mg base 6 "_law_bounds_right" (sp_l_bounds_right K)) (c_l_far_row : CalG P w K mg base 2 "_law_far_row" sp_l_far_row) (c_l_free : CalG P w K mg base 1 "_law_free" sp_l_free) (c_l_pull : CalG P w K mg base 1 "_law_pull" sp_l_pull) (c_l_shuffled_script : CalG P w K mg base 1 "_law_shuffled_script" (sp_l_shuffled_script K)) (c_l_spread_right : CalG P w K mg base 5 "_law_spread_right" (sp_l_spread_right K)) (c_best_distance : CalG P w K mg base 3 "best_distance" (sp_best_distance K)) : FnV P w K mg base 7 f fd ["_law_script"] (spOf (sp_law K)) :=
  fn_body F sc_law (fun ds μ Q Z h => l_law K ds μ Q Z h) fun cdv A outer s H E hr hG => ⟨_, b_law m_range m_sorted c_l_bounds_right c_l_far_row c_l_free c_l_pull c_l_shuffled_script c_l_spread_right c_best_distance hr hG, r_law K⟩
theorem all_mk {l : PySem.W.OpenLaw} {w : World} {K : PySem.W.Frag} {h : Heap} {mg : Str → Option Value} {fa f0 f1 f2 f3 f4 f5 f6 f7 f8 f9 f10 f11 f12 f13 f14 f15 f16 f17 f18 f19 f20 f21 f22 f23 f24 f25 f26 f27 f28 f29 f30 f31 f32 f33 f34 : Addr} (X : K.In h) (G : h.Ns mainGlobals mg) (hfa : mg "law" = some (.ref fa))
    {od0 an0 od1 an1 od2 an2 od3 an3 od4 an4 od5 an5 od6 an6 od7 an7 od8 an8 od9 an9 od10 an10 od11 an11 od12 an12 od13 an13 od14 an14 od15 an15 od16 an16 od17 an17 od18 an18 od19 an19 od20 an20 od21 an21 od22 an22 od23 an23 od24 an24 od25 an25 od26 an26 od27 an27 od28 an28 od29 an29 od30 an30 od31 an31 od32 an32 od33 an33 od34 an34 : Option Addr} {sl0 sl1 sl2 sl3 sl4 sl5 sl6 sl7 sl8 sl9 sl10 sl11 sl12 sl13 sl14 sl15 sl16 sl17 sl18 sl19 sl20 sl21 sl22 sl23 sl24 sl25 sl26 sl27 sl28 sl29 sl30 sl31 sl32 sl33 sl34 : Array (Option Value)} {oc0 kV0 dc0 pm0 cd0 ct0 oc1 kV1 dc1 pm1 cd1 ct1 oc2 kV2 dc2 pm2 cd2 ct2 oc3 kV3 dc3 pm3 cd3 ct3 oc4 kV4 dc4 pm4 cd4 ct4 oc5 kV5 dc5 pm5 cd5 ct5 oc6 kV6 dc6 pm6 cd6 ct6 oc7 kV7 dc7 pm7 cd7 ct7 oc8 kV8 dc8 pm8 cd8 ct8 oc9 kV9 dc9 pm9 cd9 ct9 oc10 kV10 dc10 pm10 cd10 ct10 oc11 kV11 dc11 pm11 cd11 ct11 oc12 kV12 dc12 pm12 cd12 ct12 oc13 kV13 dc13 pm13 cd13 ct13 oc14 kV14 dc14 pm14 cd14 ct14 oc15 kV15 dc15 pm15 cd15 ct15 oc16 kV16 dc16 pm16 cd16 ct16 oc17 kV17 dc17 pm17 cd17 ct17 oc18 kV18 dc18 pm18 cd18 ct18 oc19 kV19 dc19 pm19 cd19 ct19 oc20 kV20 dc20 pm20 cd20 ct20 oc21 kV21 dc21 pm21 cd21 ct21 oc22 kV22 dc22 pm22 cd22 ct22 oc23 kV23 dc23 pm23 cd23 ct23 oc24 kV24 dc24 pm24 cd24 ct24 oc25 kV25 dc25 pm25 cd25 ct25 oc26 kV26 dc26 pm26 cd26 ct26 oc27 kV27 dc27 pm27 cd27 ct27 oc28 kV28 dc28 pm28 cd28 ct28 oc29 kV29 dc29 pm29 cd29 ct29 oc30 kV30 dc30 pm30 cd30 ct30 oc31 kV31 dc31 pm31 cd31 ct31 oc32 kV32 dc32 pm32 cd32 ct32 oc33 kV33 dc33 pm33 cd33 ct33 oc34 kV34 dc34 pm34 cd34 ct34 : Value}
    (a0 : PySem.W.nsIn K mainGlobals "is_integer" = some (some (.ref f0))) (l0 : K.lookup f0 = some ⟨oc0, od0, .func (PySem.W.fnOf "is_integer" "is_integer" (defArgs s_is_integer) (defBody s_is_integer) (defScope s_is_integer) .none kV0 dc0 pm0 an0 cd0 ct0), sl0⟩) (c0 : PySem.W.codeIn K cd0 "is_integer" = true) (k0 : PySem.W.keepIn K (.ref f0) = true)
    (a1 : PySem.W.nsIn K mainGlobals "gaps" = some (some (.ref f1))) (l1 : K.lookup f1 = some ⟨oc1, od1, .func (PySem.W.fnOf "gaps" "gaps" (defArgs s_gaps) (defBody s_gaps) (defScope s_gaps) .none kV1 dc1 pm1 an1 cd1 ct1), sl1⟩) (c1 : PySem.W.codeIn K cd1 "gaps" = true) (k1 : PySem.W.keepIn K (.ref f1) = true)
    (a2 : PySem.W.nsIn K mainGlobals "is_number" = some (some (.ref f2))) (l2 : K.lookup f2 = some ⟨oc2, od2, .func (PySem.W.fnOf "is_number" "is_number" (defArgs s_is_number) (defBody s_is_number) (defScope s_is_number) .none kV2 dc2 pm2 an2 cd2 ct2), sl2⟩) (c2 : PySem.W.codeIn K cd2 "is_number" = true) (k2 : PySem.W.keepIn K (.ref f2) = true)
    (a3 : PySem.W.nsIn K mainGlobals "free_seats_orders" = some (some (.ref f3))) (l3 : K.lookup f3 = some ⟨oc3, od3, .func (PySem.W.fnOf "free_seats" "free_seats" (defArgs s_free_seats) (defBody s_free_seats) (defScope s_free_seats) .none kV3 dc3 pm3 an3 cd3 ct3), sl3⟩) (c3 : PySem.W.codeIn K cd3 "free_seats" = true) (k3 : PySem.W.keepIn K (.ref f3) = true)
    (a4 : PySem.W.nsIn K mainGlobals "require_free" = some (some (.ref f4))) (l4 : K.lookup f4 = some ⟨oc4, od4, .func (PySem.W.fnOf "require_free" "require_free" (defArgs s_require_free) (defBody s_require_free) (defScope s_require_free) .none kV4 dc4 pm4 an4 cd4 ct4), sl4⟩) (c4 : PySem.W.codeIn K cd4 "require_free" = true) (k4 : PySem.W.keepIn K (.ref f4) = true)
    (a5 : PySem.W.nsIn K mainGlobals "middle" = some (some (.ref f5))) (l5 : K.lookup f5 = some ⟨oc5, od5, .func (PySem.W.fnOf "middle" "middle" (defArgs s_middle) (defBody s_middle) (defScope s_middle) .none kV5 dc5 pm5 an5 cd5 ct5), sl5⟩) (c5 : PySem.W.codeIn K cd5 "middle" = true) (k5 : PySem.W.keepIn K (.ref f5) = true)
    (a6 : PySem.W.nsIn K mainGlobals "left_part" = some (some (.ref f6))) (l6 : K.lookup f6 = some ⟨oc6, od6, .func (PySem.W.fnOf "left_part" "left_part" (defArgs s_left_part) (defBody s_left_part) (defScope s_left_part) .none kV6 dc6 pm6 an6 cd6 ct6), sl6⟩) (c6 : PySem.W.codeIn K cd6 "left_part" = true) (k6 : PySem.W.keepIn K (.ref f6) = true)
    (a7 : PySem.W.nsIn K mainGlobals "right_part" = some (some (.ref f7))) (l7 : K.lookup f7 = some ⟨oc7, od7, .func (PySem.W.fnOf "right_part" "right_part" (defArgs s_right_part) (defBody s_right_part) (defScope s_right_part) .none kV7 dc7 pm7 an7 cd7 ct7), sl7⟩) (c7 : PySem.W.codeIn K cd7 "right_part" = true) (k7 : PySem.W.keepIn K (.ref f7) = true)
    (a8 : PySem.W.nsIn K mainGlobals "number_within" = some (some (.ref f8))) (l8 : K.lookup f8 = some ⟨oc8, od8, .func (PySem.W.fnOf "number_within" "number_within" (defArgs s_number_within) (defBody s_number_within) (defScope s_number_within) .none kV8 dc8 pm8 an8 cd8 ct8), sl8⟩) (c8 : PySem.W.codeIn K cd8 "number_within" = true) (k8 : PySem.W.keepIn K (.ref f8) = true)
    (a9 : PySem.W.nsIn K mainGlobals "widths_within" = some (some (.ref f9))) (l9 : K.lookup f9 = some ⟨oc9, od9, .func (PySem.W.fnOf "widths_within" "widths_within" (defArgs s_widths_within) (defBody s_widths_within) (defScope s_widths_within) .none kV9 dc9 pm9 an9 cd9 ct9), sl9⟩) (c9 : PySem.W.codeIn K cd9 "widths_within" = true) (k9 : PySem.W.keepIn K (.ref f9) = true)
    (a10 : PySem.W.nsIn K mainGlobals "all_widths" = some (some (.ref f10))) (l10 : K.lookup f10 = some ⟨oc10, od10, .func (PySem.W.fnOf "all_widths" "all_widths" (defArgs s_all_widths) (defBody s_all_widths) (defScope s_all_widths) .none kV10 dc10 pm10 an10 cd10 ct10), sl10⟩) (c10 : PySem.W.codeIn K cd10 "all_widths" = true) (k10 : PySem.W.keepIn K (.ref f10) = true)
    (a11 : PySem.W.nsIn K mainGlobals "later_widths" = some (some (.ref f11))) (l11 : K.lookup f11 = some ⟨oc11, od11, .func (PySem.W.fnOf "later_widths" "later_widths" (defArgs s_later_widths) (defBody s_later_widths) (defScope s_later_widths) .none kV11 dc11 pm11 an11 cd11 ct11), sl11⟩) (c11 : PySem.W.codeIn K cd11 "later_widths" = true) (k11 : PySem.W.keepIn K (.ref f11) = true)
    (a12 : PySem.W.nsIn K mainGlobals "path_to" = some (some (.ref f12))) (l12 : K.lookup f12 = some ⟨oc12, od12, .func (PySem.W.fnOf "path_to" "path_to" (defArgs s_path_to) (defBody s_path_to) (defScope s_path_to) .none kV12 dc12 pm12 an12 cd12 ct12), sl12⟩) (c12 : PySem.W.codeIn K cd12 "path_to" = true) (k12 : PySem.W.keepIn K (.ref f12) = true)
    (a13 : PySem.W.nsIn K mainGlobals "gap_of" = some (some (.ref f13))) (l13 : K.lookup f13 = some ⟨oc13, od13, .func (PySem.W.fnOf "gap_of" "gap_of" (defArgs s_gap_of) (defBody s_gap_of) (defScope s_gap_of) .none kV13 dc13 pm13 an13 cd13 ct13), sl13⟩) (c13 : PySem.W.codeIn K cd13 "gap_of" = true) (k13 : PySem.W.keepIn K (.ref f13) = true)
    (a14 : PySem.W.nsIn K mainGlobals "gap_with_rank" = some (some (.ref f14))) (l14 : K.lookup f14 = some ⟨oc14, od14, .func (PySem.W.fnOf "gap_with_rank" "gap_with_rank" (defArgs s_gap_with_rank) (defBody s_gap_with_rank) (defScope s_gap_with_rank) .none kV14 dc14 pm14 an14 cd14 ct14), sl14⟩) (c14 : PySem.W.codeIn K cd14 "gap_with_rank" = true) (k14 : PySem.W.keepIn K (.ref f14) = true)
    (a15 : PySem.W.nsIn K mainGlobals "gap_at" = some (some (.ref f15))) (l15 : K.lookup f15 = some ⟨oc15, od15, .func (PySem.W.fnOf "gap_at" "gap_at" (defArgs s_gap_at) (defBody s_gap_at) (defScope s_gap_at) .none kV15 dc15 pm15 an15 cd15 ct15), sl15⟩) (c15 : PySem.W.codeIn K cd15 "gap_at" = true) (k15 : PySem.W.keepIn K (.ref f15) = true)
    (a16 : PySem.W.nsIn K mainGlobals "seat_of" = some (some (.ref f16))) (l16 : K.lookup f16 = some ⟨oc16, od16, .func (PySem.W.fnOf "seat_of" "seat_of" (defArgs s_seat_of) (defBody s_seat_of) (defScope s_seat_of) .none kV16 dc16 pm16 an16 cd16 ct16), sl16⟩) (c16 : PySem.W.codeIn K cd16 "seat_of" = true) (k16 : PySem.W.keepIn K (.ref f16) = true)
    (a17 : PySem.W.nsIn K mainGlobals "free_seats_distances" = some (some (.ref f17))) (l17 : K.lookup f17 = some ⟨oc17, od17, .func (PySem.W.fnOf "free_seats" "free_seats" (defArgs s_free_seatsD) (defBody s_free_seatsD) (defScope s_free_seatsD) .none kV17 dc17 pm17 an17 cd17 ct17), sl17⟩) (c17 : PySem.W.codeIn K cd17 "free_seats" = true) (k17 : PySem.W.keepIn K (.ref f17) = true)
    (a18 : PySem.W.nsIn K mainGlobals "distance_of_width" = some (some (.ref f18))) (l18 : K.lookup f18 = some ⟨oc18, od18, .func (PySem.W.fnOf "distance_of_width" "distance_of_width" (defArgs s_distance_of_width) (defBody s_distance_of_width) (defScope s_distance_of_width) .none kV18 dc18 pm18 an18 cd18 ct18), sl18⟩) (c18 : PySem.W.codeIn K cd18 "distance_of_width" = true) (k18 : PySem.W.keepIn K (.ref f18) = true)
    (a19 : PySem.W.nsIn K mainGlobals "check_count" = some (some (.ref f19))) (l19 : K.lookup f19 = some ⟨oc19, od19, .func (PySem.W.fnOf "check_count" "check_count" (defArgs s_check_count) (defBody s_check_count) (defScope s_check_count) .none kV19 dc19 pm19 an19 cd19 ct19), sl19⟩) (c19 : PySem.W.codeIn K cd19 "check_count" = true) (k19 : PySem.W.keepIn K (.ref f19) = true)
    (a20 : PySem.W.nsIn K mainGlobals "distance_at" = some (some (.ref f20))) (l20 : K.lookup f20 = some ⟨oc20, od20, .func (PySem.W.fnOf "distance_at" "distance_at" (defArgs s_distance_at) (defBody s_distance_at) (defScope s_distance_at) .none kV20 dc20 pm20 an20 cd20 ct20), sl20⟩) (c20 : PySem.W.codeIn K cd20 "distance_at" = true) (k20 : PySem.W.keepIn K (.ref f20) = true)
    (a21 : PySem.W.nsIn K mainGlobals "width_of" = some (some (.ref f21))) (l21 : K.lookup f21 = some ⟨oc21, od21, .func (PySem.W.fnOf "width_of" "width_of" (defArgs s_width_of) (defBody s_width_of) (defScope s_width_of) .none kV21 dc21 pm21 an21 cd21 ct21), sl21⟩) (c21 : PySem.W.codeIn K cd21 "width_of" = true) (k21 : PySem.W.keepIn K (.ref f21) = true)
    (a22 : PySem.W.nsIn K mainGlobals "distances_of" = some (some (.ref f22))) (l22 : K.lookup f22 = some ⟨oc22, od22, .func (PySem.W.fnOf "distances_of" "distances_of" (defArgs s_distances_of) (defBody s_distances_of) (defScope s_distances_of) .none kV22 dc22 pm22 an22 cd22 ct22), sl22⟩) (c22 : PySem.W.codeIn K cd22 "distances_of" = true) (k22 : PySem.W.keepIn K (.ref f22) = true)
    (a23 : PySem.W.nsIn K mainGlobals "most_in_gaps" = some (some (.ref f23))) (l23 : K.lookup f23 = some ⟨oc23, od23, .func (PySem.W.fnOf "most_in_gaps" "most_in_gaps" (defArgs s_most_in_gaps) (defBody s_most_in_gaps) (defScope s_most_in_gaps) .none kV23 dc23 pm23 an23 cd23 ct23), sl23⟩) (c23 : PySem.W.codeIn K cd23 "most_in_gaps" = true) (k23 : PySem.W.keepIn K (.ref f23) = true)
    (a24 : PySem.W.nsIn K mainGlobals "best_distance" = some (some (.ref f24))) (l24 : K.lookup f24 = some ⟨oc24, od24, .func (PySem.W.fnOf "best_distance" "best_distance" (defArgs s_best_distance) (defBody s_best_distance) (defScope s_best_distance) .none kV24 dc24 pm24 an24 cd24 ct24), sl24⟩) (c24 : PySem.W.codeIn K cd24 "best_distance" = true) (k24 : PySem.W.keepIn K (.ref f24) = true)
    (a25 : PySem.W.nsIn K mainGlobals "best_certificate" = some (some (.ref f25))) (l25 : K.lookup f25 = some ⟨oc25, od25, .func (PySem.W.fnOf "best_certificate" "best_certificate" (defArgs s_best_certificate) (defBody s_best_certificate) (defScope s_best_certificate) .none kV25 dc25 pm25 an25 cd25 ct25), sl25⟩) (c25 : PySem.W.codeIn K cd25 "best_certificate" = true) (k25 : PySem.W.keepIn K (.ref f25) = true)
    (a26 : PySem.W.nsIn K mainGlobals "best_holds" = some (some (.ref f26))) (l26 : K.lookup f26 = some ⟨oc26, od26, .func (PySem.W.fnOf "best_holds" "best_holds" (defArgs s_best_holds) (defBody s_best_holds) (defScope s_best_holds) .none kV26 dc26 pm26 an26 cd26 ct26), sl26⟩) (c26 : PySem.W.codeIn K cd26 "best_holds" = true) (k26 : PySem.W.keepIn K (.ref f26) = true)
    (a27 : PySem.W.nsIn K mainGlobals "spread" = some (some (.ref f27))) (l27 : K.lookup f27 = some ⟨oc27, od27, .func (PySem.W.fnOf "spread" "spread" (defArgs s_spread) (defBody s_spread) (defScope s_spread) .none kV27 dc27 pm27 an27 cd27 ct27), sl27⟩) (c27 : PySem.W.codeIn K cd27 "spread" = true) (k27 : PySem.W.keepIn K (.ref f27) = true)
    (a28 : PySem.W.nsIn K mainGlobals "_law_shuffled_script" = some (some (.ref f28))) (l28 : K.lookup f28 = some ⟨oc28, od28, .func (PySem.W.fnOf "_law_shuffled_script" "_law_shuffled_script" (defArgs s_l_shuffled_script) (defBody s_l_shuffled_script) (defScope s_l_shuffled_script) .none kV28 dc28 pm28 an28 cd28 ct28), sl28⟩) (c28 : PySem.W.codeIn K cd28 "_law_shuffled_script" = true) (k28 : PySem.W.keepIn K (.ref f28) = true)
    (a29 : PySem.W.nsIn K mainGlobals "_law_pull" = some (some (.ref f29))) (l29 : K.lookup f29 = some ⟨oc29, od29, .func (PySem.W.fnOf "_law_pull" "_law_pull" (defArgs s_l_pull) (defBody s_l_pull) (defScope s_l_pull) .none kV29 dc29 pm29 an29 cd29 ct29), sl29⟩) (c29 : PySem.W.codeIn K cd29 "_law_pull" = true) (k29 : PySem.W.keepIn K (.ref f29) = true)
    (a30 : PySem.W.nsIn K mainGlobals "_law_far_row" = some (some (.ref f30))) (l30 : K.lookup f30 = some ⟨oc30, od30, .func (PySem.W.fnOf "_law_far_row" "_law_far_row" (defArgs s_l_far_row) (defBody s_l_far_row) (defScope s_l_far_row) .none kV30 dc30 pm30 an30 cd30 ct30), sl30⟩) (c30 : PySem.W.codeIn K cd30 "_law_far_row" = true) (k30 : PySem.W.keepIn K (.ref f30) = true)
    (a31 : PySem.W.nsIn K mainGlobals "_law_free" = some (some (.ref f31))) (l31 : K.lookup f31 = some ⟨oc31, od31, .func (PySem.W.fnOf "_law_free" "_law_free" (defArgs s_l_free) (defBody s_l_free) (defScope s_l_free) .none kV31 dc31 pm31 an31 cd31 ct31), sl31⟩) (c31 : PySem.W.codeIn K cd31 "_law_free" = true) (k31 : PySem.W.keepIn K (.ref f31) = true)
    (a32 : PySem.W.nsIn K mainGlobals "_law_bounds_right" = some (some (.ref f32))) (l32 : K.lookup f32 = some ⟨oc32, od32, .func (PySem.W.fnOf "_law_bounds_right" "_law_bounds_right" (defArgs s_l_bounds_right) (defBody s_l_bounds_right) (defScope s_l_bounds_right) .none kV32 dc32 pm32 an32 cd32 ct32), sl32⟩) (c32 : PySem.W.codeIn K cd32 "_law_bounds_right" = true) (k32 : PySem.W.keepIn K (.ref f32) = true)
    (a33 : PySem.W.nsIn K mainGlobals "_law_spread_right" = some (some (.ref f33))) (l33 : K.lookup f33 = some ⟨oc33, od33, .func (PySem.W.fnOf "_law_spread_right" "_law_spread_right" (defArgs s_l_spread_right) (defBody s_l_spread_right) (defScope s_l_spread_right) .none kV33 dc33 pm33 an33 cd33 ct33), sl33⟩) (c33 : PySem.W.codeIn K cd33 "_law_spread_right" = true) (k33 : PySem.W.keepIn K (.ref f33) = true)
    (a34 : PySem.W.nsIn K mainGlobals "law" = some (some (.ref f34))) (l34 : K.lookup f34 = some ⟨oc34, od34, .func (PySem.W.fnOf "law" "law" (defArgs s_law) (defBody s_law) (defScope s_law) .none kV34 dc34 pm34 an34 cd34 ct34), sl34⟩) (c34 : PySem.W.codeIn K cd34 "law" = true) (k34 : PySem.W.keepIn K (.ref f34) = true)
    (n_abs : PySem.W.nsIn K mainGlobals "abs" = some none)
    (n_all : PySem.W.nsIn K mainGlobals "all" = some none)
    (n_bool : PySem.W.nsIn K mainGlobals "bool" = some none)
    (n_int : PySem.W.nsIn K mainGlobals "int" = some none)
    (n_isinstance : PySem.W.nsIn K mainGlobals "isinstance" = some none)
    (n_len : PySem.W.nsIn K mainGlobals "len" = some none)
    (n_list : PySem.W.nsIn K mainGlobals "list" = some none)
    (n_max : PySem.W.nsIn K mainGlobals "max" = some none)
    (n_min : PySem.W.nsIn K mainGlobals "min" = some none)
    (n_range : PySem.W.nsIn K mainGlobals "range" = some none)
    (n_set : PySem.W.nsIn K mainGlobals "set" = some none)
    (n_sorted : PySem.W.nsIn K mainGlobals "sorted" = some none)
    (n_sum : PySem.W.nsIn K mainGlobals "sum" = some none)
    (n_tuple : PySem.W.nsIn K mainGlobals "tuple" = some none)
    (n_zip : PySem.W.nsIn K mainGlobals "zip" = some none)
    {tk_LISTED : Tok} (v_LISTED : PySem.W.nsIn K mainGlobals "LISTED" = some (some (.int 2000 tk_LISTED)))
    {C_NoCount : Addr} (aa_NoCount : PySem.W.nsIn K mainGlobals "NoCount" = some (some (.ref C_NoCount)))
    {C_NoIndex : Addr} (aa_NoIndex : PySem.W.nsIn K mainGlobals "NoIndex" = some (some (.ref C_NoIndex)))
    {C_NoSeat : Addr} (aa_NoSeat : PySem.W.nsIn K mainGlobals "NoSeat" = some (some (.ref C_NoSeat)))
    {C_Taken : Addr} (aa_Taken : PySem.W.nsIn K mainGlobals "Taken" = some (some (.ref C_Taken)))
    {fI_NoCount N_NoCount : Addr} {nm_NoCount qn_NoCount ql_NoCount : Str} {bs_NoCount bm_NoCount sb_NoCount : List Value} {sn_NoCount : List Str} {ab_NoCount : Bool} {cl_NoCount : Option Bool} {dd_NoCount od_NoCount an_NoCount : Option Addr} {ma_NoCount mb_NoCount mc_NoCount md_NoCount me_NoCount : Option Value} {oc_NoCount do_NoCount pm_NoCount cd_NoCount ct_NoCount : Value} {os_NoCount : Array (Option Value)} {pa_NoCount pb_NoCount qa_NoCount qb_NoCount qc_NoCount qd_NoCount : Pos}
    (xl_NoCount : K.lookup C_NoCount = some (PySem.excClassObj nm_NoCount qn_NoCount C_NoCount N_NoCount bs_NoCount bm_NoCount true sn_NoCount sb_NoCount ab_NoCount cl_NoCount dd_NoCount ma_NoCount mb_NoCount mc_NoCount md_NoCount me_NoCount "ValueError.__new__")) (rf_NoCount : PySem.HandSPX.refsVE bm_NoCount = true) (sa_NoCount : PySem.W.findIn K (.ref C_NoCount) "__setattr__" = some (some (.builtin "object.__setattr__"))) (nb_NoCount : PySem.W.findIn K (.ref C_NoCount) "value" = some none) (ii_NoCount : PySem.W.findIn K (.ref C_NoCount) "__init__" = some (some (.ref fI_NoCount))) (ti_NoCount : PySem.W.typeIn K (.ref fI_NoCount) = some (.type "function"))
    (li_NoCount : K.lookup fI_NoCount = some ⟨oc_NoCount, od_NoCount, .func (PySem.W.fnOf "__init__" ql_NoCount (iA "value" pa_NoCount pb_NoCount) (iB "value" qa_NoCount qb_NoCount qc_NoCount qd_NoCount) (iS "value") .none .none do_NoCount pm_NoCount an_NoCount cd_NoCount ct_NoCount), os_NoCount⟩) (ci_NoCount : PySem.W.codeIn K cd_NoCount ql_NoCount = true) (kk_NoCount : PySem.W.keepIn K (.ref C_NoCount) = true) (eb_NoCount : PySem.W.subIn K (.ref C_NoCount) (.type "BaseException") = some true) (ty_NoCount : PySem.W.typeIn K (.ref C_NoCount) = some (.type "type"))
    {fI_NoIndex N_NoIndex : Addr} {nm_NoIndex qn_NoIndex ql_NoIndex : Str} {bs_NoIndex bm_NoIndex sb_NoIndex : List Value} {sn_NoIndex : List Str} {ab_NoIndex : Bool} {cl_NoIndex : Option Bool} {dd_NoIndex od_NoIndex an_NoIndex : Option Addr} {ma_NoIndex mb_NoIndex mc_NoIndex md_NoIndex me_NoIndex : Option Value} {oc_NoIndex do_NoIndex pm_NoIndex cd_NoIndex ct_NoIndex : Value} {os_NoIndex : Array (Option Value)} {pa_NoIndex pb_NoIndex qa_NoIndex qb_NoIndex qc_NoIndex qd_NoIndex : Pos}
    (xl_NoIndex : K.lookup C_NoIndex = some (PySem.excClassObj nm_NoIndex qn_NoIndex C_NoIndex N_NoIndex bs_NoIndex bm_NoIndex true sn_NoIndex sb_NoIndex ab_NoIndex cl_NoIndex dd_NoIndex ma_NoIndex mb_NoIndex mc_NoIndex md_NoIndex me_NoIndex "ValueError.__new__")) (rf_NoIndex : PySem.HandSPX.refsVE bm_NoIndex = true) (sa_NoIndex : PySem.W.findIn K (.ref C_NoIndex) "__setattr__" = some (some (.builtin "object.__setattr__"))) (nb_NoIndex : PySem.W.findIn K (.ref C_NoIndex) "index" = some none) (ii_NoIndex : PySem.W.findIn K (.ref C_NoIndex) "__init__" = some (some (.ref fI_NoIndex))) (ti_NoIndex : PySem.W.typeIn K (.ref fI_NoIndex) = some (.type "function"))
    (li_NoIndex : K.lookup fI_NoIndex = some ⟨oc_NoIndex, od_NoIndex, .func (PySem.W.fnOf "__init__" ql_NoIndex (iA "index" pa_NoIndex pb_NoIndex) (iB "index" qa_NoIndex qb_NoIndex qc_NoIndex qd_NoIndex) (iS "index") .none .none do_NoIndex pm_NoIndex an_NoIndex cd_NoIndex ct_NoIndex), os_NoIndex⟩) (ci_NoIndex : PySem.W.codeIn K cd_NoIndex ql_NoIndex = true) (kk_NoIndex : PySem.W.keepIn K (.ref C_NoIndex) = true) (eb_NoIndex : PySem.W.subIn K (.ref C_NoIndex) (.type "BaseException") = some true) (ty_NoIndex : PySem.W.typeIn K (.ref C_NoIndex) = some (.type "type"))
    {fI_NoSeat N_NoSeat : Addr} {nm_NoSeat qn_NoSeat ql_NoSeat : Str} {bs_NoSeat bm_NoSeat sb_NoSeat : List Value} {sn_NoSeat : List Str} {ab_NoSeat : Bool} {cl_NoSeat : Option Bool} {dd_NoSeat od_NoSeat an_NoSeat : Option Addr} {ma_NoSeat mb_NoSeat mc_NoSeat md_NoSeat me_NoSeat : Option Value} {oc_NoSeat do_NoSeat pm_NoSeat cd_NoSeat ct_NoSeat : Value} {os_NoSeat : Array (Option Value)} {pa_NoSeat pb_NoSeat qa_NoSeat qb_NoSeat qc_NoSeat qd_NoSeat : Pos}
    (xl_NoSeat : K.lookup C_NoSeat = some (PySem.excClassObj nm_NoSeat qn_NoSeat C_NoSeat N_NoSeat bs_NoSeat bm_NoSeat true sn_NoSeat sb_NoSeat ab_NoSeat cl_NoSeat dd_NoSeat ma_NoSeat mb_NoSeat mc_NoSeat md_NoSeat me_NoSeat "ValueError.__new__")) (rf_NoSeat : PySem.HandSPX.refsVE bm_NoSeat = true) (sa_NoSeat : PySem.W.findIn K (.ref C_NoSeat) "__setattr__" = some (some (.builtin "object.__setattr__"))) (nb_NoSeat : PySem.W.findIn K (.ref C_NoSeat) "value" = some none) (ii_NoSeat : PySem.W.findIn K (.ref C_NoSeat) "__init__" = some (some (.ref fI_NoSeat))) (ti_NoSeat : PySem.W.typeIn K (.ref fI_NoSeat) = some (.type "function"))
    (li_NoSeat : K.lookup fI_NoSeat = some ⟨oc_NoSeat, od_NoSeat, .func (PySem.W.fnOf "__init__" ql_NoSeat (iA "value" pa_NoSeat pb_NoSeat) (iB "value" qa_NoSeat qb_NoSeat qc_NoSeat qd_NoSeat) (iS "value") .none .none do_NoSeat pm_NoSeat an_NoSeat cd_NoSeat ct_NoSeat), os_NoSeat⟩) (ci_NoSeat : PySem.W.codeIn K cd_NoSeat ql_NoSeat = true) (kk_NoSeat : PySem.W.keepIn K (.ref C_NoSeat) = true) (eb_NoSeat : PySem.W.subIn K (.ref C_NoSeat) (.type "BaseException") = some true) (ty_NoSeat : PySem.W.typeIn K (.ref C_NoSeat) = some (.type "type"))
    {fI_Taken N_Taken : Addr} {nm_Taken qn_Taken ql_Taken : Str} {bs_Taken bm_Taken sb_Taken : List Value} {sn_Taken : List Str} {ab_Taken : Bool} {cl_Taken : Option Bool} {dd_Taken od_Taken an_Taken : Option Addr} {ma_Taken mb_Taken mc_Taken md_Taken me_Taken : Option Value} {oc_Taken do_Taken pm_Taken cd_Taken ct_Taken : Value} {os_Taken : Array (Option Value)} {pa_Taken pb_Taken qa_Taken qb_Taken qc_Taken qd_Taken : Pos}
    (xl_Taken : K.lookup C_Taken = some (PySem.excClassObj nm_Taken qn_Taken C_Taken N_Taken bs_Taken bm_Taken true sn_Taken sb_Taken ab_Taken cl_Taken dd_Taken ma_Taken mb_Taken mc_Taken md_Taken me_Taken "ValueError.__new__")) (rf_Taken : PySem.HandSPX.refsVE bm_Taken = true) (sa_Taken : PySem.W.findIn K (.ref C_Taken) "__setattr__" = some (some (.builtin "object.__setattr__"))) (nb_Taken : PySem.W.findIn K (.ref C_Taken) "seat" = some none) (ii_Taken : PySem.W.findIn K (.ref C_Taken) "__init__" = some (some (.ref fI_Taken))) (ti_Taken : PySem.W.typeIn K (.ref fI_Taken) = some (.type "function"))
    (li_Taken : K.lookup fI_Taken = some ⟨oc_Taken, od_Taken, .func (PySem.W.fnOf "__init__" ql_Taken (iA "seat" pa_Taken pb_Taken) (iB "seat" qa_Taken qb_Taken qc_Taken qd_Taken) (iS "seat") .none .none do_Taken pm_Taken an_Taken cd_Taken ct_Taken), os_Taken⟩) (ci_Taken : PySem.W.codeIn K cd_Taken ql_Taken = true) (kk_Taken : PySem.W.keepIn K (.ref C_Taken) = true) (eb_Taken : PySem.W.subIn K (.ref C_Taken) (.type "BaseException") = some true) (ty_Taken : PySem.W.typeIn K (.ref C_Taken) = some (.type "type")) :
    ∃ fd : FuncData, (∀ (s : Shared) (v : Value), BindsTo s fd ⟨[v], []⟩ [("_law_script", v)]) ∧ ∀ base : Heap, K.In base → base.Ns mainGlobals mg → FnV l.prog w K mg base 7 fa fd ["_law_script"] (spOf (sp_law K)) := by
  have e := hfa.symm.trans (PySem.W.mg_of X G a34)
  cases e
  have m_abs := PySem.W.mg_none_of X G n_abs
  have m_all := PySem.W.mg_none_of X G n_all
  have m_bool := PySem.W.mg_none_of X G n_bool
  have m_int := PySem.W.mg_none_of X G n_int
  have m_isinstance := PySem.W.mg_none_of X G n_isinstance
  have m_len := PySem.W.mg_none_of X G n_len
  have m_list := PySem.W.mg_none_of X G n_list
  have m_max := PySem.W.mg_none_of X G n_max
  have m_min := PySem.W.mg_none_of X G n_min
  have m_range := PySem.W.mg_none_of X G n_range
  have m_set := PySem.W.mg_none_of X G n_set
  have m_sorted := PySem.W.mg_none_of X G n_sorted
  have m_sum := PySem.W.mg_none_of X G n_sum
  have m_tuple := PySem.W.mg_none_of X G n_tuple
  have m_zip := PySem.W.mg_none_of X G n_zip
  have g_LISTED := PySem.W.mg_of X G v_LISTED
  obtain rfl := cAt_of aa_NoCount
  have e_NoCount := PySem.W.mg_of X G aa_NoCount
  obtain rfl := cAt_of aa_NoIndex
  have e_NoIndex := PySem.W.mg_of X G aa_NoIndex
  obtain rfl := cAt_of aa_NoSeat
  have e_NoSeat := PySem.W.mg_of X G aa_NoSeat
  obtain rfl := cAt_of aa_Taken
  have e_Taken := PySem.W.mg_of X G aa_Taken
  have T_NoCount : ExI K mg "NoCount" "value" (cAt K "NoCount") := { gC := e_NoCount, cls := ⟨_, _, _, _, _, _, _, _, _, _, _, _, _, _, _, xl_NoCount, rf_NoCount⟩, sa := sa_NoCount, noN := nb_NoCount, kC := kk_NoCount, exC := eb_NoCount, tyC := ty_NoCount, fI := ⟨_, ii_NoCount, ti_NoCount, _, _, _, _, _, _, _, _, _, _, _, _, _, _, _, li_NoCount, ci_NoCount⟩ }
  have T_NoIndex : ExI K mg "NoIndex" "index" (cAt K "NoIndex") := { gC := e_NoIndex, cls := ⟨_, _, _, _, _, _, _, _, _, _, _, _, _, _, _, xl_NoIndex, rf_NoIndex⟩, sa := sa_NoIndex, noN := nb_NoIndex, kC := kk_NoIndex, exC := eb_NoIndex, tyC := ty_NoIndex, fI := ⟨_, ii_NoIndex, ti_NoIndex, _, _, _, _, _, _, _, _, _, _, _, _, _, _, _, li_NoIndex, ci_NoIndex⟩ }
  have T_NoSeat : ExI K mg "NoSeat" "value" (cAt K "NoSeat") := { gC := e_NoSeat, cls := ⟨_, _, _, _, _, _, _, _, _, _, _, _, _, _, _, xl_NoSeat, rf_NoSeat⟩, sa := sa_NoSeat, noN := nb_NoSeat, kC := kk_NoSeat, exC := eb_NoSeat, tyC := ty_NoSeat, fI := ⟨_, ii_NoSeat, ti_NoSeat, _, _, _, _, _, _, _, _, _, _, _, _, _, _, _, li_NoSeat, ci_NoSeat⟩ }
  have T_Taken : ExI K mg "Taken" "seat" (cAt K "Taken") := { gC := e_Taken, cls := ⟨_, _, _, _, _, _, _, _, _, _, _, _, _, _, _, xl_Taken, rf_Taken⟩, sa := sa_Taken, noN := nb_Taken, kC := kk_Taken, exC := eb_Taken, tyC := ty_Taken, fI := ⟨_, ii_Taken, ti_Taken, _, _, _, _, _, _, _, _, _, _, _, _, _, _, _, li_Taken, ci_Taken⟩ }
  have F0 := fun_mk (st := s_is_integer) l0 c0 k0
  have F1 := fun_mk (st := s_gaps) l1 c1 k1
  have F2 := fun_mk (st := s_is_number) l2 c2 k2
  have F3 := fun_mk (st := s_free_seats) l3 c3 k3
  have F4 := fun_mk (st := s_require_free) l4 c4 k4
  have F5 := fun_mk (st := s_middle) l5 c5 k5
  have F6 := fun_mk (st := s_left_part) l6 c6 k6
  have F7 := fun_mk (st := s_right_part) l7 c7 k7
  have F8 := fun_mk (st := s_number_within) l8 c8 k8
  have F9 := fun_mk (st := s_widths_within) l9 c9 k9
  have F10 := fun_mk (st := s_all_widths) l10 c10 k10
  have F11 := fun_mk (st := s_later_widths) l11 c11 k11
  have F12 := fun_mk (st := s_path_to) l12 c12 k12
  have F13 := fun_mk (st := s_gap_of) l13 c13 k13
  have F14 := fun_mk (st := s_gap_with_rank) l14 c14 k14
  have F15 := fun_mk (st := s_gap_at) l15 c15 k15
  have F16 := fun_mk (st := s_seat_of) l16 c16 k16
  have F17 := fun_mk (st := s_free_seatsD) l17 c17 k17
  have F18 := fun_mk (st := s_distance_of_width) l18 c18 k18
  have F19 := fun_mk (st := s_check_count) l19 c19 k19
  have F20 := fun_mk (st := s_distance_at) l20 c20 k20
  have F21 := fun_mk (st := s_width_of) l21 c21 k21
  have F22 := fun_mk (st := s_distances_of) l22 c22 k22
  have F23 := fun_mk (st := s_most_in_gaps) l23 c23 k23
  have F24 := fun_mk (st := s_best_distance) l24 c24 k24
  have F25 := fun_mk (st := s_best_certificate) l25 c25 k25
  have F26 := fun_mk (st := s_best_holds) l26 c26 k26
  have F27 := fun_mk (st := s_spread) l27 c27 k27
  have F28 := fun_mk (st := s_l_shuffled_script) l28 c28 k28
  have F29 := fun_mk (st := s_l_pull) l29 c29 k29
  have F30 := fun_mk (st := s_l_far_row) l30 c30 k30
  have F31 := fun_mk (st := s_l_free) l31 c31 k31
  have F32 := fun_mk (st := s_l_bounds_right) l32 c32 k32
  have F33 := fun_mk (st := s_l_spread_right) l33 c33 k33
  have F34 := fun_mk (st := s_law) l34 c34 k34
  have b0 := F0.binds (ps := ["value", "low", "high"]) fun _ _ _ _ _ _ us hl => match us, hl with | [_, _, _], _ => rfl
  have b1 := F1.binds (ps := ["row"]) fun _ _ _ _ _ _ us hl => match us, hl with | [_], _ => rfl
  have b2 := F2.binds (ps := ["value", "low", "high"]) fun _ _ _ _ _ _ us hl => match us, hl with | [_, _, _], _ => rfl
  have b3 := F3.binds (ps := ["row"]) fun _ _ _ _ _ _ us hl => match us, hl with | [_], _ => rfl
  have b4 := F4.binds (ps := ["row", "seat"]) fun _ _ _ _ _ _ us hl => match us, hl with | [_, _], _ => rfl
  have b5 := F5.binds (ps := ["gap"]) fun _ _ _ _ _ _ us hl => match us, hl with | [_], _ => rfl
  have b6 := F6.binds (ps := ["gap"]) fun _ _ _ _ _ _ us hl => match us, hl with | [_], _ => rfl
  have b7 := F7.binds (ps := ["gap"]) fun _ _ _ _ _ _ us hl => match us, hl with | [_], _ => rfl
  have b8 := F8.binds (ps := ["width", "wanted"]) fun _ _ _ _ _ _ us hl => match us, hl with | [_, _], _ => rfl
  have b9 := F9.binds (ps := ["width"]) fun _ _ _ _ _ _ us hl => match us, hl with | [_], _ => rfl
  have b10 := F10.binds (ps := ["row"]) fun _ _ _ _ _ _ us hl => match us, hl with | [_], _ => rfl
  have b11 := F11.binds (ps := ["row"]) fun _ _ _ _ _ _ us hl => match us, hl with | [_], _ => rfl
  have b12 := F12.binds (ps := ["row", "seat"]) fun _ _ _ _ _ _ us hl => match us, hl with | [_, _], _ => rfl
  have b13 := F13.binds (ps := ["row", "seat"]) fun _ _ _ _ _ _ us hl => match us, hl with | [_, _], _ => rfl
  have b14 := F14.binds (ps := ["row", "width", "rank"]) fun _ _ _ _ _ _ us hl => match us, hl with | [_, _, _], _ => rfl
  have b15 := F15.binds (ps := ["row", "index"]) fun _ _ _ _ _ _ us hl => match us, hl with | [_, _], _ => rfl
  have b16 := F16.binds (ps := ["row", "index"]) fun _ _ _ _ _ _ us hl => match us, hl with | [_, _], _ => rfl
  have b17 := F17.binds (ps := ["row"]) fun _ _ _ _ _ _ us hl => match us, hl with | [_], _ => rfl
  have b18 := F18.binds (ps := ["width"]) fun _ _ _ _ _ _ us hl => match us, hl with | [_], _ => rfl
  have b19 := F19.binds (ps := ["value", "low", "high"]) fun _ _ _ _ _ _ us hl => match us, hl with | [_, _, _], _ => rfl
  have b20 := F20.binds (ps := ["row", "seat"]) fun _ _ _ _ _ _ us hl => match us, hl with | [_, _], _ => rfl
  have b21 := F21.binds (ps := ["table", "index"]) fun _ _ _ _ _ _ us hl => match us, hl with | [_, _], _ => rfl
  have b23 := F23.binds (ps := ["row", "distance"]) fun _ _ _ _ _ _ us hl => match us, hl with | [_, _], _ => rfl
  have b24 := F24.binds (ps := ["row", "count"]) fun _ _ _ _ _ _ us hl => match us, hl with | [_, _], _ => rfl
  have b25 := F25.binds (ps := ["row", "count"]) fun _ _ _ _ _ _ us hl => match us, hl with | [_, _], _ => rfl
  have b26 := F26.binds (ps := ["row", "count", "value"]) fun _ _ _ _ _ _ us hl => match us, hl with | [_, _, _], _ => rfl
  have b27 := F27.binds (ps := ["row", "count"]) fun _ _ _ _ _ _ us hl => match us, hl with | [_, _], _ => rfl
  have b28 := F28.binds (ps := ["_law_script"]) fun _ _ _ _ _ _ us hl => match us, hl with | [_], _ => rfl
  have b29 := F29.binds (ps := ["_law_well", "_law_many"]) fun _ _ _ _ _ _ us hl => match us, hl with | [_, _], _ => rfl
  have b30 := F30.binds (ps := ["_law_well", "_law_sitters"]) fun _ _ _ _ _ _ us hl => match us, hl with | [_, _], _ => rfl
  have b31 := F31.binds (ps := ["_law_row"]) fun _ _ _ _ _ _ us hl => match us, hl with | [_], _ => rfl
  have b32 := F32.binds (ps := ["_law_row", "_law_count"]) fun _ _ _ _ _ _ us hl => match us, hl with | [_, _], _ => rfl
  have b33 := F33.binds (ps := ["_law_row", "_law_count"]) fun _ _ _ _ _ _ us hl => match us, hl with | [_, _], _ => rfl
  refine ⟨PySem.W.fnOf "law" "law" (defArgs s_law) (defBody s_law) (defScope s_law) .none kV34 dc34 pm34 an34 cd34 ct34, fun s v => .of_eq rfl, fun base _ _ => ?_⟩
  have c_is_integer : CalG l.prog w K mg base 1 "is_integer" sp_is_integer := calV_of (ok_is_integer F0 m_bool m_int m_isinstance) (PySem.W.mg_of X G a0) k0 b0
  have c_gaps : CalG l.prog w K mg base 1 "gaps" sp_gaps := calV_of (ok_gaps F1 m_tuple) (PySem.W.mg_of X G a1) k1 b1
  have c_is_number : CalG l.prog w K mg base 1 "is_number" sp_is_number := calV_of (ok_is_number F2 m_bool m_int m_isinstance) (PySem.W.mg_of X G a2) k2 b2
  have c_free_seats : CalG l.prog w K mg base 1 "free_seats_orders" sp_free_seats := calV_of (ok_free_seats F3 m_len) (PySem.W.mg_of X G a3) k3 b3
  have c_middle : CalG l.prog w K mg base 1 "middle" sp_middle := calV_of (ok_middle F5 ) (PySem.W.mg_of X G a5) k5 b5
  have c_left_part : CalG l.prog w K mg base 1 "left_part" sp_left_part := calV_of (ok_left_part F6 ) (PySem.W.mg_of X G a6) k6 b6
  have c_right_part : CalG l.prog w K mg base 1 "right_part" sp_right_part := calV_of (ok_right_part F7 ) (PySem.W.mg_of X G a7) k7 b7
  have c_number_within : CalG l.prog w K mg base 1 "number_within" sp_number_within := calV_of (ok_number_within F8 ) (PySem.W.mg_of X G a8) k8 b8
  have c_widths_within : CalG l.prog w K mg base 1 "widths_within" sp_widths_within := calV_of (ok_widths_within F9 ) (PySem.W.mg_of X G a9) k9 b9
  have c_free_seatsD : CalG l.prog w K mg base 1 "free_seats_distances" sp_free_seatsD := calV_of (ok_free_seatsD F17 m_len) (PySem.W.mg_of X G a17) k17 b17
  have c_distance_of_width : CalG l.prog w K mg base 1 "distance_of_width" sp_distance_of_width := calV_of (ok_distance_of_width F18 ) (PySem.W.mg_of X G a18) k18 b18
  have c_width_of : CalG l.prog w K mg base 1 "width_of" sp_width_of := calV_of (ok_width_of F21 ) (PySem.W.mg_of X G a21) k21 b21
  have c_l_shuffled_script : CalG l.prog w K mg base 1 "_law_shuffled_script" (sp_l_shuffled_script K) := calV_of (ok_l_shuffled_script F28 m_abs m_int m_len) (PySem.W.mg_of X G a28) k28 b28
  have c_l_pull : CalG l.prog w K mg base 1 "_law_pull" sp_l_pull := calV_of (ok_l_pull F29 ) (PySem.W.mg_of X G a29) k29 b29
  have c_l_free : CalG l.prog w K mg base 1 "_law_free" sp_l_free := calV_of (ok_l_free F31 m_len) (PySem.W.mg_of X G a31) k31 b31
  have c_require_free : CalG l.prog w K mg base 2 "require_free" sp_require_free := calV_of (ok_require_free F4 c_is_number) (PySem.W.mg_of X G a4) k4 b4
  have c_all_widths : CalG l.prog w K mg base 2 "all_widths" sp_all_widths := calV_of (ok_all_widths F10 c_gaps c_widths_within) (PySem.W.mg_of X G a10) k10 b10
  have c_path_to : CalG l.prog w K mg base 2 "path_to" sp_path_to := calV_of (ok_path_to F12 c_gaps c_left_part c_middle c_right_part) (PySem.W.mg_of X G a12) k12 b12
  have c_gap_with_rank : CalG l.prog w K mg base 2 "gap_with_rank" sp_gap_with_rank := calV_of (ok_gap_with_rank F14 c_gaps c_left_part c_number_within c_right_part) (PySem.W.mg_of X G a14) k14 b14
  have c_check_count : CalG l.prog w K mg base 2 "check_count" (sp_check_count K) := calV_of (ok_check_count F19 c_is_integer T_NoCount) (PySem.W.mg_of X G a19) k19 b19
  have c_distance_at : CalG l.prog w K mg base 2 "distance_at" (sp_distance_at K) := calV_of (ok_distance_at F20 m_abs m_min c_is_integer T_NoSeat T_Taken) (PySem.W.mg_of X G a20) k20 b20
  have c_most_in_gaps : CalG l.prog w K mg base 2 "most_in_gaps" sp_most_in_gaps := calV_of (ok_most_in_gaps F23 m_max c_gaps) (PySem.W.mg_of X G a23) k23 b23
  have c_l_far_row : CalG l.prog w K mg base 2 "_law_far_row" sp_l_far_row := calV_of (ok_l_far_row F30 m_range m_set m_sorted m_tuple c_l_pull) (PySem.W.mg_of X G a30) k30 b30
  have c_later_widths : CalG l.prog w K mg base 3 "later_widths" sp_later_widths := calV_of (ok_later_widths F11 m_sorted m_tuple c_all_widths) (PySem.W.mg_of X G a11) k11 b11
  have c_gap_of : CalG l.prog w K mg base 3 "gap_of" sp_gap_of := calV_of (ok_gap_of F13 c_path_to c_require_free) (PySem.W.mg_of X G a13) k13 b13
  have c_best_distance : CalG l.prog w K mg base 3 "best_distance" (sp_best_distance K) := calV_of (ok_best_distance F24 m_sum c_check_count c_free_seatsD c_most_in_gaps) (PySem.W.mg_of X G a24) k24 b24
  have c_best_holds : CalG l.prog w K mg base 3 "best_holds" (sp_best_holds K) := calV_of (ok_best_holds F26 m_all m_isinstance m_len m_sum m_tuple m_zip c_check_count c_free_seatsD c_is_integer c_most_in_gaps) (PySem.W.mg_of X G a26) k26 b26
  have c_gap_at : CalG l.prog w K mg base 4 "gap_at" sp_gap_at := calV_of (ok_gap_at F15 c_gap_with_rank c_later_widths) (PySem.W.mg_of X G a15) k15 b15
  have c_distances_of : CalG l.prog w K mg base 4 "distances_of" (spStar 1 (sp_distances_of K)) := calV_star (ok_distances_of F22 (StX.bind_star1 (B := fun l => bindArgs _ ⟨l, []⟩) (fun _ => rfl) fun _ _ _ => rfl) m_tuple c_distance_of_width c_free_seatsD c_is_integer c_later_widths c_width_of T_NoIndex) (PySem.W.mg_of X G a22) k22
  have c_best_certificate : CalG l.prog w K mg base 4 "best_certificate" (sp_best_certificate K) := calV_of (ok_best_certificate F25 m_min m_tuple c_best_distance c_most_in_gaps) (PySem.W.mg_of X G a25) k25 b25
  have c_spread : CalG l.prog w K mg base 4 "spread" (sp_spread K) := calV_of (ok_spread F27 m_len m_min m_range m_tuple m_zip c_best_distance c_gaps c_most_in_gaps g_LISTED) (PySem.W.mg_of X G a27) k27 b27
  have c_seat_of : CalG l.prog w K mg base 5 "seat_of" sp_seat_of := calV_of (ok_seat_of F16 c_free_seats c_gap_at c_is_number c_middle) (PySem.W.mg_of X G a16) k16 b16
  have c_l_spread_right : CalG l.prog w K mg base 5 "_law_spread_right" (sp_l_spread_right K) := calV_of (ok_l_spread_right F33 m_len m_list m_range m_set m_sorted c_best_distance c_distance_at c_spread) (PySem.W.mg_of X G a33) k33 b33
  have c_l_bounds_right : CalG l.prog w K mg base 6 "_law_bounds_right" (sp_l_bounds_right K) := calV_of (ok_l_bounds_right F32 m_sum c_best_certificate c_best_distance c_best_holds c_distances_of c_gap_of c_seat_of) (PySem.W.mg_of X G a32) k32 b32
  exact ok_law F34 m_range m_sorted c_l_bounds_right c_l_far_row c_l_free c_l_pull c_l_shuffled_script c_l_spread_right c_best_distance
end DL


namespace DL
open PySem PySem.Spec PyProof.Rows L2
theorem walkLB {l : PySem.W.OpenLaw} {n k : Nat} {q : Program} {loose : List Str} {XP : (Str → Option Value) → Heap → Prop} {YP : World → Heap → Prop} {d : DefRec} {sp : PySem.W.Frag → DSp} {x : Str}
    (hn : l.most = some n) (hn2 : n ≤ sizeLine) (hdf : d.params.defaults = []) (hr : Room k callerA)
    (F : ∀ (w : World) (mg : Str → Option Value) (fa : Addr) (h : Heap), YP w h → h.Ns mainGlobals mg → mg d.name = some (.ref fa) →
      ∃ (K : PySem.W.Frag) (fd : FuncData), K.In h ∧ (∀ (s : Shared) (u : Value), BindsTo s fd ⟨[u], []⟩ [(x, u)]) ∧ ∀ base : Heap, K.In base → base.Ns mainGlobals mg → FnV l.prog w K mg base k fa fd [x] (spOf (sp K)))
    (hsp : ∀ (K : PySem.W.Frag) (ns : List Int), ns.length ≤ n → (∀ z ∈ ns, z.natAbs.log2 ≤ 1048576) → sp K [.scr K ns] mu0 yes nox) : PySem.W.WalkO q loose XP YP l.row.toRowW d [] (fun f vs => PySem.call f vs) := by
  refine Att.attach_callB hn hdf fun w s0 s1 mg mb fa o pm cd doc a vs ns G Y ho hd hcd hmg hobj hints hlen hbits hg => ?_
  obtain ⟨K, fd, KX, hb, hF⟩ := F w mg fa _ Y G.T.g hmg
  refine law_callV KX G.T.g G.T.b G.T.builtins G.T.nolimit hg hobj hints (Nat.le_trans hlen hn2) hr hF hb (hsp _ ns hlen fun z hz => ?_)
  have := hbits z hz
  unfold Builtin.Int.intBits at this
  split at this
  · rename_i h
    rw [beq_iff_eq] at h
    subst h
    decide
  · omega
theorem walkL {l : PySem.W.OpenLaw} {n k : Nat} {q : Program} {loose : List Str} {XP : (Str → Option Value) → Heap → Prop} {YP : World → Heap → Prop} {d : DefRec} {sp : PySem.W.Frag → DSp} {x : Str}
    (hn : l.most = some n) (hn2 : n ≤ sizeLine) (hdf : d.params.defaults = []) (hr : Room k callerA)
    (F : ∀ (w : World) (mg : Str → Option Value) (fa : Addr) (h : Heap), YP w h → h.Ns mainGlobals mg → mg d.name = some (.ref fa) →
      ∃ (K : PySem.W.Frag) (fd : FuncData), K.In h ∧ (∀ (s : Shared) (u : Value), BindsTo s fd ⟨[u], []⟩ [(x, u)]) ∧ ∀ base : Heap, K.In base → base.Ns mainGlobals mg → FnV l.prog w K mg base k fa fd [x] (spOf (sp K)))
    (hsp : ∀ (K : PySem.W.Frag) (ns : List Int), ns.length ≤ n → sp K [.scr K ns] mu0 yes nox) : PySem.W.WalkO q loose XP YP l.row.toRowW d [] (fun f vs => PySem.call f vs) :=
  walkLB hn hn2 hdf hr F fun K ns hl _ => hsp K ns hl
end DL

namespace DL
open PySem PySem.Spec PyProof.Rows L2
theorem all_L {l : PySem.W.OpenLaw} {w : World} {K : PySem.W.Frag} {h : Heap} {mg : Str → Option Value} {fa : Addr} (X : K.In h) (G : h.Ns mainGlobals mg) (hfa : mg "law" = some (.ref fa)) (c : SaysL exL fnL K) :
    ∃ fd : FuncData, (∀ (s : Shared) (v : Value), BindsTo s fd ⟨[v], []⟩ [("_law_script", v)]) ∧ ∀ base : Heap, K.In base → base.Ns mainGlobals mg → FnV l.prog w K mg base 7 fa fd ["_law_script"] (spOf (sp_law K)) := by
  have F0 : allB (exL0 K) = true := allB_at 0 c.all rfl
  have F1 : allB (exL1 K) = true := allB_at 1 c.all rfl
  have F2 : allB (exL2 K) = true := allB_at 2 c.all rfl
  have F3 : allB (exL3 K) = true := allB_at 3 c.all rfl
  have F4 : allB (exL4 K) = true := allB_at 4 c.all rfl
  have F5 : allB (exL5 K) = true := allB_at 5 c.all rfl
  have F6 : allB (exL6 K) = true := allB_at 6 c.all rfl
  have F7 : allB (exL7 K) = true := allB_at 7 c.all rfl
  have F8 : allB (exL8 K) = true := allB_at 8 c.all rfl
  have a0 : PySem.W.nsIn K mainGlobals "is_integer" = some (some (.ref (cAt K "is_integer"))) := He.eqO_ok (allB_at 0 F0 rfl)
  obtain ⟨oc0, od0, kV0, dc0, pm0, an0, cd0, ct0, sl0, l0⟩ := DefL.lk (d := fnD0) (c.defs 0 fnD0 rfl)
  have c0 := codB_ok l0 (allB_at 1 F0 rfl)
  have k0 : PySem.W.keepIn K (.ref (cAt K "is_integer")) = true := (allB_at 2 F0 rfl)
  have a1 : PySem.W.nsIn K mainGlobals "gaps" = some (some (.ref (cAt K "gaps"))) := He.eqO_ok (allB_at 3 F0 rfl)
  obtain ⟨oc1, od1, kV1, dc1, pm1, an1, cd1, ct1, sl1, l1⟩ := DefL.lk (d := fnD1) (c.defs 1 fnD1 rfl)
  have c1 := codB_ok l1 (allB_at 4 F0 rfl)
  have k1 : PySem.W.keepIn K (.ref (cAt K "gaps")) = true := (allB_at 5 F0 rfl)
  have a2 : PySem.W.nsIn K mainGlobals "is_number" = some (some (.ref (cAt K "is_number"))) := He.eqO_ok (allB_at 6 F0 rfl)
  obtain ⟨oc2, od2, kV2, dc2, pm2, an2, cd2, ct2, sl2, l2⟩ := DefL.lk (d := fnD2) (c.defs 2 fnD2 rfl)
  have c2 := codB_ok l2 (allB_at 7 F0 rfl)
  have k2 : PySem.W.keepIn K (.ref (cAt K "is_number")) = true := (allB_at 8 F0 rfl)
  have a3 : PySem.W.nsIn K mainGlobals "free_seats_orders" = some (some (.ref (cAt K "free_seats_orders"))) := He.eqO_ok (allB_at 9 F0 rfl)
  obtain ⟨oc3, od3, kV3, dc3, pm3, an3, cd3, ct3, sl3, l3⟩ := DefL.lk (d := fnD3) (c.defs 3 fnD3 rfl)
  have c3 := codB_ok l3 (allB_at 10 F0 rfl)
  have k3 : PySem.W.keepIn K (.ref (cAt K "free_seats_orders")) = true := (allB_at 11 F0 rfl)
  have a4 : PySem.W.nsIn K mainGlobals "require_free" = some (some (.ref (cAt K "require_free"))) := He.eqO_ok (allB_at 12 F0 rfl)
  obtain ⟨oc4, od4, kV4, dc4, pm4, an4, cd4, ct4, sl4, l4⟩ := DefL.lk (d := fnD4) (c.defs 4 fnD4 rfl)
  have c4 := codB_ok l4 (allB_at 13 F0 rfl)
  have k4 : PySem.W.keepIn K (.ref (cAt K "require_free")) = true := (allB_at 14 F0 rfl)
  have a5 : PySem.W.nsIn K mainGlobals "middle" = some (some (.ref (cAt K "middle"))) := He.eqO_ok (allB_at 15 F0 rfl)
  obtain ⟨oc5, od5, kV5, dc5, pm5, an5, cd5, ct5, sl5, l5⟩ := DefL.lk (d := fnD5) (c.defs 5 fnD5 rfl)
  have c5 := codB_ok l5 (allB_at 16 F0 rfl)
  have k5 : PySem.W.keepIn K (.ref (cAt K "middle")) = true := (allB_at 17 F0 rfl)
  have a6 : PySem.W.nsIn K mainGlobals "left_part" = some (some (.ref (cAt K "left_part"))) := He.eqO_ok (allB_at 18 F0 rfl)
  obtain ⟨oc6, od6, kV6, dc6, pm6, an6, cd6, ct6, sl6, l6⟩ := DefL.lk (d := fnD6) (c.defs 6 fnD6 rfl)
  have c6 := codB_ok l6 (allB_at 19 F0 rfl)
  have k6 : PySem.W.keepIn K (.ref (cAt K "left_part")) = true := (allB_at 0 F1 rfl)
  have a7 : PySem.W.nsIn K mainGlobals "right_part" = some (some (.ref (cAt K "right_part"))) := He.eqO_ok (allB_at 1 F1 rfl)
  obtain ⟨oc7, od7, kV7, dc7, pm7, an7, cd7, ct7, sl7, l7⟩ := DefL.lk (d := fnD7) (c.defs 7 fnD7 rfl)
  have c7 := codB_ok l7 (allB_at 2 F1 rfl)
  have k7 : PySem.W.keepIn K (.ref (cAt K "right_part")) = true := (allB_at 3 F1 rfl)
  have a8 : PySem.W.nsIn K mainGlobals "number_within" = some (some (.ref (cAt K "number_within"))) := He.eqO_ok (allB_at 4 F1 rfl)
  obtain ⟨oc8, od8, kV8, dc8, pm8, an8, cd8, ct8, sl8, l8⟩ := DefL.lk (d := fnD8) (c.defs 8 fnD8 rfl)
  have c8 := codB_ok l8 (allB_at 5 F1 rfl)
  have k8 : PySem.W.keepIn K (.ref (cAt K "number_within")) = true := (allB_at 6 F1 rfl)
  have a9 : PySem.W.nsIn K mainGlobals "widths_within" = some (some (.ref (cAt K "widths_within"))) := He.eqO_ok (allB_at 7 F1 rfl)
  obtain ⟨oc9, od9, kV9, dc9, pm9, an9, cd9, ct9, sl9, l9⟩ := DefL.lk (d := fnD9) (c.defs 9 fnD9 rfl)
  have c9 := codB_ok l9 (allB_at 8 F1 rfl)
  have k9 : PySem.W.keepIn K (.ref (cAt K "widths_within")) = true := (allB_at 9 F1 rfl)
  have a10 : PySem.W.nsIn K mainGlobals "all_widths" = some (some (.ref (cAt K "all_widths"))) := He.eqO_ok (allB_at 10 F1 rfl)
  obtain ⟨oc10, od10, kV10, dc10, pm10, an10, cd10, ct10, sl10, l10⟩ := DefL.lk (d := fnD10) (c.defs 10 fnD10 rfl)
  have c10 := codB_ok l10 (allB_at 11 F1 rfl)
  have k10 : PySem.W.keepIn K (.ref (cAt K "all_widths")) = true := (allB_at 12 F1 rfl)
  have a11 : PySem.W.nsIn K mainGlobals "later_widths" = some (some (.ref (cAt K "later_widths"))) := He.eqO_ok (allB_at 13 F1 rfl)
  obtain ⟨oc11, od11, kV11, dc11, pm11, an11, cd11, ct11, sl11, l11⟩ := DefL.lk (d := fnD11) (c.defs 11 fnD11 rfl)
  have c11 := codB_ok l11 (allB_at 14 F1 rfl)
  have k11 : PySem.W.keepIn K (.ref (cAt K "later_widths")) = true := (allB_at 15 F1 rfl)
  have a12 : PySem.W.nsIn K mainGlobals "path_to" = some (some (.ref (cAt K "path_to"))) := He.eqO_ok (allB_at 16 F1 rfl)
  obtain ⟨oc12, od12, kV12, dc12, pm12, an12, cd12, ct12, sl12, l12⟩ := DefL.lk (d := fnD12) (c.defs 12 fnD12 rfl)
  have c12 := codB_ok l12 (allB_at 17 F1 rfl)
  have k12 : PySem.W.keepIn K (.ref (cAt K "path_to")) = true := (allB_at 18 F1 rfl)
  have a13 : PySem.W.nsIn K mainGlobals "gap_of" = some (some (.ref (cAt K "gap_of"))) := He.eqO_ok (allB_at 19 F1 rfl)
  obtain ⟨oc13, od13, kV13, dc13, pm13, an13, cd13, ct13, sl13, l13⟩ := DefL.lk (d := fnD13) (c.defs 13 fnD13 rfl)
  have c13 := codB_ok l13 (allB_at 0 F2 rfl)
  have k13 : PySem.W.keepIn K (.ref (cAt K "gap_of")) = true := (allB_at 1 F2 rfl)
  have a14 : PySem.W.nsIn K mainGlobals "gap_with_rank" = some (some (.ref (cAt K "gap_with_rank"))) := He.eqO_ok (allB_at 2 F2 rfl)
  obtain ⟨oc14, od14, kV14, dc14, pm14, an14, cd14, ct14, sl14, l14⟩ := DefL.lk (d := fnD14) (c.defs 14 fnD14 rfl)
  have c14 := codB_ok l14 (allB_at 3 F2 rfl)
  have k14 : PySem.W.keepIn K (.ref (cAt K "gap_with_rank")) = true := (allB_at 4 F2 rfl)
  have a15 : PySem.W.nsIn K mainGlobals "gap_at" = some (some (.ref (cAt K "gap_at"))) := He.eqO_ok (allB_at 5 F2 rfl)
  obtain ⟨oc15, od15, kV15, dc15, pm15, an15, cd15, ct15, sl15, l15⟩ := DefL.lk (d := fnD15) (c.defs 15 fnD15 rfl)
  have c15 := codB_ok l15 (allB_at 6 F2 rfl)
  have k15 : PySem.W.keepIn K (.ref (cAt K "gap_at")) = true := (allB_at 7 F2 rfl)
  have a16 : PySem.W.nsIn K mainGlobals "seat_of" = some (some (.ref (cAt K "seat_of"))) := He.eqO_ok (allB_at 8 F2 rfl)
  obtain ⟨oc16, od16, kV16, dc16, pm16, an16, cd16, ct16, sl16, l16⟩ := DefL.lk (d := fnD16) (c.defs 16 fnD16 rfl)
  have c16 := codB_ok l16 (allB_at 9 F2 rfl)
  have k16 : PySem.W.keepIn K (.ref (cAt K "seat_of")) = true := (allB_at 10 F2 rfl)
  have a17 : PySem.W.nsIn K mainGlobals "free_seats_distances" = some (some (.ref (cAt K "free_seats_distances"))) := He.eqO_ok (allB_at 11 F2 rfl)
  obtain ⟨oc17, od17, kV17, dc17, pm17, an17, cd17, ct17, sl17, l17⟩ := DefL.lk (d := fnD17) (c.defs 17 fnD17 rfl)
  have c17 := codB_ok l17 (allB_at 12 F2 rfl)
  have k17 : PySem.W.keepIn K (.ref (cAt K "free_seats_distances")) = true := (allB_at 13 F2 rfl)
  have a18 : PySem.W.nsIn K mainGlobals "distance_of_width" = some (some (.ref (cAt K "distance_of_width"))) := He.eqO_ok (allB_at 14 F2 rfl)
  obtain ⟨oc18, od18, kV18, dc18, pm18, an18, cd18, ct18, sl18, l18⟩ := DefL.lk (d := fnD18) (c.defs 18 fnD18 rfl)
  have c18 := codB_ok l18 (allB_at 15 F2 rfl)
  have k18 : PySem.W.keepIn K (.ref (cAt K "distance_of_width")) = true := (allB_at 16 F2 rfl)
  have a19 : PySem.W.nsIn K mainGlobals "check_count" = some (some (.ref (cAt K "check_count"))) := He.eqO_ok (allB_at 17 F2 rfl)
  obtain ⟨oc19, od19, kV19, dc19, pm19, an19, cd19, ct19, sl19, l19⟩ := DefL.lk (d := fnD19) (c.defs 19 fnD19 rfl)
  have c19 := codB_ok l19 (allB_at 18 F2 rfl)
  have k19 : PySem.W.keepIn K (.ref (cAt K "check_count")) = true := (allB_at 19 F2 rfl)
  have a20 : PySem.W.nsIn K mainGlobals "distance_at" = some (some (.ref (cAt K "distance_at"))) := He.eqO_ok (allB_at 0 F3 rfl)
  obtain ⟨oc20, od20, kV20, dc20, pm20, an20, cd20, ct20, sl20, l20⟩ := DefL.lk (d := fnD20) (c.defs 20 fnD20 rfl)
  have c20 := codB_ok l20 (allB_at 1 F3 rfl)
  have k20 : PySem.W.keepIn K (.ref (cAt K "distance_at")) = true := (allB_at 2 F3 rfl)
  have a21 : PySem.W.nsIn K mainGlobals "width_of" = some (some (.ref (cAt K "width_of"))) := He.eqO_ok (allB_at 3 F3 rfl)
  obtain ⟨oc21, od21, kV21, dc21, pm21, an21, cd21, ct21, sl21, l21⟩ := DefL.lk (d := fnD21) (c.defs 21 fnD21 rfl)
  have c21 := codB_ok l21 (allB_at 4 F3 rfl)
  have k21 : PySem.W.keepIn K (.ref (cAt K "width_of")) = true := (allB_at 5 F3 rfl)
  have a22 : PySem.W.nsIn K mainGlobals "distances_of" = some (some (.ref (cAt K "distances_of"))) := He.eqO_ok (allB_at 6 F3 rfl)
  obtain ⟨oc22, od22, kV22, dc22, pm22, an22, cd22, ct22, sl22, l22⟩ := DefL.lk (d := fnD22) (c.defs 22 fnD22 rfl)
  have c22 := codB_ok l22 (allB_at 7 F3 rfl)
  have k22 : PySem.W.keepIn K (.ref (cAt K "distances_of")) = true := (allB_at 8 F3 rfl)
  have a23 : PySem.W.nsIn K mainGlobals "most_in_gaps" = some (some (.ref (cAt K "most_in_gaps"))) := He.eqO_ok (allB_at 9 F3 rfl)
  obtain ⟨oc23, od23, kV23, dc23, pm23, an23, cd23, ct23, sl23, l23⟩ := DefL.lk (d := fnD23) (c.defs 23 fnD23 rfl)
  have c23 := codB_ok l23 (allB_at 10 F3 rfl)
  have k23 : PySem.W.keepIn K (.ref (cAt K "most_in_gaps")) = true := (allB_at 11 F3 rfl)
  have a24 : PySem.W.nsIn K mainGlobals "best_distance" = some (some (.ref (cAt K "best_distance"))) := He.eqO_ok (allB_at 12 F3 rfl)
  obtain ⟨oc24, od24, kV24, dc24, pm24, an24, cd24, ct24, sl24, l24⟩ := DefL.lk (d := fnD24) (c.defs 24 fnD24 rfl)
  have c24 := codB_ok l24 (allB_at 13 F3 rfl)
  have k24 : PySem.W.keepIn K (.ref (cAt K "best_distance")) = true := (allB_at 14 F3 rfl)
  have a25 : PySem.W.nsIn K mainGlobals "best_certificate" = some (some (.ref (cAt K "best_certificate"))) := He.eqO_ok (allB_at 15 F3 rfl)
  obtain ⟨oc25, od25, kV25, dc25, pm25, an25, cd25, ct25, sl25, l25⟩ := DefL.lk (d := fnD25) (c.defs 25 fnD25 rfl)
  have c25 := codB_ok l25 (allB_at 16 F3 rfl)
  have k25 : PySem.W.keepIn K (.ref (cAt K "best_certificate")) = true := (allB_at 17 F3 rfl)
  have a26 : PySem.W.nsIn K mainGlobals "best_holds" = some (some (.ref (cAt K "best_holds"))) := He.eqO_ok (allB_at 18 F3 rfl)
  obtain ⟨oc26, od26, kV26, dc26, pm26, an26, cd26, ct26, sl26, l26⟩ := DefL.lk (d := fnD26) (c.defs 26 fnD26 rfl)
  have c26 := codB_ok l26 (allB_at 19 F3 rfl)
  have k26 : PySem.W.keepIn K (.ref (cAt K "best_holds")) = true := (allB_at 0 F4 rfl)
  have a27 : PySem.W.nsIn K mainGlobals "spread" = some (some (.ref (cAt K "spread"))) := He.eqO_ok (allB_at 1 F4 rfl)
  obtain ⟨oc27, od27, kV27, dc27, pm27, an27, cd27, ct27, sl27, l27⟩ := DefL.lk (d := fnD27) (c.defs 27 fnD27 rfl)
  have c27 := codB_ok l27 (allB_at 2 F4 rfl)
  have k27 : PySem.W.keepIn K (.ref (cAt K "spread")) = true := (allB_at 3 F4 rfl)
  have a28 : PySem.W.nsIn K mainGlobals "_law_shuffled_script" = some (some (.ref (cAt K "_law_shuffled_script"))) := He.eqO_ok (allB_at 4 F4 rfl)
  obtain ⟨oc28, od28, kV28, dc28, pm28, an28, cd28, ct28, sl28, l28⟩ := DefL.lk (d := fnD28) (c.defs 28 fnD28 rfl)
  have c28 := codB_ok l28 (allB_at 5 F4 rfl)
  have k28 : PySem.W.keepIn K (.ref (cAt K "_law_shuffled_script")) = true := (allB_at 6 F4 rfl)
  have a29 : PySem.W.nsIn K mainGlobals "_law_pull" = some (some (.ref (cAt K "_law_pull"))) := He.eqO_ok (allB_at 7 F4 rfl)
  obtain ⟨oc29, od29, kV29, dc29, pm29, an29, cd29, ct29, sl29, l29⟩ := DefL.lk (d := fnD29) (c.defs 29 fnD29 rfl)
  have c29 := codB_ok l29 (allB_at 8 F4 rfl)
  have k29 : PySem.W.keepIn K (.ref (cAt K "_law_pull")) = true := (allB_at 9 F4 rfl)
  have a30 : PySem.W.nsIn K mainGlobals "_law_far_row" = some (some (.ref (cAt K "_law_far_row"))) := He.eqO_ok (allB_at 10 F4 rfl)
  obtain ⟨oc30, od30, kV30, dc30, pm30, an30, cd30, ct30, sl30, l30⟩ := DefL.lk (d := fnD30) (c.defs 30 fnD30 rfl)
  have c30 := codB_ok l30 (allB_at 11 F4 rfl)
  have k30 : PySem.W.keepIn K (.ref (cAt K "_law_far_row")) = true := (allB_at 12 F4 rfl)
  have a31 : PySem.W.nsIn K mainGlobals "_law_free" = some (some (.ref (cAt K "_law_free"))) := He.eqO_ok (allB_at 13 F4 rfl)
  obtain ⟨oc31, od31, kV31, dc31, pm31, an31, cd31, ct31, sl31, l31⟩ := DefL.lk (d := fnD31) (c.defs 31 fnD31 rfl)
  have c31 := codB_ok l31 (allB_at 14 F4 rfl)
  have k31 : PySem.W.keepIn K (.ref (cAt K "_law_free")) = true := (allB_at 15 F4 rfl)
  have a32 : PySem.W.nsIn K mainGlobals "_law_bounds_right" = some (some (.ref (cAt K "_law_bounds_right"))) := He.eqO_ok (allB_at 16 F4 rfl)
  obtain ⟨oc32, od32, kV32, dc32, pm32, an32, cd32, ct32, sl32, l32⟩ := DefL.lk (d := fnD32) (c.defs 32 fnD32 rfl)
  have c32 := codB_ok l32 (allB_at 17 F4 rfl)
  have k32 : PySem.W.keepIn K (.ref (cAt K "_law_bounds_right")) = true := (allB_at 18 F4 rfl)
  have a33 : PySem.W.nsIn K mainGlobals "_law_spread_right" = some (some (.ref (cAt K "_law_spread_right"))) := He.eqO_ok (allB_at 19 F4 rfl)
  obtain ⟨oc33, od33, kV33, dc33, pm33, an33, cd33, ct33, sl33, l33⟩ := DefL.lk (d := fnD33) (c.defs 33 fnD33 rfl)
  have c33 := codB_ok l33 (allB_at 0 F5 rfl)
  have k33 : PySem.W.keepIn K (.ref (cAt K "_law_spread_right")) = true := (allB_at 1 F5 rfl)
  have a34 : PySem.W.nsIn K mainGlobals "law" = some (some (.ref (cAt K "law"))) := He.eqO_ok (allB_at 2 F5 rfl)
  obtain ⟨oc34, od34, kV34, dc34, pm34, an34, cd34, ct34, sl34, l34⟩ := DefL.lk (d := fnD34) (c.defs 34 fnD34 rfl)
  have c34 := codB_ok l34 (allB_at 3 F5 rfl)
  have k34 : PySem.W.keepIn K (.ref (cAt K "law")) = true := (allB_at 4 F5 rfl)
  have n_abs : PySem.W.nsIn K mainGlobals "abs" = some none := He.eqO_ok (allB_at 5 F5 rfl)
  have n_all : PySem.W.nsIn K mainGlobals "all" = some none := He.eqO_ok (allB_at 6 F5 rfl)
  have n_bool : PySem.W.nsIn K mainGlobals "bool" = some none := He.eqO_ok (allB_at 7 F5 rfl)
  have n_int : PySem.W.nsIn K mainGlobals "int" = some none := He.eqO_ok (allB_at 8 F5 rfl)
  have n_isinstance : PySem.W.nsIn K mainGlobals "isinstance" = some none := He.eqO_ok (allB_at 9 F5 rfl)
  have n_len : PySem.W.nsIn K mainGlobals "len" = some none := He.eqO_ok (allB_at 10 F5 rfl)
  have n_list : PySem.W.nsIn K mainGlobals "list" = some none := He.eqO_ok (allB_at 11 F5 rfl)
  have n_max : PySem.W.nsIn K mainGlobals "max" = some none := He.eqO_ok (allB_at 12 F5 rfl)
  have n_min : PySem.W.nsIn K mainGlobals "min" = some none := He.eqO_ok (allB_at 13 F5 rfl)
  have n_range : PySem.W.nsIn K mainGlobals "range" = some none := He.eqO_ok (allB_at 14 F5 rfl)
  have n_set : PySem.W.nsIn K mainGlobals "set" = some none := He.eqO_ok (allB_at 15 F5 rfl)
  have n_sorted : PySem.W.nsIn K mainGlobals "sorted" = some none := He.eqO_ok (allB_at 16 F5 rfl)
  have n_sum : PySem.W.nsIn K mainGlobals "sum" = some none := He.eqO_ok (allB_at 17 F5 rfl)
  have n_tuple : PySem.W.nsIn K mainGlobals "tuple" = some none := He.eqO_ok (allB_at 18 F5 rfl)
  have n_zip : PySem.W.nsIn K mainGlobals "zip" = some none := He.eqO_ok (allB_at 19 F5 rfl)
  obtain ⟨tk_LISTED, v_LISTED⟩ := intB_ok (allB_at 0 F6 rfl)
  have aa_NoCount : PySem.W.nsIn K mainGlobals "NoCount" = some (some (.ref (cAt K "NoCount"))) := He.eqO_ok (allB_at 1 F6 rfl)
  have aa_NoIndex : PySem.W.nsIn K mainGlobals "NoIndex" = some (some (.ref (cAt K "NoIndex"))) := He.eqO_ok (allB_at 2 F6 rfl)
  have aa_NoSeat : PySem.W.nsIn K mainGlobals "NoSeat" = some (some (.ref (cAt K "NoSeat"))) := He.eqO_ok (allB_at 3 F6 rfl)
  have aa_Taken : PySem.W.nsIn K mainGlobals "Taken" = some (some (.ref (cAt K "Taken"))) := He.eqO_ok (allB_at 4 F6 rfl)
  obtain ⟨nm_NoCount, qn_NoCount, N_NoCount, bs_NoCount, bm_NoCount, sn_NoCount, sb_NoCount, ab_NoCount, cl_NoCount, dd_NoCount, ma_NoCount, mb_NoCount, mc_NoCount, md_NoCount, me_NoCount, xl_NoCount, rf_NoCount⟩ := excB_ok (allB_at 5 F6 rfl)
  have sa_NoCount : PySem.W.findIn K (.ref (cAt K "NoCount")) "__setattr__" = some (some (.builtin "object.__setattr__")) := He.eqO_ok (allB_at 6 F6 rfl)
  have nb_NoCount : PySem.W.findIn K (.ref (cAt K "NoCount")) "value" = some none := He.eqO_ok (allB_at 7 F6 rfl)
  have ii_NoCount : PySem.W.findIn K (.ref (cAt K "NoCount")) "__init__" = some (some (.ref (He.ma K (cAt K "NoCount") "__init__"))) := He.eqO_ok (allB_at 8 F6 rfl)
  have ti_NoCount : PySem.W.typeIn K (.ref (He.ma K (cAt K "NoCount") "__init__")) = some (.type "function") := of_decide_eq_true (allB_at 9 F6 rfl)
  obtain ⟨pa_NoCount, pb_NoCount, qa_NoCount, qb_NoCount, qc_NoCount, qd_NoCount, ea_NoCount, eb_NoCount, es_NoCount⟩ := ini_NoCount
  obtain ⟨oc_NoCount, od_NoCount, kv_NoCount, do_NoCount, pm_NoCount, an_NoCount, cd_NoCount, ct_NoCount, os_NoCount, li_NoCount⟩ := DefL.lkX (d := fnD35) (c.defs 35 fnD35 rfl) ea_NoCount eb_NoCount es_NoCount
  obtain rfl : kv_NoCount = .none := kvN_ok li_NoCount (allB_at 10 F6 rfl)
  have ci_NoCount := codB_ok li_NoCount (allB_at 11 F6 rfl)
  have kk_NoCount : PySem.W.keepIn K (.ref (cAt K "NoCount")) = true := (allB_at 12 F6 rfl)
  have eb_NoCount : PySem.W.subIn K (.ref (cAt K "NoCount")) (.type "BaseException") = some true := of_decide_eq_true (allB_at 13 F6 rfl)
  have ty_NoCount : PySem.W.typeIn K (.ref (cAt K "NoCount")) = some (.type "type") := of_decide_eq_true (allB_at 14 F6 rfl)
  obtain ⟨nm_NoIndex, qn_NoIndex, N_NoIndex, bs_NoIndex, bm_NoIndex, sn_NoIndex, sb_NoIndex, ab_NoIndex, cl_NoIndex, dd_NoIndex, ma_NoIndex, mb_NoIndex, mc_NoIndex, md_NoIndex, me_NoIndex, xl_NoIndex, rf_NoIndex⟩ := excB_ok (allB_at 15 F6 rfl)
  have sa_NoIndex : PySem.W.findIn K (.ref (cAt K "NoIndex")) "__setattr__" = some (some (.builtin "object.__setattr__")) := He.eqO_ok (allB_at 16 F6 rfl)
  have nb_NoIndex : PySem.W.findIn K (.ref (cAt K "NoIndex")) "index" = some none := He.eqO_ok (allB_at 17 F6 rfl)
  have ii_NoIndex : PySem.W.findIn K (.ref (cAt K "NoIndex")) "__init__" = some (some (.ref (He.ma K (cAt K "NoIndex") "__init__"))) := He.eqO_ok (allB_at 18 F6 rfl)
  have ti_NoIndex : PySem.W.typeIn K (.ref (He.ma K (cAt K "NoIndex") "__init__")) = some (.type "function") := of_decide_eq_true (allB_at 19 F6 rfl)
  obtain ⟨pa_NoIndex, pb_NoIndex, qa_NoIndex, qb_NoIndex, qc_NoIndex, qd_NoIndex, ea_NoIndex, eb_NoIndex, es_NoIndex⟩ := ini_NoIndex
  obtain ⟨oc_NoIndex, od_NoIndex, kv_NoIndex, do_NoIndex, pm_NoIndex, an_NoIndex, cd_NoIndex, ct_NoIndex, os_NoIndex, li_NoIndex⟩ := DefL.lkX (d := fnD36) (c.defs 36 fnD36 rfl) ea_NoIndex eb_NoIndex es_NoIndex
  obtain rfl : kv_NoIndex = .none := kvN_ok li_NoIndex (allB_at 0 F7 rfl)
  have ci_NoIndex := codB_ok li_NoIndex (allB_at 1 F7 rfl)
  have kk_NoIndex : PySem.W.keepIn K (.ref (cAt K "NoIndex")) = true := (allB_at 2 F7 rfl)
  have eb_NoIndex : PySem.W.subIn K (.ref (cAt K "NoIndex")) (.type "BaseException") = some true := of_decide_eq_true (allB_at 3 F7 rfl)
  have ty_NoIndex : PySem.W.typeIn K (.ref (cAt K "NoIndex")) = some (.type "type") := of_decide_eq_true (allB_at 4 F7 rfl)
  obtain ⟨nm_NoSeat, qn_NoSeat, N_NoSeat, bs_NoSeat, bm_NoSeat, sn_NoSeat, sb_NoSeat, ab_NoSeat, cl_NoSeat, dd_NoSeat, ma_NoSeat, mb_NoSeat, mc_NoSeat, md_NoSeat, me_NoSeat, xl_NoSeat, rf_NoSeat⟩ := excB_ok (allB_at 5 F7 rfl)
  have sa_NoSeat : PySem.W.findIn K (.ref (cAt K "NoSeat")) "__setattr__" = some (some (.builtin "object.__setattr__")) := He.eqO_ok (allB_at 6 F7 rfl)
  have nb_NoSeat : PySem.W.findIn K (.ref (cAt K "NoSeat")) "value" = some none := He.eqO_ok (allB_at 7 F7 rfl)
  have ii_NoSeat : PySem.W.findIn K (.ref (cAt K "NoSeat")) "__init__" = some (some (.ref (He.ma K (cAt K "NoSeat") "__init__"))) := He.eqO_ok (allB_at 8 F7 rfl)
  have ti_NoSeat : PySem.W.typeIn K (.ref (He.ma K (cAt K "NoSeat") "__init__")) = some (.type "function") := of_decide_eq_true (allB_at 9 F7 rfl)
  obtain ⟨pa_NoSeat, pb_NoSeat, qa_NoSeat, qb_NoSeat, qc_NoSeat, qd_NoSeat, ea_NoSeat, eb_NoSeat, es_NoSeat⟩ := ini_NoSeat
  obtain ⟨oc_NoSeat, od_NoSeat, kv_NoSeat, do_NoSeat, pm_NoSeat, an_NoSeat, cd_NoSeat, ct_NoSeat, os_NoSeat, li_NoSeat⟩ := DefL.lkX (d := fnD37) (c.defs 37 fnD37 rfl) ea_NoSeat eb_NoSeat es_NoSeat
  obtain rfl : kv_NoSeat = .none := kvN_ok li_NoSeat (allB_at 10 F7 rfl)
  have ci_NoSeat := codB_ok li_NoSeat (allB_at 11 F7 rfl)
  have kk_NoSeat : PySem.W.keepIn K (.ref (cAt K "NoSeat")) = true := (allB_at 12 F7 rfl)
  have eb_NoSeat : PySem.W.subIn K (.ref (cAt K "NoSeat")) (.type "BaseException") = some true := of_decide_eq_true (allB_at 13 F7 rfl)
  have ty_NoSeat : PySem.W.typeIn K (.ref (cAt K "NoSeat")) = some (.type "type") := of_decide_eq_true (allB_at 14 F7 rfl)
  obtain ⟨nm_Taken, qn_Taken, N_Taken, bs_Taken, bm_Taken, sn_Taken, sb_Taken, ab_Taken, cl_Taken, dd_Taken, ma_Taken, mb_Taken, mc_Taken, md_Taken, me_Taken, xl_Taken, rf_Taken⟩ := excB_ok (allB_at 15 F7 rfl)
  have sa_Taken : PySem.W.findIn K (.ref (cAt K "Taken")) "__setattr__" = some (some (.builtin "object.__setattr__")) := He.eqO_ok (allB_at 16 F7 rfl)
  have nb_Taken : PySem.W.findIn K (.ref (cAt K "Taken")) "seat" = some none := He.eqO_ok (allB_at 17 F7 rfl)
  have ii_Taken : PySem.W.findIn K (.ref (cAt K "Taken")) "__init__" = some (some (.ref (He.ma K (cAt K "Taken") "__init__"))) := He.eqO_ok (allB_at 18 F7 rfl)
  have ti_Taken : PySem.W.typeIn K (.ref (He.ma K (cAt K "Taken") "__init__")) = some (.type "function") := of_decide_eq_true (allB_at 19 F7 rfl)
  obtain ⟨pa_Taken, pb_Taken, qa_Taken, qb_Taken, qc_Taken, qd_Taken, ea_Taken, eb_Taken, es_Taken⟩ := ini_Taken
  obtain ⟨oc_Taken, od_Taken, kv_Taken, do_Taken, pm_Taken, an_Taken, cd_Taken, ct_Taken, os_Taken, li_Taken⟩ := DefL.lkX (d := fnD38) (c.defs 38 fnD38 rfl) ea_Taken eb_Taken es_Taken
  obtain rfl : kv_Taken = .none := kvN_ok li_Taken (allB_at 0 F8 rfl)
  have ci_Taken := codB_ok li_Taken (allB_at 1 F8 rfl)
  have kk_Taken : PySem.W.keepIn K (.ref (cAt K "Taken")) = true := (allB_at 2 F8 rfl)
  have eb_Taken : PySem.W.subIn K (.ref (cAt K "Taken")) (.type "BaseException") = some true := of_decide_eq_true (allB_at 3 F8 rfl)
  have ty_Taken : PySem.W.typeIn K (.ref (cAt K "Taken")) = some (.type "type") := of_decide_eq_true (allB_at 4 F8 rfl)
  exact all_mk X G hfa a0 l0 c0 k0 a1 l1 c1 k1 a2 l2 c2 k2 a3 l3 c3 k3 a4 l4 c4 k4 a5 l5 c5 k5 a6 l6 c6 k6 a7 l7 c7 k7 a8 l8 c8 k8 a9 l9 c9 k9 a10 l10 c10 k10 a11 l11 c11 k11 a12 l12 c12 k12 a13 l13 c13 k13 a14 l14 c14 k14 a15 l15 c15 k15 a16 l16 c16 k16 a17 l17 c17 k17 a18 l18 c18 k18 a19 l19 c19 k19 a20 l20 c20 k20 a21 l21 c21 k21 a22 l22 c22 k22 a23 l23 c23 k23 a24 l24 c24 k24 a25 l25 c25 k25 a26 l26 c26 k26 a27 l27 c27 k27 a28 l28 c28 k28 a29 l29 c29 k29 a30 l30 c30 k30 a31 l31 c31 k31 a32 l32 c32 k32 a33 l33 c33 k33 a34 l34 c34 k34 n_abs n_all n_bool n_int n_isinstance n_len n_list n_max n_min n_range n_set n_sorted n_sum n_tuple n_zip v_LISTED aa_NoCount aa_NoIndex aa_NoSeat aa_Taken xl_NoCount rf_NoCount sa_NoCount nb_NoCount ii_NoCount ti_NoCount li_NoCount ci_NoCount kk_NoCount eb_NoCount ty_NoCount xl_NoIndex rf_NoIndex sa_NoIndex nb_NoIndex ii_NoIndex ti_NoIndex li_NoIndex ci_NoIndex kk_NoIndex eb_NoIndex ty_NoIndex xl_NoSeat rf_NoSeat sa_NoSeat nb_NoSeat ii_NoSeat ti_NoSeat li_NoSeat ci_NoSeat kk_NoSeat eb_NoSeat ty_NoSeat xl_Taken rf_Taken sa_Taken nb_Taken ii_Taken ti_Taken li_Taken ci_Taken kk_Taken eb_Taken ty_Taken
theorem walkH {l : PySem.W.OpenLaw} {q : Program} {loose : List Str} {XP : (Str → Option Value) → Heap → Prop} {d : DefRec} (hn : l.most = some 63) (hdf : d.params.defaults = []) (hd : d.name = "law") :
    PySem.W.WalkO q loose XP hkL.says l.row.toRowW d [] (fun f vs => PySem.call f vs) :=
  walkL (n := 63) (k := 7) (x := "_law_script") (sp := fun K => sp_law K) hn (by decide) hdf ⟨rfl, by decide, by decide⟩ (fun w mg fa h ⟨K, KX, c⟩ G hmg => by
    obtain ⟨fd, h1, h2⟩ := all_L (l := l) (w := w) KX G (by rw [hd] at hmg; exact hmg) c
    exact ⟨K, fd, KX, h1, h2⟩) fun K ns hl => ⟨ns, rfl, by omega, fun _ => rfl⟩
end DL
open PySem PySem.W PySem.Calls PyProof.Rows
set_option maxRecDepth 100000 in
set_option maxHeartbeats 0 in
theorem PySem.Challenge.cw_widestgap_k35_whole_best_distances_holds : PySem.Challenge.rw_widestgap_k35_whole_best_distances.Holds := by
  w_on; o_law
  refine HandSHeadRun.head_any (r := DL.rowL) (q := view DL.rowL.prog [48]) (H := DL.hkL) (ob := DL.obL) (M := 30000) (loose := DL.looseL) (kwd := []) DL.obL_eq (by kernel_rfl) (fun s => by kernel_rfl) DL.runL (by rfl) (by rfl) (by rfl) (by rfl) (by first | assumption | decide +kernel) (by decide +kernel) ⟨rfl, rfl, rfl, rfl, rfl, by decide +kernel⟩ ?hw ?hc
  case hw => w_witness2
  case hc => exact DL.walkH rfl rfl rfl

