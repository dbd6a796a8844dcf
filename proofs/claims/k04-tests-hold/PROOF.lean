import PyProof.Rows.All
import Wide.All
import OpenK.AllK
import Wide.FinOn
import HandS.ForMost
import HandS.Walk
import HandS.IsInst
import HandS.Zip
import HandS.TupAny
import HandS.Flow
import HandS.Conv
import HandS.Style
import HandS.Deep
import HandS.Defaults
import HandS.MakeKwOnly
import HandS.HeadHook4
import HandS.HeadEnd
import HandS.Head0
import HandS.Head1
import HandS.Head2
import HandS.More
import HandS.Dict
import HandS.DictComp
import PySem.Challenge.RW_bothlots_k04_tests_hold
set_option Elab.async false
set_option linter.all false
set_option maxRecDepth 100000
set_option autoImplicit false
/-! DL: a layer of DATA over the hand layer. D: data (trees); Mh: the objects that may change; a body is read as a predicate transformer over D and Mh. -/
namespace DL
open PySem L2

/-! ### data -/
inductive D where
  | non | bl (b : Bool) | int (i : Int) | str (s : Str) | tup (ds : List D) | lst (ds : List D) | ref (a : Addr) | ty (n : String) | scr (ns : List Int)

mutual
/-- v shows the data d in the part F of the heap that does not change -/
def DV (K : PySem.W.Frag) (F : Hp) : D → V → Prop
  | .non, v => v = .non
  | .bl b, v => v = .bl b
  | .int i, v => v = .int i
  | .str s, v => v = .str s
  | .ty n, v => v = .ty n
  | .ref a, v => v = .ref a
  | .tup ds, v => ∃ a vs, v = .ref a ∧ SqT K F a vs ∧ DVs K F ds vs
  | .lst ds, v => ∃ a vs, v = .ref a ∧ F a = some (.lst vs) ∧ DVs K F ds vs
  | .scr ns, v => ∃ a, v = .ref a ∧ SqL K F a (ns.map V.int)
def DVs (K : PySem.W.Frag) (F : Hp) : List D → List V → Prop
  | [], vs => vs = []
  | d :: ds, vs => ∃ v r, vs = v :: r ∧ DV K F d v ∧ DVs K F ds r
end

def Ex (H H' : Hp) : Prop := ∀ a o, H a = some o → H' a = some o
theorem Ex.refl (H : Hp) : Ex H H := fun _ _ h => h
theorem Ex.trans {H H1 H2 : Hp} (a : Ex H H1) (b : Ex H1 H2) : Ex H H2 := fun x o h => b x o (a x o h)
theorem Ex.sqT {K : PySem.W.Frag} {H H' : Hp} {a : Addr} {xs : List V} (e : Ex H H') (h : SqT K H a xs) : SqT K H' a xs := by
  rcases h with (h | ⟨o, h⟩) | h
  · exact .inl (.inl (e _ _ h))
  · exact .inl (.inr ⟨o, e _ _ h⟩)
  · exact .inr h
theorem Ex.sqL {K : PySem.W.Frag} {H H' : Hp} {a : Addr} {xs : List V} (e : Ex H H') (h : SqL K H a xs) : SqL K H' a xs := by
  rcases h with (h | ⟨o, h⟩) | h
  · exact .inl (.inl (e _ _ h))
  · exact .inl (.inr ⟨o, e _ _ h⟩)
  · exact .inr h
mutual
theorem DV.mono {K : PySem.W.Frag} {F F' : Hp} (e : Ex F F') : ∀ (d : D) {v : V}, DV K F d v → DV K F' d v
  | .non, _, h => by rw [DV] at h ⊢; exact h
  | .bl _, _, h => by rw [DV] at h ⊢; exact h
  | .int _, _, h => by rw [DV] at h ⊢; exact h
  | .str _, _, h => by rw [DV] at h ⊢; exact h
  | .ty _, _, h => by rw [DV] at h ⊢; exact h
  | .ref _, _, h => by rw [DV] at h ⊢; exact h
  | .scr _, _, h => by
    rw [DV] at h ⊢
    obtain ⟨a, h1, h2⟩ := h
    exact ⟨a, h1, e.sqL h2⟩
  | .tup ds, _, h => by
    rw [DV] at h ⊢
    obtain ⟨a, vs, h1, h2, h3⟩ := h
    exact ⟨a, vs, h1, e.sqT h2, DVs.mono e ds h3⟩
  | .lst ds, _, h => by
    rw [DV] at h ⊢
    obtain ⟨a, vs, h1, h2, h3⟩ := h
    exact ⟨a, vs, h1, e _ _ h2, DVs.mono e ds h3⟩
theorem DVs.mono {K : PySem.W.Frag} {F F' : Hp} (e : Ex F F') : ∀ (ds : List D) {vs : List V}, DVs K F ds vs → DVs K F' ds vs
  | [], _, h => by rw [DVs] at h ⊢; exact h
  | d :: ds, _, h => by
    rw [DVs] at h ⊢
    obtain ⟨v, r, h1, h2, h3⟩ := h
    exact ⟨v, r, h1, DV.mono e d h2, DVs.mono e ds h3⟩
end
section
variable {K : PySem.W.Frag} {F : Hp} {v : V} {vs : List V} {d : D} {ds : List D}
theorem dv_non : DV K F .non v ↔ v = .non := by rw [DV]
theorem dv_bl {b : Bool} : DV K F (.bl b) v ↔ v = .bl b := by rw [DV]
theorem dv_int {i : Int} : DV K F (.int i) v ↔ v = .int i := by rw [DV]
theorem dv_str {s : Str} : DV K F (.str s) v ↔ v = .str s := by rw [DV]
theorem dv_ty {s : String} : DV K F (.ty s) v ↔ v = .ty s := by rw [DV]
theorem dv_ref {a : Addr} : DV K F (.ref a) v ↔ v = .ref a := by rw [DV]
theorem dv_tup : DV K F (.tup ds) v ↔ ∃ a vs, v = .ref a ∧ SqT K F a vs ∧ DVs K F ds vs := by rw [DV]
theorem dv_lst : DV K F (.lst ds) v ↔ ∃ a vs, v = .ref a ∧ F a = some (.lst vs) ∧ DVs K F ds vs := by rw [DV]
theorem dv_scr {ns : List Int} : DV K F (.scr ns) v ↔ ∃ a, v = .ref a ∧ SqL K F a (ns.map V.int) := by rw [DV]
theorem dvs_nil : DVs K F [] vs ↔ vs = [] := by rw [DVs]
theorem dvs_cons : DVs K F (d :: ds) vs ↔ ∃ v r, vs = v :: r ∧ DV K F d v ∧ DVs K F ds r := by rw [DVs]
theorem DVs.length : ∀ {ds : List D} {vs : List V}, DVs K F ds vs → ds.length = vs.length
  | [], _, h => by rw [dvs_nil] at h; subst h; rfl
  | d :: ds, _, h => by
    obtain ⟨v, r, rfl, _, h3⟩ := dvs_cons.mp h
    rw [List.length_cons, List.length_cons, DVs.length h3]
theorem DVs.get : ∀ {ds : List D} {vs : List V} {i : Nat} {d : D}, DVs K F ds vs → ds[i]? = some d → ∃ v, vs[i]? = some v ∧ DV K F d v
  | [], _, _, _, _, e => by simp at e
  | d :: ds, _, 0, _, h, e => by
    obtain ⟨v, r, rfl, h2, h3⟩ := dvs_cons.mp h
    have e' : d = _ := Option.some.inj e
    subst e'
    exact ⟨v, rfl, h2⟩
  | d :: ds, _, i + 1, _, h, e => by
    obtain ⟨v, r, rfl, h2, h3⟩ := dvs_cons.mp h
    exact DVs.get h3 (i := i) e
theorem DVs.getV : ∀ {ds : List D} {vs : List V} {i : Nat} {v : V}, DVs K F ds vs → vs[i]? = some v → ∃ d, ds[i]? = some d ∧ DV K F d v
  | [], _, _, _, h, e => by rw [dvs_nil] at h; subst h; simp at e
  | d :: ds, _, 0, _, h, e => by
    obtain ⟨v, r, rfl, h2, h3⟩ := dvs_cons.mp h
    have e' : v = _ := Option.some.inj e
    subst e'
    exact ⟨d, rfl, h2⟩
  | d :: ds, _, i + 1, _, h, e => by
    obtain ⟨v, r, rfl, h2, h3⟩ := dvs_cons.mp h
    exact DVs.getV h3 (i := i) e
theorem DVs.append : ∀ {ds es : List D} {vs us : List V}, DVs K F ds vs → DVs K F es us → DVs K F (ds ++ es) (vs ++ us)
  | [], _, _, _, h, g => by rw [dvs_nil] at h; subst h; exact g
  | d :: ds, _, _, _, h, g => by
    obtain ⟨v, r, rfl, h2, h3⟩ := dvs_cons.mp h
    exact dvs_cons.mpr ⟨v, _, rfl, h2, DVs.append h3 g⟩
theorem DVs.take : ∀ {ds : List D} {vs : List V} (n : Nat), DVs K F ds vs → DVs K F (ds.take n) (vs.take n)
  | _, _, 0, _ => by rw [List.take_zero, List.take_zero]; exact dvs_nil.mpr rfl
  | [], _, n + 1, h => by rw [dvs_nil] at h; subst h; exact dvs_nil.mpr rfl
  | d :: ds, _, n + 1, h => by
    obtain ⟨v, r, rfl, h2, h3⟩ := dvs_cons.mp h
    exact dvs_cons.mpr ⟨v, _, rfl, h2, DVs.take n h3⟩
theorem DVs.drop : ∀ {ds : List D} {vs : List V} (n : Nat), DVs K F ds vs → DVs K F (ds.drop n) (vs.drop n)
  | _, _, 0, h => h
  | [], _, n + 1, h => by rw [dvs_nil] at h; subst h; exact dvs_nil.mpr rfl
  | d :: ds, _, n + 1, h => by
    obtain ⟨v, r, rfl, h2, h3⟩ := dvs_cons.mp h
    exact DVs.drop n h3
theorem DVs.set {d : D} {v : V} (g : DV K F d v) : ∀ {ds : List D} {vs : List V} (n : Nat), DVs K F ds vs → DVs K F (ds.set n d) (vs.set n v)
  | [], _, n, h => by rw [dvs_nil] at h; subst h; exact dvs_nil.mpr rfl
  | _ :: ds, _, 0, h => by
    obtain ⟨u, r, rfl, h2, h3⟩ := dvs_cons.mp h
    exact dvs_cons.mpr ⟨v, _, rfl, g, h3⟩
  | _ :: ds, _, n + 1, h => by
    obtain ⟨u, r, rfl, h2, h3⟩ := dvs_cons.mp h
    exact dvs_cons.mpr ⟨u, _, rfl, h2, DVs.set g n h3⟩
theorem DVs.one (h : DV K F d v) : DVs K F [d] [v] := dvs_cons.mpr ⟨v, [], rfl, h, dvs_nil.mpr rfl⟩
theorem DVs.two {d' : D} {v' : V} (h : DV K F d v) (h' : DV K F d' v') : DVs K F [d, d'] [v, v'] := dvs_cons.mpr ⟨v, [v'], rfl, h, DVs.one h'⟩
end

/-! ### the objects that may change, and the hidden ones -/
inductive MO where
  | box | lst (ds : List D) | dct (kvs : List (Key × D)) | ins (C : Addr) (fs : List (Str × D))
abbrev Mh := Addr → Option MO
/-- the part of H that stands still: neither in M nor hidden (S) -/
def hid (M : Mh) (S H : Hp) : Hp := fun a => if (M a).isSome || (S a).isSome then none else H a
def setM (M : Mh) (a : Addr) (o : MO) : Mh := fun b => if b = a then some o else M b
def delM (M : Mh) (a : Addr) : Mh := fun b => if b = a then none else M b
def KVD (K : PySem.W.Frag) (F : Hp) {κ : Type} : List (κ × D) → List (κ × V) → Prop
  | [], vs => vs = []
  | (k, d) :: r, vs => ∃ v t, vs = (k, v) :: t ∧ DV K F d v ∧ KVD K F r t
def BoxV (K : PySem.W.Frag) (F : Hp) (vs : List V) : Prop :=
  ∃ (l : Addr) (i big mix cnt : Int) (ns : List Int), vs = [.ref l, .int i, .int big, .int mix, .int cnt] ∧ F l = some (.lst (ns.map V.int)) ∧ 0 ≤ i ∧ 0 ≤ big ∧ 0 ≤ mix ∧ mix < 2147483648
def MOR (K : PySem.W.Frag) (F : Hp) : MO → HO → Prop
  | .box, o => ∃ vs, o = .lst vs ∧ BoxV K F vs
  | .lst ds, o => ∃ vs, o = .lst vs ∧ DVs K F ds vs
  | .dct kvs, o => ∃ ps, o = .dK ps ∧ KVD K F kvs ps
  | .ins C fs, o => ∃ dx ps, o = .ins C dx ps ∧ KVD K F fs ps
theorem KVD.mono {K : PySem.W.Frag} {F F' : Hp} (e : Ex F F') {κ : Type} : ∀ {kvs : List (κ × D)} {ps : List (κ × V)}, KVD K F kvs ps → KVD K F' kvs ps
  | [], _, h => h
  | (k, d) :: r, _, h => by
    obtain ⟨v, t, h1, h2, h3⟩ := h
    exact ⟨v, t, h1, DV.mono e d h2, KVD.mono e h3⟩
theorem MOR.mono {K : PySem.W.Frag} {F F' : Hp} (e : Ex F F') : ∀ {o : MO} {u : HO}, MOR K F o u → MOR K F' o u
  | .box, _, ⟨vs, h1, l, i, b, m, c, ns, h2, h3, h4⟩ => ⟨vs, h1, l, i, b, m, c, ns, h2, e _ _ h3, h4⟩
  | .lst ds, _, ⟨vs, h1, h2⟩ => ⟨vs, h1, DVs.mono e ds h2⟩
  | .dct _, _, ⟨ps, h1, h2⟩ => ⟨ps, h1, KVD.mono e h2⟩
  | .ins _ _, _, ⟨dx, ps, h1, h2⟩ => ⟨dx, ps, h1, KVD.mono e h2⟩
structure R (K : PySem.W.Frag) (M : Mh) (S H : Hp) : Prop where
  hidden : ∀ a o, S a = some o → H a = some o ∧ M a = none
  chg : ∀ a o, M a = some o → ∃ u, H a = some u ∧ MOR K (hid M S H) o u
section
variable {K : PySem.W.Frag} {M : Mh} {S H : Hp} {p a : Addr} {o : HO} {m : MO}
theorem hid_le (M : Mh) (S H : Hp) : Ex (hid M S H) H := fun a o h => by
  unfold hid at h
  split at h
  · cases h
  · exact h
theorem hid_some {u : HO} : hid M S H a = some u ↔ M a = none ∧ S a = none ∧ H a = some u := by
  unfold hid
  cases h1 : M a <;> cases h2 : S a <;> simp
theorem R.freeM (r : R K M S H) (h : H p = none) : M p = none := by
  cases e : M p with
  | none => rfl
  | some o =>
    obtain ⟨u, q, _⟩ := r.chg p o e
    rw [h] at q
    cases q
theorem R.freeS (r : R K M S H) (h : H p = none) : S p = none := by
  cases e : S p with
  | none => rfl
  | some o =>
    have q := (r.hidden p o e).1
    rw [h] at q
    cases q
/-- a new thing that stands still -/
theorem R.new (r : R K M S H) (h : H p = none) : R K M S (upd H p o) ∧ Ex (hid M S H) (hid M S (upd H p o)) ∧ hid M S (upd H p o) p = some o := by
  have hM := r.freeM h
  have hS := r.freeS h
  have e : Ex (hid M S H) (hid M S (upd H p o)) := fun a u q => by
    obtain ⟨h1, h2, h3⟩ := hid_some.mp q
    exact hid_some.mpr ⟨h1, h2, by rw [upd_ne (ne_of_none h3 h)]; exact h3⟩
  refine ⟨⟨fun a u q => ?_, fun a u q => ?_⟩, e, hid_some.mpr ⟨hM, hS, upd_same⟩⟩
  · obtain ⟨h1, h2⟩ := r.hidden a u q
    exact ⟨by rw [upd_ne (ne_of_none h1 h)]; exact h1, h2⟩
  · obtain ⟨w, h1, h2⟩ := r.chg a u q
    exact ⟨w, by rw [upd_ne (ne_of_none h1 h)]; exact h1, h2.mono e⟩
theorem hid_set (M : Mh) (S H : Hp) (p : Addr) (m : MO) (o : HO) (h : (M p).isSome = true ∨ H p = none) : hid (setM M p m) S (upd H p o) = hid M S H := by
  funext a
  unfold hid setM
  by_cases e : a = p
  · subst e
    rw [if_pos rfl]
    rcases h with h | h
    · rw [h]; simp
    · rw [h]; simp
  · rw [if_neg e, upd_ne e]
/-- a new thing that may change, or one that changes -/
theorem R.put (r : R K M S H) (h : (M p).isSome = true ∨ H p = none) (hm : MOR K (hid M S H) m o) : R K (setM M p m) S (upd H p o) := by
  have he := hid_set M S H p m o h
  have hS : S p = none := by
    rcases h with h | h
    · cases e : S p with
      | none => rfl
      | some u =>
        rw [(r.hidden p u e).2] at h
        cases h
    · exact r.freeS h
  refine ⟨fun a u q => ?_, fun a u q => ?_⟩
  · have ne : a ≠ p := fun z => by rw [z, hS] at q; cases q
    obtain ⟨h1, h2⟩ := r.hidden a u q
    exact ⟨by rw [upd_ne ne]; exact h1, by unfold setM; rw [if_neg ne]; exact h2⟩
  · rw [he]
    unfold setM at q
    by_cases e : a = p
    · subst e
      rw [if_pos rfl] at q
      cases q
      exact ⟨o, upd_same, hm⟩
    · rw [if_neg e] at q
      obtain ⟨w, h1, h2⟩ := r.chg a u q
      exact ⟨w, by rw [upd_ne e]; exact h1, h2⟩
/-- what may change is from now on still -/
theorem R.freeze (r : R K M S H) : R K (delM M p) S H ∧ Ex (hid M S H) (hid (delM M p) S H) := by
  have e : Ex (hid M S H) (hid (delM M p) S H) := fun a u q => by
    obtain ⟨h1, h2, h3⟩ := hid_some.mp q
    refine hid_some.mpr ⟨?_, h2, h3⟩
    unfold delM
    split
    · rfl
    · exact h1
  refine ⟨⟨fun a u q => ?_, fun a u q => ?_⟩, e⟩
  · obtain ⟨h1, h2⟩ := r.hidden a u q
    refine ⟨h1, ?_⟩
    unfold delM
    split
    · rfl
    · exact h2
  · unfold delM at q
    split at q
    · cases q
    · obtain ⟨w, h1, h2⟩ := r.chg a u q
      exact ⟨w, h1, h2.mono e⟩
end

/-! ### readings over data -/
abbrev Env := List (Option D)
/-- an exception: its class, its fields (none: it has no dict) -/
structure XD where
  cls : Value
  fs : Option (List (Str × D))
def XR (K : PySem.W.Frag) (F : Hp) (x : XD) (c : Value) (o : Option Addr) : Prop :=
  c = x.cls ∧ match x.fs with
    | none => o = none
    | some fs => ∃ d ps, o = some d ∧ F d = some (.xd ps) ∧ KVD K F fs ps
abbrev DK := D → Mh → Prop
abbrev XKd := XD → Mh → Prop
abbrev ME := Env → Mh → DK → XKd → Prop
abbrev MT := Env → Mh → (Bool → Mh → Prop) → XKd → Prop
abbrev MA := Env → Mh → (List D → Mh → Prop) → XKd → Prop
structure DEnds where
  nx : Env → Mh → Prop
  rt : DK
  bk : Env → Mh → Prop := fun _ _ => False
  ct : Env → Mh → Prop := fun _ _ => False
abbrev MS := DEnds → Env → Mh → XKd → Prop

structure EnvR (K : PySem.W.Frag) (F : Hp) (Γ : Env) (σ : St) : Prop where
  len : Γ.length = σ.length
  get : ∀ (i : Nat) (d : D), Γ[i]? = some (some d) → ∃ v, σ[i]? = some (some v) ∧ DV K F d v
theorem EnvR.mono {K : PySem.W.Frag} {F F' : Hp} {Γ : Env} {σ : St} (e : Ex F F') (h : EnvR K F Γ σ) : EnvR K F' Γ σ :=
  ⟨h.len, fun i d q => let ⟨v, h1, h2⟩ := h.get i d q; ⟨v, h1, h2.mono e d⟩⟩
theorem EnvR.set {K : PySem.W.Frag} {F : Hp} {Γ : Env} {σ : St} (h : EnvR K F Γ σ) {i : Nat} {d : D} {v : V} (g : DV K F d v) : EnvR K F (Γ.set i (some d)) (σ.set i (some v)) := by
  refine ⟨by simp [h.len], fun j e q => ?_⟩
  by_cases c : i = j
  · subst c
    by_cases hl : i < Γ.length
    · rw [List.getElem?_set_self hl] at q
      cases q
      exact ⟨v, List.getElem?_set_self (by rw [← h.len]; exact hl), g⟩
    · rw [List.getElem?_eq_none (by simp; omega)] at q
      cases q
  · rw [List.getElem?_set_ne c] at q
    obtain ⟨u, h1, h2⟩ := h.get j e q
    exact ⟨u, by rw [List.getElem?_set_ne c]; exact h1, h2⟩
theorem EnvR.wipe1 {K : PySem.W.Frag} {F : Hp} {Γ : Env} {σ : St} (h : EnvR K F Γ σ) {i : Nat} : EnvR K F (Γ.set i none) (σ.set i none) := by
  refine ⟨by simp [h.len], fun j e q => ?_⟩
  by_cases c : i = j
  · subst c
    by_cases hl : i < Γ.length
    · rw [List.getElem?_set_self hl] at q
      cases q
    · rw [List.getElem?_eq_none (by simp; omega)] at q
      cases q
  · rw [List.getElem?_set_ne c] at q
    obtain ⟨u, h1, h2⟩ := h.get j e q
    exact ⟨u, by rw [List.getElem?_set_ne c]; exact h1, h2⟩
def wipeD (Γ : Env) : List Nat → Env
  | [] => Γ
  | v :: vs => (wipeD Γ vs).set v none
theorem EnvR.wipe {K : PySem.W.Frag} {F : Hp} {Γ : Env} {σ : St} (h : EnvR K F Γ σ) : ∀ vs : List Nat, EnvR K F (wipeD Γ vs) (L2.wipe σ vs)
  | [] => h
  | v :: vs => (EnvR.wipe h vs).wipe1

/-- what is to hold behind: the value, the exception -/
def KeepV (K : PySem.W.Frag) (S : Hp) (F : Hp) (k : DK) (Q : VK) : Prop := ∀ d M', k d M' → ∀ H' v, R K M' S H' → Ex F (hid M' S H') → DV K (hid M' S H') d v → Q v H'
def KeepX (K : PySem.W.Frag) (S : Hp) (F : Hp) (kx : XKd) (E : XK) : Prop := ∀ x M', kx x M' → ∀ H' c o, R K M' S H' → Ex F (hid M' S H') → XR K (hid M' S H') x c o → E c o H'
def KeepE (K : PySem.W.Frag) (S : Hp) (F : Hp) (k : Env → Mh → Prop) (Q : St → Hp → Prop) : Prop := ∀ Γ' M', k Γ' M' → ∀ H' σ', R K M' S H' → Ex F (hid M' S H') → EnvR K (hid M' S H') Γ' σ' → Q σ' H'
def KeepB (K : PySem.W.Frag) (S : Hp) (F : Hp) (k : Bool → Mh → Prop) (Q : Bool → Hp → Prop) : Prop := ∀ b M', k b M' → ∀ H', R K M' S H' → Ex F (hid M' S H') → Q b H'
def KeepA (K : PySem.W.Frag) (S : Hp) (F : Hp) (k : List D → Mh → Prop) (Q : List V → Hp → Prop) : Prop := ∀ ds M', k ds M' → ∀ H' vs, R K M' S H' → Ex F (hid M' S H') → DVs K (hid M' S H') ds vs → Q vs H'
/-- the reading over values that a reading over data stands for -/
def tI (K : PySem.W.Frag) (E : XK) (m : ME) : TE := fun σ H Q => ∃ M S Γ k kx, R K M S H ∧ EnvR K (hid M S H) Γ σ ∧ m Γ M k kx ∧ KeepV K S (hid M S H) k Q ∧ KeepX K S (hid M S H) kx E
def tT (K : PySem.W.Frag) (E : XK) (m : MT) : TT := fun σ H Q => ∃ M S Γ k kx, R K M S H ∧ EnvR K (hid M S H) Γ σ ∧ m Γ M k kx ∧ KeepB K S (hid M S H) k Q ∧ KeepX K S (hid M S H) kx E
def tA (K : PySem.W.Frag) (E : XK) (m : MA) : TA := fun σ H Q => ∃ M S Γ k kx, R K M S H ∧ EnvR K (hid M S H) Γ σ ∧ m Γ M k kx ∧ KeepA K S (hid M S H) k Q ∧ KeepX K S (hid M S H) kx E
def tSt (K : PySem.W.Frag) (E : XK) (m : MS) : TS := fun D σ H => ∃ M S Γ De kx, R K M S H ∧ EnvR K (hid M S H) Γ σ ∧ m De Γ M kx ∧
  KeepE K S (hid M S H) De.nx D.nx ∧ KeepV K S (hid M S H) De.rt D.rt ∧ KeepE K S (hid M S H) De.bk D.bk ∧ KeepE K S (hid M S H) De.ct D.ct ∧ KeepX K S (hid M S H) kx E
theorem KeepX.ex {K : PySem.W.Frag} {S F F' : Hp} {kx : XKd} {E : XK} (h : KeepX K S F kx E) (e : Ex F F') : KeepX K S F' kx E := fun x M' q H' c o r e' y => h x M' q H' c o r (e.trans e') y
theorem KeepV.ex {K : PySem.W.Frag} {S F F' : Hp} {k : DK} {Q : VK} (h : KeepV K S F k Q) (e : Ex F F') : KeepV K S F' k Q := fun x M' q H' v r e' y => h x M' q H' v r (e.trans e') y
theorem KeepE.ex {K : PySem.W.Frag} {S F F' : Hp} {k : Env → Mh → Prop} {Q : St → Hp → Prop} (h : KeepE K S F k Q) (e : Ex F F') : KeepE K S F' k Q := fun x M' q H' v r e' y => h x M' q H' v r (e.trans e') y
theorem KeepB.ex {K : PySem.W.Frag} {S F F' : Hp} {k : Bool → Mh → Prop} {Q : Bool → Hp → Prop} (h : KeepB K S F k Q) (e : Ex F F') : KeepB K S F' k Q := fun x M' q H' r e' => h x M' q H' r (e.trans e')
theorem KeepA.ex {K : PySem.W.Frag} {S F F' : Hp} {k : List D → Mh → Prop} {Q : List V → Hp → Prop} (h : KeepA K S F k Q) (e : Ex F F') : KeepA K S F' k Q := fun x M' q H' v r e' y => h x M' q H' v r (e.trans e') y
/-- weaker readings -/
theorem pe_le {X : Cx} {e : Expr} {t t' : TE} (h : PE X e t) (i : ∀ σ H Q, t' σ H Q → t σ H Q) : PE X e t' := ⟨fun pins s σ H Q I q => h.run pins s σ H Q I (i σ H Q q)⟩
theorem pt_le {X : Cx} {e : Expr} {t t' : TT} (h : PT X e t) (i : ∀ σ H Q, t' σ H Q → t σ H Q) : PT X e t' := ⟨fun pins s σ H Q I q => h.run pins s σ H Q I (i σ H Q q)⟩
theorem pa_le {X : Cx} {e : List Expr} {t t' : TA} (h : PA X e t) (i : ∀ σ H Q, t' σ H Q → t σ H Q) : PA X e t' := ⟨fun pos pins s σ H Q I q => h.run pos pins s σ H Q I (i σ H Q q)⟩
theorem ps_le {X : Cx} {e : Stmt} {t t' : TS} (h : PS X e t) (i : ∀ D σ H, t' D σ H → t D σ H) : PS X e t' := ⟨fun pins s σ H D I q => h.run pins s σ H D I (i D σ H q)⟩
theorem pss_le {X : Cx} {e : List Stmt} {t t' : TS} (h : PSs X e t) (i : ∀ D σ H, t' D σ H → t D σ H) : PSs X e t' := ⟨fun pins s σ H D I q => h.run pins s σ H D I (i D σ H q)⟩
end DL
namespace DL
open PySem L2

/-! ### sequences among the data -/
def mls : Option MO → Option (List D)
  | some (.lst ds) => some ds
  | _ => none
def lsOf (M : Mh) : D → Option (List D)
  | .lst ds => some ds
  | .ref a => mls (M a)
  | _ => none
theorem mls_some {o : Option MO} {ds : List D} (h : mls o = some ds) : o = some (.lst ds) := by
  unfold mls at h
  split at h
  · cases h; rfl
  · cases h
section
variable {K : PySem.W.Frag} {M : Mh} {S H : Hp} {d : D} {v : V} {ds : List D}
theorem ls_sq (r : R K M S H) (h : DV K (hid M S H) d v) (e : lsOf M d = some ds) : ∃ a vs, v = .ref a ∧ H a = some (.lst vs) ∧ DVs K (hid M S H) ds vs := by
  cases d with
  | lst es =>
    obtain ⟨a, vs, h1, h2, h3⟩ := dv_lst.mp h
    cases e
    exact ⟨a, vs, h1, hid_le _ _ _ _ _ h2, h3⟩
  | ref a =>
    have e1 := dv_ref.mp h
    obtain ⟨u, h1, vs, rfl, h2⟩ := r.chg a _ (mls_some e)
    exact ⟨a, vs, e1, h1, h2⟩
  | non => cases e
  | bl _ => cases e
  | int _ => cases e
  | str _ => cases e
  | ty _ => cases e
  | scr _ => cases e
  | tup _ => cases e
theorem tp_sq (h : DV K (hid M S H) (.tup ds) v) : ∃ a vs, v = .ref a ∧ SqT K H a vs ∧ DVs K (hid M S H) ds vs := by
  obtain ⟨a, vs, h1, h2, h3⟩ := dv_tup.mp h
  exact ⟨a, vs, h1, (hid_le _ _ _).sqT h2, h3⟩
/-- a new list, a new tuple of data -/
theorem new_lst {p : Addr} {vs : List V} (r : R K M S H) (hp : H p = none) (h : DVs K (hid M S H) ds vs) :
    R K M S (upd H p (.lst vs)) ∧ Ex (hid M S H) (hid M S (upd H p (.lst vs))) ∧ DV K (hid M S (upd H p (.lst vs))) (.lst ds) (.ref p) := by
  obtain ⟨h1, h2, h3⟩ := r.new (o := .lst vs) hp
  exact ⟨h1, h2, dv_lst.mpr ⟨p, vs, rfl, h3, DVs.mono h2 _ h⟩⟩
theorem new_tup {p : Addr} {vs : List V} (r : R K M S H) (hp : H p = none) (h : DVs K (hid M S H) ds vs) :
    R K M S (upd H p (.tup vs)) ∧ Ex (hid M S H) (hid M S (upd H p (.tup vs))) ∧ DV K (hid M S (upd H p (.tup vs))) (.tup ds) (.ref p) := by
  obtain ⟨h1, h2, h3⟩ := r.new (o := .tup vs) hp
  exact ⟨h1, h2, dv_tup.mpr ⟨p, vs, rfl, SqT.of h3, DVs.mono h2 _ h⟩⟩
end

/-! ### lifted rules by values -/
def rL1 (K : PySem.W.Frag) (r : D → Mh → DK → Prop) : V → Hp → VK → Prop := fun x H Q => ∃ M S d k, R K M S H ∧ DV K (hid M S H) d x ∧ r d M k ∧ KeepV K S (hid M S H) k Q
def rL2 (K : PySem.W.Frag) (r : D → D → Mh → DK → Prop) : R2 := fun x y H Q => ∃ M S d e k, R K M S H ∧ DV K (hid M S H) d x ∧ DV K (hid M S H) e y ∧ r d e M k ∧ KeepV K S (hid M S H) k Q
def rLc (K : PySem.W.Frag) (r : List D → Mh → DK → Prop) : List V → Hp → VK → Prop := fun xs H Q => ∃ M S ds k, R K M S H ∧ DVs K (hid M S H) ds xs ∧ r ds M k ∧ KeepV K S (hid M S H) k Q
def rLm (K : PySem.W.Frag) (r : D → List D → Mh → DK → Prop) : V → List V → Hp → VK → Prop := fun x xs H Q => ∃ M S d ds k, R K M S H ∧ DV K (hid M S H) d x ∧ DVs K (hid M S H) ds xs ∧ r d ds M k ∧ KeepV K S (hid M S H) k Q
/-- the value d comes, nothing else happens -/
theorem KeepV.now {K : PySem.W.Frag} {M : Mh} {S H : Hp} {k : DK} {Q : VK} {d : D} {v : V} (h : KeepV K S (hid M S H) k Q) (r : R K M S H) (q : k d M) (g : DV K (hid M S H) d v) : Q v H := h d M q H v r (Ex.refl _) g
theorem OpR.sub {X : Cx} {f : Value → Value → Sem Value} {r r' : R2} (h : OpR X f r) (i : ∀ x y H Q, r' x y H Q → r x y H Q) : OpR X f r' := fun pins s σ H x y v u Q I rx ry q => h pins s σ H x y v u Q I rx ry (i x y H Q q)
theorem CallR.sub {X : Cx} {f : Value} {r r' : List V → Hp → VK → Prop} (h : CallR X f r) (i : ∀ xs H Q, r' xs H Q → r xs H Q) : CallR X f r' := fun pins s σ H xs us Q I rx q => h pins s σ H xs us Q I rx (i xs H Q q)
theorem IxR.sub {X : Cx} {r r' : R2} (h : IxR X r) (i : ∀ x y H Q, r' x y H Q → r x y H Q) : IxR X r' := fun a b pins s σ H x y v u Q I rx ry q => h a b pins s σ H x y v u Q I rx ry (i x y H Q q)
theorem MtR.sub {X : Cx} {id : String} {r r' : V → List V → Hp → VK → Prop} (h : MtR X id r) (i : ∀ x xs H Q, r' x xs H Q → r x xs H Q) : MtR X id r' := fun pins s σ H x xs v us Q I rx rs q => h pins s σ H x xs v us Q I rx rs (i x xs H Q q)
theorem SlR.sub {X : Cx} {r r' : V → Option Int → Option Int → Hp → VK → Prop} (h : SlR X r) (i : ∀ x a b H Q, r' x a b H Q → r x a b H Q) : SlR X r' := fun pins s σ H x v vl vu lo hi sl Q I rx hs pl pu q => h pins s σ H x v vl vu lo hi sl Q I rx hs pl pu (i x lo hi H Q q)

/-! ### readings of expressions -/
def mVar (i : Nat) : ME := fun Γ M k _ => ∃ d, Γ[i]? = some (some d) ∧ k d M
def mC (d : D) : ME := fun _ M k _ => k d M
def mOp (r : D → D → Mh → DK → Prop) (ma mb : ME) : ME := fun Γ M k kx => ma Γ M (fun x M1 => mb Γ M1 (fun y M2 => r x y M2 k) kx) kx
def mUn (r : D → Mh → DK → Prop) (ma : ME) : ME := fun Γ M k kx => ma Γ M (fun x M1 => r x M1 k) kx
def mNil : MA := fun _ M k _ => k [] M
def mCons (ma : ME) (mr : MA) : MA := fun Γ M k kx => ma Γ M (fun x M1 => mr Γ M1 (fun xs M2 => k (x :: xs) M2) kx) kx
def mTup (ma : MA) : ME := fun Γ M k kx => ma Γ M (fun ds M1 => ds.length ≤ sizeLine ∧ k (.tup ds) M1) kx
def mLst (ma : MA) : ME := fun Γ M k kx => ma Γ M (fun ds M1 => ds.length ≤ sizeLine ∧ k (.lst ds) M1) kx
/-- a list that is going to be changed -/
def mLstM (ma : MA) : ME := fun Γ M k kx => ma Γ M (fun ds M1 => ds.length ≤ sizeLine ∧ ∀ p, M1 p = none → k (.ref p) (setM M1 p (.lst ds))) kx
def mCB (r : List D → Mh → DK → Prop) (ma : MA) : ME := fun Γ M k kx => ma Γ M (fun ds M1 => r ds M1 k) kx
def mBM (r : D → List D → Mh → DK → Prop) (mo : ME) (ma : MA) : ME := fun Γ M k kx => mo Γ M (fun d M1 => ma Γ M1 (fun ds M2 => r d ds M2 k) kx) kx
def mIf (mt : MT) (ma mb : ME) : ME := fun Γ M k kx => mt Γ M (fun b M1 => if b = true then ma Γ M1 k kx else mb Γ M1 k kx) kx
def mAndV (ma mb : ME) : ME := fun Γ M k kx => ma Γ M (fun x M1 => ∃ c, x = .bl c ∧ if c = true then mb Γ M1 k kx else k (.bl false) M1) kx
def mOrV (ma mb : ME) : ME := fun Γ M k kx => ma Γ M (fun x M1 => ∃ c, x = .bl c ∧ if c = true then k (.bl true) M1 else mb Γ M1 k kx) kx
def mNotV (ma : ME) : ME := fun Γ M k kx => ma Γ M (fun x M1 => ∃ c, x = .bl c ∧ k (.bl (!c)) M1) kx
def mTest (ma : ME) : MT := fun Γ M k kx => ma Γ M (fun x M1 => ∃ c, x = .bl c ∧ k c M1) kx
def mAnd (ma mb : MT) : MT := fun Γ M k kx => ma Γ M (fun c M1 => if c = true then mb Γ M1 k kx else k false M1) kx
def mOr (ma mb : MT) : MT := fun Γ M k kx => ma Γ M (fun c M1 => if c = true then k true M1 else mb Γ M1 k kx) kx
def mNot (ma : MT) : MT := fun Γ M k kx => ma Γ M (fun c M1 => k (!c) M1) kx
def mChain (r r' : D → D → Mh → DK → Prop) (ma mb mc : ME) : ME := fun Γ M k kx => ma Γ M (fun x M1 => mb Γ M1 (fun y M2 => r x y M2 fun z M3 => ∃ c, z = .bl c ∧ if c = true then mc Γ M3 (fun w M4 => r' y w M4 k) kx else k (.bl false) M3) kx) kx
abbrev MP := Env → Mh → (Option Int → Mh → Prop) → XKd → Prop
def mNoPart : MP := fun _ M k _ => k none M
def mPart (ma : ME) : MP := fun Γ M k kx => ma Γ M (fun x M1 => ∃ i, x = .int i ∧ k (some i) M1) kx
def mSl (r : D → Option Int → Option Int → Mh → DK → Prop) (mo : ME) (ml mu : MP) : ME := fun Γ M k kx => mo Γ M (fun d M1 => ml Γ M1 (fun lo M2 => mu Γ M2 (fun hi M3 => r d lo hi M3 k) kx) kx) kx
/-- a call of an own def -/
abbrev MF := List D → Mh → DK → XKd → Prop
def mCall (f : MF) (ma : MA) : ME := fun Γ M k kx => ma Γ M (fun ds M1 => f ds M1 k kx) kx
def mCallK (f : MF) (g : List D → List D → List D) (ma mk : MA) : ME := fun Γ M k kx => ma Γ M (fun ds M1 => mk Γ M1 (fun es M2 => f (g ds es) M2 k kx) kx) kx

section
variable {K : PySem.W.Frag} {E : XK}
theorem tI_op {r : D → D → Mh → DK → Prop} {ma mb : ME} {σ : St} {H : Hp} {Q : VK} (h : tI K E (mOp r ma mb) σ H Q) : tOp (rL2 K r) (tI K E ma) (tI K E mb) σ H Q := by
  obtain ⟨M, S, Γ, k, kx, hr, er, hm, kv, kxx⟩ := h
  refine ⟨M, S, Γ, _, kx, hr, er, hm, fun x M1 q1 H1 v1 r1 e1 d1 => ?_, kxx⟩
  refine ⟨M1, S, Γ, _, kx, r1, er.mono e1, q1, fun y M2 q2 H2 v2 r2 e2 d2 => ?_, kxx.ex e1⟩
  exact ⟨M2, S, x, y, k, r2, d1.mono e2 _, d2, q2, kv.ex (e1.trans e2)⟩
theorem tI_un {r : D → Mh → DK → Prop} {ma : ME} {σ : St} {H : Hp} {Q : VK} (h : tI K E (mUn r ma) σ H Q) : tUn (rL1 K r) (tI K E ma) σ H Q := by
  obtain ⟨M, S, Γ, k, kx, hr, er, hm, kv, kxx⟩ := h
  refine ⟨M, S, Γ, _, kx, hr, er, hm, fun x M1 q1 H1 v1 r1 e1 d1 => ?_, kxx⟩
  exact ⟨M1, S, x, k, r1, d1, q1, kv.ex e1⟩
theorem tA_cons {ma : ME} {mr : MA} {σ : St} {H : Hp} {Q : List V → Hp → Prop} (h : tA K E (mCons ma mr) σ H Q) : tCons (tI K E ma) (tA K E mr) σ H Q := by
  obtain ⟨M, S, Γ, k, kx, hr, er, hm, kv, kxx⟩ := h
  refine ⟨M, S, Γ, _, kx, hr, er, hm, fun x M1 q1 H1 v1 r1 e1 d1 => ?_, kxx⟩
  refine ⟨M1, S, Γ, _, kx, r1, er.mono e1, q1, fun ys M2 q2 H2 v2 r2 e2 d2 => ?_, kxx.ex e1⟩
  exact kv _ M2 q2 H2 _ r2 (e1.trans e2) (dvs_cons.mpr ⟨v1, v2, rfl, d1.mono e2 _, d2⟩)
theorem tI_cb {r : List D → Mh → DK → Prop} {ma : MA} {σ : St} {H : Hp} {Q : VK} (h : tI K E (mCB r ma) σ H Q) : tCB (rLc K r) (tA K E ma) σ H Q := by
  obtain ⟨M, S, Γ, k, kx, hr, er, hm, kv, kxx⟩ := h
  refine ⟨M, S, Γ, _, kx, hr, er, hm, fun xs M1 q1 H1 v1 r1 e1 d1 => ?_, kxx⟩
  exact ⟨M1, S, xs, k, r1, d1, q1, kv.ex e1⟩
/-- the promise of a def by its reading over data -/
def spI (K : PySem.W.Frag) (f : MF) : Sp := fun vs H Q E => ∃ M S ds k kx, R K M S H ∧ DVs K (hid M S H) ds vs ∧ f ds M k kx ∧ KeepV K S (hid M S H) k Q ∧ KeepX K S (hid M S H) kx E
theorem tI_call {f : MF} {ma : MA} {σ : St} {H : Hp} {Q : VK} (h : tI K E (mCall f ma) σ H Q) : tCall (spI K f) [] E (tA K E ma) σ H Q := by
  obtain ⟨M, S, Γ, k, kx, hr, er, hm, kv, kxx⟩ := h
  refine ⟨M, S, Γ, _, kx, hr, er, hm, fun xs M1 q1 H1 v1 r1 e1 d1 => ?_, kxx⟩
  exact ⟨M1, S, xs, k, kx, r1, by rw [List.append_nil]; exact d1, q1, kv.ex e1, kxx.ex e1⟩
end

section
variable {X : Cx} {E : XK} {a b c : Expr} {ma mb mc : ME} {pos : Pos} {mt mt' : MT} {rest : List Expr}
theorem de_var (i : Nat) {x : Str} (hN : X.N[i]? = some x := by rfl) (hv : Vis X.env.scope x := by first | exact Or.inl rfl | exact Or.inr (Or.inl rfl) | exact Or.inr (Or.inr rfl)) (hd : (x == ("__debug__" : Str)) = false := by decide)
    (hcd : (x == ("__classdict__" : Str)) = false := by decide) : PE X (.Name x pos) (tI X.K E (mVar i)) := by
  refine pe_le (pe_var hN hv hd hcd) fun σ H Q h => ?_
  obtain ⟨M, S, Γ, k, kx, hr, er, ⟨d, e, hm⟩, kv, _⟩ := h
  obtain ⟨v, h1, h2⟩ := er.get i d e
  exact ⟨v, h1, kv.now hr hm h2⟩
theorem de_c {v : V} {d : D} (h : PE X a (tC v)) (g : ∀ F, DV X.K F d v) : PE X a (tI X.K E (mC d)) := by
  refine pe_le h fun σ H Q h => ?_
  obtain ⟨M, S, Γ, k, kx, hr, er, hm, kv, _⟩ := h
  exact kv.now hr hm (g _)
theorem de_int {i : Int} {j} : PE X (.Constant (.int i) j pos) (tI X.K E (mC (.int i))) := de_c pe_int fun _ => dv_int.mpr rfl
theorem de_bl {i : Bool} {j} : PE X (.Constant (.bool i) j pos) (tI X.K E (mC (.bl i))) := de_c pe_bl fun _ => dv_bl.mpr rfl
theorem de_non {j} : PE X (.Constant .none j pos) (tI X.K E (mC .non)) := de_c pe_non fun _ => dv_non.mpr rfl
theorem de_str {i : Str} {j} : PE X (.Constant (.str i) j pos) (tI X.K E (mC (.str i))) := de_c pe_str fun _ => dv_str.mpr rfl
theorem de_op {op : Operator} {r : D → D → Mh → DK → Prop} (ho : OpR X (binaryOp op) (rL2 X.K r)) (ha : PE X a (tI X.K E ma)) (hb : PE X b (tI X.K E mb)) : PE X (.BinOp a op b pos) (tI X.K E (mOp r ma mb)) :=
  pe_le (pe_op ho ha hb) fun _ _ _ h => tI_op h
theorem de_un {op : UnaryOp} {r : D → Mh → DK → Prop} (ho : UnR X (unaryOp op) (rL1 X.K r)) (ha : PE X a (tI X.K E ma)) : PE X (.UnaryOp op a pos) (tI X.K E (mUn r ma)) :=
  pe_le (pe_un ho ha) fun _ _ _ h => tI_un h
theorem de_cmp {op : CmpOp} {r : D → D → Mh → DK → Prop} (ho : OpR X (compareOp op) (rL2 X.K r)) (ha : PE X a (tI X.K E ma)) (hb : PE X b (tI X.K E mb)) (hm : behindInMarks op b = false) : PE X (.Compare a [op] [b] pos) (tI X.K E (mOp r ma mb)) :=
  pe_le (pe_cmpR ho ha hb hm) fun _ _ _ h => tI_op h
/-- a test by its value, a bool -/
theorem tT_test {m : ME} {σ : St} {H : Hp} {Q : Bool → Hp → Prop} (h : tT X.K E (mTest m) σ H Q) : tI X.K E m σ H fun x H1 => ∃ c, x = .bl c ∧ Q c H1 := by
  obtain ⟨M, S, Γ, k, kx, hr, er, hm, kv, kxx⟩ := h
  refine ⟨M, S, Γ, _, kx, hr, er, hm, fun x M1 q1 H1 v1 r1 e1 d1 => ?_, kxx⟩
  obtain ⟨c, rfl, q⟩ := q1
  exact ⟨c, dv_bl.mp d1, kv c M1 q H1 r1 e1⟩
theorem dt_cmp {op : CmpOp} {r : D → D → Mh → DK → Prop} (ho : OpR X (compareOp op) (rL2 X.K r)) (ha : PE X a (tI X.K E ma)) (hb : PE X b (tI X.K E mb)) (hm : behindInMarks op b = false) : PT X (.Compare a [op] [b] pos) (tT X.K E (mTest (mOp r ma mb))) :=
  pt_le (pt_cmpR ho ha hb hm) fun _ _ _ h => tI_op (tT_test h)
theorem dt_val (ha : PE X a (tI X.K E ma)) (he : ∀ whole, isTrue a X.env whole = (do let v ← whole; standAt a.pos; holding [v] (truthy v)) := by intro _; rfl) : PT X a (tT X.K E (mTest ma)) :=
  pt_le (pt_val ha he) fun _ _ _ h => tT_test h
theorem dt_not (ha : PT X a (tT X.K E mt)) : PT X (.UnaryOp .Not a pos) (tT X.K E (mNot mt)) :=
  pt_le (pt_not ha) fun _ _ _ ⟨M, S, Γ, k, kx, hr, er, hm, kv, kxx⟩ => ⟨M, S, Γ, _, kx, hr, er, hm, fun b M1 q H1 r1 e1 => kv _ M1 q H1 r1 e1, kxx⟩
theorem pw_le {X : Cx} {e : Expr} {t t' : TT} (h : PW X e t) (i : ∀ σ H Q, t' σ H Q → t σ H Q) : PW X e t' := ⟨fun wh pins s σ H Q I q => h.run wh pins s σ H Q I (i σ H Q q)⟩
theorem dw_and1 (ha : PT X a (tT X.K E mt)) : PW X (.BoolOp .And [a] pos) (tT X.K E mt) := pw_and1 ha
theorem dw_or1 (ha : PT X a (tT X.K E mt)) : PW X (.BoolOp .Or [a] pos) (tT X.K E mt) := pw_or1 ha
theorem dw_and (ha : PT X a (tT X.K E mt)) (hb : PW X (.BoolOp .And (b :: rest) pos) (tT X.K E mt')) : PW X (.BoolOp .And (a :: b :: rest) pos) (tT X.K E (mAnd mt mt')) := by
  refine pw_le (pw_and ha hb) fun σ H Q ⟨M, S, Γ, k, kx, hr, er, hm, kv, kxx⟩ => ?_
  refine ⟨M, S, Γ, _, kx, hr, er, hm, fun c M1 q1 H1 r1 e1 => ?_, kxx⟩
  cases c with
  | true => exact ⟨M1, S, Γ, k, kx, r1, er.mono e1, q1, kv.ex e1, kxx.ex e1⟩
  | false => exact kv _ M1 q1 H1 r1 e1
theorem dw_or (ha : PT X a (tT X.K E mt)) (hb : PW X (.BoolOp .Or (b :: rest) pos) (tT X.K E mt')) : PW X (.BoolOp .Or (a :: b :: rest) pos) (tT X.K E (mOr mt mt')) := by
  refine pw_le (pw_or ha hb) fun σ H Q ⟨M, S, Γ, k, kx, hr, er, hm, kv, kxx⟩ => ?_
  refine ⟨M, S, Γ, _, kx, hr, er, hm, fun c M1 q1 H1 r1 e1 => ?_, kxx⟩
  cases c with
  | true => exact kv _ M1 q1 H1 r1 e1
  | false => exact ⟨M1, S, Γ, k, kx, r1, er.mono e1, q1, kv.ex e1, kxx.ex e1⟩
theorem de_one {op} (h : PE X a (tI X.K E ma)) : PE X (.BoolOp op [a] pos) (tI X.K E ma) := pe_one h
theorem de_and (ha : PE X a (tI X.K E ma)) (hb : PE X (.BoolOp .And (b :: rest) pos) (tI X.K E mb)) : PE X (.BoolOp .And (a :: b :: rest) pos) (tI X.K E (mAndV ma mb)) := by
  refine pe_le (pe_and ha hb) fun σ H Q ⟨M, S, Γ, k, kx, hr, er, hm, kv, kxx⟩ => ?_
  refine ⟨M, S, Γ, _, kx, hr, er, hm, fun x M1 ⟨c, ex, q1⟩ H1 v1 r1 e1 d1 => ?_, kxx⟩
  subst ex
  refine ⟨c, dv_bl.mp d1, ?_⟩
  cases c with
  | true => exact ⟨M1, S, Γ, k, kx, r1, er.mono e1, q1, kv.ex e1, kxx.ex e1⟩
  | false => exact kv _ M1 q1 H1 _ r1 e1 (dv_bl.mpr rfl)
theorem de_or (ha : PE X a (tI X.K E ma)) (hb : PE X (.BoolOp .Or (b :: rest) pos) (tI X.K E mb)) : PE X (.BoolOp .Or (a :: b :: rest) pos) (tI X.K E (mOrV ma mb)) := by
  refine pe_le (pe_or ha hb) fun σ H Q ⟨M, S, Γ, k, kx, hr, er, hm, kv, kxx⟩ => ?_
  refine ⟨M, S, Γ, _, kx, hr, er, hm, fun x M1 ⟨c, ex, q1⟩ H1 v1 r1 e1 d1 => ?_, kxx⟩
  subst ex
  refine ⟨c, dv_bl.mp d1, ?_⟩
  cases c with
  | true => exact kv _ M1 q1 H1 _ r1 e1 (dv_bl.mpr rfl)
  | false => exact ⟨M1, S, Γ, k, kx, r1, er.mono e1, q1, kv.ex e1, kxx.ex e1⟩
theorem de_not (ha : PE X a (tI X.K E ma)) : PE X (.UnaryOp .Not a pos) (tI X.K E (mNotV ma)) := by
  refine pe_le (pe_not ha) fun σ H Q ⟨M, S, Γ, k, kx, hr, er, hm, kv, kxx⟩ => ?_
  refine ⟨M, S, Γ, _, kx, hr, er, hm, fun x M1 ⟨c, ex, q1⟩ H1 v1 r1 e1 d1 => ?_, kxx⟩
  subst ex
  exact ⟨c, dv_bl.mp d1, kv _ M1 q1 H1 _ r1 e1 (dv_bl.mpr rfl)⟩
theorem de_if (hc : PT X c (tT X.K E mt)) (ha : PE X a (tI X.K E ma)) (hb : PE X b (tI X.K E mb)) : PE X (.IfExp c a b pos) (tI X.K E (mIf mt ma mb)) := by
  refine pe_le (pe_ifExp hc ha hb) fun σ H Q ⟨M, S, Γ, k, kx, hr, er, hm, kv, kxx⟩ => ?_
  refine ⟨M, S, Γ, _, kx, hr, er, hm, fun c M1 q1 H1 r1 e1 => ?_, kxx⟩
  cases c with
  | true => exact ⟨M1, S, Γ, k, kx, r1, er.mono e1, q1, kv.ex e1, kxx.ex e1⟩
  | false => exact ⟨M1, S, Γ, k, kx, r1, er.mono e1, q1, kv.ex e1, kxx.ex e1⟩
theorem tI_chain {r r' : D → D → Mh → DK → Prop} {σ : St} {H : Hp} {Q : VK} (h : tI X.K E (mChain r r' ma mb mc) σ H Q) : tChain (rL2 X.K r) (rL2 X.K r') (tI X.K E ma) (tI X.K E mb) (tI X.K E mc) σ H Q := by
  obtain ⟨M, S, Γ, k, kx, hr, er, hm, kv, kxx⟩ := h
  refine ⟨M, S, Γ, _, kx, hr, er, hm, fun x M1 q1 H1 v1 r1 e1 d1 => ?_, kxx⟩
  refine ⟨M1, S, Γ, _, kx, r1, er.mono e1, q1, fun y M2 q2 H2 v2 r2 e2 d2 => ?_, kxx.ex e1⟩
  refine ⟨M2, S, x, y, _, r2, d1.mono e2 _, d2, q2, fun z M3 ⟨c, ez, q3⟩ H3 v3 r3 e3 d3 => ?_⟩
  subst ez
  refine ⟨c, dv_bl.mp d3, ?_⟩
  have e13 := (e1.trans e2).trans e3
  cases c with
  | true =>
    refine ⟨M3, S, Γ, _, kx, r3, er.mono e13, q3, fun w M4 q4 H4 v4 r4 e4 d4 => ?_, kxx.ex e13⟩
    exact ⟨M4, S, y, w, k, r4, d2.mono (e3.trans e4) _, d4, q4, kv.ex (e13.trans e4)⟩
  | false => exact kv _ M3 q3 H3 _ r3 e13 (dv_bl.mpr rfl)
theorem de_chain {op op' : CmpOp} {r r' : D → D → Mh → DK → Prop} (ho : OpR X (compareOp op) (rL2 X.K r)) (ho' : OpR X (compareOp op') (rL2 X.K r')) (ha : PE X a (tI X.K E ma)) (hb : PE X b (tI X.K E mb)) (hc : PE X c (tI X.K E mc))
    (hm : lastMarks [op, op'] [b, c] = false := by with_unfolding_all rfl) : PE X (.Compare a [op, op'] [b, c] pos) (tI X.K E (mChain r r' ma mb mc)) := pe_le (pe_chain ho ho' ha hb hc hm) fun _ _ _ h => tI_chain h
theorem dt_chain {op op' : CmpOp} {r r' : D → D → Mh → DK → Prop} (ho : OpR X (compareOp op) (rL2 X.K r)) (ho' : OpR X (compareOp op') (rL2 X.K r')) (ha : PE X a (tI X.K E ma)) (hb : PE X b (tI X.K E mb)) (hc : PE X c (tI X.K E mc))
    (hm : lastMarks [op, op'] [b, c] = false := by with_unfolding_all rfl) : PT X (.Compare a [op, op'] [b, c] pos) (tT X.K E (mTest (mChain r r' ma mb mc))) := pt_le (pt_chain ho ho' ha hb hc hm) fun _ _ _ h => tI_chain (tT_test h)

/-! arguments, displays -/
variable {es : List Expr} {mA : MA} {e : Expr}
theorem da_nil : PA X [] (tA X.K E mNil) := pa_le pa_nil fun σ H Q ⟨M, S, Γ, k, kx, hr, er, hm, kv, kxx⟩ => kv [] M hm H [] hr (Ex.refl _) (dvs_nil.mpr rfl)
theorem da_cons (ha : PE X e (tI X.K E ma)) (hr : PA X es (tA X.K E mA)) (hs : starEach (e :: es) X.env = (false, eval e X.env) :: starEach es X.env := by rfl) : PA X (e :: es) (tA X.K E (mCons ma mA)) :=
  pa_le (pa_cons ha hr hs) fun _ _ _ h => tA_cons h
theorem de_tup {x1} (h : PA X es (tA X.K E mA)) : PE X (.Tuple es x1 pos) (tI X.K E (mTup mA)) := by
  refine pe_le (pe_tup h) fun σ H Q ⟨M, S, Γ, k, kx, hr, er, hm, kv, kxx⟩ => ?_
  refine ⟨M, S, Γ, _, kx, hr, er, hm, fun ds M1 q1 H1 vs r1 e1 d1 => ?_, kxx⟩
  refine ⟨by rw [← d1.length]; exact q1.1, fun p hp => ?_⟩
  obtain ⟨h1, h2, h3⟩ := new_tup r1 hp d1
  exact kv _ M1 q1.2 _ _ h1 (e1.trans h2) h3
theorem de_lst (h : PA X es (tA X.K E mA)) : PE X (.List es pos) (tI X.K E (mLst mA)) := by
  refine pe_le (pe_lst h) fun σ H Q ⟨M, S, Γ, k, kx, hr, er, hm, kv, kxx⟩ => ?_
  refine ⟨M, S, Γ, _, kx, hr, er, hm, fun ds M1 q1 H1 vs r1 e1 d1 => ?_, kxx⟩
  refine ⟨by rw [← d1.length]; exact q1.1, fun p hp => ?_⟩
  obtain ⟨h1, h2, h3⟩ := new_lst r1 hp d1
  exact kv _ M1 q1.2 _ _ h1 (e1.trans h2) h3
theorem de_lstM (h : PA X es (tA X.K E mA)) : PE X (.List es pos) (tI X.K E (mLstM mA)) := by
  refine pe_le (pe_lst h) fun σ H Q ⟨M, S, Γ, k, kx, hr, er, hm, kv, kxx⟩ => ?_
  refine ⟨M, S, Γ, _, kx, hr, er, hm, fun ds M1 q1 H1 vs r1 e1 d1 => ?_, kxx⟩
  refine ⟨by rw [← d1.length]; exact q1.1, fun p hp => ?_⟩
  refine kv _ _ (q1.2 p (r1.freeM hp)) _ _ (r1.put (.inr hp) ⟨vs, rfl, d1⟩) ?_ (dv_ref.mpr rfl)
  rw [hid_set _ _ _ _ _ _ (.inr hp)]
  exact e1
/-! subscripts, slices -/
theorem de_ix {r : D → D → Mh → DK → Prop} (hr : IxR X (rL2 X.K r)) (ha : PE X a (tI X.K E ma)) (hb : PE X b (tI X.K E mb)) (hs : PlainIx b) : PE X (.Subscript a b pos) (tI X.K E (mOp r ma mb)) :=
  pe_le (pe_ix hr ha hb hs) fun _ _ _ h => tI_op h
abbrev tP (K : PySem.W.Frag) (E : XK) (m : MP) : TO := fun σ H Q => ∃ M S Γ k kx, R K M S H ∧ EnvR K (hid M S H) Γ σ ∧ m Γ M k kx ∧ (∀ o M', k o M' → ∀ H', R K M' S H' → Ex (hid M S H) (hid M' S H') → Q o H') ∧ KeepX K S (hid M S H) kx E
theorem po_le {X : Cx} {e : Option Expr} {t t' : TO} (h : PO X e t) (i : ∀ σ H Q, t' σ H Q → t σ H Q) : PO X e t' := ⟨fun pins s σ H Q I q => h.run pins s σ H Q I (i σ H Q q)⟩
theorem dp_none : PO X none (tP X.K E mNoPart) := po_le po_none fun σ H Q ⟨M, S, Γ, k, kx, hr, er, hm, kv, kxx⟩ => kv none M hm H hr (Ex.refl _)
theorem dp_some (h : PE X a (tI X.K E ma)) : PO X (some a) (tP X.K E (mPart ma)) := po_le (po_some h) fun σ H Q ⟨M, S, Γ, k, kx, hr, er, hm, kv, kxx⟩ =>
  ⟨M, S, Γ, _, kx, hr, er, hm, fun x M1 ⟨i, ex, q1⟩ H1 v1 r1 e1 d1 => ⟨i, by subst ex; exact dv_int.mp d1, kv _ M1 q1 H1 r1 e1⟩, kxx⟩
theorem de_slice {r : D → Option Int → Option Int → Mh → DK → Prop} {lo hi : Option Expr} {ml mh : MP} {p2 : Pos}
    (hr : SlR X (fun x l u H Q => ∃ M S d k, R X.K M S H ∧ DV X.K (hid M S H) d x ∧ r d l u M k ∧ KeepV X.K S (hid M S H) k Q)) (he : PE X a (tI X.K E ma)) (hl : PO X lo (tP X.K E ml)) (hu : PO X hi (tP X.K E mh)) :
    PE X (.Subscript a (.Slice lo hi none p2) pos) (tI X.K E (mSl r ma ml mh)) := by
  refine pe_le (pe_slice hr he hl hu) fun σ H Q ⟨M, S, Γ, k, kx, hr, er, hm, kv, kxx⟩ => ?_
  refine ⟨M, S, Γ, _, kx, hr, er, hm, fun x M1 q1 H1 v1 r1 e1 d1 => ?_, kxx⟩
  refine ⟨M1, S, Γ, _, kx, r1, er.mono e1, q1, fun l M2 q2 H2 r2 e2 => ?_, kxx.ex e1⟩
  refine ⟨M2, S, Γ, _, kx, r2, er.mono (e1.trans e2), q2, fun u M3 q3 H3 r3 e3 => ?_, kxx.ex (e1.trans e2)⟩
  exact ⟨M3, S, x, k, r3, d1.mono (e2.trans e3) _, q3, kv.ex ((e1.trans e2).trans e3)⟩
/-! calls -/
variable {x : Str} {p : Pos}
theorem de_callB {id : String} {r : List D → Mh → DK → Prop} (hc : CallR X (.builtin id) (rLc X.K r)) (hg : Gl X x) (hm : X.mg x = none) (hv : bootBuiltins x = some (.builtin id)) (ha : PA X (e :: es) (tA X.K E mA)) (hn : x ≠ "__name__" := by decide) (hdb : (x == ("__debug__" : Str)) = false := by decide)
    (he : starEach (e :: es) X.env = (false, eval e X.env) :: starEach es X.env := by rfl) (hpl : (backTo pos (starEach es X.env)).any (·.1) = false := by rfl) : PE X (.Call (.Name x p) (e :: es) [] pos) (tI X.K E (mCB r mA)) :=
  pe_le (pe_callB hc hg hm hv ha hn hdb he hpl) fun _ _ _ h => tI_cb h
theorem de_callTy {T : String} {r : List D → Mh → DK → Prop} (hc : CallR X (.type T) (rLc X.K r)) (hg : Gl X x) (hm : X.mg x = none) (hv : bootBuiltins x = some (.type T)) (ha : PA X (e :: es) (tA X.K E mA)) (hn : x ≠ "__name__" := by decide) (hdb : (x == ("__debug__" : Str)) = false := by decide)
    (he : starEach (e :: es) X.env = (false, eval e X.env) :: starEach es X.env := by rfl) (hpl : (backTo pos (starEach es X.env)).any (·.1) = false := by rfl) : PE X (.Call (.Name x p) (e :: es) [] pos) (tI X.K E (mCB r mA)) :=
  pe_le (pe_callTy hc hg hm hv ha hn hdb he hpl) fun _ _ _ h => tI_cb h
theorem de_call {CX : CXT} {k : Nat} {f : Addr} {fd : FuncData} {ps : List Str} {m : MF} (F : FnOk X.prog X.w X.K X.mg X.base CX k f fd ps (spI X.K m)) (hr : Room k X.A) (hg : Gl X x) (hm : X.mg x = some (.ref f)) (hk : PySem.W.keepIn X.K (.ref f) = true) (hb : Binds X.K fd ps []) (hx : Passes CX X E)
    (ha : PA X (e :: es) (tA X.K E mA)) (hdb : (x == ("__debug__" : Str)) = false := by decide) (he : starEach (e :: es) X.env = (false, eval e X.env) :: starEach es X.env := by rfl) (hpl : (backTo pos (starEach es X.env)).any (·.1) = false := by rfl) :
    PE X (.Call (.Name x p) (e :: es) [] pos) (tI X.K E (mCall m mA)) := pe_le (pe_call F hr hg hm hk hb .nil hx ha hdb he hpl) fun _ _ _ h => tI_call h
end
end DL
namespace DL
open PySem L2
section
variable {X : Cx}
/-! ### arithmetic, + of texts, lists, tuples -/
def dAdd (d e : D) (M : Mh) (k : DK) : Prop := match d, e with
  | .int i, .int j => k (.int (i + j)) M
  | .str s, .str t => s.length + t.length ≤ sizeLine ∧ k (.str (s ++ t)) M
  | .tup xs, .tup ys => xs.length + ys.length ≤ sizeLine ∧ k (.tup (xs ++ ys)) M
  | d, e => ∃ xs ys, lsOf M d = some xs ∧ lsOf M e = some ys ∧ xs.length + ys.length ≤ sizeLine ∧ k (.lst (xs ++ ys)) M
theorem do_add : OpR X (binaryOp .Add) (rL2 X.K dAdd) := by
  refine OpR.sub (op_add.or (op_add_str.or (op_catA.or op_cat))) fun x y H Q ⟨M, S, d, e, k, r, hd, he, h, kv⟩ => ?_
  unfold dAdd at h
  split at h
  · exact .inl ⟨_, _, dv_int.mp hd, dv_int.mp he, kv.now r h (dv_int.mpr rfl)⟩
  · exact .inr (.inl ⟨_, _, dv_str.mp hd, dv_str.mp he, h.1, kv.now r h.2 (dv_str.mpr rfl)⟩)
  · rename_i xs ys
    obtain ⟨a, vs, rfl, h1, h2⟩ := tp_sq hd
    obtain ⟨b, us, rfl, g1, g2⟩ := tp_sq he
    refine .inr (.inr (.inl ⟨a, b, vs, us, rfl, rfl, h1, g1, by rw [← h2.length, ← g2.length]; exact h.1, fun e => ?_, fun _ e => ?_, fun _ _ p hp => ?_⟩))
    · subst e
      have : xs = [] := List.eq_nil_of_length_eq_zero h2.length
      subst this
      exact kv.now r h.2 he
    · subst e
      have : ys = [] := List.eq_nil_of_length_eq_zero g2.length
      subst this
      rw [List.append_nil] at h
      exact kv.now r h.2 hd
    · obtain ⟨q1, q2, q3⟩ := new_tup r hp (h2.append g2)
      exact kv _ M h.2 _ _ q1 q2 q3
  · obtain ⟨xs, ys, e1, e2, hz, h⟩ := h
    obtain ⟨a, vs, rfl, h1, h2⟩ := ls_sq r hd e1
    obtain ⟨b, us, rfl, g1, g2⟩ := ls_sq r he e2
    refine .inr (.inr (.inr ⟨a, b, vs, us, rfl, rfl, h1, g1, by rw [← h2.length, ← g2.length]; exact hz, fun p hp => ?_⟩))
    obtain ⟨q1, q2, q3⟩ := new_lst r hp (h2.append g2)
    exact kv _ M h _ _ q1 q2 q3
/-- ints alone -/
def dI2 (C : Int → Int → Prop) (g : Int → Int → D) (d e : D) (M : Mh) (k : DK) : Prop := ∃ i j, d = .int i ∧ e = .int j ∧ C i j ∧ k (g i j) M
theorem do_I {f : Value → Value → Sem Value} {C : Int → Int → Prop} {g : Int → Int → V} {g' : Int → Int → D} (h : OpR X f (rI C g)) (hg : ∀ F i j, DV X.K F (g' i j) (g i j)) : OpR X f (rL2 X.K (dI2 C g')) :=
  OpR.sub h fun x y H Q ⟨M, S, d, e, k, r, hd, he, ⟨i, j, e1, e2, hc, q⟩, kv⟩ => by
    subst e1 e2
    exact ⟨i, j, dv_int.mp hd, dv_int.mp he, hc, kv.now r q (hg _ i j)⟩
theorem do_I0 {f : Value → Value → Sem Value} {g : Int → Int → V} {g' : Int → Int → D} (h : OpR X f (rI0 g)) (hg : ∀ F i j, DV X.K F (g' i j) (g i j)) : OpR X f (rL2 X.K (dI2 (fun _ _ => True) g')) :=
  OpR.sub h fun x y H Q ⟨M, S, d, e, k, r, hd, he, ⟨i, j, e1, e2, hc, q⟩, kv⟩ => by
    subst e1 e2
    exact ⟨i, j, dv_int.mp hd, dv_int.mp he, kv.now r q (hg _ i j)⟩
abbrev dSub := dI2 (fun _ _ => True) fun i j => .int (i - j)
theorem do_sub : OpR X (binaryOp .Sub) (rL2 X.K dSub) := do_I0 op_sub fun _ _ _ => dv_int.mpr rfl
abbrev dMod := dI2 (fun _ j => 0 < j) fun i j => .int (i % j)
theorem do_mod : OpR X (binaryOp .Mod) (rL2 X.K dMod) := do_I op_mod fun _ _ _ => dv_int.mpr rfl
abbrev dDiv := dI2 CDiv fun i j => .int (i / j)
theorem do_div : OpR X (binaryOp .FloorDiv) (rL2 X.K dDiv) := do_I op_fdiv fun _ _ _ => dv_int.mpr rfl
abbrev dPow := dI2 CPow fun i j => .int (i ^ j.toNat)
theorem do_pow : OpR X (binaryOp .Pow) (rL2 X.K dPow) := do_I op_pow fun _ _ _ => dv_int.mpr rfl
abbrev dLt := dI2 (fun _ _ => True) fun i j => .bl (decide (i < j))
theorem do_lt : OpR X (compareOp .Lt) (rL2 X.K dLt) := do_I0 op_lt fun _ _ _ => dv_bl.mpr rfl
abbrev dLe := dI2 (fun _ _ => True) fun i j => .bl (decide (i ≤ j))
theorem do_le : OpR X (compareOp .LtE) (rL2 X.K dLe) := do_I0 op_le fun _ _ _ => dv_bl.mpr rfl
abbrev dGt := dI2 (fun _ _ => True) fun i j => .bl (decide (j < i))
theorem do_gt : OpR X (compareOp .Gt) (rL2 X.K dGt) := do_I0 op_gt fun _ _ _ => dv_bl.mpr rfl
abbrev dGe := dI2 (fun _ _ => True) fun i j => .bl (decide (j ≤ i))
theorem do_ge : OpR X (compareOp .GtE) (rL2 X.K dGe) := do_I0 op_ge fun _ _ _ => dv_bl.mpr rfl
/-- text * int -/
def repS (s : Str) (n : Int) : Str := ⟨(List.replicate n.toNat s.cps).foldl (· ++ ·) #[]⟩
theorem rep_size (a : Array Nat) : ∀ (n : Nat) (b : Array Nat), ((List.replicate n a).foldl (· ++ ·) b).size = b.size + n * a.size
  | 0, b => by simp
  | n + 1, b => by
    rw [List.replicate_succ, List.foldl_cons, rep_size a n, Array.size_append, Nat.succ_mul]
    omega
theorem op_mul_str : OpR X (binaryOp .Mult) (fun x y H Q => ∃ z j, x = .str z ∧ y = .int j ∧ 1 < j ∧ j < 1000 ∧ 0 < z.length ∧ z.length ≤ 1000 ∧ Q (.str (repS z j)) H) := by
  intro pins s σ H x y v u Q I rx ry h
  obtain ⟨z, j, rfl, rfl, h1, h2, h3, h4, q⟩ := h
  obtain ⟨t, rfl⟩ := rx
  obtain ⟨t', rfl⟩ := ry
  have hn1 : ¬ j < 1 := by omega
  have hne : (j == 1 || z.length == 0) = false := by
    rw [Bool.or_eq_false_iff]
    exact ⟨beq_eq_false_iff_ne.mpr (by omega), beq_eq_false_iff_ne.mpr (by omega)⟩
  have hl : z.length * j.toNat ≤ 1000 * 1000 := Nat.mul_le_mul h4 (by omega)
  have hsz : PySem.Builtin.Str.tooLong (z.length * j.toNat) = false := by
    unfold PySem.Builtin.Str.tooLong
    have : sizeLine = 16777216 := rfl
    simp only [decide_eq_false_iff_not]
    omega
  refine PySem.P.mul_str ?_ (fun _ _ => ?_) (fun _ _ => hsz) ?_
  · rw [Bool.or_eq_false_iff]
    exact ⟨decide_eq_false (by omega), decide_eq_false (by omega)⟩
  · have : (2 ^ 63 - 1 : Int) / j ≥ 1000 := by
      refine (Int.le_ediv_iff_mul_le (by omega)).mpr ?_
      omega
    omega
  · rw [if_neg hn1, if_neg (by rw [hne]; decide)]
    refine ⟨?_, ⟨.str (repS z j), H, I.tok _, ⟨_, rfl⟩, q⟩⟩
    have e : (⟨(List.replicate j.toNat z.cps).foldl (· ++ ·) #[]⟩ : Str).length = z.length * j.toNat := by
      show ((List.replicate j.toNat z.cps).foldl (· ++ ·) #[]).size = z.cps.size * j.toNat
      rw [rep_size]
      simp [Nat.mul_comm]
    rw [e]
    have : sizeLine = 16777216 := rfl
    omega
def dMul (d e : D) (M : Mh) (k : DK) : Prop := match d, e with
  | .int i, .int j => CMul i j ∧ k (.int (i * j)) M
  | .str z, .int j => 1 < j ∧ j < 1000 ∧ 0 < z.length ∧ z.length ≤ 1000 ∧ k (.str (repS z j)) M
  | d, e => ∃ xs j, lsOf M d = some xs ∧ e = .int j ∧ -(2 ^ 63) ≤ j ∧ j < 2 ^ 63 ∧ xs.length * j.toNat ≤ sizeLine ∧ k (.lst (List.replicate j.toNat xs).flatten) M
theorem DVs.rep {K : PySem.W.Frag} {F : Hp} {ds : List D} {vs : List V} (h : DVs K F ds vs) : ∀ n : Nat, DVs K F (List.replicate n ds).flatten (List.replicate n vs).flatten
  | 0 => dvs_nil.mpr rfl
  | n + 1 => by
    rw [List.replicate_succ, List.replicate_succ, List.flatten_cons, List.flatten_cons]
    exact h.append (DVs.rep h n)
theorem do_mul : OpR X (binaryOp .Mult) (rL2 X.K dMul) := by
  refine OpR.sub (op_mul.or (op_mul_str.or op_rep)) fun x y H Q ⟨M, S, d, e, k, r, hd, he, h, kv⟩ => ?_
  unfold dMul at h
  split at h
  · exact .inl ⟨_, _, dv_int.mp hd, dv_int.mp he, h.1, kv.now r h.2 (dv_int.mpr rfl)⟩
  · exact .inr (.inl ⟨_, _, dv_str.mp hd, dv_int.mp he, h.1, h.2.1, h.2.2.1, h.2.2.2.1, kv.now r h.2.2.2.2 (dv_str.mpr rfl)⟩)
  · obtain ⟨xs, j, e1, rfl, h1, h2, h3, h⟩ := h
    obtain ⟨a, vs, rfl, g1, g2⟩ := ls_sq r hd e1
    refine .inr (.inr ⟨a, j, vs, rfl, dv_int.mp he, g1, h1, h2, by rw [← g2.length]; exact h3, fun p hp => ?_⟩)
    obtain ⟨q1, q2, q3⟩ := new_lst r hp (g2.rep j.toNat)
    exact kv _ M h _ _ q1 q2 q3
abbrev dNeg (d : D) (M : Mh) (k : DK) : Prop := ∃ i, d = .int i ∧ k (.int (-i)) M
theorem du_neg : UnR X (unaryOp .USub) (rL1 X.K dNeg) := fun pins s σ H x v Q I rx ⟨M, S, d, k, r, hd, ⟨i, e, q⟩, kv⟩ =>
  un_neg pins s σ H x v Q I rx ⟨i, by subst e; exact dv_int.mp hd, kv.now r q (dv_int.mpr rfl)⟩

/-! ### == and != -/
mutual
def toPy : D → Option PyData
  | .non => some .none
  | .bl b => some (.bool b)
  | .int i => some (.int i)
  | .str s => some (.str s)
  | .tup ds => (toPys ds).map .tuple
  | .lst ds => (toPys ds).map .list
  | .ref _ => none
  | .ty _ => none
  | .scr _ => none
def toPys : List D → Option (List PyData)
  | [] => some []
  | d :: ds => match toPy d, toPys ds with
    | some x, some xs => some (x :: xs)
    | _, _ => none
end
mutual
theorem dp_of {K : PySem.W.Frag} {F H : Hp} (e : Ex F H) : ∀ (d : D) {v : V} {x : PyData}, DV K F d v → toPy d = some x → Dp K H v x
  | .non, _, _, h, q => by rw [dv_non] at h; subst h; cases q; exact .non
  | .bl _, _, _, h, q => by rw [dv_bl] at h; subst h; cases q; exact .bl _
  | .int _, _, _, h, q => by rw [dv_int] at h; subst h; cases q; exact .int _
  | .str _, _, _, h, q => by rw [dv_str] at h; subst h; cases q; exact .str _
  | .ref _, _, _, _, q => by cases q
  | .ty _, _, _, _, q => by cases q
  | .scr _, _, _, _, q => by cases q
  | .tup ds, _, _, h, q => by
    obtain ⟨a, vs, rfl, h2, h3⟩ := dv_tup.mp h
    rw [toPy] at q
    cases e1 : toPys ds with
    | none => rw [e1] at q; cases q
    | some xs =>
      rw [e1] at q
      cases q
      exact .tup (e.sqT h2) (dps_of e ds h3 e1)
  | .lst ds, _, _, h, q => by
    obtain ⟨a, vs, rfl, h2, h3⟩ := dv_lst.mp h
    rw [toPy] at q
    cases e1 : toPys ds with
    | none => rw [e1] at q; cases q
    | some xs =>
      rw [e1] at q
      cases q
      exact .lst (SqL.of (e _ _ h2)) (dps_of e ds h3 e1)
theorem dps_of {K : PySem.W.Frag} {F H : Hp} (e : Ex F H) : ∀ (ds : List D) {vs : List V} {xs : List PyData}, DVs K F ds vs → toPys ds = some xs → DpAll K H vs xs
  | [], _, _, h, q => by rw [dvs_nil] at h; subst h; rw [toPys] at q; cases q; exact .nil
  | d :: ds, _, _, h, q => by
    obtain ⟨v, r, rfl, h2, h3⟩ := dvs_cons.mp h
    rw [toPys] at q
    cases e1 : toPy d with
    | none => rw [e1] at q; cases q
    | some x =>
      cases e2 : toPys ds with
      | none => rw [e1, e2] at q; cases q
      | some xs =>
        rw [e1, e2] at q
        cases q
        exact .cons (dp_of e d h2 e1) (dps_of e ds h3 e2)
end
/-- plain things, told apart at once -/
def eqS : D → D → Option Bool
  | .str a, .str b => some (decide (a = b))
  | .int a, .int b => some (decide (a = b))
  | .bl a, .bl b => some (decide (a = b))
  | .non, .non => some true
  | .non, .str _ => some false | .str _, .non => some false
  | .non, .int _ => some false | .int _, .non => some false
  | .non, .bl _ => some false | .bl _, .non => some false
  | .int _, .str _ => some false | .str _, .int _ => some false
  | .bl _, .str _ => some false | .str _, .bl _ => some false
  | _, _ => none
def Deep (d : D) (x : PyData) : Prop := toPy d = some x ∧ SeqAt.shaped x = true
def dEqB (neg : Bool) (d e : D) (M : Mh) (k : DK) : Prop := match eqS d e with
  | some b => k (.bl (if neg then !b else b)) M
  | none => ∃ x y, Deep d x ∧ Deep e y ∧ k (.bl (if neg then !(PyData.eqv x y) else PyData.eqv x y)) M
abbrev dEq := dEqB false
abbrev dNe := dEqB true
theorem eqS_of {K : PySem.W.Frag} {F : Hp} {d e : D} {x y : V} {b : Bool} (hd : DV K F d x) (he : DV K F e y) (h : eqS d e = some b) : scal x y = true ∧ decide (x = y) = b := by
  cases d <;> cases e <;> first
    | (cases h; done)
    | (rw [eqS] at h; cases h; simp only [dv_non, dv_bl, dv_int, dv_str] at hd he; subst hd he; exact ⟨rfl, by simp⟩)
theorem do_eq (hu : X.A.units + 64 < cLine) : OpR X (compareOp .Eq) (rL2 X.K dEq) := by
  refine OpR.sub (op_eq.or (op_eqD hu)) fun x y H Q ⟨M, S, d, e, k, r, hd, he, h, kv⟩ => ?_
  unfold dEq dEqB at h
  split at h
  · rename_i b q
    obtain ⟨h1, h2⟩ := eqS_of hd he q
    exact .inl ⟨h1, by rw [h2]; exact kv.now r h (dv_bl.mpr rfl)⟩
  · obtain ⟨u, w, ⟨h1, h2⟩, ⟨h3, h4⟩, h⟩ := h
    exact .inr ⟨u, w, dp_of (hid_le _ _ _) d hd h1, dp_of (hid_le _ _ _) e he h3, h2, h4, kv.now r h (dv_bl.mpr rfl)⟩
theorem do_ne (hu : X.A.units + 64 < cLine) : OpR X (compareOp .NotEq) (rL2 X.K dNe) := by
  refine OpR.sub (op_ne.or (op_neD hu)) fun x y H Q ⟨M, S, d, e, k, r, hd, he, h, kv⟩ => ?_
  unfold dNe dEqB at h
  split at h
  · rename_i b q
    obtain ⟨h1, h2⟩ := eqS_of hd he q
    exact .inl ⟨h1, by rw [h2]; exact kv.now r h (dv_bl.mpr rfl)⟩
  · obtain ⟨u, w, ⟨h1, h2⟩, ⟨h3, h4⟩, h⟩ := h
    exact .inr ⟨u, w, dp_of (hid_le _ _ _) d hd h1, dp_of (hid_le _ _ _) e he h3, h2, h4, kv.now r h (dv_bl.mpr rfl)⟩
/-! ### is -/
def isNon : D → Bool
  | .non => true
  | _ => false
def dIsB (neg : Bool) (d e : D) (M : Mh) (k : DK) : Prop := match e with
  | .non => k (.bl (if neg then !isNon d else isNon d)) M
  | .bl b => ∃ a, d = .bl a ∧ k (.bl (if neg then !decide (a = b) else decide (a = b))) M
  | _ => False
abbrev dIs := dIsB false
abbrev dIsNot := dIsB true
theorem non_iff {K : PySem.W.Frag} {F : Hp} {d : D} {x : V} (h : DV K F d x) : decide (x = .non) = isNon d := by
  cases d with
  | tup ds => obtain ⟨a, vs, rfl, _⟩ := dv_tup.mp h; simp [isNon]
  | lst ds => obtain ⟨a, vs, rfl, _⟩ := dv_lst.mp h; simp [isNon]
  | scr ds => obtain ⟨a, rfl, _⟩ := dv_scr.mp h; simp [isNon]
  | non => rw [dv_non] at h; subst h; simp [isNon]
  | bl _ => rw [dv_bl] at h; subst h; simp [isNon]
  | int _ => rw [dv_int] at h; subst h; simp [isNon]
  | str _ => rw [dv_str] at h; subst h; simp [isNon]
  | ty _ => rw [dv_ty] at h; subst h; simp [isNon]
  | ref _ => rw [dv_ref] at h; subst h; simp [isNon]
theorem do_is : OpR X (compareOp .Is) (rL2 X.K dIs) := by
  refine OpR.sub (op_isN.or op_isBl) fun x y H Q ⟨M, S, d, e, k, r, hd, he, h, kv⟩ => ?_
  unfold dIs dIsB at h
  split at h
  · exact .inl ⟨dv_non.mp he, by rw [non_iff hd]; exact kv.now r h (dv_bl.mpr rfl)⟩
  · obtain ⟨a, rfl, h⟩ := h
    exact .inr ⟨a, _, dv_bl.mp hd, dv_bl.mp he, kv.now r h (dv_bl.mpr rfl)⟩
  · exact h.elim
theorem do_isNot : OpR X (compareOp .IsNot) (rL2 X.K dIsNot) := by
  refine OpR.sub (op_notN.or op_notBl) fun x y H Q ⟨M, S, d, e, k, r, hd, he, h, kv⟩ => ?_
  unfold dIsNot dIsB at h
  split at h
  · exact .inl ⟨dv_non.mp he, by rw [non_iff hd]; exact kv.now r h (dv_bl.mpr rfl)⟩
  · obtain ⟨a, rfl, h⟩ := h
    exact .inr ⟨a, _, dv_bl.mp hd, dv_bl.mp he, kv.now r h (dv_bl.mpr rfl)⟩
  · exact h.elim
/-! ### in -/
def flat : D → Bool
  | .non => true | .bl _ => true | .int _ => true | .str _ => true | _ => false
/-- == of flat data -/
def eqF : D → D → Bool
  | .non, .non => true
  | .bl a, .bl b => a == b
  | .bl a, .int b => (if a then 1 else 0) == b
  | .int a, .bl b => a == (if b then 1 else 0)
  | .int a, .int b => a == b
  | .str a, .str b => a == b
  | _, _ => false
def inF (d : D) (ds : List D) : Bool := ds.any fun e => eqF e d
def sqOf (M : Mh) : D → Option (List D)
  | .tup ds => some ds
  | d => lsOf M d
def dInB (neg : Bool) (d e : D) (M : Mh) (k : DK) : Prop := match d, e with
  | .str s, .str z => ∃ c, s = ⟨#[c]⟩ ∧ k (.bl (if neg then !decide (c ∈ z.cps.toList) else decide (c ∈ z.cps.toList))) M
  | d, e => ∃ ds, sqOf M e = some ds ∧ flat d = true ∧ ds.all flat = true ∧ k (.bl (if neg then !inF d ds else inF d ds)) M
abbrev dIn := dInB false
abbrev dNotIn := dInB true
theorem sq_of {K : PySem.W.Frag} {M : Mh} {S H : Hp} {d : D} {v : V} {ds : List D} (r : R K M S H) (h : DV K (hid M S H) d v) (e : sqOf M d = some ds) : ∃ a vs, v = .ref a ∧ (SqL K H a vs ∨ SqT K H a vs) ∧ DVs K (hid M S H) ds vs := by
  cases d with
  | tup es =>
    cases e
    obtain ⟨a, vs, h1, h2, h3⟩ := tp_sq h
    exact ⟨a, vs, h1, .inr h2, h3⟩
  | lst es => obtain ⟨a, vs, h1, h2, h3⟩ := ls_sq r h e; exact ⟨a, vs, h1, .inl (SqL.of h2), h3⟩
  | ref es => obtain ⟨a, vs, h1, h2, h3⟩ := ls_sq r h e; exact ⟨a, vs, h1, .inl (SqL.of h2), h3⟩
  | non => cases e
  | bl _ => cases e
  | int _ => cases e
  | str _ => cases e
  | ty _ => cases e
  | scr _ => cases e
theorem flat_of {K : PySem.W.Frag} {F : Hp} {d : D} {v : V} (h : DV K F d v) (f : flat d = true) : flatV v = true := by
  cases d <;> first
    | (exact absurd (show false = true from f) Bool.false_ne_true)
    | (simp only [dv_non, dv_bl, dv_int, dv_str] at h; subst h; rfl)
theorem eqF_of {K : PySem.W.Frag} {F : Hp} {d e : D} {v u : V} (h : DV K F d v) (g : DV K F e u) (f : flat d = true) (f' : flat e = true) : eqV v u = eqF d e := by
  cases d <;> first
    | (exact absurd (show false = true from f) Bool.false_ne_true)
    | (cases e <;> first
        | (exact absurd (show false = true from f') Bool.false_ne_true)
        | (simp only [dv_non, dv_bl, dv_int, dv_str] at h g; subst h g; rfl))
theorem inF_of {K : PySem.W.Frag} {F : Hp} {d : D} {v : V} (h : DV K F d v) (f : flat d = true) : ∀ {ds : List D} {vs : List V}, DVs K F ds vs → ds.all flat = true → vs.all flatV = true ∧ inV v vs = inF d ds
  | [], _, g, _ => by rw [dvs_nil] at g; subst g; exact ⟨rfl, rfl⟩
  | e :: es, _, g, q => by
    obtain ⟨u, r, rfl, h2, h3⟩ := dvs_cons.mp g
    rw [List.all_cons, Bool.and_eq_true] at q
    obtain ⟨i1, i2⟩ := inF_of h f h3 q.2
    refine ⟨by rw [List.all_cons, flat_of h2 q.1, i1]; rfl, ?_⟩
    unfold inV inF at i2 ⊢
    rw [List.any_cons, List.any_cons, eqF_of h2 h q.1 f, i2]
theorem do_in : OpR X (compareOp .In) (rL2 X.K dIn) := by
  refine OpR.sub (op_in_sign.or op_in_seq) fun x y H Q ⟨M, S, d, e, k, r, hd, he, h, kv⟩ => ?_
  unfold dIn dInB at h
  split at h
  · obtain ⟨c, rfl, h⟩ := h
    exact .inl ⟨c, _, dv_str.mp hd, dv_str.mp he, kv.now r h (dv_bl.mpr rfl)⟩
  · obtain ⟨ds, e1, f, fs, h⟩ := h
    obtain ⟨a, vs, rfl, h2, h3⟩ := sq_of r he e1
    obtain ⟨i1, i2⟩ := inF_of hd f h3 fs
    exact .inr ⟨a, vs, rfl, h2, flat_of hd f, i1, by rw [i2]; exact kv.now r h (dv_bl.mpr rfl)⟩
theorem do_notIn : OpR X (compareOp .NotIn) (rL2 X.K dNotIn) := by
  refine OpR.sub (op_notIn_sign.or op_notIn_seq) fun x y H Q ⟨M, S, d, e, k, r, hd, he, h, kv⟩ => ?_
  unfold dNotIn dInB at h
  split at h
  · obtain ⟨c, rfl, h⟩ := h
    exact .inl ⟨c, _, dv_str.mp hd, dv_str.mp he, kv.now r h (dv_bl.mpr rfl)⟩
  · obtain ⟨ds, e1, f, fs, h⟩ := h
    obtain ⟨a, vs, rfl, h2, h3⟩ := sq_of r he e1
    obtain ⟨i1, i2⟩ := inF_of hd f h3 fs
    exact .inr ⟨a, vs, rfl, h2, flat_of hd f, i1, by rw [i2]; exact kv.now r h (dv_bl.mpr rfl)⟩
/-! ### x[i], x[i:j] -/
def dIx (d e : D) (M : Mh) (k : DK) : Prop := match d with
  | .str z => ∃ i c, e = .int i ∧ z.length ≤ sizeLine ∧ atI z.cps.toList i = some c ∧ k (.str ⟨#[c]⟩) M
  | d => ∃ i ds x, e = .int i ∧ sqOf M d = some ds ∧ atI ds i = some x ∧ k x M
theorem atI_of {K : PySem.W.Frag} {F : Hp} {ds : List D} {vs : List V} {i : Int} {d : D} (h : DVs K F ds vs) (e : atI ds i = some d) : ∃ v, atI vs i = some v ∧ DV K F d v := by
  unfold atI at e ⊢
  rw [h.length] at e
  cases q : ixN vs.length i with
  | none => rw [q] at e; cases e
  | some j =>
    rw [q] at e
    exact h.get (i := j) e
theorem dx_seq : IxR X (rL2 X.K dIx) := by
  refine IxR.sub ix_seq fun x y H Q ⟨M, S, d, e, k, r, hd, he, h, kv⟩ => ?_
  unfold dIx at h
  split at h
  · obtain ⟨i, c, rfl, hz, h1, h⟩ := h
    exact .inr (.inr ⟨_, i, c, dv_str.mp hd, dv_int.mp he, hz, h1, kv.now r h (dv_str.mpr rfl)⟩)
  · obtain ⟨i, ds, z, rfl, e1, e2, h⟩ := h
    obtain ⟨a, vs, rfl, h2, h3⟩ := sq_of r hd e1
    obtain ⟨v, g1, g2⟩ := atI_of h3 e2
    rcases h2 with h2 | h2
    · exact .inl ⟨a, vs, i, v, rfl, dv_int.mp he, h2, g1, kv.now r h g2⟩
    · exact .inr (.inl ⟨a, vs, i, v, rfl, dv_int.mp he, h2, g1, kv.now r h g2⟩)
def cutD (xs : List D) (lo hi : Option Int) : List D := (xs.drop (HT.sIx xs.length 0 lo)).take (HT.sIx xs.length xs.length hi - HT.sIx xs.length 0 lo)
theorem cut_of {K : PySem.W.Frag} {F : Hp} {ds : List D} {vs : List V} (lo hi : Option Int) (h : DVs K F ds vs) : DVs K F (cutD ds lo hi) (cutV vs lo hi) := by
  unfold cutD cutV
  rw [h.length]
  exact (h.drop _).take _
theorem dvs_ints {K : PySem.W.Frag} {F : Hp} : ∀ ns : List Int, DVs K F (ns.map D.int) (ns.map V.int)
  | [] => dvs_nil.mpr rfl
  | n :: ns => dvs_cons.mpr ⟨.int n, _, rfl, dv_int.mpr rfl, dvs_ints ns⟩
def dSlice (d : D) (lo hi : Option Int) (M : Mh) (k : DK) : Prop := match d with
  | .str z => z.length ≤ sizeLine ∧ k (.str (cutS z lo hi)) M
  | .tup ds => k (.tup (cutD ds lo hi)) M
  | .scr ns => k (.lst (cutD (ns.map D.int) lo hi)) M
  | d => ∃ ds, lsOf M d = some ds ∧ k (.lst (cutD ds lo hi)) M
theorem ds_slice : SlR X (fun x l u H Q => ∃ M S d k, R X.K M S H ∧ DV X.K (hid M S H) d x ∧ dSlice d l u M k ∧ KeepV X.K S (hid M S H) k Q) := by
  refine SlR.sub (sl_str.or (sl_tupA.or sl_list)) fun x lo hi H Q ⟨M, S, d, k, r, hd, h, kv⟩ => ?_
  unfold dSlice at h
  split at h
  · exact .inl ⟨_, dv_str.mp hd, h.1, kv.now r h.2 (dv_str.mpr rfl)⟩
  · rename_i ds
    obtain ⟨a, vs, rfl, h2, h3⟩ := tp_sq hd
    refine .inr (.inl ⟨a, vs, rfl, h2, fun e => ?_, fun _ p hp => ?_⟩)
    · have e1 : cutD ds lo hi = ds := by
        unfold cutD
        rw [h3.length, e.1, e.2, List.drop_zero, Nat.sub_zero, ← h3.length, List.take_length]
      rw [e1] at h
      exact kv.now r h hd
    · obtain ⟨q1, q2, q3⟩ := new_tup r hp (cut_of lo hi h3)
      exact kv _ M h _ _ q1 q2 q3
  · obtain ⟨a, rfl, h2⟩ := dv_scr.mp hd
    refine .inr (.inr ⟨a, _, rfl, (hid_le _ _ _).sqL h2, fun p hp => ?_⟩)
    obtain ⟨q1, q2, q3⟩ := new_lst r hp (cut_of lo hi (dvs_ints _))
    exact kv _ M h _ _ q1 q2 q3
  · obtain ⟨ds, e1, h⟩ := h
    obtain ⟨a, vs, rfl, h2, h3⟩ := ls_sq r hd e1
    refine .inr (.inr ⟨a, vs, rfl, SqL.of h2, fun p hp => ?_⟩)
    obtain ⟨q1, q2, q3⟩ := new_lst r hp (cut_of lo hi h3)
    exact kv _ M h _ _ q1 q2 q3
/-! ### built-in calls -/
def cLen (ds : List D) (M : Mh) (k : DK) : Prop := ∃ d, ds = [d] ∧ match d with
  | .str z => z.length ≤ sizeLine ∧ k (.int z.length) M
  | d => ∃ es, sqOf M d = some es ∧ k (.int es.length) M
theorem dc_one {K : PySem.W.Frag} {F : Hp} {d : D} {vs : List V} (h : DVs K F [d] vs) : ∃ v, vs = [v] ∧ DV K F d v := by
  obtain ⟨v, r, rfl, h2, h3⟩ := dvs_cons.mp h
  rw [dvs_nil] at h3
  subst h3
  exact ⟨v, rfl, h2⟩
theorem dc_two {K : PySem.W.Frag} {F : Hp} {d e : D} {vs : List V} (h : DVs K F [d, e] vs) : ∃ v u, vs = [v, u] ∧ DV K F d v ∧ DV K F e u := by
  obtain ⟨v, r, rfl, h2, h3⟩ := dvs_cons.mp h
  obtain ⟨u, rfl, h4⟩ := dc_one h3
  exact ⟨v, u, rfl, h2, h4⟩
theorem dc_len : CallR X (.builtin "len") (rLc X.K cLen) := by
  refine CallR.sub (call_len_str.or call_len_seq) fun xs H Q ⟨M, S, ds, k, r, hd, ⟨d, e, h⟩, kv⟩ => ?_
  subst e
  obtain ⟨v, rfl, hv⟩ := dc_one hd
  split at h
  · exact .inl ⟨_, by rw [dv_str.mp hv], h.1, kv.now r h.2 (dv_int.mpr rfl)⟩
  · obtain ⟨es, e1, h⟩ := h
    obtain ⟨a, vs, rfl, h2, h3⟩ := sq_of r hv e1
    exact .inr ⟨a, vs, rfl, h2, by rw [← h3.length]; exact kv.now r h (dv_int.mpr rfl)⟩
def blsOf : List D → Option (List Bool)
  | [] => some []
  | .bl b :: r => (blsOf r).map (b :: ·)
  | _ => none
theorem bls_of {K : PySem.W.Frag} {F : Hp} : ∀ {ds : List D} {vs : List V} {bs : List Bool}, DVs K F ds vs → blsOf ds = some bs → vs = bs.map V.bl
  | [], _, _, h, e => by rw [dvs_nil] at h; subst h; cases e; rfl
  | d :: ds, _, _, h, e => by
    obtain ⟨v, r, rfl, h2, h3⟩ := dvs_cons.mp h
    cases d <;> first | (cases e; done) | skip
    rw [blsOf] at e
    cases q : blsOf ds with
    | none => rw [q] at e; cases e
    | some cs =>
      rw [q] at e
      cases e
      rw [dv_bl.mp h2, bls_of h3 q]
      rfl
def cAll (ds : List D) (M : Mh) (k : DK) : Prop := ∃ d es bs, ds = [d] ∧ lsOf M d = some es ∧ blsOf es = some bs ∧ k (.bl (bs.all id)) M
def cAny (ds : List D) (M : Mh) (k : DK) : Prop := ∃ d es bs, ds = [d] ∧ lsOf M d = some es ∧ blsOf es = some bs ∧ k (.bl (bs.any id)) M
theorem dc_all (hc : X.calm = true) : CallR X (.builtin "all") (rLc X.K cAll) := by
  refine CallR.sub (cr_all hc) fun xs H Q ⟨M, S, ds, k, r, hd, ⟨d, es, bs, e, e1, e2, h⟩, kv⟩ => ?_
  subst e
  obtain ⟨v, rfl, hv⟩ := dc_one hd
  obtain ⟨a, vs, rfl, h2, h3⟩ := ls_sq r hv e1
  exact ⟨a, bs, rfl, by rw [← bls_of h3 e2]; exact SqL.of h2, kv.now r h (dv_bl.mpr rfl)⟩
theorem dc_any (hc : X.calm = true) : CallR X (.builtin "any") (rLc X.K cAny) := by
  refine CallR.sub (cr_any hc) fun xs H Q ⟨M, S, ds, k, r, hd, ⟨d, es, bs, e, e1, e2, h⟩, kv⟩ => ?_
  subst e
  obtain ⟨v, rfl, hv⟩ := dc_one hd
  obtain ⟨a, vs, rfl, h2, h3⟩ := ls_sq r hv e1
  exact ⟨a, bs, rfl, by rw [← bls_of h3 e2]; exact SqL.of h2, kv.now r h (dv_bl.mpr rfl)⟩
def cInt (ds : List D) (M : Mh) (k : DK) : Prop := ∃ i, ds = [.int i] ∧ k (.int i) M
theorem dc_int : CallR X (.type "int") (rLc X.K cInt) := CallR.sub call_int1 fun xs H Q ⟨M, S, ds, k, r, hd, ⟨i, e, h⟩, kv⟩ => by
  subst e
  obtain ⟨v, rfl, hv⟩ := dc_one hd
  exact .inl ⟨i, by rw [dv_int.mp hv], kv.now r h (dv_int.mpr rfl)⟩
def cAbs (ds : List D) (M : Mh) (k : DK) : Prop := ∃ i, ds = [.int i] ∧ k (.int (if i < 0 then -i else i)) M
theorem dc_abs : CallR X (.builtin "abs") (rLc X.K cAbs) := CallR.sub call_abs fun xs H Q ⟨M, S, ds, k, r, hd, ⟨i, e, h⟩, kv⟩ => by
  subst e
  obtain ⟨v, rfl, hv⟩ := dc_one hd
  exact ⟨i, by rw [dv_int.mp hv], kv.now r h (dv_int.mpr rfl)⟩
def cMin (ds : List D) (M : Mh) (k : DK) : Prop := ∃ i j, ds = [.int i, .int j] ∧ k (.int (if j < i then j else i)) M
theorem dc_min (hc : X.calm = true) : CallR X (.builtin "min") (rLc X.K cMin) := CallR.sub (call_min2 hc) fun xs H Q ⟨M, S, ds, k, r, hd, ⟨i, j, e, h⟩, kv⟩ => by
  subst e
  obtain ⟨v, u, rfl, hv, he⟩ := dc_two hd
  exact ⟨i, j, by rw [dv_int.mp hv, dv_int.mp he], kv.now r h (dv_int.mpr rfl)⟩
def cList (ds : List D) (M : Mh) (k : DK) : Prop := ∃ d es, ds = [d] ∧ sqOf M d = some es ∧ k (.lst es) M
theorem dc_list : CallR X (.type "list") (rLc X.K cList) := CallR.sub call_list_of fun xs H Q ⟨M, S, ds, k, r, hd, ⟨d, es, e, e1, h⟩, kv⟩ => by
  subst e
  obtain ⟨v, rfl, hv⟩ := dc_one hd
  obtain ⟨a, vs, rfl, h2, h3⟩ := sq_of r hv e1
  refine ⟨a, vs, rfl, h2, fun p hp => ?_⟩
  obtain ⟨q1, q2, q3⟩ := new_lst r hp h3
  exact kv _ M h _ _ q1 q2 q3
def cTuple (ds : List D) (M : Mh) (k : DK) : Prop := ∃ d es, ds = [d] ∧ sqOf M d = some es ∧ k (.tup es) M
theorem dc_tuple : CallR X (.type "tuple") (rLc X.K cTuple) := CallR.sub call_tuple_of fun xs H Q ⟨M, S, ds, k, r, hd, ⟨d, es, e, e1, h⟩, kv⟩ => by
  subst e
  obtain ⟨v, rfl, hv⟩ := dc_one hd
  have g := hv
  obtain ⟨a, vs, rfl, h2, h3⟩ := sq_of r hv e1
  refine ⟨a, vs, rfl, ?_⟩
  rcases h2 with h2 | h2
  · refine .inl ⟨h2, fun p hp => ?_⟩
    obtain ⟨q1, q2, q3⟩ := new_tup r hp h3
    exact kv _ M h _ _ q1 q2 q3
  · refine .inr ⟨h2, ?_⟩
    cases d with
    | tup fs => cases e1; exact kv.now r h g
    | lst fs =>
      obtain ⟨b, us, eb, h4, h5⟩ := ls_sq r g e1
      cases eb
      rcases h2 with (h2 | ⟨o, h2⟩) | ⟨o, _, _, hk, _⟩
      · rw [h4] at h2; cases h2
      · rw [h4] at h2; cases h2
      · exact kv _ M h _ _ r (Ex.refl _) (dv_tup.mpr ⟨a, vs, rfl, .inr ⟨o, _, _, hk, ‹_›⟩, h3⟩)
    | ref fs =>
      obtain ⟨b, us, eb, h4, h5⟩ := ls_sq r g e1
      cases eb
      rcases h2 with (h2 | ⟨o, h2⟩) | ⟨o, _, _, hk, _⟩
      · rw [h4] at h2; cases h2
      · rw [h4] at h2; cases h2
      · exact kv _ M h _ _ r (Ex.refl _) (dv_tup.mpr ⟨a, vs, rfl, .inr ⟨o, _, _, hk, ‹_›⟩, h3⟩)
    | non => cases e1
    | bl _ => cases e1
    | int _ => cases e1
    | str _ => cases e1
    | ty _ => cases e1
    | scr _ => cases e1
end
end DL
namespace DL
open PySem L2
/-! ### isinstance -/
def tyM : Option MO → String
  | some .box => "list"
  | some (.lst _) => "list"
  | some (.dct _) => "dict"
  | _ => "?"
def tyN (M : Mh) : D → String
  | .non => "NoneType" | .bl _ => "bool" | .int _ => "int" | .str _ => "str" | .tup _ => "tuple" | .lst _ => "list" | .ref a => tyM (M a) | .ty _ => "?" | .scr _ => "?"
def tys : List String := ["NoneType", "bool", "int", "str", "tuple", "list", "dict"]
def isiB (a b : String) : Bool := decide (a = b) || (decide (a = "bool") && decide (b = "int"))
theorem kit_tab : ∀ a ∈ tys, ∀ b ∈ tys, kitB a b = some (isiB a b) := by decide +kernel
theorem ty_of {K : PySem.W.Frag} {M : Mh} {S H : Hp} {d : D} {v : V} (r : R K M S H) (h : DV K (hid M S H) d v) (e : tyN M d ∈ tys) : TyX K H v (.type (tyN M d)) := by
  cases d with
  | non => rw [dv_non.mp h]; exact .base .non
  | bl _ => rw [dv_bl.mp h]; exact .base (.bl _)
  | int _ => rw [dv_int.mp h]; exact .base (.int _)
  | str _ => rw [dv_str.mp h]; exact .base (.str _)
  | ty _ => exact absurd e (by show ¬ "?" ∈ tys; decide)
  | scr _ => exact absurd e (by show ¬ "?" ∈ tys; decide)
  | tup ds =>
    obtain ⟨a, vs, rfl, h2, h3⟩ := tp_sq h
    rcases h2 with (h2 | ⟨o, h2⟩) | ⟨o, _, _, hk, hc, _⟩
    · exact .base (.tup h2)
    · exact .fTuple h2
    · exact .kTuple hk hc
  | lst ds =>
    obtain ⟨a, vs, rfl, h2, h3⟩ := dv_lst.mp h
    exact .base (.lst (hid_le _ _ _ _ _ h2))
  | ref a =>
    rw [dv_ref.mp h]
    have e' : tyM (M a) ∈ tys := e
    show TyX K H (.ref a) (.type (tyM (M a)))
    cases q : M a with
    | none => rw [q] at e'; exact absurd e' (by show ¬ "?" ∈ tys; decide)
    | some o =>
      obtain ⟨u, h1, h2⟩ := r.chg a o q
      cases o with
      | box => obtain ⟨vs, rfl, _⟩ := h2; exact .base (.lst h1)
      | lst _ => obtain ⟨vs, rfl, _⟩ := h2; exact .base (.lst h1)
      | dct _ => obtain ⟨vs, rfl, _⟩ := h2; exact .base (.dK h1)
      | ins _ _ => rw [q] at e'; exact absurd e' (by show ¬ "?" ∈ tys; decide)
section
variable {X : Cx} {E : XK} {a : Expr} {ma : ME} {pos p p2 : Pos}
def dIsi (n : String) (d : D) (M : Mh) (k : DK) : Prop := tyN M d ∈ tys ∧ k (.bl (isiB (tyN M d) n)) M
/-- isinstance(x, T), T a built-in class -/
theorem de_isi {T : Str} {n : String} (hg : Gl X "isinstance") (hm : X.mg "isinstance" = none) (ha : PE X a (tI X.K E ma)) (hgT : Gl X T) (hmT : X.mg T = none) (hv : bootBuiltins T = some (.type n)) (hn : n ∈ tys) (hnn : T ≠ "__name__" := by decide) (hd : (T == ("__debug__" : Str)) = false := by decide)
    (hs : starEach [a, .Name T p2] X.env = (false, eval a X.env) :: starEach [.Name T p2] X.env := by rfl) (hs2 : starEach [.Name T p2] X.env = [(false, eval (.Name T p2) X.env)] := by rfl) (hpl : (backTo pos (starEach [.Name T p2] X.env)).any (·.1) = false := by rfl) :
    PE X (.Call (.Name "isinstance" p) [a, .Name T p2] [] pos) (tI X.K E (mUn (dIsi n) ma)) := by
  refine pe_le (pe_callB call_isi hg hm (by decide +kernel) (pa_cons ha (pa_cons (pe_bltn (v := .ty n) hgT hmT hv rfl hnn hd) pa_nil (by exact hs2)) hs) (by decide) (by decide) hs hpl) fun σ H Q ⟨M, S, Γ, k, kx, hr, er, hm, kv, kxx⟩ => ?_
  refine ⟨M, S, Γ, _, kx, hr, er, hm, fun d M1 q1 H1 v1 r1 e1 d1 => ?_, kxx⟩
  exact ⟨v1, .ty n, _, _, _, rfl, .ty n, ty_of r1 d1 q1.1, kit_ty (kit_tab _ q1.1 _ hn), kv _ M1 q1.2 H1 _ r1 e1 (dv_bl.mpr rfl)⟩
def dIsi2 (n m : String) (d : D) (M : Mh) (k : DK) : Prop := tyN M d ∈ tys ∧ k (.bl (isiB (tyN M d) n || isiB (tyN M d) m)) M
/-- isinstance(x, (T, U)) -/
theorem de_isi2 {T U : Str} {n m : String} {p3 p4 : Pos} {kk : Nat} (hg : Gl X "isinstance") (hm : X.mg "isinstance" = none) (ha : PE X a (tI X.K E ma)) (hgT : Gl X T) (hmT : X.mg T = none) (hv : bootBuiltins T = some (.type n)) (hn : n ∈ tys)
    (hgU : Gl X U) (hmU : X.mg U = none) (hvU : bootBuiltins U = some (.type m)) (hnU : m ∈ tys) (hnn : T ≠ "__name__" := by decide) (hd : (T == ("__debug__" : Str)) = false := by decide) (hnn2 : U ≠ "__name__" := by decide) (hd2 : (U == ("__debug__" : Str)) = false := by decide)
    (ht2 : starEach [.Name U p3] X.env = [(false, eval (.Name U p3) X.env)] := by rfl) (ht1 : starEach [.Name T p2, .Name U p3] X.env = (false, eval (.Name T p2) X.env) :: starEach [.Name U p3] X.env := by rfl)
    (hs : starEach [a, .Tuple [.Name T p2, .Name U p3] kk p4] X.env = (false, eval a X.env) :: starEach [.Tuple [.Name T p2, .Name U p3] kk p4] X.env := by rfl)
    (hs2 : starEach [.Tuple [.Name T p2, .Name U p3] kk p4] X.env = [(false, eval (.Tuple [.Name T p2, .Name U p3] kk p4) X.env)] := by rfl) (hpl : (backTo pos (starEach [.Tuple [.Name T p2, .Name U p3] kk p4] X.env)).any (·.1) = false := by rfl) :
    PE X (.Call (.Name "isinstance" p) [a, .Tuple [.Name T p2, .Name U p3] kk p4] [] pos) (tI X.K E (mUn (dIsi2 n m) ma)) := by
  refine pe_le (pe_callB call_isiT hg hm (by decide +kernel) (pa_cons ha (pa_cons (pe_tup (pa_cons (pe_bltn (v := .ty n) hgT hmT hv rfl hnn hd) (pa_cons (pe_bltn (v := .ty m) hgU hmU hvU rfl hnn2 hd2) pa_nil (by exact ht2)) ht1)) pa_nil (by exact hs2)) hs) (by decide) (by decide) hs hpl) fun σ H Q ⟨M, S, Γ, k, kx, hr, er, hm, kv, kxx⟩ => ?_
  refine ⟨M, S, Γ, _, kx, hr, er, hm, fun d M1 q1 H1 v1 r1 e1 d1 => ?_, kxx⟩
  refine ⟨by show 2 ≤ sizeLine; decide, fun q hq => ?_⟩
  obtain ⟨g1, g2, g3⟩ := r1.new (o := .tup [.ty n, .ty m]) hq
  refine ⟨v1, q, [.ty n, .ty m], _, [.type n, .type m], _, rfl, upd_same, .cons (.ty n) (.cons (.ty m) .nil), ty_of g1 (d1.mono g2 _) q1.1, ?_, kv _ M1 q1.2 _ _ g1 (e1.trans g2) (dv_bl.mpr rfl)⟩
  refine kitAny_cons (kit_ty (kit_tab _ q1.1 _ hn)) (fun e => ?_) (fun e => by rw [e]; rfl)
  rw [e, Bool.false_or]
  exact kitAny_cons (kit_ty (kit_tab _ q1.1 _ hnU)) (fun e => by rw [e]; exact kitAny_nil) (fun e => e)
end
/-! ### statements -/
def mNext : MS := fun De Γ M _ => De.nx Γ M
def mSeq (m u : MS) : MS := fun De Γ M kx => m { De with nx := fun Γ' M' => u De Γ' M' kx } Γ M kx
def mBreak : MS := fun De Γ M _ => De.bk Γ M
def mCont : MS := fun De Γ M _ => De.ct Γ M
def mDrop (m : ME) : MS := fun De Γ M kx => m Γ M (fun _ M1 => De.nx Γ M1) kx
def mRet (m : ME) : MS := fun De Γ M kx => m Γ M De.rt kx
def mRetN : MS := fun De _ M _ => De.rt .non M
def mIfS (c : MT) (m u : MS) : MS := fun De Γ M kx => c Γ M (fun b M1 => if b = true then m De Γ M1 kx else u De Γ M1 kx) kx
def mNever : MS := fun _ _ _ _ => False
/-- targets: a name, a tuple of targets -/
inductive Tg where
  | nm (i : Nat) | tp (ts : List Tg)
mutual
def bindT : Tg → D → Env → Option Env
  | .nm i, d, Γ => some (Γ.set i (some d))
  | .tp ts, .tup ds, Γ => bindTs ts ds Γ
  | .tp _, _, _ => none
def bindTs : List Tg → List D → Env → Option Env
  | [], [], Γ => some Γ
  | t :: ts, d :: ds, Γ => match bindT t d Γ with
    | some Γ1 => bindTs ts ds Γ1
    | none => none
  | _, _, _ => none
end
mutual
def gOf (K : PySem.W.Frag) : Tg → TG
  | .nm i => gName i
  | .tp ts => gTup K ts.length (gsOf K ts)
def gsOf (K : PySem.W.Frag) : List Tg → TGs
  | [] => gNil
  | t :: ts => gCons (gOf K t) (gsOf K ts)
end
mutual
/-- the slots that a target stores to -/
def slotsT : Tg → List Nat
  | .nm i => [i]
  | .tp ts => slotsTs ts
def slotsTs : List Tg → List Nat
  | [] => []
  | t :: ts => slotsT t ++ slotsTs ts
end
theorem bindTs_len : ∀ {ts : List Tg} {ds : List D} {Γ Γ1 : Env}, bindTs ts ds Γ = some Γ1 → ds.length = ts.length
  | [], [], _, _, _ => rfl
  | [], _ :: _, _, _, h => by simp [bindTs] at h
  | _ :: _, [], _, _, h => by simp [bindTs] at h
  | t :: ts, d :: ds, Γ, Γ1, h => by
    rw [bindTs] at h
    cases q : bindT t d Γ with
    | none => rw [q] at h; cases h
    | some Γ2 =>
      rw [q] at h
      rw [List.length_cons, List.length_cons, bindTs_len h]
mutual
theorem g_ok {K : PySem.W.Frag} {M : Mh} {S H : Hp} : ∀ (t : Tg) {d : D} {v : V} {Γ Γ1 : Env} {σ : St} {Q : St → Hp → Prop}, DV K (hid M S H) d v → EnvR K (hid M S H) Γ σ → bindT t d Γ = some Γ1 →
    (∀ σ1, EnvR K (hid M S H) Γ1 σ1 → (∀ vs, (∀ i ∈ slotsT t, i ∈ vs) → wipe σ1 vs = wipe σ vs) → Q σ1 H) → gOf K t v σ H Q
  | .nm i, d, v, Γ, Γ1, σ, Q, hd, er, e, q => by
    rw [bindT] at e
    cases e
    rw [gOf]
    refine q _ (er.set hd) fun vs hv => ?_
    exact wipe_set (hv i (by rw [slotsT]; exact List.mem_singleton.mpr rfl))
  | .tp ts, d, v, Γ, Γ1, σ, Q, hd, er, e, q => by
    cases d with
    | tup ds =>
      rw [bindT] at e
      obtain ⟨a, vs, rfl, h2, h3⟩ := tp_sq hd
      rw [gOf]
      refine ⟨a, vs, rfl, h2, by rw [← h3.length]; exact bindTs_len e, ?_⟩
      exact gs_ok ts h3 er e fun σ1 e1 w => q σ1 e1 fun vs hv => w vs (fun i hi => hv i (by rw [slotsT]; exact hi))
    | _ => simp [bindT] at e
theorem gs_ok {K : PySem.W.Frag} {M : Mh} {S H : Hp} : ∀ (ts : List Tg) {ds : List D} {vs : List V} {Γ Γ1 : Env} {σ : St} {Q : St → Hp → Prop}, DVs K (hid M S H) ds vs → EnvR K (hid M S H) Γ σ → bindTs ts ds Γ = some Γ1 →
    (∀ σ1, EnvR K (hid M S H) Γ1 σ1 → (∀ vs, (∀ i ∈ slotsTs ts, i ∈ vs) → wipe σ1 vs = wipe σ vs) → Q σ1 H) → gsOf K ts vs σ H Q
  | [], [], vs, Γ, Γ1, σ, Q, hd, er, e, q => by
    rw [bindTs] at e
    cases e
    rw [gsOf]
    exact ⟨dvs_nil.mp hd, q _ er fun _ _ => rfl⟩
  | [], _ :: _, _, _, _, _, _, _, _, e, _ => by simp [bindTs] at e
  | _ :: _, [], _, _, _, _, _, _, _, e, _ => by simp [bindTs] at e
  | t :: ts, d :: ds, vs, Γ, Γ1, σ, Q, hd, er, e, q => by
    rw [bindTs] at e
    cases e2 : bindT t d Γ with
    | none => rw [e2] at e; cases e
    | some Γ2 =>
      rw [e2] at e
      obtain ⟨v, r, rfl, h2, h3⟩ := dvs_cons.mp hd
      rw [gsOf]
      refine ⟨v, r, rfl, ?_⟩
      refine g_ok t h2 er e2 fun σ2 r2 w2 => ?_
      refine gs_ok ts h3 r2 e fun σ3 r3 w3 => ?_
      refine q σ3 r3 fun vs hv => ?_
      rw [w3 vs fun i hi => hv i (by rw [slotsTs]; exact List.mem_append_right _ hi), w2 vs fun i hi => hv i (by rw [slotsTs]; exact List.mem_append_left _ hi)]
theorem wipe_set {σ : St} {i : Nat} {v : Option V} : ∀ {vs : List Nat}, i ∈ vs → wipe (σ.set i v) vs = wipe σ vs
  | [], h => by cases h
  | j :: vs, h => by
    show (wipe (σ.set i v) vs).set j none = (wipe σ vs).set j none
    rcases List.mem_cons.mp h with rfl | h
    · exact wipe_set2
    · rw [wipe_set h]
theorem wipe_set2 {σ : St} {i : Nat} {v : Option V} : ∀ {vs : List Nat}, (wipe (σ.set i v) vs).set i none = (wipe σ vs).set i none
  | [] => by
    show (σ.set i v).set i none = σ.set i none
    rw [List.set_set]
  | j :: vs => by
    show ((wipe (σ.set i v) vs).set j none).set i none = ((wipe σ vs).set j none).set i none
    by_cases e : i = j
    · subst e
      rw [List.set_set, List.set_set]
      exact wipe_set2
    · rw [List.set_comm _ _ (Ne.symm e), List.set_comm _ _ (Ne.symm e), wipe_set2]
end
def mAsg (m : ME) (t : Tg) : MS := fun De Γ M kx => m Γ M (fun d M1 => ∃ Γ1, bindT t d Γ = some Γ1 ∧ De.nx Γ1 M1) kx
def mPar (i j : Nat) (ma : MA) : MS := fun De Γ M kx => ma Γ M (fun ds M1 => ∃ d e, ds = [d, e] ∧ De.nx ((Γ.set i (some d)).set j (some e)) M1) kx
/-! ### walks -/
structure WalkD (K : PySem.W.Frag) (J : It) (ds : List D) (G : Mh → Prop) (F : Hp) : Prop where
  goes : ∀ i M S H, i < ds.length → R K M S H → Ex F (hid M S H) → G M → J.go i H
  stops : ∀ M S H, R K M S H → Ex F (hid M S H) → G M → J.stop ds.length H
  yields : ∀ (i : Nat) (d : D) M S H x H', ds[i]? = some d → R K M S H → Ex F (hid M S H) → G M → J.yld i H x H' → R K M S H' ∧ Ex (hid M S H) (hid M S H') ∧ DV K (hid M S H') d x
abbrev MI := Env → Mh → (List D → (Mh → Prop) → Mh → Prop) → XKd → Prop
def iI (K : PySem.W.Frag) (E : XK) (m : MI) : TI := fun σ H Rr => ∃ M S Γ k kx, R K M S H ∧ EnvR K (hid M S H) Γ σ ∧ m Γ M k kx ∧
  (∀ ds G M', k ds G M' → ∀ H' J, R K M' S H' → Ex (hid M S H) (hid M' S H') → WalkD K J ds G (hid M' S H') → Rr J H') ∧ KeepX K S (hid M S H) kx E
def loopFor (t : Tg) (G : Mh → Prop) (body : MS) (De : DEnds) (kx : XKd) : List D → Env → Mh → Prop
  | [], Γ, M => G M ∧ De.nx Γ M
  | d :: ds, Γ, M => G M ∧ ∃ Γ1, bindT t d Γ = some Γ1 ∧ body { De with nx := loopFor t G body De kx ds, ct := loopFor t G body De kx ds, bk := De.nx } Γ1 M kx
def mFor (t : Tg) (mi : MI) (body : MS) : MS := fun De Γ M kx => mi Γ M (fun ds G M1 => loopFor t G body De kx ds Γ M1) kx
def loopLc (t : Tg) (G : Mh → Prop) (tt : MT) (te : ME) (Γ : Env) (k : List D → Mh → Prop) (kx : XKd) : List D → List D → Mh → Prop
  | acc, [], M => G M ∧ k acc M
  | acc, d :: ds, M => G M ∧ ∃ Γ1, bindT t d Γ = some Γ1 ∧ tt Γ1 M (fun b M1 => if b = true then te Γ1 M1 (fun y M2 => loopLc t G tt te Γ k kx (acc ++ [y]) ds M2) kx else loopLc t G tt te Γ k kx acc ds M1) kx
def noX : XKd := fun _ _ => False
def mYes : MT := fun _ M k _ => k true M
def mLc (t : Tg) (mi : MI) (tt : MT) (te : ME) (vs : List Nat) : ME := fun Γ M k kx => mi Γ M (fun ds G M1 => ds.length ≤ sizeLine ∧ loopLc t G tt te (wipeD Γ vs) (fun acc M2 => k (.lst acc) M2) noX [] ds M1) kx
section
variable {X : Cx} {E : XK} {pos : Pos} {e : Expr} {m : ME} {st : Stmt} {rest : List Stmt} {ms mu : MS}
theorem KeepE.seq {K : PySem.W.Frag} {S F : Hp} {u : MS} {De : DEnds} {kx : XKd} {D : Ends} (h1 : KeepE K S F De.nx D.nx) (h2 : KeepV K S F De.rt D.rt) (h3 : KeepE K S F De.bk D.bk) (h4 : KeepE K S F De.ct D.ct) (h5 : KeepX K S F kx E) :
    KeepE K S F (fun Γ' M' => u De Γ' M' kx) (tSt K E u D) := fun Γ' M' q H' σ' r e er => ⟨M', S, Γ', De, kx, r, er, q, h1.ex e, h2.ex e, h3.ex e, h4.ex e, h5.ex e⟩
theorem dss_nil : PSs X [] (tSt X.K E mNext) := pss_le pss_nil fun D σ H ⟨M, S, Γ, De, kx, r, er, h, h1, h2, h3, h4, h5⟩ => h1 Γ M h H σ r (Ex.refl _) er
theorem dss_cons (h1 : PS X st (tSt X.K E ms)) (h2 : PSs X rest (tSt X.K E mu)) : PSs X (st :: rest) (tSt X.K E (mSeq ms mu)) :=
  pss_le (pss_cons h1 h2) fun D σ H ⟨M, S, Γ, De, kx, r, er, h, k1, k2, k3, k4, k5⟩ => ⟨M, S, Γ, _, kx, r, er, h, KeepE.seq k1 k2 k3 k4 k5, k2, k3, k4, k5⟩
theorem dss_one (h1 : PS X st (tSt X.K E ms)) : PSs X [st] (tSt X.K E ms) := pss_one h1
theorem ds_pass : PS X (.Pass pos) (tSt X.K E mNext) := ps_le ps_pass fun D σ H ⟨M, S, Γ, De, kx, r, er, h, h1, h2, h3, h4, h5⟩ => h1 Γ M h H σ r (Ex.refl _) er
theorem ds_break : PS X (.Break pos) (tSt X.K E mBreak) := ps_le ps_break fun D σ H ⟨M, S, Γ, De, kx, r, er, h, h1, h2, h3, h4, h5⟩ => h3 Γ M h H σ r (Ex.refl _) er
theorem ds_cont : PS X (.Continue pos) (tSt X.K E mCont) := ps_le ps_continue fun D σ H ⟨M, S, Γ, De, kx, r, er, h, h1, h2, h3, h4, h5⟩ => h4 Γ M h H σ r (Ex.refl _) er
theorem ds_expr (he : PE X e (tI X.K E m)) (hs : swapsWith e none pos.line X.env = pure false := by rfl) : PS X (.Expr e pos) (tSt X.K E (mDrop m)) :=
  ps_le (ps_expr he hs) fun D σ H ⟨M, S, Γ, De, kx, r, er, h, h1, h2, h3, h4, h5⟩ => ⟨M, S, Γ, _, kx, r, er, h, fun d M1 q H1 v r1 e1 d1 => h1 Γ M1 q H1 σ r1 e1 (er.mono e1), h5⟩
theorem ds_ret (he : PE X e (tI X.K E m)) : PS X (.Return (some e) pos) (tSt X.K E (mRet m)) :=
  ps_le (ps_ret he) fun D σ H ⟨M, S, Γ, De, kx, r, er, h, h1, h2, h3, h4, h5⟩ => ⟨M, S, Γ, _, kx, r, er, h, h2, h5⟩
theorem ds_retN : PS X (.Return none pos) (tSt X.K E mRetN) := ps_le ps_retN fun D σ H ⟨M, S, Γ, De, kx, r, er, h, h1, h2, h3, h4, h5⟩ => h2 _ M h H _ r (Ex.refl _) (dv_non.mpr rfl)
theorem ds_never : PS X st (tSt X.K E mNever) := ps_le ps_never fun D σ H ⟨M, S, Γ, De, kx, r, er, h, h1, h2, h3, h4, h5⟩ => h
theorem ds_if {c : Expr} {a b : List Stmt} {mc : MT} (hc : PT X c (tT X.K E mc)) (ha : PSs X a (tSt X.K E ms)) (hb : PSs X b (tSt X.K E mu)) : PS X (.If c a b pos) (tSt X.K E (mIfS mc ms mu)) := by
  refine ps_le (ps_if hc ha hb) fun D σ H ⟨M, S, Γ, De, kx, r, er, h, h1, h2, h3, h4, h5⟩ => ?_
  refine ⟨M, S, Γ, _, kx, r, er, h, fun c M1 q1 H1 r1 e1 => ?_, h5⟩
  cases c with
  | true => exact ⟨M1, S, Γ, De, kx, r1, er.mono e1, q1, h1.ex e1, h2.ex e1, h3.ex e1, h4.ex e1, h5.ex e1⟩
  | false => exact ⟨M1, S, Γ, De, kx, r1, er.mono e1, q1, h1.ex e1, h2.ex e1, h3.ex e1, h4.ex e1, h5.ex e1⟩
theorem ds_asg {tg : Expr} {t : Tg} (he : PE X e (tI X.K E m)) (hg : PG X tg (gOf X.K t)) (hs : swapsWithSole [tg] e pos.line X.env = pure false := by rfl) (hw : swappedStores [tg] e X.env = pure none := by rfl)
    (h1 : (assignEach [tg] X.env).map (·.2) = [assign tg X.env] := by rfl) : PS X (.Assign [tg] e pos) (tSt X.K E (mAsg m t)) := by
  refine ps_le (ps_asg he hg hs hw h1) fun D σ H ⟨M, S, Γ, De, kx, r, er, h, h1, h2, h3, h4, h5⟩ => ?_
  refine ⟨M, S, Γ, _, kx, r, er, h, fun d M1 ⟨Γ1, eb, q⟩ H1 v r1 e1 d1 => ?_, h5⟩
  exact g_ok t d1 (er.mono e1) eb fun σ1 e2 _ => h1 Γ1 M1 q H1 σ1 r1 e1 e2
theorem ds_set {i : Nat} {x : Str} {pos' : Pos} (hN : X.N.Nodup) (hi : X.N[i]? = some x) (hx : Loc X.env.scope x) (he : PE X e (tI X.K E m)) (hs : swapsWith e (some (.Name x pos')) pos.line X.env = pure false := by rfl) (hf : X.fn x = true ∨ X.env.scope.names.lookup x = some .local := by first | exact .inl rfl | exact .inr rfl | assumption) :
    PS X (.Assign [.Name x pos'] e pos) (tSt X.K E (mAsg m (.nm i))) := by
  refine ps_le (ps_set hN hi hx he hs hf) fun D σ H ⟨M, S, Γ, De, kx, r, er, h, h1, h2, h3, h4, h5⟩ => ?_
  refine ⟨M, S, Γ, _, kx, r, er, h, fun d M1 ⟨Γ1, eb, q⟩ H1 v r1 e1 d1 => ?_, h5⟩
  rw [bindT] at eb
  cases eb
  exact h1 _ M1 q H1 _ r1 e1 ((er.mono e1).set d1)
theorem ds_par {i j : Nat} {x y : Str} {a b : Expr} {ma : MA} {px py pt : Pos} {kt k2 pt2} (hc : X.calm = true) (hN : X.N.Nodup) (hi : X.N[i]? = some x) (hj : X.N[j]? = some y) (hij : i ≠ j)
    (hx : X.env.scope.names.lookup x = some .local) (hy : X.env.scope.names.lookup y = some .local) (ha : PA X [a, b] (tA X.K E ma))
    (hw : PS X (.Assign [.Tuple [.Name x px, .Name y py] kt pt] (.Tuple [a, b] k2 pt2) pos) (tPar i j (tA X.K E ma))) :
    PS X (.Assign [.Tuple [.Name x px, .Name y py] kt pt] (.Tuple [a, b] k2 pt2) pos) (tSt X.K E (mPar i j ma)) := by
  refine ps_le hw fun D σ H ⟨M, S, Γ, De, kx, r, er, h, h1, h2, h3, h4, h5⟩ => ?_
  refine ⟨M, S, Γ, _, kx, r, er, h, fun ds M1 ⟨d, e, eq, q⟩ H1 vs r1 e1 d1 => ?_, h5⟩
  subst eq
  obtain ⟨v, u, rfl, g1, g2⟩ := dc_two d1
  exact ⟨v, u, rfl, h1 _ M1 q H1 _ r1 e1 (((er.mono e1).set g1).set g2)⟩
/-! for -/
theorem ds_for {tg iter : Expr} {body : List Stmt} {t : Tg} {mi : MI} (hp : PassesOwn (model X.prog X.w) X.A X.env X.xe) (hc : X.calm = true) (hi : PI X tg iter (iI X.K E mi)) (hg : PG X tg (gOf X.K t)) (hb : PSs X body (tSt X.K E ms))
    (hs : ∀ x, foldedSetIterable iter X.env x = pure x := by intro _; rfl) : PS X (.For tg iter body [] pos) (tSt X.K E (mFor t mi ms)) := by
  refine ps_le (ps_for hp hc hi hg hb hs) fun D σ H ⟨M, S, Γ, De, kx, r, er, h, h1, h2, h3, h4, h5⟩ => ?_
  refine ⟨M, S, Γ, _, kx, r, er, h, fun ds G M1 q H1 J r1 e1 w => ?_, h5⟩
  refine ⟨fun i n σ' H' => n = ds.length - i ∧ i ≤ ds.length ∧ ∃ Γ' M', R X.K M' S H' ∧ EnvR X.K (hid M' S H') Γ' σ' ∧ Ex (hid M1 S H1) (hid M' S H') ∧ loopFor t G ms De kx (ds.drop i) Γ' M',
    ⟨ds.length, by omega, Nat.zero_le _, Γ, M1, r1, er.mono e1, Ex.refl _, q⟩, ?_⟩
  rintro i n σ' H' ⟨rfl, hi, Γ', M', r', er', ee, hl⟩
  by_cases hlt : i < ds.length
  · have hd : ds.drop i = ds[i] :: ds.drop (i + 1) := List.drop_eq_getElem_cons hlt
    rw [hd] at hl
    obtain ⟨hG, Γ1, eb, hbody⟩ := hl
    refine .inr ⟨w.goes i M' S H' hlt r' ee hG, fun σ2 H2 => ∃ Γ2 M2, R X.K M2 S H2 ∧ EnvR X.K (hid M2 S H2) Γ2 σ2 ∧ Ex (hid M1 S H1) (hid M2 S H2) ∧ loopFor t G ms De kx (ds.drop (i + 1)) Γ2 M2,
      fun σ2 H2 ⟨Γ2, M2, a, b, c, d⟩ => ⟨ds.length - (i + 1), by omega, rfl, hlt, Γ2, M2, a, b, c, d⟩, fun x H2 y => ?_⟩
    obtain ⟨r2, e2, d2⟩ := w.yields i ds[i] M' S H' x H2 (List.getElem?_eq_getElem hlt) r' ee hG y
    refine g_ok t d2 (er'.mono e2) eb fun σ3 er3 _ => ?_
    have e3 := ee.trans e2
    refine ⟨M', S, Γ1, _, kx, r2, er3, hbody, ?_, h2.ex (e1.trans e3), h1.ex (e1.trans e3), ?_, h5.ex (e1.trans e3)⟩
    · exact fun Γ4 M4 q4 H4 σ4 r4 e4 er4 => ⟨Γ4, M4, r4, er4, e3.trans e4, q4⟩
    · exact fun Γ4 M4 q4 H4 σ4 r4 e4 er4 => ⟨Γ4, M4, r4, er4, e3.trans e4, q4⟩
  · have hd : ds.drop i = [] := List.drop_eq_nil_of_le (by omega)
    rw [hd] at hl
    obtain ⟨hG, hn⟩ := hl
    have ei : i = ds.length := by omega
    subst ei
    exact .inl ⟨w.stops M' S H' r' ee hG, h1 Γ' M' hn H' σ' r' (e1.trans ee) er'⟩
/-! comprehensions -/
theorem pts_le {X : Cx} {e : List Expr} {t t' : TT} (h : PTs X e t) (i : ∀ σ H Q, t' σ H Q → t σ H Q) : PTs X e t' := ⟨fun pins s σ H Q I q => h.run pins s σ H Q I (i σ H Q q)⟩
theorem dts_nil : PTs X [] (tT X.K E mYes) := pts_le pts_nil fun σ H Q ⟨M, S, Γ, k, kx, r, er, h, h1, h2⟩ => h1 _ M h H r (Ex.refl _)
theorem dts_one {c : Expr} {mt : MT} (h : PT X c (tT X.K E mt)) : PTs X [c] (tT X.K E mt) := pts_one h
def addS (S : Hp) (D : Addr) (o : HO) : Hp := fun a => if a = D then some o else S a
theorem hid_addS {M : Mh} {S H : Hp} {D : Addr} {o : HO} : hid M (addS S D o) (upd H D o) = fun a => if a = D then none else hid M S H a := by
  funext a
  unfold hid addS
  by_cases e : a = D
  · subst e
    simp
  · rw [if_neg e, if_neg e, upd_ne e]
theorem XR.mono {K : PySem.W.Frag} {F F' : Hp} (e : Ex F F') {x : XD} {c : Value} {o : Option Addr} (h : XR K F x c o) : XR K F' x c o := by
  obtain ⟨h1, h2⟩ := h
  refine ⟨h1, ?_⟩
  cases q : x.fs with
  | none => rw [q] at h2; exact h2
  | some fs =>
    rw [q] at h2
    obtain ⟨d, ps, g1, g2, g3⟩ := h2
    exact ⟨d, ps, g1, e _ _ g2, KVD.mono e g3⟩
theorem wipe_wipe {σ : St} : ∀ {vs : List Nat}, wipe (wipe σ vs) vs = wipe σ vs := by
  intro vs
  have key : ∀ (us : List Nat), (∀ i ∈ us, i ∈ vs) → wipe (wipe σ us) vs = wipe σ vs := by
    intro us
    induction us with
    | nil => intro _; rfl
    | cons j us ih =>
      intro h
      show wipe ((wipe σ us).set j none) vs = wipe σ vs
      rw [wipe_set (h j (List.mem_cons_self)), ih fun i hi => h i (List.mem_cons_of_mem _ hi)]
  exact key vs fun _ h => h
theorem lc_ok {K : PySem.W.Frag} {E' : XK} {t : Tg} {tt : MT} {te : ME} {vs : List Nat} {mi : MI} (hv : ∀ i ∈ slotsT t, i ∈ vs) {σ : St} {H : Hp} {Q : VK} (h : tI K E (mLc t mi tt te vs) σ H Q) : tLc (iI K E mi) (gOf K t) (tT K E' tt) (tI K E' te) vs σ H Q := by
  obtain ⟨M, S, Γ, k, kx, r, er, h, h1, h5⟩ := h
  refine ⟨M, S, Γ, _, kx, r, er, h, fun ds G M1 ⟨hz, q⟩ H1 J r1 e1 w => ?_, h5⟩
  intro D hD
  have hM1 : M1 D = none := r1.freeM hD
  have hS : S D = none := r1.freeS hD
  -- with the new list hidden
  have hid1 : ∀ (M' : Mh) (H' : Hp) (o : HO), M' D = none → H' D = some o → hid M' (addS S D o) H' = fun a => if a = D then none else hid M' S H' a := fun M' H' o hm hh => by
    funext a
    unfold hid addS
    by_cases e : a = D
    · subst e; simp
    · rw [if_neg e, if_neg e]
  refine ⟨fun i n H' => n = ds.length - i ∧ i ≤ ds.length ∧ ∃ M' acc us, R K M' (addS S D (.lst us)) H' ∧ DVs K (hid M' (addS S D (.lst us)) H') acc us ∧ us.length ≤ i ∧ Ex (hid M1 S H1) (hid M' (addS S D (.lst us)) H') ∧ loopLc t G tt te (wipeD Γ vs) (fun acc M2 => k (.lst acc) M2) noX acc (ds.drop i) M', ⟨ds.length, by omega, Nat.zero_le _, M1, [], [], ?_, dvs_nil.mpr rfl, Nat.le_refl _, ?_, q⟩, ?_⟩
  · have rn := (r1.new (o := .lst []) hD).1
    refine ⟨fun a u e => ?_, fun a u e => ?_⟩
    · unfold addS at e
      by_cases c : a = D
      · subst c
        rw [if_pos rfl] at e
        cases e
        exact ⟨upd_same, hM1⟩
      · rw [if_neg c] at e
        exact rn.hidden a u e
    · obtain ⟨y, g1, g2⟩ := r1.chg a u e
      refine ⟨y, by rw [upd_ne (ne_of_none g1 hD)]; exact g1, g2.mono ?_⟩
      rw [hid_addS]
      intro b z hb
      have nb : b ≠ D := fun c => by subst c; rw [(hid_some.mp hb).2.2] at hD; cases hD
      show (if b = D then none else hid M1 S H1 b) = some z
      rw [if_neg nb]
      exact hb
  · rw [hid_addS]
    intro b z hb
    have nb : b ≠ D := fun c => by subst c; rw [(hid_some.mp hb).2.2] at hD; cases hD
    show (if b = D then none else hid M1 S H1 b) = some z
    rw [if_neg nb]
    exact hb
  · rintro i n H' ⟨rfl, hi, M', acc, us, r', da, hu, ee, hl⟩
    have hHD : H' D = some (.lst us) := (r'.hidden D (.lst us) (by unfold addS; rw [if_pos rfl])).1
    have hMD : M' D = none := (r'.hidden D (.lst us) (by unfold addS; rw [if_pos rfl])).2
    -- the same without hiding it
    have unh : ∀ {M'' : Mh} {H'' : Hp} {us' : List V}, R K M'' (addS S D (.lst us')) H'' → R K M'' S H'' ∧ Ex (hid M'' (addS S D (.lst us')) H'') (hid M'' S H'') := fun {M'' H'' us'} rr => by
      have ex : Ex (hid M'' (addS S D (.lst us')) H'') (hid M'' S H'') := fun b z hb => by
        obtain ⟨g1, g2, g3⟩ := hid_some.mp hb
        refine hid_some.mpr ⟨g1, ?_, g3⟩
        unfold addS at g2
        split at g2
        · cases g2
        · exact g2
      refine ⟨⟨fun a u e => rr.hidden a u ?_, fun a u e => ?_⟩, ex⟩
      · unfold addS
        have : a ≠ D := fun c => by subst c; rw [hS] at e; cases e
        rw [if_neg this]
        exact e
      · obtain ⟨y, g1, g2⟩ := rr.chg a u e
        exact ⟨y, g1, g2.mono ex⟩
    obtain ⟨ru, eu⟩ := unh r'
    by_cases hlt : i < ds.length
    · have hd : ds.drop i = ds[i] :: ds.drop (i + 1) := List.drop_eq_getElem_cons hlt
      rw [hd] at hl
      obtain ⟨hG, Γ1, eb, htest⟩ := hl
      refine .inr ⟨w.goes i M' _ H' hlt r' ee hG, fun H2 => ∃ M2 acc us, R K M2 (addS S D (.lst us)) H2 ∧ DVs K (hid M2 (addS S D (.lst us)) H2) acc us ∧ us.length ≤ i + 1 ∧ Ex (hid M1 S H1) (hid M2 (addS S D (.lst us)) H2) ∧ loopLc t G tt te (wipeD Γ vs) (fun acc M2 => k (.lst acc) M2) noX acc (ds.drop (i + 1)) M2,
        fun H2 ⟨M2, acc, us, a, b, c, d, e⟩ => ⟨ds.length - (i + 1), by omega, rfl, hlt, M2, acc, us, a, b, c, d, e⟩, fun x H2 y => ?_⟩
      -- the item, the list hidden
      obtain ⟨r2, e2, d2⟩ := w.yields i ds[i] M' _ H' x H2 (List.getElem?_eq_getElem hlt) r' ee hG y
      have e02 : Ex (hid M S H) (hid M' (addS S D (.lst us)) H2) := e1.trans (ee.trans e2)
      have kxS : ∀ {F' : Hp}, KeepX K (addS S D (.lst us)) F' noX E' := fun {F'} _ _ z => z.elim
      refine g_ok t d2 ((er.wipe vs).mono e02) eb fun σ1 er1 hw => ⟨by rw [hw vs hv, wipe_wipe], ?_⟩
      refine ⟨M', addS S D (.lst us), Γ1, _, noX, r2, er1, htest, fun b M3 q3 H3 r3 e3 => ?_, kxS⟩
      cases b with
      | false => exact ⟨M3, acc, us, r3, da.mono (e2.trans e3) _, by omega, ee.trans (e2.trans e3), q3⟩
      | true =>
        refine ⟨M3, addS S D (.lst us), Γ1, _, noX, r3, er1.mono e3, q3, fun y4 M4 q4 H4 v4 r4 e4 d4 => ?_, kxS⟩
        have hHD4 : H4 D = some (.lst us) := (r4.hidden D (.lst us) (by unfold addS; rw [if_pos rfl])).1
        have hMD4 : M4 D = none := (r4.hidden D (.lst us) (by unfold addS; rw [if_pos rfl])).2
        have eh : hid M4 (addS S D (.lst (us ++ [v4]))) (upd H4 D (.lst (us ++ [v4]))) = hid M4 (addS S D (.lst us)) H4 := by
          funext b
          unfold hid addS
          by_cases c : b = D
          · subst c; simp
          · rw [if_neg c, if_neg c, upd_ne c]
        refine ⟨us, hHD4, by omega, M4, acc ++ [y4], us ++ [v4], ⟨fun b u e => ?_, fun b u e => ?_⟩, ?_, by rw [List.length_append, List.length_singleton]; omega, ?_, q4⟩
        · unfold addS at e
          by_cases c : b = D
          · subst c
            rw [if_pos rfl] at e
            cases e
            exact ⟨upd_same, hMD4⟩
          · rw [if_neg c] at e
            rw [upd_ne c]
            exact r4.hidden b u (by unfold addS; rw [if_neg c]; exact e)
        · obtain ⟨y, g1, g2⟩ := r4.chg b u e
          have nb : b ≠ D := fun c => by subst c; rw [hMD4] at e; cases e
          exact ⟨y, by rw [upd_ne nb]; exact g1, by rw [eh]; exact g2⟩
        · rw [eh]
          exact (da.mono (e2.trans (e3.trans e4)) _).append (DVs.one d4)
        · rw [eh]
          exact ee.trans (e2.trans (e3.trans e4))
    · have hd : ds.drop i = [] := List.drop_eq_nil_of_le (by omega)
      rw [hd] at hl
      obtain ⟨hG, hn⟩ := hl
      have ei : i = ds.length := by omega
      subst ei
      refine .inl ⟨w.stops M' _ H' r' ee hG, ?_⟩
      refine h1 _ M' hn H' _ ru (e1.trans (ee.trans eu)) (dv_lst.mpr ⟨D, us, rfl, hid_some.mpr ⟨hMD, hS, hHD⟩, da.mono eu _⟩)
end
end DL
namespace DL
open PySem L2 PySem.Spec PyProof.Rows
section
variable {X : Cx} {E E' : XK} {tg iter elt : Expr} {pos : Pos} {t : Tg} {mi : MI} {tt : MT} {te : ME} {ifs : List Expr} {scope : Scope} {own : List (Str × Nat)}
theorem de_lc (hc : X.calm = true) (hN : X.N.Nodup) (hi : PI X tg iter (iI X.K E mi)) (ok : BlkOk X.N X.env.scope scope own) (hv : ∀ i ∈ slotsT t, i ∈ own.map (·.2))
    (hg : ∀ (s : Shared) (H : Hp) (C : Addr) (cl : List (Str × Addr)) (fp : List Addr), PG (X.blk s H scope (compEnvC scope cl C X.env) fp) tg (gOf X.K t))
    (ht : ∀ (s : Shared) (H : Hp) (C : Addr) (cl : List (Str × Addr)) (fp : List Addr), PTs (X.blk s H scope (compEnvC scope cl C X.env) fp) ifs (tT X.K E' tt))
    (he : ∀ (s : Shared) (H : Hp) (C : Addr) (cl : List (Str × Addr)) (fp : List Addr), PE (X.blk s H scope (compEnvC scope cl C X.env) fp) elt (tI X.K E' te)) (hs : ∀ x, foldedSetIterable iter X.env x = pure x := by intro _; rfl) :
    PE X (.ListComp elt [⟨tg, iter, ifs, 0⟩] scope pos) (tI X.K E (mLc t mi tt te (own.map (·.2)))) :=
  pe_le (pe_lc hc hN hi ok hg ht he hs) fun _ _ _ h => lc_ok hv h
theorem ds_setLc {i : Nat} {y : Str} {py spos : Pos} (hc : X.calm = true) (hN : X.N.Nodup) (hy : X.N[i]? = some y) (hyl : X.env.scope.names.lookup y = some .local)
    (hsw : swapsWith (.ListComp elt [⟨tg, iter, ifs, 0⟩] scope pos) (some (.Name y py)) spos.line X.env = pure true) (hi : PI X tg iter (iI X.K E mi)) (ok : BlkOk X.N X.env.scope scope own) (hv : ∀ i ∈ slotsT t, i ∈ own.map (·.2))
    (hg : ∀ (s : Shared) (H : Hp) (C : Addr) (cl : List (Str × Addr)) (fp : List Addr), PG (X.blk s H scope (compEnvC scope cl C X.env) fp) tg (gOf X.K t))
    (ht : ∀ (s : Shared) (H : Hp) (C : Addr) (cl : List (Str × Addr)) (fp : List Addr), PTs (X.blk s H scope (compEnvC scope cl C X.env) fp) ifs (tT X.K E' tt))
    (he : ∀ (s : Shared) (H : Hp) (C : Addr) (cl : List (Str × Addr)) (fp : List Addr), PE (X.blk s H scope (compEnvC scope cl C X.env) fp) elt (tI X.K E' te)) (hs : ∀ x, foldedSetIterable iter X.env x = pure x := by intro _; rfl) :
    PS X (.Assign [.Name y py] (.ListComp elt [⟨tg, iter, ifs, 0⟩] scope pos) spos) (tSt X.K E (mAsg (mLc t mi tt te (own.map (·.2))) (.nm i))) := by
  refine ps_le (ps_setLc hc hN hy hyl hsw hi ok hg ht he hs) fun D σ H ⟨M, S, Γ, De, kx, r, er, h, h1, h2, h3, h4, h5⟩ => ?_
  refine lc_ok hv ⟨M, S, Γ, _, kx, r, er, h, fun d M1 ⟨Γ1, eb, q⟩ H1 v r1 e1 d1 => ?_, h5⟩
  rw [bindT] at eb
  cases eb
  exact h1 _ M1 q H1 _ r1 e1 ((er.mono e1).set d1)
end
/-! ### what is walked -/
def anyG : Mh → Prop := fun _ => True
def signs (z : Str) : List D := z.cps.toList.map fun c => .str ⟨#[c]⟩
def mSeqI (m : ME) : MI := fun Γ M k kx => m Γ M (fun d M1 => match d with
  | .str z => k (signs z) anyG M1
  | .tup ds => k ds anyG M1
  | .lst ds => k ds anyG M1
  | .ref a => ∃ ds, M1 a = some (.lst ds) ∧ k ds (fun M => M a = some (.lst ds)) M1
  | _ => False) kx
def intsD (lo : Int) (n : Nat) : List D := (List.range n).map fun (i : Nat) => D.int (lo + (i : Int))
def mRange1 (ma : ME) : MI := fun Γ M k kx => ma Γ M (fun d M1 => ∃ j : Int, d = .int j ∧ -(2 ^ 62) ≤ j ∧ j < 2 ^ 62 ∧ k (intsD 0 j.toNat) anyG M1) kx
def pairs (xs ys : List D) : List D := (xs.zip ys).map fun p => .tup [p.1, p.2]
def mZip (ma mb : ME) : MI := fun Γ M k kx => ma Γ M (fun d M1 => mb Γ M1 (fun e M2 => match d, e with
  | .tup xs, .tup ys => k (pairs xs ys) anyG M2
  | d, e => ∃ xs ys, lsOf M2 d = some xs ∧ lsOf M2 e = some ys ∧ k (pairs xs ys) (fun M => lsOf M d = some xs ∧ lsOf M e = some ys) M2) kx) kx
section
variable {K : PySem.W.Frag}
theorem walkD_list {a : Addr} {vs : List V} {ds : List D} {F : Hp} (h : F a = some (.lst vs)) (hd : DVs K F ds vs) : WalkD K (Itl K a) ds anyG F := by
  have sq : ∀ {M : Mh} {S H : Hp}, Ex F (hid M S H) → SqL K H a vs := fun e => SqL.of (hid_le _ _ _ _ _ (e _ _ h))
  refine ⟨fun i M S H hi _ e _ => ?_, fun M S H _ e _ => ⟨vs, sq e, by rw [hd.length]; exact Nat.le_refl _⟩, fun i d M S H x H' q r e _ y => ?_⟩
  · rw [hd.length] at hi
    exact ⟨vs, vs[i], sq e, List.getElem?_eq_getElem hi⟩
  · obtain ⟨rfl, y⟩ := y
    obtain ⟨v, g1, g2⟩ := hd.get q
    have g3 := y vs (sq e)
    rw [g1] at g3
    cases g3
    exact ⟨r, Ex.refl _, g2.mono e _⟩
theorem walkD_mut {a : Addr} {ds : List D} {F : Hp} : WalkD K (Itl K a) ds (fun M => M a = some (.lst ds)) F := by
  have sq : ∀ {M : Mh} {S H : Hp}, R K M S H → M a = some (.lst ds) → ∃ vs, SqL K H a vs ∧ DVs K (hid M S H) ds vs := fun r g => by
    obtain ⟨u, h1, vs, rfl, h2⟩ := r.chg a _ g
    exact ⟨vs, SqL.of h1, h2⟩
  refine ⟨fun i M S H hi r _ g => ?_, fun M S H r _ g => ?_, fun i d M S H x H' q r e g y => ?_⟩
  · obtain ⟨vs, h1, h2⟩ := sq r g
    rw [h2.length] at hi
    exact ⟨vs, vs[i], h1, List.getElem?_eq_getElem hi⟩
  · obtain ⟨vs, h1, h2⟩ := sq r g
    exact ⟨vs, h1, by rw [h2.length]; exact Nat.le_refl _⟩
  · obtain ⟨vs, h1, h2⟩ := sq r g
    obtain ⟨rfl, y⟩ := y
    obtain ⟨v, g1, g2⟩ := h2.get q
    have g3 := y vs h1
    rw [g1] at g3
    cases g3
    exact ⟨r, Ex.refl _, g2⟩
theorem walkD_tup {a : Addr} {vs : List V} {ds : List D} {F : Hp} (h : SqT K F a vs) (hd : DVs K F ds vs) : WalkD K (Itt K a) ds anyG F := by
  have sq : ∀ {M : Mh} {S H : Hp}, Ex F (hid M S H) → SqT K H a vs := fun e => (e.trans (hid_le _ _ _)).sqT h
  refine ⟨fun i M S H hi _ e _ => ?_, fun M S H _ e _ => ⟨vs, sq e, by rw [hd.length]; exact Nat.le_refl _⟩, fun i d M S H x H' q r e _ y => ?_⟩
  · rw [hd.length] at hi
    exact ⟨vs, vs[i], sq e, List.getElem?_eq_getElem hi⟩
  · obtain ⟨rfl, y⟩ := y
    obtain ⟨v, g1, g2⟩ := hd.get q
    have g3 := y vs (sq e)
    rw [g1] at g3
    cases g3
    exact ⟨r, Ex.refl _, g2.mono e _⟩
theorem walkD_str {z : Str} {F : Hp} : WalkD K (Its z) (signs z) anyG F := by
  have hl : (signs z).length = z.cps.size := by unfold signs; simp
  refine ⟨fun i M S H hi _ _ _ => ?_, fun M S H _ _ _ => ?_, fun i d M S H x H' q r e _ y => ?_⟩
  · rw [hl] at hi
    exact walk_str.goes i H hi trivial
  · rw [hl]
    exact walk_str.stops H trivial
  · have hi : i < z.cps.size := by
      rw [← hl]
      exact (List.getElem?_eq_some_iff.mp q).1
    obtain ⟨rfl, c, g1, rfl⟩ := walk_str.yields i H x H' hi trivial y
    refine ⟨r, Ex.refl _, ?_⟩
    unfold signs at q
    rw [List.getElem?_map] at q
    have g2 : z.cps.toList[i]? = some c := by simpa using g1
    rw [g2] at q
    cases q
    exact dv_str.mpr rfl
theorem walkD_range {lo : Int} {n : Nat} {F : Hp} : WalkD K (Itr lo n) (intsD lo n) anyG F := by
  have hl : (intsD lo n).length = n := by unfold intsD; simp
  refine ⟨fun i M S H hi _ _ _ => by rw [hl] at hi; exact hi, fun M S H _ _ _ => by rw [hl]; exact Nat.le_refl _, fun i d M S H x H' q r e _ y => ?_⟩
  obtain ⟨rfl, rfl⟩ := y
  refine ⟨r, Ex.refl _, ?_⟩
  unfold intsD at q
  rw [List.getElem?_map] at q
  have hi : i < n := by
    cases c : (List.range n)[i]? with
    | none => rw [c] at q; cases q
    | some j => have := (List.getElem?_eq_some_iff.mp c).1; simpa using this
  rw [List.getElem?_range hi] at q
  cases q
  exact dv_int.mpr rfl
theorem pairs_get {xs ys : List D} {i : Nat} {d : D} (h : (pairs xs ys)[i]? = some d) : ∃ x y, xs[i]? = some x ∧ ys[i]? = some y ∧ d = .tup [x, y] := by
  unfold pairs at h
  rw [List.getElem?_map] at h
  cases c : (xs.zip ys)[i]? with
  | none => rw [c] at h; cases h
  | some p =>
    rw [c] at h
    cases h
    obtain ⟨h1, h2⟩ := List.getElem?_zip_eq_some.mp c
    exact ⟨p.1, p.2, h1, h2, rfl⟩
theorem pairs_len (xs ys : List D) : (pairs xs ys).length = min xs.length ys.length := by unfold pairs; simp
/-- the pair that a walk lays anew -/
theorem pair_new {M : Mh} {S H : Hp} {T : Addr} {v u : V} {d e : D} (r : R K M S H) (hT : H T = none) (h1 : DV K (hid M S H) d v) (h2 : DV K (hid M S H) e u) :
    R K M S (upd H T (.tup [v, u])) ∧ Ex (hid M S H) (hid M S (upd H T (.tup [v, u]))) ∧ DV K (hid M S (upd H T (.tup [v, u]))) (.tup [d, e]) (.ref T) := new_tup r hT (DVs.two h1 h2)
theorem walkD_zipT {a b : Addr} {vs us : List V} {xs ys : List D} {F : Hp} (h : SqT K F a vs) (hx : DVs K F xs vs) (h' : SqT K F b us) (hy : DVs K F ys us) : WalkD K (RZ.ItzT K a b) (pairs xs ys) anyG F := by
  have sq1 : ∀ {M : Mh} {S H : Hp}, Ex F (hid M S H) → SqT K H a vs := fun e => (e.trans (hid_le _ _ _)).sqT h
  have sq2 : ∀ {M : Mh} {S H : Hp}, Ex F (hid M S H) → SqT K H b us := fun e => (e.trans (hid_le _ _ _)).sqT h'
  have hl : (pairs xs ys).length = min vs.length us.length := by rw [pairs_len, hx.length, hy.length]
  refine ⟨fun i M S H hi _ e _ => ?_, fun M S H _ e _ => ?_, fun i d M S H x H' q r e _ y => ?_⟩
  · rw [hl] at hi
    exact ⟨vs, us, vs[i]'(by omega), us[i]'(by omega), sq1 e, sq2 e, List.getElem?_eq_getElem (by omega), List.getElem?_eq_getElem (by omega)⟩
  · exact ⟨vs, us, sq1 e, sq2 e, by rw [hl]; omega⟩
  · obtain ⟨d1, d2, q1, q2, rfl⟩ := pairs_get q
    obtain ⟨T, x1, x2, rfl, hT, rfl, g1, g2⟩ := y
    obtain ⟨w1, k1, k2⟩ := hx.get q1
    obtain ⟨w2, k3, k4⟩ := hy.get q2
    cases k1.symm.trans (g1 vs (sq1 e))
    cases k3.symm.trans (g2 us (sq2 e))
    exact pair_new r hT (k2.mono e _) (k4.mono e _)
theorem walkD_zipL {a b : Addr} {d e : D} {va vb : V} {xs ys : List D} {F : Hp} (ha : DV K F d (.ref a)) (hb : DV K F e (.ref b)) :
    WalkD K (Itz K a b) (pairs xs ys) (fun M => lsOf M d = some xs ∧ lsOf M e = some ys) F := by
  have sq : ∀ {M : Mh} {S H : Hp}, R K M S H → Ex F (hid M S H) → (lsOf M d = some xs ∧ lsOf M e = some ys) → ∃ vs us, (SqL K H a vs ∧ SqL K H b us) ∧ DVs K (hid M S H) xs vs ∧ DVs K (hid M S H) ys us := fun r ex g => by
    obtain ⟨a', vs, e1, h1, h2⟩ := ls_sq r (ha.mono ex _) g.1
    obtain ⟨b', us, e2, h3, h4⟩ := ls_sq r (hb.mono ex _) g.2
    cases e1
    cases e2
    exact ⟨vs, us, ⟨SqL.of h1, SqL.of h3⟩, h2, h4⟩
  refine ⟨fun i M S H hi r ex g => ?_, fun M S H r ex g => ?_, fun i dd M S H x H' q r ex g y => ?_⟩
  · obtain ⟨vs, us, h1, h2, h3⟩ := sq r ex g
    rw [pairs_len, h2.length, h3.length] at hi
    exact (walk_zip rfl).goes i H hi h1
  · obtain ⟨vs, us, h1, h2, h3⟩ := sq r ex g
    rw [pairs_len, h2.length, h3.length]
    exact (walk_zip rfl).stops H h1
  · obtain ⟨vs, us, h1, h2, h3⟩ := sq r ex g
    have hi := (List.getElem?_eq_some_iff.mp q).1
    rw [pairs_len, h2.length, h3.length] at hi
    obtain ⟨d1, d2, q1, q2, rfl⟩ := pairs_get q
    obtain ⟨T, x1, x2, rfl, hT, rfl, g1, g2⟩ := (walk_zip rfl).yields i H x H' hi h1 y
    obtain ⟨w1, k1, k2⟩ := h2.get q1
    obtain ⟨w2, k3, k4⟩ := h3.get q2
    cases k1.symm.trans g1
    cases k3.symm.trans g2
    exact pair_new r hT k2 k4
end
section
variable {X : Cx} {E : XK} {tg l e1 e2 : Expr} {m ma mb : ME} {p pos tpos : Pos}
theorem pi_le {X : Cx} {tg iter : Expr} {w w' : TI} (h : PI X tg iter w) (i : ∀ σ H R, w' σ H R → w σ H R) : PI X tg iter w' := ⟨fun pins s σ H R I q => h.run pins s σ H R I (i σ H R q)⟩
/-- a text, a tuple, a list, whichever it is -/
def iAny (K : PySem.W.Frag) (tl : TE) : TI := fun σ H Rr => tl σ H fun x H1 => (∃ z, x = .str z ∧ Rr (Its z) H1) ∨ (∃ a xs, x = .ref a ∧ SqT K H1 a xs ∧ Rr (Itt K a) H1) ∨ ∃ a xs, x = .ref a ∧ SqL K H1 a xs ∧ Rr (Itl K a) H1
theorem pi_any {tl : TE} (hl : PE X l tl) : PI X tg l (iAny X.K tl) := by
  refine ⟨fun pins s σ H Rr I hq => thn (hl.run pins s σ H _ I hq) fun u s1 ⟨x, H1, I1, r1, q1⟩ => ?_⟩
  rcases q1 with ⟨z, ex, q⟩ | ⟨a, xs, ex, hx, q⟩ | ⟨a, xs, ex, hx, q⟩
  · subst ex
    obtain ⟨tk, rfl⟩ := r1
    cases hz : z.cps.all (· < 128) with
    | false => exact wpAny_pyIter_wide hz (pi_one (tk := s1.toks) I1 _ (turn_str _ z tk "str_iterator" (.inr rfl)) ⟨_, Heap.get?_push_size _ rfl, rfl, rfl⟩ q)
    | true => exact wpAny_pyIter_ascii hz (pi_one (tk := s1.toks) I1 _ (turn_str _ z tk "str_ascii_iterator" (.inl rfl)) ⟨_, Heap.get?_push_size _ rfl, rfl, rfl⟩ q)
  · subst ex
    cases r1
    obtain ⟨its, _, hT, _⟩ := I1.tuple hx
    exact wpAny_pyIter_tuple (show s1.heap.IsTuple a its.toArray from hT) (pi_one (tk := s1.toks) I1 _ (turn_tuple a _) ⟨_, Heap.get?_push_size _ rfl, rfl, rfl⟩ q)
  · subst ex
    cases r1
    obtain ⟨its, _, hT, _⟩ := I1.list hx
    exact wpAny_pyIter_list hT.isList (pi_one (tk := s1.toks) I1 _ (turn_list a _) ⟨_, Heap.get?_push_size _ rfl, rfl, rfl⟩ q)
theorem di_seq (hl : PE X l (tI X.K E m)) : PI X tg l (iI X.K E (mSeqI m)) := by
  refine pi_le (pi_any hl) fun σ H Rr ⟨M, S, Γ, k, kx, r, er, h, h1, h5⟩ => ?_
  refine ⟨M, S, Γ, _, kx, r, er, h, fun d M1 q H1 v r1 e1 d1 => ?_, h5⟩
  cases d with
  | str z => exact .inl ⟨z, dv_str.mp d1, h1 _ _ M1 q H1 _ r1 e1 walkD_str⟩
  | tup ds =>
    obtain ⟨a, vs, rfl, g1, g2⟩ := dv_tup.mp d1
    exact .inr (.inl ⟨a, vs, rfl, (hid_le _ _ _).sqT g1, h1 _ _ M1 q H1 _ r1 e1 (walkD_tup g1 g2)⟩)
  | lst ds =>
    obtain ⟨a, vs, rfl, g1, g2⟩ := dv_lst.mp d1
    exact .inr (.inr ⟨a, vs, rfl, SqL.of (hid_le _ _ _ _ _ g1), h1 _ _ M1 q H1 _ r1 e1 (walkD_list g1 g2)⟩)
  | ref a =>
    obtain ⟨ds, q0, q⟩ := q
    obtain ⟨u, g1, vs, rfl, g2⟩ := r1.chg a _ q0
    exact .inr (.inr ⟨a, vs, dv_ref.mp d1, SqL.of g1, h1 _ _ M1 q H1 _ r1 e1 walkD_mut⟩)
  | non => exact q.elim
  | bl _ => exact q.elim
  | int _ => exact q.elim
  | ty _ => exact q.elim
  | scr _ => exact q.elim
theorem di_range1 (hg : Gl X "range") (hm : X.mg "range" = none) (ha : PE X l (tI X.K E m)) (hs : starEach [l] X.env = [(false, eval l X.env)] := by rfl) : PI X tg (.Call (.Name "range" p) [l] [] pos) (iI X.K E (mRange1 m)) := by
  refine pi_le (pi_range1 hg hm (pa_cons ha pa_nil hs) hs) fun σ H Rr ⟨M, S, Γ, k, kx, r, er, h, h1, h5⟩ => ?_
  refine ⟨M, S, Γ, _, kx, r, er, h, fun d M1 ⟨j, ej, q1, q2, q⟩ H1 v r1 e1 d1 => ?_, h5⟩
  subst ej
  refine ⟨j, by rw [dv_int.mp d1], q1, q2, h1 _ _ M1 q H1 _ r1 e1 walkD_range⟩
theorem di_zip {elts : List Expr} {kk : Nat} (hg : Gl X "zip") (hm : X.mg "zip" = none) (ha : PE X e1 (tI X.K E ma)) (hb : PE X e2 (tI X.K E mb)) (hs2 : starEach [e2] X.env = [(false, eval e2 X.env)] := by rfl)
    (hs : starEach [e1, e2] X.env = (false, eval e1 X.env) :: starEach [e2] X.env := by rfl) (hpl : (backTo pos (starEach [e2] X.env)).any (·.1) = false := by rfl) :
    PI X (.Tuple elts kk tpos) (.Call (.Name "zip" p) [e1, e2] [] pos) (iI X.K E (mZip ma mb)) := by
  refine pi_le (RZ.pi_zipA hg hm (pa_cons ha (pa_cons hb pa_nil hs2) hs) hs hpl) fun σ H Rr ⟨M, S, Γ, k, kx, r, er, h, h1, h5⟩ => ?_
  refine ⟨M, S, Γ, _, kx, r, er, h, fun d M1 q H1 v r1 e1 d1 => ?_, h5⟩
  refine ⟨M1, S, Γ, _, kx, r1, er.mono e1, q, fun e M2 q2 H2 u r2 e2 d2 => ?_, h5.ex e1⟩
  have d1' := d1.mono e2 _
  dsimp only at q2
  split at q2
  · obtain ⟨a, vs, rfl, g1, g2⟩ := dv_tup.mp d1'
    obtain ⟨b, us, rfl, g3, g4⟩ := dv_tup.mp d2
    exact ⟨a, b, vs, us, rfl, .inr ⟨(hid_le _ _ _).sqT g1, (hid_le _ _ _).sqT g3, h1 _ _ M2 q2 H2 _ r2 (e1.trans e2) (walkD_zipT g1 g2 g3 g4)⟩⟩
  · obtain ⟨xs, ys, l1, l2, q2⟩ := q2
    obtain ⟨a, vs, rfl, g1, g2⟩ := ls_sq r2 d1' l1
    obtain ⟨b, us, rfl, g3, g4⟩ := ls_sq r2 d2 l2
    exact ⟨a, b, vs, us, rfl, .inl ⟨SqL.of g1, SqL.of g3, h1 _ _ M2 q2 H2 _ r2 (e1.trans e2) (walkD_zipL (va := .non) (vb := .non) d1' d2)⟩⟩
end
end DL
namespace DL
open PySem L2 PySem.Spec PyProof.Rows
/-! ### o[i] = e, for a list that may change -/
def mSetIx (me mo mi : ME) : MS := fun De Γ M kx => me Γ M (fun d M1 => mo Γ M1 (fun o M2 => mi Γ M2 (fun i M3 => ∃ a ds j n, o = .ref a ∧ M3 a = some (.lst ds) ∧ i = .int n ∧ ixN ds.length n = some j ∧ De.nx Γ (setM M3 a (.lst (ds.set j d)))) kx) kx) kx
section
variable {X : Cx} {E : XK} {e o i : Expr} {me mo mi : ME} {pos p2 : Pos}
theorem ds_setIx (he : PE X e (tI X.K E me)) (ho : PE X o (tI X.K E mo)) (hi : PE X i (tI X.K E mi))
    (ha : ∀ v, assign (.Subscript o i p2) X.env v = (do
      let ov ← holding [v] (eval o X.env)
      let iv ← holding [v, ov] (eval i X.env)
      standAt p2
      holding [v, ov, iv] (setItem ov iv v)
      release [v, ov, iv] []) := by intro _; rfl)
    (hs : swapsWithSole [.Subscript o i p2] e pos.line X.env = pure false := by rfl) (hw : swappedStores [.Subscript o i p2] e X.env = pure none := by rfl)
    (h1 : (assignEach [.Subscript o i p2] X.env).map (·.2) = [assign (.Subscript o i p2) X.env] := by rfl) : PS X (.Assign [.Subscript o i p2] e pos) (tSt X.K E (mSetIx me mo mi)) := by
  refine ps_le (ps_asg he (pg_sub ho hi set_list ha) hs hw h1) fun D σ H ⟨M, S, Γ, De, kx, r, er, h, h1, h2, h3, h4, h5⟩ => ?_
  refine ⟨M, S, Γ, _, kx, r, er, h, fun d M1 q1 H1 v1 r1 e1 d1 => ?_, h5⟩
  refine ⟨M1, S, Γ, _, kx, r1, er.mono e1, q1, fun oo M2 q2 H2 v2 r2 e2 d2 => ?_, h5.ex e1⟩
  refine ⟨M2, S, Γ, _, kx, r2, er.mono (e1.trans e2), q2, fun ii M3 q3 H3 v3 r3 e3 d3 => ?_, h5.ex (e1.trans e2)⟩
  obtain ⟨a, ds, j, n, rfl, g1, rfl, g2, q⟩ := q3
  obtain ⟨u, g3, vs, rfl, g4⟩ := r3.chg a _ g1
  have d1' := d1.mono (e2.trans e3) _
  have hs : (M3 a).isSome = true := by rw [g1]; rfl
  refine ⟨a, vs, n, j, dv_ref.mp d2, dv_int.mp d3, g3, by rw [← g4.length]; exact g2, ?_⟩
  refine h1 Γ _ q _ σ (r3.put (.inl hs) ⟨_, rfl, g4.set d1' j⟩) ?_ ?_
  · rw [hid_set _ _ _ _ _ _ (.inl hs)]
    exact (e1.trans e2).trans e3
  · rw [hid_set _ _ _ _ _ _ (.inl hs)]
    exact er.mono ((e1.trans e2).trans e3)
end
/-! ### a def -/
def startD (n : Nat) (ds : List D) : Env := ds.map some ++ List.replicate (n - ds.length) none
theorem start_ok {K : PySem.W.Frag} {F : Hp} {N : List Str} {ds : List D} {vs : List V} (h : DVs K F ds vs) : EnvR K F (startD N.length ds) (L2.start N vs) := by
  unfold startD L2.start
  refine ⟨by simp [h.length], fun i d q => ?_⟩
  rw [h.length] at q
  by_cases hi : i < ds.length
  · rw [List.getElem?_append_left (by simpa using hi), List.getElem?_map] at q
    cases c : ds[i]? with
    | none => rw [c] at q; cases q
    | some e =>
      rw [c] at q
      cases q
      obtain ⟨v, g1, g2⟩ := h.get c
      refine ⟨v, ?_, g2⟩
      rw [List.getElem?_append_left (by rw [List.length_map, ← h.length]; exact hi), List.getElem?_map, g1]
      rfl
  · rw [List.getElem?_append_right (by simpa using hi), List.getElem?_replicate] at q
    split at q
    · cases q
    · cases q
theorem passN {X : Cx} {E : XK} : Passes CX0 X E := fun _ _ _ _ _ _ _ h => h.elim
section
variable {P : Program} {w : World} {K : PySem.W.Frag} {mg : Str → Option Value} {base : Heap} {x qual : Str} {params : Arguments} {body : List Stmt} {scope : Scope} {dvs : List V} {kws : List (Str × V)} {f : Addr} {fd : FuncData}
/-- a def that lets no exception out -/
theorem d_ok0 {N ps : List Str} {k : Nat} {m : MS} {s : MF} (F : FunD K x qual params body scope dvs kws f fd) (S : FnScope N ps scope)
    (hb : ∀ (cdv : Value) (A : Around) (outer : List PySem.Env) (sh : Shared) (H : Hp) (E : XK), Room k (A.deeper (envOfC qual scope sh.heap.objs.size f cdv)) → PSs (cxOf CX0 P w K mg base N qual scope f cdv A outer sh H E).nox body (tSt K E0 m))
    (len : ∀ ds M k kx, s ds M k kx → ds.length = ps.length)
    (hs : ∀ ds M k kx, s ds M k kx → m { nx := fun _ M' => k .non M', rt := k } (startD N.length ds) M noX) : FnOk P w K mg base CX0 (k + 1) f fd ps (spI K s) := by
  refine F.ok S (fun vs H Q E ⟨M, S, ds, k, kx, r, hd, h, _⟩ => by rw [← hd.length]; exact len _ _ _ _ h) fun cdv A outer sh H vs Q E hr ⟨M, S, ds, k, kx, r, hd, h, kv, kxx⟩ => ⟨_, PSs.nox (hb cdv A outer sh H E hr), ?_⟩
  refine ⟨M, S, _, _, noX, r, start_ok hd, hs _ _ _ _ h, fun Γ' M' q H' σ' r' e' er' => kv _ M' q H' _ r' e' (dv_non.mpr rfl), kv, fun Γ' M' q => q.elim, fun Γ' M' q => q.elim, fun _ _ q => q.elim⟩
theorem FnOk.spec {CX : CXT} {ps : List Str} {k : Nat} {s s' : MF} (F : FnOk P w K mg base CX k f fd ps (spI K s)) (h : ∀ ds M k kx, s' ds M k kx → s ds M k kx) : FnOk P w K mg base CX k f fd ps (spI K s') :=
  F.imp fun vs H Q E ⟨M, S, ds, k, kx, r, hd, q, kv, kxx⟩ => ⟨M, S, ds, k, kx, r, hd, h _ _ _ _ q, kv, kxx⟩
end
/-! ### the box -/
def BoxD (ds : List D) : Prop := ∃ (ns : List Int) (i big mix cnt : Int), ds = [.lst (ns.map D.int), .int i, .int big, .int mix, .int cnt] ∧ 0 ≤ i ∧ 0 ≤ big ∧ 0 ≤ mix ∧ mix < 2147483648
section
variable {K : PySem.W.Frag} {M : Mh} {S H : Hp} {b : Addr}
theorem hid_dom {M M' : Mh} {S H : Hp} (h : ∀ a, (M a).isSome = (M' a).isSome) : hid M S H = hid M' S H := by
  funext a
  unfold hid
  rw [h a]
theorem setM_dom {m : MO} (h : (M b).isSome = true) : ∀ a, (setM M b m a).isSome = (M a).isSome := fun a => by
  unfold setM
  split
  · rename_i e; rw [e, h]; rfl
  · rfl
theorem R.view {m m' : MO} (r : R K M S H) (h : M b = some m) (hm : ∀ u, H b = some u → MOR K (hid M S H) m u → MOR K (hid M S H) m' u) : R K (setM M b m') S H ∧ hid (setM M b m') S H = hid M S H := by
  have eh : hid (setM M b m') S H = hid M S H := hid_dom (setM_dom (by rw [h]; rfl))
  refine ⟨⟨fun a u e => ?_, fun a u e => ?_⟩, eh⟩
  · obtain ⟨h1, h2⟩ := r.hidden a u e
    refine ⟨h1, ?_⟩
    unfold setM
    rw [if_neg fun c => by rw [c, h] at h2; cases h2]
    exact h2
  · rw [eh]
    unfold setM at e
    split at e
    · rename_i c
      cases e
      obtain ⟨y, g1, g2⟩ := r.chg b m h
      rw [c]
      exact ⟨y, g1, hm y g1 g2⟩
    · exact r.chg a u e
theorem ints_back {F : Hp} : ∀ {ns : List Int} {vs : List V}, DVs K F (ns.map D.int) vs → vs = ns.map V.int
  | [], _, h => dvs_nil.mp h
  | n :: ns, _, h => by
    obtain ⟨v, r, rfl, h1, h2⟩ := dvs_cons.mp h
    rw [dv_int.mp h1, ints_back h2]
    rfl
theorem box_in (r : R K M S H) (h : M b = some .box) : ∃ ds, BoxD ds ∧ R K (setM M b (.lst ds)) S H ∧ hid (setM M b (.lst ds)) S H = hid M S H := by
  obtain ⟨u, g1, vs, rfl, l, i, big, mix, cnt, ns, rfl, g2, g3⟩ := r.chg b _ h
  refine ⟨[.lst (ns.map D.int), .int i, .int big, .int mix, .int cnt], ⟨ns, i, big, mix, cnt, rfl, g3⟩, r.view h fun u q _ => ?_⟩
  rw [g1] at q
  cases q
  refine ⟨_, rfl, ?_⟩
  exact dvs_cons.mpr ⟨_, _, rfl, dv_lst.mpr ⟨l, _, rfl, g2, dvs_ints ns⟩, dvs_cons.mpr ⟨_, _, rfl, dv_int.mpr rfl, dvs_cons.mpr ⟨_, _, rfl, dv_int.mpr rfl, DVs.two (dv_int.mpr rfl) (dv_int.mpr rfl)⟩⟩⟩
theorem box_out {ds : List D} (r : R K M S H) (h : M b = some (.lst ds)) (hb : BoxD ds) : R K (setM M b .box) S H ∧ hid (setM M b .box) S H = hid M S H := by
  refine r.view h fun u _ hm => ?_
  obtain ⟨vs, rfl, hd⟩ := hm
  obtain ⟨ns, i, big, mix, cnt, rfl, g⟩ := hb
  obtain ⟨v1, r1, rfl, h1, hd⟩ := dvs_cons.mp hd
  obtain ⟨v2, r2, rfl, h2, hd⟩ := dvs_cons.mp hd
  obtain ⟨v3, r3, rfl, h3, hd⟩ := dvs_cons.mp hd
  obtain ⟨v4, v5, rfl, h4, h5⟩ := dc_two hd
  obtain ⟨l, ws, rfl, g1, g2⟩ := dv_lst.mp h1
  refine ⟨_, rfl, l, i, big, mix, cnt, ns, ?_, ?_, g⟩
  · rw [dv_int.mp h2, dv_int.mp h3, dv_int.mp h4, dv_int.mp h5]
  · rw [g1, ints_back g2]
end
theorem setM_at {M : Mh} {a : Addr} {o : MO} : setM M a o a = some o := by unfold setM; rw [if_pos rfl]
theorem setM_ne {M : Mh} {a b : Addr} {o : MO} (h : b ≠ a) : setM M a o b = M b := by unfold setM; rw [if_neg h]
theorem setM_setM {M : Mh} {a : Addr} {o u : MO} : setM (setM M a o) a u = setM M a u := by funext b; unfold setM; split <;> rfl
theorem setM_same {M : Mh} {a : Addr} {o : MO} (h : M a = some o) : setM M a o = M := by
  funext b
  unfold setM
  split
  · rename_i e; rw [e, h]
  · rfl
section
variable {P : Program} {w : World} {K : PySem.W.Frag} {mg : Str → Option Value} {base : Heap} {f : Addr} {fd : FuncData}
/-- what pulling does, the box a thing of its own -/
def sPull : MF := fun ds M k _ => ∃ b n, ds = [.ref b, .int n] ∧ M b = some .box ∧ 0 < n ∧ n < 1073741824 ∧ ∀ r, 0 ≤ r → r < n → k (.int r) M
theorem pull_box {CX : CXT} {k : Nat} {ps : List Str} {m : MF} (F : FnOk P w K mg base CX k f fd ps (spI K m))
    (h : ∀ (b : Addr) (n : Int) (ds : List D) (M : Mh) (k : DK), BoxD ds → 0 < n → n < 1073741824 → M b = some (.lst ds) → (∀ r ds', 0 ≤ r → r < n → BoxD ds' → k (.int r) (setM M b (.lst ds'))) → m [.ref b, .int n] M k noX) : FnOk P w K mg base CX k f fd ps (spI K sPull) := by
  refine F.imp fun vs H Q E ⟨M, S, ds, k, kx, r, hd, ⟨b, n, e, hb, h1, h2, q⟩, kv, kxx⟩ => ?_
  subst e
  obtain ⟨es, be, r', eh⟩ := box_in r hb
  refine ⟨_, S, _, fun d M' => ∃ ds', BoxD ds' ∧ M' b = some (.lst ds') ∧ k d (setM M' b .box), noX, r', by rw [eh]; exact hd, h b n es _ _ be h1 h2 setM_at fun z ds' z1 z2 bd => ⟨ds', bd, setM_at, ?_⟩, fun d M' ⟨ds', bd, g1, g2⟩ H' v rr ee dd => ?_, fun _ _ z => z.elim⟩
  · rw [setM_setM, setM_setM, setM_same hb]
    exact q z z1 z2
  · obtain ⟨r2, e2⟩ := box_out rr g1 bd
    refine kv d _ g2 H' v r2 ?_ ?_
    · rw [e2, ← eh]
      exact ee
    · rw [e2]
      exact dd
def sBox : MF := fun ds M k _ => ∃ ns : List Int, ds = [.scr ns] ∧ ns.length ≤ 63 ∧ ∀ p, M p = none → k (.ref p) (setM M p .box)
theorem box_box {CX : CXT} {k : Nat} {ps : List Str} {m : MF} (F : FnOk P w K mg base CX k f fd ps (spI K m))
    (h : ∀ (ns : List Int) (M : Mh) (k : DK), ns.length ≤ 63 → (∀ p ds, M p = none → BoxD ds → k (.ref p) (setM M p (.lst ds))) → m [.scr ns] M k noX) : FnOk P w K mg base CX k f fd ps (spI K sBox) := by
  refine F.imp fun vs H Q E ⟨M, S, ds, k, kx, r, hd, ⟨ns, e, hl, q⟩, kv, kxx⟩ => ?_
  subst e
  refine ⟨M, S, _, fun d M' => ∃ p ds, M p = none ∧ d = .ref p ∧ BoxD ds ∧ M' = setM M p (.lst ds), noX, r, hd, h ns M _ hl fun p ds hp bd => ⟨p, ds, hp, rfl, bd, rfl⟩, fun d M' ⟨p, ds, hp, e1, bd, e2⟩ H' v rr ee dd => ?_, fun _ _ z => z.elim⟩
  subst e1 e2
  obtain ⟨r2, e2⟩ := box_out rr setM_at bd
  rw [setM_setM] at r2 e2
  refine kv _ _ (q p hp) H' v r2 ?_ ?_
  · rw [e2]
    exact ee
  · rw [e2]
    exact dd
end
end DL
namespace DL
open PySem L2 PySem.Spec PyProof.Rows
section
variable {X : Cx} {E : XK} {x : Str} {pos p : Pos}
/-! ### the module's constants -/
theorem de_gstr {z : Str} (hg : Gl X x) (hm : ∃ t, X.mg x = some (.str z t)) (hd : (x == ("__debug__" : Str)) = false := by decide) : PE X (.Name x pos) (tI X.K E (mC (.str z))) := by
  obtain ⟨t, hm⟩ := hm
  exact de_c (pe_glob hg hm (v := .str z) ⟨t, rfl⟩ hd) fun _ => dv_str.mpr rfl
theorem de_gint {i : Int} (hg : Gl X x) (hm : ∃ t, X.mg x = some (.int i t)) (hd : (x == ("__debug__" : Str)) = false := by decide) : PE X (.Name x pos) (tI X.K E (mC (.int i))) := by
  obtain ⟨t, hm⟩ := hm
  exact de_c (pe_glob hg hm (v := .int i) ⟨t, rfl⟩ hd) fun _ => dv_int.mpr rfl
theorem de_gref {a : Addr} {d : D} (hg : Gl X x) (hm : X.mg x = some (.ref a)) (g : ∀ F, DV X.K F d (.ref a)) (hd : (x == ("__debug__" : Str)) = false := by decide) : PE X (.Name x pos) (tI X.K E (mC d)) :=
  de_c (pe_glob hg hm (v := .ref a) rfl hd) g
/-! ### targets -/
theorem dg_nm {i : Nat} {K : PySem.W.Frag} (hN : X.N.Nodup) (hi : X.N[i]? = some x) (hx : Loc X.env.scope x := by first | exact Or.inl rfl | exact Or.inr rfl) (hf : X.fn x = true ∨ X.env.scope.names.lookup x = some .local := by first | exact .inl rfl | exact .inr rfl) : PG X (.Name x pos) (gOf K (.nm i)) := by
  rw [gOf]
  exact pg_name hN hi hx hf
theorem dg_tp {es : List Expr} {k : Nat} {ts : List Tg} {K : PySem.W.Frag} (hK : X.K = K) (hc : X.calm = true) (h : PGs X es (gsOf K ts)) (hn : (assignEach es X.env).length = ts.length := by rfl) (hst : (assignEach es X.env).findIdx? (·.1) = none := by rfl) : PG X (.Tuple es k pos) (gOf K (.tp ts)) := by
  subst hK
  rw [gOf]
  exact pg_tup hc h hn hst
theorem dgs_nil {K : PySem.W.Frag} : PGs X [] (gsOf K []) := by
  rw [gsOf]
  exact pgs_nil
theorem dgs_cons {e : Expr} {es : List Expr} {t : Tg} {ts : List Tg} {K : PySem.W.Frag} (h1 : PG X e (gOf K t)) (h2 : PGs X es (gsOf K ts)) (hs : (assignEach (e :: es) X.env).map (·.2) = assign e X.env :: (assignEach es X.env).map (·.2) := by rfl) : PGs X (e :: es) (gsOf K (t :: ts)) := by
  rw [gsOf]
  exact pgs_cons h1 h2 hs
/-! ### own defs -/
/-- the def called x keeps the promise s -/
structure Df (P : Program) (w : World) (K : PySem.W.Frag) (mg : Str → Option Value) (base : Heap) (CX : CXT) (k : Nat) (f : Addr) (fd : FuncData) (x : Str) (ps : List Str) (s : MF) : Prop where
  ok : FnOk P w K mg base CX k f fd ps (spI K s)
  gl : mg x = some (.ref f)
  kp : PySem.W.keepIn K (.ref f) = true
variable {CX : CXT} {k : Nat} {f : Addr} {fd : FuncData} {ps : List Str} {s : MF} {e : Expr} {es : List Expr} {mA mB : MA} {kws : List Keyword}
theorem de_callD (F : Df X.prog X.w X.K X.mg X.base CX k f fd x ps s) (hr : Room k X.A) (hg : Gl X x) (hb : Binds X.K fd ps []) (hx : Passes CX X E)
    (ha : PA X (e :: es) (tA X.K E mA)) (hdb : (x == ("__debug__" : Str)) = false := by decide) (he : starEach (e :: es) X.env = (false, eval e X.env) :: starEach es X.env := by rfl) (hpl : (backTo pos (starEach es X.env)).any (·.1) = false := by rfl) :
    PE X (.Call (.Name x p) (e :: es) [] pos) (tI X.K E (mCall s mA)) := de_call F.ok hr hg F.gl F.kp hb hx ha hdb he hpl
/-- a call's form: n values by place, the keywords ks; g puts them in the parameters' order -/
def Shape (K : PySem.W.Frag) (fd : FuncData) (ps : List Str) (n : Nat) (ks : List Str) (gD : List D → List D → List D) : Prop :=
  ∃ g gV, KBn K fd ps n ks g gV ∧ ∀ (F : Hp) (ds es : List D) (vs zs : List V), DVs K F ds vs → DVs K F es zs → ds.length = n → es.length = ks.length → DVs K F (gD ds es) (gV vs zs)
def mCallN (n m : Nat) (s : MF) (gD : List D → List D → List D) (ma mk : MA) : ME := fun Γ M k kx => ma Γ M (fun ds M1 => mk Γ M1 (fun es M2 => ds.length = n ∧ es.length = m ∧ s (gD ds es) M2 k kx) kx) kx
theorem pk_le {X : Cx} {kws : List Keyword} {t t' : TA} (h : PK X kws t) (i : ∀ σ H Q, t' σ H Q → t σ H Q) : PK X kws t' := ⟨fun pos pins s σ H Q I q => h.run pos pins s σ H Q I (i σ H Q q)⟩
theorem dk_nil : PK X [] (tA X.K E mNil) := pk_le pk_nil fun σ H Q ⟨M, S, Γ, k, kx, hr, er, hm, kv, kxx⟩ => kv [] M hm H [] hr (Ex.refl _) (dvs_nil.mpr rfl)
theorem dk_cons {nm : Option Str} {kpos : Pos} {ma : ME} (ha : PE X e (tI X.K E ma)) (hr : PK X kws (tA X.K E mA)) : PK X (⟨nm, e, kpos⟩ :: kws) (tA X.K E (mCons ma mA)) := pk_le (pk_cons ha hr) fun _ _ _ h => tA_cons h
theorem tI_callN {K : PySem.W.Frag} {n m : Nat} {gD : List D → List D → List D} {gV : List V → List V → List V} (hd : ∀ (F : Hp) (ds es : List D) (vs zs : List V), DVs K F ds vs → DVs K F es zs → ds.length = n → es.length = m → DVs K F (gD ds es) (gV vs zs))
    {σ : L2.St} {H : Hp} {Q : VK} (h : tI K E (mCallN n m s gD mA mB) σ H Q) : tCallN n m (spI K s) gV E (tA K E mA) (tA K E mB) σ H Q := by
  obtain ⟨M, S, Γ, k, kx, hr, er, hm, kv, kxx⟩ := h
  refine ⟨M, S, Γ, _, kx, hr, er, hm, fun ds M1 q1 H1 v1 r1 e1 d1 => ?_, kxx⟩
  refine ⟨M1, S, Γ, _, kx, r1, er.mono e1, q1, fun es M2 ⟨l1, l2, q2⟩ H2 v2 r2 e2 d2 => ?_, kxx.ex e1⟩
  exact ⟨by rw [← d1.length]; exact l1, by rw [← d2.length]; exact l2, M2, S, _, k, kx, r2, hd _ _ _ _ _ (d1.mono e2 _) d2 l1 l2, q2, kv.ex (e1.trans e2), kxx.ex (e1.trans e2)⟩
theorem de_callN {n : Nat} {ks : List Str} {gD : List D → List D → List D} (F : Df X.prog X.w X.K X.mg X.base CX k f fd x ps s) (hr : Room k X.A) (hg : Gl X x) (hb : Shape X.K fd ps n ks gD) (hx : Passes CX X E)
    (ha : PA X (e :: es) (tA X.K E mA)) (hkw : PK X kws (tA X.K E mB)) (hall : (backToKw pos (keywordEach kws X.env)).all (·.1.isSome) = true := by rfl) (hks : (backToKw pos (keywordEach kws X.env)).filterMap (·.1) = ks := by rfl)
    (hdb : (x == ("__debug__" : Str)) = false := by decide) (he : starEach (e :: es) X.env = (false, eval e X.env) :: starEach es X.env := by rfl)
    (hpl : ((backTo pos (starEach (e :: es) X.env)).any (·.1) || (backToKw pos (keywordEach kws X.env)).any (·.1.isNone)) = false := by rfl) :
    PE X (.Call (.Name x p) (e :: es) kws pos) (tI X.K E (mCallN n ks.length s gD mA mB)) := by
  obtain ⟨g, gV, hb, hd⟩ := hb
  exact pe_le (pe_callN F.ok hr hg F.gl F.kp hb hx ha hkw hall hks hdb he hpl) fun _ _ _ h => tI_callN hd h
/-- f(k = v, ..), keywords alone -/
theorem de_callN0 {ks : List Str} {gD : List D → List D → List D} (F : Df X.prog X.w X.K X.mg X.base CX k f fd x ps s) (hr : Room k X.A) (hg : Gl X x) (hb : Shape X.K fd ps 0 ks gD) (hx : Passes CX X E)
    (hkw : PK X kws (tA X.K E mB)) (hall : (backToKw pos (keywordEach kws X.env)).all (·.1.isSome) = true := by rfl) (hks : (backToKw pos (keywordEach kws X.env)).filterMap (·.1) = ks := by rfl)
    (hdb : (x == ("__debug__" : Str)) = false := by decide)
    (hpl : ((backTo pos (starEach [] X.env)).any (·.1) || (backToKw pos (keywordEach kws X.env)).any (·.1.isNone)) = false := by rfl) :
    PE X (.Call (.Name x p) [] kws pos) (tI X.K E (mCallN 0 ks.length s gD mNil mB)) := by
  obtain ⟨g, gV, hb, hd⟩ := hb
  have hp : PE X (.Call (.Name x p) [] kws pos) (tCallN 0 ks.length (spI X.K s) gV E tNil (tA X.K E mB)) := by
    refine ⟨fun pins sh σ H Q I hq => wpAny_Call_Name_kw (ld_glob I hg F.gl ?_ hdb)⟩
    refine PySem.W.callWith_KW0 (h₀ := X.base) I.ok.mod.kin F.kp hall (thn (hkw.run pos pins sh σ H _ I hq) fun ws s2 ⟨zs, H2, I2, rz, l1, l2, q2⟩ => ⟨I2.kIn, ?_⟩) hpl
    rw [hks]
    exact run_fnN (us := []) (vs := []) F.ok hr hb hx I2 .nil rz rfl l2 q2
  refine pe_le hp fun σ H Q h => ?_
  obtain ⟨M, S, Γ, k, kx, hr, er, hm, kv, kxx⟩ := tI_callN hd h
  exact kv [] M hm H [] hr (Ex.refl _) (dvs_nil.mpr rfl)
end
section
variable {K : PySem.W.Frag} {x qual : Str} {params : Arguments} {body : List Stmt} {scope : Scope} {kws : List (Str × V)} {f : Addr} {fd : FuncData} {ps : List Str}
theorem shape_of {n : Nat} {ks : List Str} (g : {α : Type} → List α → List α → List α) (F : FunD K x qual params body scope [] [] f fd)
    (h : ∀ (kV doc pm : Value) (an : Option Addr) (cdv ct : Value) (us ws : List Value), us.length = n → ws.length = ks.length → bindArgs (PySem.W.fnOf x qual params body scope .none kV doc pm an cdv ct) ⟨us, ks.zip ws⟩ = pure (ps.zip (g us ws)))
    (hv : ∀ {vs : List V} {us : List Value} {zs : List V} {ws : List Value}, Vals vs us → Vals zs ws → Vals (g vs zs) (g us ws))
    (hd : ∀ (F : Hp) (ds es : List D) (vs zs : List V), DVs K F ds vs → DVs K F es zs → ds.length = n → es.length = ks.length → DVs K F (g ds es) (g vs zs)) : Shape K fd ps n ks g := by
  obtain ⟨oc, od, dV, kV, doc, pm, an, cdv, ct, osl, rfl, lk, hcd, hD, hK⟩ := F.ex
  rcases hD with ⟨_, rfl⟩ | ⟨e, _⟩
  · exact ⟨g, g, ⟨fun sh us ws _ l1 l2 => .of_eq (h kV doc pm an cdv ct us ws l1 l2), hv⟩, hd⟩
  · exact absurd rfl e
end
/-! ### texts -/
def txOf : List D → Option (List Str)
  | [] => some []
  | .str z :: r => (txOf r).map (z :: ·)
  | _ => none
theorem tx_of {K : PySem.W.Frag} {F : Hp} : ∀ {ds : List D} {vs : List V} {zs : List Str}, DVs K F ds vs → txOf ds = some zs → vs = zs.map V.str
  | [], _, _, h, e => by rw [dvs_nil] at h; subst h; cases e; rfl
  | d :: ds, _, _, h, e => by
    obtain ⟨v, r, rfl, h2, h3⟩ := dvs_cons.mp h
    cases d <;> first | (cases e; done) | skip
    rw [txOf] at e
    cases q : txOf ds with
    | none => rw [q] at e; cases e
    | some cs =>
      rw [q] at e
      cases e
      rw [dv_str.mp h2, tx_of h3 q]
      rfl
theorem dvs_strs {K : PySem.W.Frag} {F : Hp} : ∀ zs : List Str, DVs K F (zs.map D.str) (zs.map V.str)
  | [] => dvs_nil.mpr rfl
  | n :: ns => dvs_cons.mpr ⟨.str n, _, rfl, dv_str.mpr rfl, dvs_strs ns⟩
def mJoin (ms mx : ME) : ME := fun Γ M k kx => ms Γ M (fun d M1 => ∃ a, d = .str a ∧ mx Γ M1 (fun e M2 => ∃ es zs, sqOf M2 e = some es ∧ txOf es = some zs ∧ (zs.map (·.length)).sum + zs.length * a.length ≤ 16777216 ∧ k (.str (Txt.join a zs)) M2) kx) kx
def mSplit (ms mx : ME) : ME := fun Γ M k kx => ms Γ M (fun d M1 => ∃ a, d = .str a ∧ mx Γ M1 (fun e M2 => ∃ b, e = .str b ∧ (b.length == 0) = false ∧ a.length + 2 ≤ sizeLine ∧ k (.lst ((Txt.split a b).map D.str)) M2) kx) kx
section
variable {X : Cx} {E : XK} {apos pos : Pos} {o e : Expr} {mo me : ME}
theorem de_join (ho : PE X o (tI X.K E mo)) (he : PE X e (tI X.K E me)) (hs : starEach [e] X.env = [(false, eval e X.env)] := by rfl) (hbase : attributeBase o "join" X.env (eval o X.env) = eval o X.env := by rfl) (hline : (apos.endLine == pos.line) = true := by rfl) :
    PE X (.Call (.Attribute o "join" apos) [e] [] pos) (tI X.K E (mJoin mo me)) := by
  refine pe_le (pe_join ho he hs hbase hline) fun σ H Q ⟨M, S, Γ, k, kx, hr, er, hm, kv, kxx⟩ => ?_
  refine ⟨M, S, Γ, _, kx, hr, er, hm, fun d M1 ⟨a, ea, q1⟩ H1 v1 r1 e1 d1 => ?_, kxx⟩
  subst ea
  refine ⟨⟨a, dv_str.mp d1⟩, M1, S, Γ, _, kx, r1, er.mono e1, q1, fun y M2 ⟨es, zs, h1, h2, h3, q2⟩ H2 v2 r2 e2 d2 => ?_, kxx.ex e1⟩
  obtain ⟨p, vs, rfl, g1, g2⟩ := sq_of r2 d2 h1
  rw [tx_of g2 h2] at g1
  exact ⟨a, p, zs, dv_str.mp d1, rfl, g1, h3, kv _ M2 q2 H2 _ r2 (e1.trans e2) (dv_str.mpr rfl)⟩
theorem de_split (ho : PE X o (tI X.K E mo)) (he : PE X e (tI X.K E me)) (hs : starEach [e] X.env = [(false, eval e X.env)] := by rfl) (hbase : attributeBase o "split" X.env (eval o X.env) = eval o X.env := by rfl) (hline : (apos.endLine == pos.line) = true := by rfl) :
    PE X (.Call (.Attribute o "split" apos) [e] [] pos) (tI X.K E (mSplit mo me)) := by
  refine pe_le (pe_split ho he hs hbase hline) fun σ H Q ⟨M, S, Γ, k, kx, hr, er, hm, kv, kxx⟩ => ?_
  refine ⟨M, S, Γ, _, kx, hr, er, hm, fun d M1 ⟨a, ea, q1⟩ H1 v1 r1 e1 d1 => ?_, kxx⟩
  subst ea
  refine ⟨⟨a, dv_str.mp d1⟩, M1, S, Γ, _, kx, r1, er.mono e1, q1, fun y M2 ⟨b, eb, h1, h2, q2⟩ H2 v2 r2 e2 d2 => ?_, kxx.ex e1⟩
  subst eb
  refine ⟨a, b, dv_str.mp d1, by rw [dv_str.mp d2], h1, h2, fun p hp => ?_⟩
  obtain ⟨w1, w2, w3⟩ := new_lst r2 hp (dvs_strs (Txt.split a b))
  exact kv _ M2 q2 _ _ w1 ((e1.trans e2).trans w2) w3
end
theorem bt_str : bootBuiltins "str" = some (.type "str") := by decide +kernel
theorem bt_int : bootBuiltins "int" = some (.type "int") := by decide +kernel
theorem bt_bool : bootBuiltins "bool" = some (.type "bool") := by decide +kernel
theorem bt_list : bootBuiltins "list" = some (.type "list") := by decide +kernel
theorem bt_tuple : bootBuiltins "tuple" = some (.type "tuple") := by decide +kernel
theorem bt_dict : bootBuiltins "dict" = some (.type "dict") := by decide +kernel
theorem bb_len : bootBuiltins "len" = some (.builtin "len") := by decide +kernel
theorem bb_all : bootBuiltins "all" = some (.builtin "all") := by decide +kernel
theorem bb_any : bootBuiltins "any" = some (.builtin "any") := by decide +kernel
theorem bb_abs : bootBuiltins "abs" = some (.builtin "abs") := by decide +kernel
theorem bb_min : bootBuiltins "min" = some (.builtin "min") := by decide +kernel
theorem bb_max : bootBuiltins "max" = some (.builtin "max") := by decide +kernel
end DL
namespace DL
open PySem L2 PySem.Spec PyProof.Rows
/-! ### arguments picked by place and by keyword -/
def pick {α : Type} (is : List (Bool × Nat)) (us ws : List α) : List α := is.filterMap fun q => if q.1 then us[q.2]? else ws[q.2]?
theorem Vals.iff_none {vs : List V} {us : List Value} (r : Vals vs us) (i : Nat) : vs[i]? = none ↔ us[i]? = none := by
  rw [List.getElem?_eq_none_iff, List.getElem?_eq_none_iff, r.length]
theorem pick_vals {vs zs : List V} {us ws : List Value} (r : Vals vs us) (q : Vals zs ws) : ∀ is : List (Bool × Nat), Vals (pick is vs zs) (pick is us ws)
  | [] => .nil
  | (b, i) :: is => by
    unfold pick
    rw [List.filterMap_cons, List.filterMap_cons]
    have ih := pick_vals r q is
    unfold pick at ih
    cases b with
    | true =>
      simp only [if_true, Bool.false_eq_true, if_false]
      cases e : vs[i]? with
      | none => rw [(Vals.iff_none r i).mp e]; exact ih
      | some v =>
        obtain ⟨u, e1, e2⟩ := r.get e
        rw [e1]
        exact .cons e2 ih
    | false =>
      simp only [if_true, Bool.false_eq_true, if_false]
      cases e : zs[i]? with
      | none => rw [(Vals.iff_none q i).mp e]; exact ih
      | some v =>
        obtain ⟨u, e1, e2⟩ := q.get e
        rw [e1]
        exact .cons e2 ih
theorem DVs.iff_none {K : PySem.W.Frag} {F : Hp} {ds : List D} {vs : List V} (r : DVs K F ds vs) (i : Nat) : ds[i]? = none ↔ vs[i]? = none := by
  rw [List.getElem?_eq_none_iff, List.getElem?_eq_none_iff, r.length]
theorem pick_dvs {K : PySem.W.Frag} {F : Hp} {ds es : List D} {vs zs : List V} (r : DVs K F ds vs) (q : DVs K F es zs) : ∀ is : List (Bool × Nat), DVs K F (pick is ds es) (pick is vs zs)
  | [] => dvs_nil.mpr rfl
  | (b, i) :: is => by
    unfold pick
    rw [List.filterMap_cons, List.filterMap_cons]
    have ih := pick_dvs r q is
    unfold pick at ih
    cases b with
    | true =>
      simp only [if_true, Bool.false_eq_true, if_false]
      cases e : ds[i]? with
      | none => rw [(DVs.iff_none r i).mp e]; exact ih
      | some v =>
        obtain ⟨u, e1, e2⟩ := r.get e
        rw [e1]
        exact dvs_cons.mpr ⟨u, _, rfl, e2, ih⟩
    | false =>
      simp only [if_true, Bool.false_eq_true, if_false]
      cases e : es[i]? with
      | none => rw [(DVs.iff_none q i).mp e]; exact ih
      | some v =>
        obtain ⟨u, e1, e2⟩ := q.get e
        rw [e1]
        exact dvs_cons.mpr ⟨u, _, rfl, e2, ih⟩
section
variable {K : PySem.W.Frag} {x qual : Str} {params : Arguments} {body : List Stmt} {scope : Scope} {f : Addr} {fd : FuncData} {ps : List Str}
theorem shape_pick {n : Nat} {ks : List Str} (is : List (Bool × Nat)) (F : FunD K x qual params body scope [] [] f fd)
    (h : ∀ (kV doc pm : Value) (an : Option Addr) (cdv ct : Value) (us ws : List Value), us.length = n → ws.length = ks.length → bindArgs (PySem.W.fnOf x qual params body scope .none kV doc pm an cdv ct) ⟨us, ks.zip ws⟩ = pure (ps.zip (pick is us ws))) : Shape K fd ps n ks (pick is) :=
  shape_of (fun us ws => pick is us ws) F h (fun r q => pick_vals r q is) fun _ _ _ _ _ r q _ _ => pick_dvs r q is
end
/-- a def of which nothing is promised -/
theorem fn_false {P : Program} {w : World} {K : PySem.W.Frag} {mg : Str → Option Value} {base : Heap} {CX : CXT} {k : Nat} {f : Addr} {fd : FuncData} {ps : List Str} {s : MF} (h : ∀ ds M k kx, ¬ s ds M k kx) : FnOk P w K mg base CX k f fd ps (spI K s) :=
  ⟨fun _ _ _ _ ⟨_, _, _, _, _, _, _, q, _⟩ => (h _ _ _ _ q).elim, fun _ _ _ _ _ _ _ _ _ _ _ _ _ ⟨_, _, _, _, _, _, _, q, _⟩ => (h _ _ _ _ q).elim⟩
/-- a tuple of plain things of the top -/
def dvD : He.Dv → D
  | .non => .non | .bl b => .bl b | .int i => .int i | .str x => .str x | .ty n => .ty n | _ => .non
def dvOk : He.Dv → Bool
  | .non => true | .bl _ => true | .int _ => true | .str _ => true | .ty _ => true | _ => false
theorem dv_dv {K : PySem.W.Frag} {F : Hp} {v : He.Dv} (h : dvOk v = true) : DV K F (dvD v) (v.v K) := by
  cases v <;> first
    | exact dv_non.mpr rfl
    | exact dv_bl.mpr rfl
    | exact dv_int.mpr rfl
    | exact dv_str.mpr rfl
    | exact dv_ty.mpr rfl
    | (exact absurd (show false = true from h) Bool.false_ne_true)
theorem dvs_dv {K : PySem.W.Frag} {F : Hp} : ∀ {vs : List He.Dv}, vs.all dvOk = true → DVs K F (vs.map dvD) (vs.map (He.Dv.v K))
  | [], _ => dvs_nil.mpr rfl
  | v :: vs, h => by
    rw [List.all_cons, Bool.and_eq_true] at h
    exact dvs_cons.mpr ⟨_, _, rfl, dv_dv h.1, dvs_dv h.2⟩
theorem tup_top {K : PySem.W.Frag} {x : Str} {vs : List He.Dv} (h : He.tupB K x vs = true) (hv : vs.all dvOk = true) (F : Hp) : DV K F (.tup (vs.map dvD)) (.ref (He.ga K x)) :=
  dv_tup.mpr ⟨_, _, rfl, He.tupB_ok h F, dvs_dv hv⟩
/-- where a law begins: nothing may change, nothing is hidden -/
theorem law_start {K : PySem.W.Frag} {H : Hp} {a : Addr} {ns : List Int} {s : MF} (hS : SqL K H a (ns.map V.int)) (h : ∀ M : Mh, s [.scr ns] M (fun d _ => d = .bl true) noX) : spI K s [.ref a] H (fun v _ => v = .bl true) (fun _ _ _ => False) := by
  have e : hid (fun _ => none) (fun _ => none) H = H := by
    funext b
    unfold hid
    simp
  refine ⟨fun _ => none, fun _ => none, [.scr ns], _, noX, ⟨fun a o q => (by cases q), fun a o q => (by cases q)⟩, DVs.one (dv_scr.mpr ⟨a, rfl, by rw [e]; exact hS⟩), h _, fun d M' q H' v r ex dv => ?_, fun _ _ z => z.elim⟩
  subst q
  exact dv_bl.mp dv
end DL
namespace DL
open PySem L2 PySem.Spec PyProof.Rows
/-! ### a dict of the top with text keys -/
abbrev TabD := List (Str × D)
/-- at a stands a dict of the top that shows tab -/
def TabOk (K : PySem.W.Frag) (w : World) (a : Addr) (tab : TabD) : Prop :=
  (∃ es n, KDict K w a es n) ∧ ∀ z : Str, ∃ r, PySem.W.nsIn K a z = some r ∧ match tab.lookup z with
    | none => r = none
    | some d => ∃ u v, r = some u ∧ RelV v u ∧ ∀ F, DV K F d v
section
variable {K : PySem.W.Frag} {w : World} {a : Addr}
theorem find_keys {P : Params} {z : Str} : ∀ {l : List DictEntry} {ks : List Str}, l.map He.keyOf = He.keysIn P ks → z ∉ ks → l.find? (·.key.isStr z) = none
  | [], _, _, _ => rfl
  | e :: r, [], h, _ => by cases h
  | e :: r, k :: ks, h, hz => by
    have h1 : He.keyOf e :: r.map He.keyOf = some (k, PyData.keyHash P k) :: He.keysIn P ks := h
    injection h1 with h2 h3
    have hne : e.key.isStr z = false := by
      unfold He.keyOf at h2
      split at h2
      · rename_i x t q
        have h4 := (Prod.mk.inj (Option.some.inj h2)).1
        subst h4
        rw [q]
        unfold Value.isStr
        have : ¬ x = z := fun c => hz (by rw [c]; exact List.mem_cons_self)
        simp [this]
      · cases h2
    rw [List.find?_cons_of_neg (by rw [hne]; decide)]
    exact find_keys h3 fun c => hz (List.mem_cons_of_mem _ c)
theorem refKey_keys {P : Params} : ∀ {l : List DictEntry} {ks : List Str}, l.map He.keyOf = He.keysIn P ks → l.any (·.refKey) = false
  | [], _, _ => rfl
  | e :: r, [], h => by cases h
  | e :: r, k :: ks, h => by
    have h1 : He.keyOf e :: r.map He.keyOf = some (k, PyData.keyHash P k) :: He.keysIn P ks := h
    injection h1 with h2 h3
    rw [List.any_cons, refKey_keys h3, Bool.or_false]
    unfold He.keyOf at h2
    split at h2
    · rename_i x t q
      unfold DictEntry.refKey
      rw [q]
    · cases h2
theorem ns_out {ks : List Str} {z : Str} (h : He.dicW K a = some (He.keysIn w.params ks)) (hz : z ∉ ks) : PySem.W.nsIn K a z = some none := by
  unfold He.dicW at h
  unfold PySem.W.nsIn
  split at h
  · rename_i c es n sl q
    rw [q]
    split at h
    · have e := Option.some.inj h
      dsimp only
      rw [find_keys e hz]
      dsimp only
      rw [refKey_keys e]
      rfl
    · cases h
  · cases h
/-- from the head's facts: the keys, and the values by key -/
theorem tab_ok {kvs : List (Str × He.Dv)} (hk : He.dicW K a = some (He.keysIn w.params (kvs.map (·.1)))) (hv : He.valsB K a kvs = true) (ho : (kvs.map (·.2)).all dvOk = true) : TabOk K w a (kvs.map fun q => (q.1, dvD q.2)) := by
  refine ⟨He.dicW_ok hk, fun z => ?_⟩
  by_cases hz : z ∈ kvs.map (·.1)
  · have key : ∀ (l : List (Str × He.Dv)), (∀ q ∈ l, q ∈ kvs) → z ∈ l.map (·.1) → ∃ r, PySem.W.nsIn K a z = some r ∧ match (l.map fun q => (q.1, dvD q.2)).lookup z with
        | none => r = none
        | some d => ∃ u v, r = some u ∧ RelV v u ∧ ∀ F, DV K F d v := by
      intro l
      induction l with
      | nil => intro _ h; cases h
      | cons q l ih =>
        intro hs hm
        rw [List.map_cons]
        by_cases e : z = q.1
        · obtain ⟨u, e1, e2⟩ := He.valsB_ok hv (hs q List.mem_cons_self)
          refine ⟨some u, by rw [e]; exact e1, ?_⟩
          rw [List.lookup_cons, show (z == q.1) = true from beq_iff_eq.mpr e]
          refine ⟨u, _, rfl, e2, fun F => dv_dv ?_⟩
          have := List.all_eq_true.mp ho q.2 (List.mem_map.mpr ⟨q, hs q List.mem_cons_self, rfl⟩)
          exact this
        · rw [List.lookup_cons, show (z == q.1) = false from beq_eq_false_iff_ne.mpr e]
          refine ih (fun p hp => hs p (List.mem_cons_of_mem _ hp)) ?_
          rcases List.mem_cons.mp hm with h | h
          · exact absurd h e
          · exact h
    exact key kvs (fun _ h => h) hz
  · refine ⟨none, ns_out hk hz, ?_⟩
    have : (kvs.map fun q => (q.1, dvD q.2)).lookup z = none := by
      clear hv ho hk
      induction kvs with
      | nil => rfl
      | cons q l ih =>
        rw [List.map_cons, List.lookup_cons, show (z == q.1) = false from beq_eq_false_iff_ne.mpr fun c => hz (by rw [c]; exact List.mem_cons_self)]
        exact ih fun c => hz (List.mem_cons_of_mem _ c)
    rw [this]
end
def dTabIn (neg : Bool) (tab : TabD) (d : D) (M : Mh) (k : DK) : Prop := ∃ z, d = .str z ∧ k (.bl (if neg then !(tab.lookup z).isSome else (tab.lookup z).isSome)) M
def dTabAt (tab : TabD) (d : D) (M : Mh) (k : DK) : Prop := ∃ z x, d = .str z ∧ tab.lookup z = some x ∧ k x M
def mTabGet (tab : TabD) (me mf : ME) : ME := fun Γ M k kx => me Γ M (fun d M1 => ∃ z, d = .str z ∧ mf Γ M1 (fun e M2 => k ((tab.lookup z).getD e) M2) kx) kx
section
variable {X : Cx} {E : XK} {e f : Expr} {me mf : ME} {t : Str} {p pos apos cpos : Pos} {a : Addr} {tab : TabD}
/-- t.get(e, f), by values -/
def tKGet (K : PySem.W.Frag) (a : Addr) (te tf : TE) : TE := fun σ H Q => te σ H fun y H1 => tf σ H1 fun v H2 => ∃ (z : Str) (r : Option Value), y = .str z ∧ PySem.W.nsIn K a z = some r ∧ (r = none → Q v H2) ∧ ∀ u, r = some u → ∃ v', RelV v' u ∧ Q v' H2
theorem pe_kget {te tf : TE} {es : Array DictEntry} {n : Nat} (hg : Gl X t) (hm : X.mg t = some (.ref a)) (kd : KDict X.K X.w a es n) (he : PE X e te) (hf : PE X f tf) (m : M2 X (.Name t p) "get" apos e f cpos) (hd : (t == ("__debug__" : Str)) = false := by decide) :
    PE X (.Call (.Attribute (.Name t p) "get" apos) [e, f] [] cpos) (tKGet X.K a te tf) := by
  refine ⟨fun pins s σ H Q I hq => ?_⟩
  refine wpAny_Call_method m.base m.few m.line PySem.F.plainAttrs_dict PySem.F.slot_dict_get PySem.F.type_dict_get (ld_glob I hg hm ?_ hd)
  refine ⟨kd_type kd I, fun b q => ?_, ?_⟩
  · cases q
    exact ⟨_, I.kIn _ _ kd.at_, rfl⟩
  rw [m.trees]
  refine Calls.callWith_builtin rfl (Calls.evalArgs_plain (Calls.spliced_cons (thn (he.run pins s σ H _ I hq) fun iv s2 ⟨y, H2, I2, ry, q2⟩ => ?_)))
  refine Calls.spliced_cons (thn (hf.run pins s2 σ H2 _ I2 q2) fun fv s3 ⟨v, H3, I3, rz, z, r, ey, ns, q3, q4⟩ => Calls.spliced_nil ?_)
  subst ey
  obtain ⟨tz, rfl⟩ := ry
  refine call_meetsIn PySem.F.slot_dict_get (kd_type kd I3) PySem.F.entry_dict_get (PySem.F.args_dict_get_3 _ _ _) (meets_dict_get_default (strKind X.prog X.w) a (PySem.strKind_is X.prog X.w z tz) kd.low fv) ⟨_, PySem.W.mapOf_K (prog := X.prog) I3.kIn kd.at_ kd.lit, ?_⟩
  rw [PySem.W.find_K kd.at_ ns]
  cases r with
  | none => exact ⟨v, H3, I3.tok _, rz, q3 rfl⟩
  | some u =>
    obtain ⟨v', rv, q⟩ := q4 u rfl
    exact ⟨v', H3, I3.tok _, rv, q⟩
theorem de_tabGet (hg : Gl X t) (hm : X.mg t = some (.ref a)) (T : TabOk X.K X.w a tab) (he : PE X e (tI X.K E me)) (hf : PE X f (tI X.K E mf)) (m : M2 X (.Name t p) "get" apos e f cpos) (hd : (t == ("__debug__" : Str)) = false := by decide) :
    PE X (.Call (.Attribute (.Name t p) "get" apos) [e, f] [] cpos) (tI X.K E (mTabGet tab me mf)) := by
  obtain ⟨⟨es, n, kd⟩, hT⟩ := T
  refine pe_le (pe_kget hg hm kd he hf m hd) fun σ H Q ⟨M, S, Γ, k, kx, r, er, h, kv, kxx⟩ => ?_
  refine ⟨M, S, Γ, _, kx, r, er, h, fun d M1 ⟨z, ez, q1⟩ H1 v1 r1 e1 d1 => ?_, kxx⟩
  subst ez
  refine ⟨M1, S, Γ, _, kx, r1, er.mono e1, q1, fun d2 M2 q2 H2 v2 r2 e2 d2' => ?_, kxx.ex e1⟩
  obtain ⟨rr, ns, hr⟩ := hT z
  refine ⟨z, rr, dv_str.mp d1, ns, fun e => ?_, fun u e => ?_⟩
  · subst e
    cases q : tab.lookup z with
    | none => rw [q] at q2; exact kv _ M2 q2 H2 v2 r2 (e1.trans e2) d2'
    | some x => rw [q] at hr; obtain ⟨_, _, h, _⟩ := hr; cases h
  · subst e
    cases q : tab.lookup z with
    | none => rw [q] at hr; cases hr
    | some x =>
      rw [q] at hr q2
      obtain ⟨u', v, h, rv, hv⟩ := hr
      cases h
      exact ⟨v, rv, kv _ M2 q2 H2 v r2 (e1.trans e2) (hv _)⟩
/-- t[e], by values -/
theorem ix_kd {es : Array DictEntry} {n : Nat} (kd : KDict X.K X.w a es n) : IxR X (fun x y H Q => ∃ (z : Str) (u0 : Value) (v0 : V), x = .ref a ∧ y = .str z ∧ PySem.W.nsIn X.K a z = some (some u0) ∧ RelV v0 u0 ∧ Q v0 H) := by
  intro value slice pins s σ H x y v u Q I rx ry hq hs
  obtain ⟨z, u0, v0, ex, ey, e, r0, q⟩ := hq
  subst ex ey
  have hv : v = .ref a := rx
  rw [hv] at hs ⊢
  exact tail_any (kd_type kd I) PySem.F.slot_dict_getitem.lookup (op_item_kd kd pins s σ H (.ref a) _ _ _ Q I rfl ry ⟨z, u0, v0, rfl, rfl, e, r0, q⟩) hs
/-- t[e] -/
theorem de_tabAt (hg : Gl X t) (hm : X.mg t = some (.ref a)) (T : TabOk X.K X.w a tab) (he : PE X e (tI X.K E me)) (hs : PlainIx e) (hd : (t == ("__debug__" : Str)) = false := by decide) : PE X (.Subscript (.Name t p) e pos) (tI X.K E (mUn (dTabAt tab) me)) := by
  obtain ⟨⟨es, n, kd⟩, hT⟩ := T
  refine pe_le (pe_ix (ix_kd kd) (pe_glob hg hm (v := .ref a) rfl hd) he hs) fun σ H Q ⟨M, S, Γ, k, kx, r, er, h, kv, kxx⟩ => ?_
  refine ⟨M, S, Γ, _, kx, r, er, h, fun d M1 ⟨z, x, ez, el, q1⟩ H1 v1 r1 e1 d1 => ?_, kxx⟩
  subst ez
  obtain ⟨rr, ns, hr⟩ := hT z
  rw [el] at hr
  obtain ⟨u, v, rfl, rv, hv⟩ := hr
  exact ⟨z, u, v, rfl, dv_str.mp d1, ns, rv, kv _ M1 q1 H1 v r1 e1 (hv _)⟩
/-- e in t, e not in t -/
theorem tI_in {neg : Bool} {σ : L2.St} {H : Hp} {Q : VK} (hT : ∀ z : Str, ∃ r, PySem.W.nsIn X.K a z = some r ∧ match tab.lookup z with
    | none => r = none
    | some d => ∃ u v, r = some u ∧ RelV v u ∧ ∀ F, DV X.K F d v) (h : tI X.K E (mUn (dTabIn neg tab) me) σ H Q) :
    tOp (fun x y H Q => ∃ (z : Str) (r : Option Value), x = .str z ∧ y = .ref a ∧ PySem.W.nsIn X.K a z = some r ∧ Q (.bl (if neg then !r.isSome else r.isSome)) H) (tI X.K E me) (tC (.ref a)) σ H Q := by
  obtain ⟨M, S, Γ, k, kx, r, er, h, kv, kxx⟩ := h
  refine ⟨M, S, Γ, _, kx, r, er, h, fun d M1 ⟨z, ez, q1⟩ H1 v1 r1 e1 d1 => ?_, kxx⟩
  subst ez
  obtain ⟨rr, ns, hr⟩ := hT z
  have e : rr.isSome = (tab.lookup z).isSome := by
    cases q : tab.lookup z with
    | none => rw [q] at hr; rw [hr]; rfl
    | some x =>
      rw [q] at hr
      obtain ⟨u, v, rfl, _⟩ := hr
      rfl
  exact ⟨z, rr, dv_str.mp d1, rfl, ns, by rw [e]; exact kv _ M1 q1 H1 _ r1 e1 (dv_bl.mpr rfl)⟩
theorem dt_tabIn (hg : Gl X t) (hm : X.mg t = some (.ref a)) (T : TabOk X.K X.w a tab) (he : PE X e (tI X.K E me)) (hb : behindInMarks .In (.Name t p) = false := by rfl) (hd : (t == ("__debug__" : Str)) = false := by decide) : PT X (.Compare e [.In] [.Name t p] pos) (tT X.K E (mTest (mUn (dTabIn false tab) me))) := by
  obtain ⟨⟨es, n, kd⟩, hT⟩ := T
  exact pt_le (pt_cmpR (op_in_kd kd) he (pe_glob hg hm (v := .ref a) rfl hd) hb) fun _ _ _ h => tI_in (neg := false) hT (tT_test h)
theorem dt_tabNotIn (hg : Gl X t) (hm : X.mg t = some (.ref a)) (T : TabOk X.K X.w a tab) (he : PE X e (tI X.K E me)) (hb : behindInMarks .NotIn (.Name t p) = false := by rfl) (hd : (t == ("__debug__" : Str)) = false := by decide) : PT X (.Compare e [.NotIn] [.Name t p] pos) (tT X.K E (mTest (mUn (dTabIn true tab) me))) := by
  obtain ⟨⟨es, n, kd⟩, hT⟩ := T
  exact pt_le (pt_cmpR (op_notIn_kd kd) he (pe_glob hg hm (v := .ref a) rfl hd) hb) fun _ _ _ h => tI_in (neg := true) hT (tT_test h)
end
theorem tab_eq {fa : List He.Fa} {fn : List He.DefD} {ts : List He.Tab} {w : World} {K : PySem.W.Frag} (c : He.SaysT fa fn ts w K) (i : Nat) {t : He.Tab} (h : ts[i]? = some t := by rfl) : He.dicW K (t.1 K) = some (He.keysIn w.params t.2) := by
  have e : ts.map (fun t => He.dicW K (t.1 K)) = ts.map fun t => some (He.keysIn w.params t.2) := congrArg (fun z : He.AlT => z.2) c
  have e2 := congrArg (fun l : List (Option (List (Option (Str × Int)))) => l[i]?) e
  simp only [List.getElem?_map, h, Option.map_some] at e2
  exact Option.some.inj e2
/-! ### calls that leave defaults out -/
def Tail (K : PySem.W.Frag) (fd : FuncData) (ps : List Str) (t : List D) : Prop := ∃ dvs ds, Vals dvs ds ∧ Binds K fd ps ds ∧ ∀ F, DVs K F t dvs
def mCallT (s : MF) (t : List D) (ma : MA) : ME := fun Γ M k kx => ma Γ M (fun ds M1 => s (ds ++ t) M1 k kx) kx
section
variable {X : Cx} {E : XK} {CX : CXT} {k : Nat} {f : Addr} {fd : FuncData} {ps : List Str} {s : MF} {e : Expr} {es : List Expr} {mA : MA} {x : Str} {p pos : Pos} {t : List D}
theorem de_callT (F : Df X.prog X.w X.K X.mg X.base CX k f fd x ps s) (hr : Room k X.A) (hg : Gl X x) (hb : Tail X.K fd ps t) (hx : Passes CX X E)
    (ha : PA X (e :: es) (tA X.K E mA)) (hdb : (x == ("__debug__" : Str)) = false := by decide) (he : starEach (e :: es) X.env = (false, eval e X.env) :: starEach es X.env := by rfl) (hpl : (backTo pos (starEach es X.env)).any (·.1) = false := by rfl) :
    PE X (.Call (.Name x p) (e :: es) [] pos) (tI X.K E (mCallT s t mA)) := by
  obtain ⟨dvs, dl, hv, hb, hd⟩ := hb
  refine pe_le (pe_call F.ok hr hg F.gl F.kp hb hv hx ha hdb he hpl) fun σ H Q ⟨M, S, Γ, k, kx, r, er, h, kv, kxx⟩ => ?_
  refine ⟨M, S, Γ, _, kx, r, er, h, fun ds M1 q1 H1 v1 r1 e1 d1 => ?_, kxx⟩
  exact ⟨M1, S, _, k, kx, r1, d1.append (hd _), q1, kv.ex e1, kxx.ex e1⟩
end
/-- arguments by place (0), defaults (1), keywords (2) -/
def sel3 {α : Type} (q : Nat × Nat) (us ms ws : List α) : List α := if q.1 = 0 then us[q.2]?.toList else if q.1 = 1 then ms[q.2]?.toList else ws[q.2]?.toList
def pick3 {α : Type} (is : List (Nat × Nat)) (us ms ws : List α) : List α := is.flatMap fun q => sel3 q us ms ws
theorem Vals.at1 {vs : List V} {us : List Value} (r : Vals vs us) (i : Nat) : Vals vs[i]?.toList us[i]?.toList := by
  cases e : vs[i]? with
  | none => rw [(Vals.iff_none r i).mp e]; exact .nil
  | some v =>
    obtain ⟨u, e1, e2⟩ := r.get e
    rw [e1]
    exact .cons e2 .nil
theorem DVs.at1 {K : PySem.W.Frag} {F : Hp} {ds : List D} {vs : List V} (r : DVs K F ds vs) (i : Nat) : DVs K F ds[i]?.toList vs[i]?.toList := by
  cases e : ds[i]? with
  | none => rw [(DVs.iff_none r i).mp e]; exact dvs_nil.mpr rfl
  | some v =>
    obtain ⟨u, e1, e2⟩ := r.get e
    rw [e1]
    exact DVs.one e2
theorem pick3_vals {vs mz zs : List V} {us mv ws : List Value} (r : Vals vs us) (o : Vals mz mv) (q : Vals zs ws) : ∀ is : List (Nat × Nat), Vals (pick3 is vs mz zs) (pick3 is us mv ws)
  | [] => .nil
  | (b, i) :: is => by
    have ih := pick3_vals r o q is
    unfold pick3 at ih ⊢
    rw [List.flatMap_cons, List.flatMap_cons]
    refine L2.Vals.append ?_ ih
    unfold sel3
    split
    · exact Vals.at1 r i
    · split
      · exact Vals.at1 o i
      · exact Vals.at1 q i
theorem pick3_dvs {K : PySem.W.Frag} {F : Hp} {ds ts es : List D} {vs mz zs : List V} (r : DVs K F ds vs) (o : DVs K F ts mz) (q : DVs K F es zs) : ∀ is : List (Nat × Nat), DVs K F (pick3 is ds ts es) (pick3 is vs mz zs)
  | [] => dvs_nil.mpr rfl
  | (b, i) :: is => by
    have ih := pick3_dvs r o q is
    unfold pick3 at ih ⊢
    rw [List.flatMap_cons, List.flatMap_cons]
    refine DVs.append ?_ ih
    unfold sel3
    split
    · exact DVs.at1 r i
    · split
      · exact DVs.at1 o i
      · exact DVs.at1 q i
section
variable {K : PySem.W.Frag} {x qual : Str} {params : Arguments} {body : List Stmt} {scope : Scope} {kws : List (Str × V)} {f : Addr} {fd : FuncData} {ps : List Str}
/-- keyword-only parameters with defaults ms that are left out -/
theorem shape_pick3 {n : Nat} {ks : List Str} (is : List (Nat × Nat)) (ms : List (Str × V)) (ts : List D) (F : FunD K x qual params body scope [] kws f fd) (hk : kws ≠ []) (hms : ∀ q ∈ ms, q ∈ kws) (ht : ∀ F, DVs K F ts (ms.map (·.2)))
    (h : ∀ (D : Addr) (doc pm : Value) (an : Option Addr) (cdv ct : Value) (us mv ws : List Value), us.length = n → mv.length = ms.length → ws.length = ks.length →
      KwChain D ((ms.map (·.1)).zip mv) (bindArgs (PySem.W.fnOf x qual params body scope .none (.ref D) doc pm an cdv ct) ⟨us, ks.zip ws⟩) (ps.zip (pick3 is us mv ws))) : Shape K fd ps n ks (fun us ws => pick3 is us ts ws) := by
  obtain ⟨mv, hb⟩ := FunD.kbinds0 F n ks ms (fun us mv ws => pick3 is us mv ws) hk hms (fun r o q => pick3_vals r o q is) h
  exact ⟨_, _, hb, fun F' ds es vs zs r q _ _ => pick3_dvs r (ht F') q is⟩
theorem tail_of (F : FunD K x qual params body scope [] kws f fd) (n : Nat) (hk : kws ≠ []) (hn : n + kws.length = ps.length) (ts : List D) (ht : ∀ F, DVs K F ts (kws.map (·.2)))
    (h : ∀ (D : Addr) (doc pm : Value) (an : Option Addr) (cdv ct : Value) (us ks : List Value), us.length = n → ks.length = kws.length →
      KwChain D ((kws.map (·.1)).zip ks) (bindArgs (PySem.W.fnOf x qual params body scope .none (.ref D) doc pm an cdv ct) ⟨us, []⟩) (ps.zip (us ++ ks))) : Tail K fd ps ts := by
  obtain ⟨ds, hv, hb⟩ := F.binds0 (ps := ps) n hk hn h
  exact ⟨_, ds, hv, hb, ht⟩
end
end DL
namespace DL
open PySem L2
/-! ### dicts that may change: keys ints and texts -/
def keyD : D → Option Key
  | .int i => some (.inl i)
  | .str z => some (.inr z)
  | _ => none
theorem key_dv {K : PySem.W.Frag} {F : Hp} {d : D} {v : V} {k : Key} (h : DV K F d v) (e : keyD d = some k) : v = kV k := by
  cases d with
  | int i => cases e; exact dv_int.mp h
  | str z => cases e; exact dv_str.mp h
  | _ => cases e
def getG (kvs : List (Key × D)) (k : Key) : Option D := (kvs.find? fun kv => decide (kv.1 = k)).map (·.2)
def putG (kvs : List (Key × D)) (k : Key) (d : D) : List (Key × D) :=
  if (kvs.any fun kv => decide (kv.1 = k)) = true then kvs.map (fun kv => if kv.1 = k then (kv.1, d) else kv) else kvs ++ [(k, d)]
theorem getG_pos {p : Key × D} {r : List (Key × D)} {k : Key} (e : p.1 = k) : getG (p :: r) k = some p.2 := by simp [getG, List.find?_cons, e]
theorem getG_neg {p : Key × D} {r : List (Key × D)} {k : Key} (e : ¬ p.1 = k) : getG (p :: r) k = getG r k := by simp [getG, List.find?_cons, e]
section
variable {K : PySem.W.Frag} {F : Hp}
theorem kvd_get (k : Key) : ∀ {kvs : List (Key × D)} {ps : List (Key × V)}, KVD K F kvs ps → (getG kvs k = none ∧ valV ps k = none) ∨ ∃ d v, getG kvs k = some d ∧ valV ps k = some v ∧ DV K F d v
  | [], ps, h => by
    have h : ps = [] := h
    subst h
    exact .inl ⟨rfl, rfl⟩
  | (j, d) :: r, ps, h => by
    obtain ⟨v, t, rfl, h2, h3⟩ := h
    by_cases e : j = k
    · exact .inr ⟨d, v, getG_pos e, valV_pos (p := (j, v)) e, h2⟩
    · rw [getG_neg (p := (j, d)) e, valV_neg (p := (j, v)) e]
      exact kvd_get k h3
theorem kvd_len : ∀ {kvs : List (Key × D)} {ps : List (Key × V)}, KVD K F kvs ps → kvs.length = ps.length
  | [], ps, h => by
    have h : ps = [] := h
    subst h
    rfl
  | (j, d) :: r, ps, h => by
    obtain ⟨v, t, rfl, h2, h3⟩ := h
    rw [List.length_cons, List.length_cons, kvd_len h3]
theorem kvd_any (k : Key) : ∀ {kvs : List (Key × D)} {ps : List (Key × V)}, KVD K F kvs ps → (kvs.any fun kv => decide (kv.1 = k)) = (ps.any fun kv => decide (kv.1 = k))
  | [], ps, h => by
    have h : ps = [] := h
    subst h
    rfl
  | (j, d) :: r, ps, h => by
    obtain ⟨v, t, rfl, h2, h3⟩ := h
    rw [List.any_cons, List.any_cons, kvd_any k h3]
theorem kvd_map {k : Key} {d : D} {v : V} (hd : DV K F d v) : ∀ {kvs : List (Key × D)} {ps : List (Key × V)}, KVD K F kvs ps → KVD K F (kvs.map fun kv => if kv.1 = k then (kv.1, d) else kv) (ps.map fun kv => if kv.1 = k then (kv.1, v) else kv)
  | [], ps, h => by
    have h : ps = [] := h
    subst h
    rfl
  | (j, e) :: r, ps, h => by
    obtain ⟨u, t, rfl, h2, h3⟩ := h
    rw [List.map_cons, List.map_cons]
    by_cases c : j = k
    · rw [if_pos c, if_pos c]
      exact ⟨v, _, rfl, hd, kvd_map hd h3⟩
    · rw [if_neg c, if_neg c]
      exact ⟨u, _, rfl, h2, kvd_map hd h3⟩
theorem kvd_snoc {k : Key} {d : D} {v : V} (hd : DV K F d v) : ∀ {kvs : List (Key × D)} {ps : List (Key × V)}, KVD K F kvs ps → KVD K F (kvs ++ [(k, d)]) (ps ++ [(k, v)])
  | [], ps, h => by
    have h : ps = [] := h
    subst h
    exact ⟨v, [], rfl, hd, rfl⟩
  | (j, e) :: r, ps, h => by
    obtain ⟨u, t, rfl, h2, h3⟩ := h
    exact ⟨u, _, rfl, h2, kvd_snoc hd h3⟩
theorem kvd_put {k : Key} {d : D} {v : V} (hd : DV K F d v) {kvs : List (Key × D)} {ps : List (Key × V)} (h : KVD K F kvs ps) : KVD K F (putG kvs k d) (putK ps k v) := by
  unfold putG putK
  rw [kvd_any k h]
  split
  · exact kvd_map hd h
  · exact kvd_snoc hd h
/-- flat data is one value -/
theorem flat_eq {d : D} {v u : V} (h : flat d = true) (h1 : DV K F d v) (h2 : DV K F d u) : v = u := by
  cases d with
  | non => rw [dv_non.mp h1, dv_non.mp h2]
  | bl _ => rw [dv_bl.mp h1, dv_bl.mp h2]
  | int _ => rw [dv_int.mp h1, dv_int.mp h2]
  | str _ => rw [dv_str.mp h1, dv_str.mp h2]
  | _ => cases h
theorem flat_b {d : D} {v : V} (h : flat d = true) (h1 : DV K F d v) : flatB v = true := by
  cases d with
  | non => rw [dv_non.mp h1]; rfl
  | bl _ => rw [dv_bl.mp h1]; rfl
  | int _ => rw [dv_int.mp h1]; rfl
  | str _ => rw [dv_str.mp h1]; rfl
  | _ => cases h
theorem kvd_same : ∀ {kvs : List (Key × D)} {ps qs : List (Key × V)}, (∀ p ∈ kvs, flat p.2 = true) → KVD K F kvs ps → KVD K F kvs qs → ps = qs ∧ ∀ p ∈ ps, flatB p.2 = true
  | [], ps, qs, _, h1, h2 => by
    have h1 : ps = [] := h1
    have h2 : qs = [] := h2
    subst h1 h2
    exact ⟨rfl, fun p hp => by cases hp⟩
  | (j, d) :: r, ps, qs, hf, h1, h2 => by
    obtain ⟨v, t, rfl, g2, g3⟩ := h1
    obtain ⟨u, t', rfl, g4, g5⟩ := h2
    obtain ⟨e1, e2⟩ := kvd_same (fun p hp => hf p (List.mem_cons_of_mem _ hp)) g3 g5
    have hd := hf (j, d) List.mem_cons_self
    rw [flat_eq hd g2 g4, e1]
    refine ⟨rfl, fun p hp => ?_⟩
    rcases List.mem_cons.mp hp with rfl | hp
    · exact flat_b hd g4
    · rw [← e1] at hp
      exact e2 p hp
theorem kvd_keys : ∀ {kvs : List (Key × D)} {ps : List (Key × V)}, KVD K F kvs ps → kvs.map (·.1) = ps.map (·.1)
  | [], ps, h => by
    have h : ps = [] := h
    subst h
    rfl
  | (j, d) :: r, ps, h => by
    obtain ⟨v, t, rfl, h2, h3⟩ := h
    rw [List.map_cons, List.map_cons, kvd_keys h3]
theorem valV_mem : ∀ {ps : List (Key × V)}, (ps.map (·.1)).Nodup → ∀ p ∈ ps, valV ps p.1 = some p.2
  | [], _, p, hp => by cases hp
  | q :: r, nd, p, hp => by
    rw [List.map_cons, List.nodup_cons] at nd
    rcases List.mem_cons.mp hp with rfl | hp
    · exact valV_pos rfl
    · rw [valV_neg fun e => nd.1 (by rw [e]; exact List.mem_map.mpr ⟨p, hp, rfl⟩)]
      exact valV_mem nd.2 p hp
end
def mDNew : ME := fun _ M k _ => ∀ p, M p = none → k (.ref p) (setM M p (.dct []))
def dDIx (d e : D) (M : Mh) (k : DK) : Prop := ∃ a kvs j x, d = .ref a ∧ M a = some (.dct kvs) ∧ keyD e = some j ∧ getG kvs j = some x ∧ k x M
def dDInB (neg : Bool) (e d : D) (M : Mh) (k : DK) : Prop := ∃ a kvs j, d = .ref a ∧ M a = some (.dct kvs) ∧ keyD e = some j ∧ k (.bl (if neg then !(getG kvs j).isSome else (getG kvs j).isSome)) M
def mDGet2 (md mk mx : ME) : ME := fun Γ M k kx => md Γ M (fun d M1 => ∃ a, d = .ref a ∧ (∃ kvs, M1 a = some (.dct kvs)) ∧ mk Γ M1 (fun e M2 => mx Γ M2 (fun z M3 => ∃ kvs j, M3 a = some (.dct kvs) ∧ keyD e = some j ∧ k ((getG kvs j).getD z) M3) kx) kx) kx
def mDPut (mv md mk : ME) : MS := fun De Γ M kx => mv Γ M (fun v M1 => md Γ M1 (fun d M2 => mk Γ M2 (fun e M3 => ∃ a kvs j, d = .ref a ∧ M3 a = some (.dct kvs) ∧ keyD e = some j ∧ kvs.length < sizeLine ∧ De.nx Γ (setM M3 a (.dct (putG kvs j v)))) kx) kx) kx
def cDictD (ds : List D) (M : Mh) (k : DK) : Prop := ∃ a kvs, ds = [.ref a] ∧ M a = some (.dct kvs) ∧ ∀ p, M p = none → k (.ref p) (setM M p (.dct kvs))
/-- two dicts that hold the same -/
def dSameD (neg : Bool) (d e : D) (M : Mh) (k : DK) : Prop := ∃ a b kvs, d = .ref a ∧ e = .ref b ∧ M a = some (.dct kvs) ∧ M b = some (.dct kvs) ∧ (kvs.map (·.1)).Nodup ∧ (∀ p ∈ kvs, flat p.2 = true) ∧ k (.bl (!neg)) M
section
variable {X : Cx} {E : XK} {a b e f o i v : Expr} {ma mb me mf : ME} {pos p p2 apos cpos : Pos}
theorem R.dct {K : PySem.W.Frag} {M : Mh} {S H : Hp} {q : Addr} {kvs : List (Key × D)} (r : R K M S H) (h : M q = some (.dct kvs)) : ∃ ps, H q = some (.dK ps) ∧ KVD K (hid M S H) kvs ps := by
  obtain ⟨u, h1, ps, rfl, h2⟩ := r.chg q _ h
  exact ⟨ps, h1, h2⟩
theorem dget_of {K : PySem.W.Frag} {M : Mh} {S H : Hp} {q : Addr} {kvs : List (Key × D)} {d : D} {y : V} {j : Key} (r : R K M S H) (h : M q = some (.dct kvs)) (hy : DV K (hid M S H) d y) (hj : keyD d = some j) : (getG kvs j = none ∧ DGet H q y none) ∨ ∃ x w, getG kvs j = some x ∧ DGet H q y (some w) ∧ DV K (hid M S H) x w := by
  obtain ⟨ps, h1, h2⟩ := r.dct h
  rw [key_dv hy hj]
  rcases kvd_get j h2 with ⟨g1, g2⟩ | ⟨x, w, g1, g2, g3⟩
  · exact .inl ⟨g1, by rw [← g2]; exact DGet.k h1⟩
  · exact .inr ⟨x, w, g1, by rw [← g2]; exact DGet.k h1, g3⟩
theorem de_dnew : PE X (.Dict [] [] pos) (tI X.K E mDNew) := by
  refine pe_le pe_dnewK fun σ H Q ⟨M, S, Γ, k, kx, r, er, h, kv, kxx⟩ p hp => ?_
  have hM := r.freeM hp
  refine kv _ _ (h p hM) _ _ (r.put (.inr hp) ⟨[], rfl, rfl⟩) ?_ (dv_ref.mpr rfl)
  rw [hid_set _ _ _ _ _ _ (.inr hp)]
  exact Ex.refl _
theorem de_dix (hu : X.A.units + 1 < cLine) (ho : PE X o (tI X.K E ma)) (hi : PE X i (tI X.K E mb)) (hs : NoSl i) : PE X (.Subscript o i pos) (tI X.K E (mOp dDIx ma mb)) := by
  refine pe_le (pe_dget hu ho hi hs) fun σ H Q h => ?_
  obtain ⟨M, S, Γ, k, kx, r, er, h, kv, kxx⟩ := h
  refine ⟨M, S, Γ, _, kx, r, er, h, fun d M1 q1 H1 v1 r1 e1 d1 => ?_, kxx⟩
  refine ⟨M1, S, Γ, _, kx, r1, er.mono e1, q1, fun y M2 q2 H2 v2 r2 e2 d2 => ?_, kxx.ex e1⟩
  obtain ⟨q, kvs, j, x, rfl, g1, g2, g3, g4⟩ := q2
  rcases dget_of r2 g1 d2 g2 with ⟨c, _⟩ | ⟨x', w, c1, c2, c3⟩
  · rw [g3] at c; cases c
  · rw [g3] at c1
    cases c1
    exact ⟨q, w, dv_ref.mp d1, c2, kv _ M2 g4 H2 w r2 (e1.trans e2) c3⟩
theorem tI_din {neg : Bool} {σ : L2.St} {H : Hp} {Q : VK} (h : tI X.K E (mOp (dDInB neg) ma mb) σ H Q) : (tI X.K E ma) σ H fun y H1 => (tI X.K E mb) σ H1 fun x H2 => ∃ q ov, x = .ref q ∧ DGet H2 q y ov ∧ Q (.bl (if neg then !ov.isSome else ov.isSome)) H2 := by
  obtain ⟨M, S, Γ, k, kx, r, er, h, kv, kxx⟩ := h
  refine ⟨M, S, Γ, _, kx, r, er, h, fun d M1 q1 H1 v1 r1 e1 d1 => ?_, kxx⟩
  refine ⟨M1, S, Γ, _, kx, r1, er.mono e1, q1, fun y M2 q2 H2 v2 r2 e2 d2 => ?_, kxx.ex e1⟩
  obtain ⟨q, kvs, j, rfl, g1, g2, g4⟩ := q2
  rcases dget_of r2 g1 (d1.mono e2 _) g2 with ⟨c, c2⟩ | ⟨x', w, c1, c2, c3⟩
  · rw [c] at g4
    exact ⟨q, none, dv_ref.mp d2, c2, kv _ M2 g4 H2 _ r2 (e1.trans e2) (dv_bl.mpr rfl)⟩
  · rw [c1] at g4
    exact ⟨q, some w, dv_ref.mp d2, c2, kv _ M2 g4 H2 _ r2 (e1.trans e2) (dv_bl.mpr rfl)⟩
theorem de_din (hu : X.A.units + 1 < cLine) (ha : PE X a (tI X.K E ma)) (hb : PE X b (tI X.K E mb)) (hm : behindInMarks .In b = false := by rfl) : PE X (.Compare a [.In] [b] pos) (tI X.K E (mOp (dDInB false) ma mb)) :=
  pe_le (pe_cmp (pc_din hu ha hb) hm) fun _ _ _ h => tI_din h
theorem de_dnotin (hu : X.A.units + 1 < cLine) (ha : PE X a (tI X.K E ma)) (hb : PE X b (tI X.K E mb)) (hm : behindInMarks .NotIn b = false := by rfl) : PE X (.Compare a [.NotIn] [b] pos) (tI X.K E (mOp (dDInB true) ma mb)) :=
  pe_le (pe_cmp (pc_dnotin hu ha hb) hm) fun _ _ _ h => tI_din h
theorem de_dget2 (hu : X.A.units + 1 < cLine) (ho : PE X o (tI X.K E ma)) (he : PE X e (tI X.K E me)) (hf : PE X f (tI X.K E mf)) (m : M2 X o "get" apos e f cpos) : PE X (.Call (.Attribute o "get" apos) [e, f] [] cpos) (tI X.K E (mDGet2 ma me mf)) := by
  refine pe_le (pe_dget2 hu ho he hf m) fun σ H Q ⟨M, S, Γ, k, kx, r, er, h, kv, kxx⟩ => ?_
  refine ⟨M, S, Γ, _, kx, r, er, h, fun d M1 q1 H1 v1 r1 e1 d1 => ?_, kxx⟩
  obtain ⟨q, rfl, ⟨kvs, g1⟩, q1⟩ := q1
  obtain ⟨ps, g2, _⟩ := r1.dct g1
  refine ⟨q, dv_ref.mp d1, .inl ⟨ps, .inl g2⟩, M1, S, Γ, _, kx, r1, er.mono e1, q1, fun y M2 q2 H2 v2 r2 e2 d2 => ?_, kxx.ex e1⟩
  refine ⟨M2, S, Γ, _, kx, r2, er.mono (e1.trans e2), q2, fun z M3 q3 H3 v3 r3 e3 d3 => ?_, kxx.ex (e1.trans e2)⟩
  obtain ⟨kvs', j, g3, g4, g5⟩ := q3
  rcases dget_of r3 g3 (d2.mono e3 _) g4 with ⟨c, c2⟩ | ⟨x', w, c1, c2, c3⟩
  · rw [c] at g5
    exact ⟨none, c2, kv _ M3 g5 H3 _ r3 ((e1.trans e2).trans e3) d3⟩
  · rw [c1] at g5
    exact ⟨some w, c2, kv _ M3 g5 H3 _ r3 ((e1.trans e2).trans e3) c3⟩
theorem ds_dput (hu : X.A.units + 1 < cLine) (hv : PE X v (tI X.K E me)) (ho : PE X o (tI X.K E ma)) (hi : PE X i (tI X.K E mb)) (hs : swapsWith v (some (.Subscript o i p2)) pos.line X.env = pure false := by rfl) : PS X (.Assign [.Subscript o i p2] v pos) (tSt X.K E (mDPut me ma mb)) := by
  refine ps_le (ps_dput hu ho hi hv hs) fun D σ H ⟨M, S, Γ, De, kx, r, er, h, h1, h2, h3, h4, h5⟩ => ?_
  refine ⟨M, S, Γ, _, kx, r, er, h, fun d M1 q1 H1 v1 r1 e1 d1 => ?_, h5⟩
  refine ⟨M1, S, Γ, _, kx, r1, er.mono e1, q1, fun oo M2 q2 H2 v2 r2 e2 d2 => ?_, h5.ex e1⟩
  refine ⟨M2, S, Γ, _, kx, r2, er.mono (e1.trans e2), q2, fun ii M3 q3 H3 v3 r3 e3 d3 => ?_, h5.ex (e1.trans e2)⟩
  obtain ⟨q, kvs, j, rfl, g1, g2, g3, g4⟩ := q3
  obtain ⟨ps, g5, g6⟩ := r3.dct g1
  have hs : (M3 q).isSome = true := by rw [g1]; rfl
  have d1' := d1.mono (e2.trans e3) _
  refine ⟨q, _, dv_ref.mp d2, by rw [key_dv d3 g2]; exact DPut.k g5 (by rw [← kvd_len g6]; exact g3), ?_⟩
  refine h1 Γ _ g4 _ σ (r3.put (.inl hs) ⟨_, rfl, kvd_put d1' g6⟩) ?_ ?_
  · rw [hid_set _ _ _ _ _ _ (.inl hs)]
    exact (e1.trans e2).trans e3
  · rw [hid_set _ _ _ _ _ _ (.inl hs)]
    exact er.mono ((e1.trans e2).trans e3)
theorem dc_dictD : CallR X (.type "dict") (rLc X.K cDictD) := by
  refine CallR.sub call_dictD fun xs H Q ⟨M, S, ds, k, r, hd, ⟨q, kvs, eds, g1, g2⟩, kv⟩ => ?_
  subst eds
  obtain ⟨v, rfl, hv⟩ := dc_one hd
  obtain ⟨ps, g5, g6⟩ := r.dct g1
  refine ⟨q, ps, by rw [dv_ref.mp hv], .inl g5, fun p hp => ?_⟩
  have hM := r.freeM hp
  refine kv _ _ (g2 p hM) _ _ (r.put (.inr hp) ⟨ps, rfl, g6⟩) ?_ (dv_ref.mpr rfl)
  rw [hid_set _ _ _ _ _ _ (.inr hp)]
  exact Ex.refl _
theorem do_neD (hu : X.A.units < cLine) : OpR X (compareOp .NotEq) (rL2 X.K (dSameD true)) := by
  refine OpR.sub (op_ne_dictA hu) fun x y H Q ⟨M, S, d, e, k, r, hd, he, ⟨a, b, kvs, ed, ee, g1, g2, nd, fl, q⟩, kv⟩ => ?_
  subst ed ee
  obtain ⟨ps, h1, h2⟩ := r.dct g1
  obtain ⟨qs, h3, h4⟩ := r.dct g2
  obtain ⟨e1, e2⟩ := kvd_same fl h2 h4
  subst e1
  rw [kvd_keys h2] at nd
  exact ⟨a, b, ps, ps, dv_ref.mp hd, dv_ref.mp he, h1, h3, rfl, fun p hp => ⟨valV_mem nd p hp, e2 p hp⟩, kv.now r q (dv_bl.mpr rfl)⟩
theorem do_eqD (hu : X.A.units < cLine) : OpR X (compareOp .Eq) (rL2 X.K (dSameD false)) := by
  refine OpR.sub (op_eq_dictA hu) fun x y H Q ⟨M, S, d, e, k, r, hd, he, ⟨a, b, kvs, ed, ee, g1, g2, nd, fl, q⟩, kv⟩ => ?_
  subst ed ee
  obtain ⟨ps, h1, h2⟩ := r.dct g1
  obtain ⟨qs, h3, h4⟩ := r.dct g2
  obtain ⟨e1, e2⟩ := kvd_same fl h2 h4
  subst e1
  rw [kvd_keys h2] at nd
  exact ⟨a, b, ps, ps, dv_ref.mp hd, dv_ref.mp he, h1, h3, rfl, fun p hp => ⟨valV_mem nd p hp, e2 p hp⟩, kv.now r q (dv_bl.mpr rfl)⟩
end
end DL
/-! the bodies of the helpers that all laws share, as readings (printed by gen.py) -/
namespace CM
open PySem L2 DL
def b_is_name : MS := (mSeq (mIfS (mOr (mNot (mTest (mUn (dIsi "str") (mVar 0)))) (mNot (mTest (mChain dLe dLe (mC (.int 1)) (mCB cLen (mCons (mVar 0) mNil)) (mC (.int 6)))))) (mRet (mC (.bl false))) mNext) (mRet (mCB cAll (mCons (mLc (.nm 1) (mSeqI (mVar 0)) mYes (mOp dIn (mVar 1) (mC (.str "abcdefghijklmnopqrstuvwxyz"))) [1]) mNil))))
def b_is_number : MS := (mRet (mAndV (mUn (dIsi "int") (mVar 0)) (mAndV (mNotV (mUn (dIsi "bool") (mVar 0))) (mChain dLe dLe (mVar 1) (mVar 0) (mVar 2)))))
def b__law_box : MS := (mSeq (mAsg (mC (.int 10010)) (.nm 1)) (mSeq (mFor (.nm 2) (mSeqI (mSl dSlice (mVar 0) mNoPart (mPart (mC (.int 63))))) (mAsg (mOp dMod (mCB cInt (mCons (mOp dAdd (mOp dAdd (mOp dMul (mVar 1) (mC (.int 50021))) (mOp dMul (mOp dMod (mCB cInt (mCons (mVar 2) mNil)) (mC (.int 1000003))) (mC (.int 769)))) (mC (.int 17))) mNil)) (mC (.int 2147483587))) (.nm 1))) (mRet (mLstM (mCons (mCB cList (mCons (mSl dSlice (mVar 0) mNoPart (mPart (mC (.int 63)))) mNil)) (mCons (mC (.int 0)) (mCons (mC (.int 0)) (mCons (mVar 1) (mCons (mC (.int 0)) mNil)))))))))
def b__law_pull : MS := (mSeq (mSetIx (mOp dAdd (mOp dIx (mVar 0) (mC (.int 4))) (mC (.int 1))) (mVar 0) (mC (.int 4))) (mSeq (mIfS (mAnd (mTest (mOp dEq (mOp dIx (mVar 0) (mC (.int 2))) (mC (.int 0)))) (mTest (mOp dLt (mOp dIx (mVar 0) (mC (.int 1))) (mCB cLen (mCons (mOp dIx (mVar 0) (mC (.int 0))) mNil))))) (mSeq (mAsg (mOp dIx (mOp dIx (mVar 0) (mC (.int 0))) (mOp dIx (mVar 0) (mC (.int 1)))) (.nm 2)) (mSeq (mSetIx (mOp dAdd (mOp dIx (mVar 0) (mC (.int 1))) (mC (.int 1))) (mVar 0) (mC (.int 1))) (mIfS (mTest (mOp dGe (mCB cAbs (mCons (mVar 2) mNil)) (mOp dPow (mC (.int 10)) (mC (.int 18))))) (mSetIx (mCB cAbs (mCons (mVar 2) mNil)) (mVar 0) (mC (.int 2))) (mSetIx (mOp dMod (mCB cInt (mCons (mOp dAdd (mOp dAdd (mOp dMul (mOp dIx (mVar 0) (mC (.int 3))) (mC (.int 41389))) (mOp dMul (mOp dMod (mCB cInt (mCons (mVar 2) mNil)) (mC (.int 1000003))) (mC (.int 733)))) (mC (.int 31))) mNil)) (mC (.int 2147483629))) (mVar 0) (mC (.int 3)))))) mNext) (mSeq (mIfS (mTest (mOp dGt (mOp dIx (mVar 0) (mC (.int 2))) (mC (.int 0)))) (mSeq (mAsg (mOp dMod (mCB cInt (mCons (mOp dIx (mVar 0) (mC (.int 2))) mNil)) (mVar 1)) (.nm 3)) (mSeq (mSetIx (mOp dDiv (mOp dIx (mVar 0) (mC (.int 2))) (mVar 1)) (mVar 0) (mC (.int 2))) (mRet (mVar 3)))) mNext) (mSeq (mAsg (mOp dMod (mCB cInt (mCons (mOp dAdd (mOp dMul (mOp dIx (mVar 0) (mC (.int 3))) (mOp dIx (mVar 0) (mC (.int 3)))) (mOp dMul (mOp dIx (mVar 0) (mC (.int 4))) (mC (.int 8317)))) mNil)) (mC (.int 2147483549))) (.nm 4)) (mSeq (mSetIx (mOp dMod (mCB cInt (mCons (mOp dAdd (mOp dAdd (mOp dMul (mVar 4) (mC (.int 15973))) (mOp dMul (mOp dIx (mVar 0) (mC (.int 3))) (mC (.int 60107)))) (mC (.int 54013))) mNil)) (mC (.int 2147483629))) (mVar 0) (mC (.int 3))) (mRet (mOp dMod (mCB cInt (mCons (mOp dDiv (mOp dIx (mVar 0) (mC (.int 3))) (mC (.int 64))) mNil)) (mVar 1))))))))
def b__law_of (s__law_pull : MF) : MS := (mRet (mOp dIx (mVar 1) (mCall s__law_pull (mCons (mVar 0) (mCons (mCB cLen (mCons (mVar 1) mNil)) mNil)))))
def b__law_names (s__law_of : MF) (s__law_pull : MF) : MS := (mSeq (mAsg (mC (.str "abcdefghijklmnopqrstuvwxyz")) (.nm 2)) (mSeq (mAsg (mJoin (mC (.str "")) (mLc (.nm 4) (mRange1 (mCall s__law_of (mCons (mVar 0) (mCons (mLst (mCons (mC (.int 0)) (mCons (mC (.int 1)) (mCons (mC (.int 2)) (mCons (mC (.int 5)) mNil))))) mNil)))) mYes (mCall s__law_of (mCons (mVar 0) (mCons (mVar 2) mNil))) [4])) (.nm 3)) (mSeq (mAsg (mTup (mCons (mCall s__law_pull (mCons (mVar 0) (mCons (mOp dAdd (mCB cLen (mCons (mVar 3) mNil)) (mC (.int 1))) mNil))) (mCons (mCall s__law_pull (mCons (mVar 0) (mCons (mC (.int 26)) mNil))) mNil))) (.tp [(.nm 5), (.nm 6)])) (mSeq (mAsg (mLc (.nm 4) (mRange1 (mOp dAdd (mVar 1) (mC (.int 2)))) mYes (mOp dAdd (mOp dAdd (mSl dSlice (mVar 3) mNoPart (mPart (mVar 5))) (mOp dIx (mVar 2) (mOp dMod (mCB cInt (mCons (mOp dAdd (mVar 6) (mOp dMul (mC (.int 7)) (mVar 4))) mNil)) (mC (.int 26))))) (mSl dSlice (mVar 3) (mPart (mVar 5)) mNoPart)) [4]) (.nm 7)) (mRet (mSl dSlice (mLc (.nm 8) (mSeqI (mVar 7)) (mTest (mOp dNotIn (mVar 8) (mLst (mCons (mC (.str "own")) (mCons (mC (.str "name")) (mCons (mC (.str "tick")) (mCons (mC (.str "worth")) mNil))))))) (mVar 8) [8]) mNoPart (mPart (mVar 1))))))))
def b__law_same (s__law_same : MF) : MS := (mSeq (mIfS (mOr (mTest (mOp dIs (mVar 1) (mC .non))) (mTest (mOp dIs (mVar 0) (mC .non)))) (mRet (mAndV (mOp dIs (mVar 1) (mC .non)) (mOp dIs (mVar 0) (mC .non)))) mNext) (mSeq (mIfS (mTest (mUn (dIsi2 "list" "tuple") (mVar 1))) (mSeq (mIfS (mOr (mTest (mOp dNe (mUn (dIsi "list") (mVar 0)) (mUn (dIsi "list") (mVar 1)))) (mTest (mOp dNe (mUn (dIsi "tuple") (mVar 0)) (mUn (dIsi "tuple") (mVar 1))))) (mRet (mC (.bl false))) mNext) (mRet (mAndV (mOp dEq (mCB cLen (mCons (mVar 0) mNil)) (mCB cLen (mCons (mVar 1) mNil))) (mCB cAll (mCons (mLc (.tp [(.nm 2), (.nm 3)]) (mZip (mVar 0) (mVar 1)) mYes (mCall s__law_same (mCons (mVar 2) (mCons (mVar 3) mNil))) [2, 3]) mNil))))) mNext) (mSeq (mIfS (mOr (mTest (mUn (dIsi "bool") (mVar 1))) (mTest (mUn (dIsi "bool") (mVar 0)))) (mRet (mAndV (mUn (dIsi "bool") (mVar 1)) (mAndV (mUn (dIsi "bool") (mVar 0)) (mOp dEq (mVar 0) (mVar 1))))) mNext) (mSeq (mIfS (mTest (mUn (dIsi "int") (mVar 1))) (mRet (mAndV (mUn (dIsi "int") (mVar 0)) (mOp dEq (mVar 0) (mVar 1)))) mNext) (mRet (mAndV (mUn (dIsi "str") (mVar 0)) (mAndV (mUn (dIsi "str") (mVar 1)) (mOp dEq (mVar 0) (mVar 1)))))))))
def b__law_odd (s__law_of : MF) : MS := (mRet (mCall s__law_of (mCons (mVar 0) (mCons (mOp dAdd (mLst (mCons (mC .non) (mCons (mC (.bl true)) (mCons (mC (.bl false)) (mCons (mC (.str "")) (mCons (mC (.str "A")) (mCons (mC (.str "a1")) (mCons (mC (.str "sevenst")) (mCons (mUn dNeg (mC (.int 1))) (mCons (mC (.int 7)) (mCons (mTup (mCons (mC (.int 1)) (mCons (mC (.str "a")) mNil))) (mCons (mLst (mCons (mC (.int 1)) mNil)) (mCons (mTup mNil) (mCons (mOp dPow (mC (.int 10)) (mC (.int 14))) mNil)))))))))))))) (mVar 1)) mNil))))
end CM
namespace CM
open PySem L2 DL
local macro_rules | `(tactic| walk_at "dl") => `(tactic| simp only [mSeq, mIfS, mOr, mAnd, mNot, mTest, mUn, mVar, mC, mOp, mCB, mCons, mNil, mChain, mRet, mRetN, mNext, mAsg, mPar, mTup, mLst, mLstM, mCall, mSl, mPart, mNoPart, mIf, mAndV, mOrV, mNotV, mFor, mLc, mSeqI, mRange1, mZip, mJoin, mSplit, mDrop, mSetIx, mCallN,
    dIsi, dIsi2, dI2, cLen, cInt, cAbs, cMin, cAll, cAny, dIx, dNeg, startD, bindT, bindTs, wipeD, sqOf, lsOf, tyN,
    List.map_cons, List.map_nil, List.cons_append, List.nil_append, List.length_cons, List.length_nil, List.getElem?_cons_zero, List.getElem?_cons_succ, List.set_cons_zero, List.set_cons_succ, List.replicate_succ, List.replicate_zero, Nat.zero_add, Nat.reduceAdd, Nat.reduceSub,
    Option.some.injEq, exists_eq_left', exists_eq_left, exists_and_left, D.bl.injEq, D.int.injEq, D.str.injEq, D.lst.injEq, D.tup.injEq, List.cons.injEq, and_true, true_and, if_true, if_false, Bool.not_true, Bool.not_false, Bool.false_eq_true, reduceCtorEq, false_and, exists_false, isiB, tys, List.mem_cons, String.reduceEq, decide_true, decide_false, Bool.or_false, Bool.false_or, Bool.and_false, Bool.false_and, Bool.or_true, Bool.true_or, Bool.and_true, Bool.true_and, true_or, or_true, false_or, or_false])
/-! ### comprehensions over data -/
section
variable {t : Tg} {G : Mh → Prop} {te : ME} {tt : MT} {Γ : DL.Env} {k : List D → Mh → Prop} {kx : XKd} {M : Mh}
theorem lc_wp (P : D → D → Prop) (hG : G M) : ∀ {ds acc : List D}, (∀ d ∈ ds, ∃ Γ1, bindT t d Γ = some Γ1 ∧ ∀ k' : DK, (∀ y, P d y → k' y M) → te Γ1 M k' kx) → (∀ ys : List D, ys.length = ds.length → (∀ (i : Nat) (d y : D), ds[i]? = some d → ys[i]? = some y → P d y) → k (acc ++ ys) M) → loopLc t G mYes te Γ k kx acc ds M
  | [], acc, _, hk => ⟨hG, by simpa using hk [] rfl (fun i d y h => by simp at h)⟩
  | d :: ds, acc, h, hk => by
    obtain ⟨Γ1, e1, h1⟩ := h d List.mem_cons_self
    refine ⟨hG, Γ1, e1, h1 _ fun y hy => ?_⟩
    refine lc_wp P hG (fun d' hd => h d' (List.mem_cons_of_mem _ hd)) fun ys hl hp => ?_
    have := hk (y :: ys) (by simp [hl]) fun i d' y' q1 q2 => by
      cases i with
      | zero =>
        simp only [List.getElem?_cons_zero, Option.some.injEq] at q1 q2
        subst q1 q2
        exact hy
      | succ i => exact hp i d' y' (by simpa using q1) (by simpa using q2)
    simpa using this
theorem lc_map (f : D → D) (hG : G M) : ∀ {ds acc : List D}, (∀ d ∈ ds, ∃ Γ1, bindT t d Γ = some Γ1 ∧ ∀ k' : DK, k' (f d) M → te Γ1 M k' kx) → k (acc ++ ds.map f) M → loopLc t G mYes te Γ k kx acc ds M
  | [], acc, _, hk => ⟨hG, by simpa using hk⟩
  | d :: ds, acc, h, hk => by
    obtain ⟨Γ1, e1, h1⟩ := h d List.mem_cons_self
    exact ⟨hG, Γ1, e1, h1 _ (lc_map f hG (fun d' hd => h d' (List.mem_cons_of_mem _ hd)) (by simpa using hk))⟩
theorem lc_filter (p : D → Bool) (f : D → D) (hG : G M) : ∀ {ds acc : List D}, (∀ d ∈ ds, ∃ Γ1, bindT t d Γ = some Γ1 ∧ (∀ k' : Bool → Mh → Prop, k' (p d) M → tt Γ1 M k' kx) ∧ ∀ k' : DK, k' (f d) M → te Γ1 M k' kx) → k (acc ++ (ds.filter p).map f) M → loopLc t G tt te Γ k kx acc ds M
  | [], acc, _, hk => ⟨hG, by simpa using hk⟩
  | d :: ds, acc, h, hk => by
    obtain ⟨Γ1, e1, h1, h2⟩ := h d List.mem_cons_self
    refine ⟨hG, Γ1, e1, h1 _ ?_⟩
    cases q : p d with
    | true =>
      rw [if_pos rfl]
      refine h2 _ (lc_filter p f hG (fun d' hd => h d' (List.mem_cons_of_mem _ hd)) ?_)
      rw [List.filter_cons_of_pos q] at hk
      simpa using hk
    | false =>
      rw [if_neg (by decide)]
      refine lc_filter p f hG (fun d' hd => h d' (List.mem_cons_of_mem _ hd)) ?_
      rw [List.filter_cons_of_neg (by rw [q]; decide)] at hk
      simpa using hk
end
theorem bls_map {α : Type} (g : α → Bool) : ∀ (xs : List α), blsOf (xs.map fun x => D.bl (g x)) = some (xs.map g)
  | [] => rfl
  | x :: xs => by
    show (blsOf (xs.map fun x => D.bl (g x))).map (g x :: ·) = _
    rw [bls_map g xs]
    rfl
theorem sz_le {n : Nat} (h : n ≤ 1000000) : n ≤ sizeLine := Nat.le_trans h (by decide)
/-! ### names -/
def letters : Str := "abcdefghijklmnopqrstuvwxyz"
def isNameS (z : Str) : Bool := decide (1 ≤ z.length) && decide (z.length ≤ 6) && z.cps.toList.all fun c => decide (c ∈ letters.cps.toList)
def isName : D → Bool
  | .str z => isNameS z
  | _ => false
theorem sign_in {M : Mh} {k : DK} {c : Nat} {z : Str} (h : k (.bl (decide (c ∈ z.cps.toList))) M) : dIn (.str ⟨#[c]⟩) (.str z) M k := ⟨c, rfl, h⟩
def sIsName : MF := fun ds M k _ => ∃ d, ds = [d] ∧ tyN M d ∈ tys ∧ (∀ z, d = .str z → z.length ≤ 1000000) ∧ k (.bl (isName d)) M
/-- all letters of a text lie in another -/
theorem lc_signs {i : Nat} {z w : Str} {Γ : DL.Env} {M : Mh} {kx : XKd} {k : List D → Mh → Prop} (hi : i < Γ.length) (h : k (z.cps.toList.map fun c => .bl (decide (c ∈ w.cps.toList))) M) :
    loopLc (.nm i) anyG mYes (mOp dIn (mVar i) (mC (.str w))) Γ k kx [] (signs z) M := by
  refine lc_map (fun d => match d with | .str s => .bl (decide (s.cps.toList.headD 0 ∈ w.cps.toList)) | _ => .non) trivial (fun d hd => ?_) ?_
  · unfold signs at hd
    obtain ⟨c, _, rfl⟩ := List.mem_map.mp hd
    refine ⟨_, rfl, fun k' hk => ⟨_, List.getElem?_set_self hi, ?_⟩⟩
    exact sign_in (by simpa using hk)
  · unfold signs
    rw [List.map_map, List.nil_append]
    exact h
theorem is_name_ok (ds : List D) (M : Mh) (k : DK) (kx : XKd) (h : sIsName ds M k kx) : b_is_name { nx := fun _ M' => k .non M', rt := k } (startD 2 ds) M noX := by
  obtain ⟨d, rfl, ht, hz, h⟩ := h
  have other : isName d = false → isiB (tyN M d) "str" = false → b_is_name { nx := fun _ M' => k .non M', rt := k } (startD 2 [d]) M noX := fun e1 e2 => by
    rw [e1] at h
    refine ⟨d, rfl, ht, _, rfl, ?_⟩
    rw [e2]
    exact h
  cases d with
  | str z =>
    have hz := hz z rfl
    unfold b_is_name
    walk_at "dl"
    refine ⟨sz_le hz, ?_⟩
    have e : isName (.str z) = (decide ((1 : Int) ≤ z.length) && decide ((z.length : Int) ≤ 6) && z.cps.toList.all fun c => decide (c ∈ letters.cps.toList)) := by
      show (decide (1 ≤ z.length) && decide (z.length ≤ 6) && _) = _
      congr 2
      · exact decide_eq_decide.mpr (by omega)
      · exact decide_eq_decide.mpr (by omega)
    rw [e] at h
    by_cases h1 : (1 : Int) ≤ z.length
    · rw [decide_eq_true h1] at h ⊢
      by_cases h2 : (z.length : Int) ≤ 6
      · rw [decide_eq_true h2] at h ⊢
        have hl : (signs z).length = z.length := by unfold signs; simp; rfl
        refine ⟨by rw [hl]; exact sz_le hz, lc_signs (by show 1 < 2; decide) ⟨_, bls_map _ _, ?_⟩⟩
        rw [List.all_map]
        exact h
      · rw [decide_eq_false h2] at h ⊢
        exact h
    · rw [decide_eq_false h1] at h ⊢
      exact h
  | non => exact other rfl rfl
  | bl _ => exact other rfl rfl
  | int _ => exact other rfl rfl
  | tup _ => exact other rfl rfl
  | lst _ => exact other rfl rfl
  | ty _ => exact other rfl rfl
  | scr _ => exact other rfl rfl
  | ref a =>
    refine other rfl ?_
    show isiB (tyM (M a)) "str" = false
    unfold tyM
    split <;> rfl
/-! ### numbers -/
def isNum (a b : Int) : D → Bool
  | .int i => decide (a ≤ i) && decide (i ≤ b)
  | _ => false
def sIsNumber : MF := fun ds M k _ => ∃ d a b, ds = [d, .int a, .int b] ∧ tyN M d ∈ tys ∧ k (.bl (isNum a b d)) M
theorem is_number_ok (ds : List D) (M : Mh) (k : DK) (kx : XKd) (h : sIsNumber ds M k kx) : b_is_number { nx := fun _ M' => k .non M', rt := k } (startD 3 ds) M noX := by
  obtain ⟨d, a, b, rfl, ht, h⟩ := h
  unfold b_is_number
  have other : isNum a b d = false → isiB (tyN M d) "int" = false → (mRet (mAndV (mUn (dIsi "int") (mVar 0)) (mAndV (mNotV (mUn (dIsi "bool") (mVar 0))) (mChain dLe dLe (mVar 1) (mVar 0) (mVar 2))))) { nx := fun _ M' => k .non M', rt := k } (startD 3 [d, .int a, .int b]) M noX := fun e1 e2 => by
    rw [e1] at h
    refine ⟨d, rfl, ht, _, rfl, ?_⟩
    rw [e2]
    exact h
  cases d with
  | int i =>
    walk_at "dl"
    by_cases h1 : a ≤ i
    · simp only [isNum, decide_eq_true h1, Bool.true_and] at h
      rw [decide_eq_true h1]
      exact h
    · simp only [isNum, decide_eq_false h1, Bool.false_and] at h
      rw [decide_eq_false h1]
      exact h
  | bl c =>
    walk_at "dl"
    exact h
  | non => exact other rfl rfl
  | str _ => exact other rfl rfl
  | tup _ => exact other rfl rfl
  | lst _ => exact other rfl rfl
  | ty _ => exact other rfl rfl
  | scr _ => exact other rfl rfl
  | ref a =>
    refine other rfl ?_
    show isiB (tyM (M a)) "int" = false
    unfold tyM
    split <;> rfl
/-! ### the box -/
theorem ix_box {M : Mh} {b : Addr} {ds : List D} {x : D} {i j : Nat} {Γ : DL.Env} {k : DK} {kx : XKd} (hΓ : Γ[i]? = some (some (.ref b))) (hm : M b = some (.lst ds)) (hx : ds[j]? = some x) (h : k x M) : mOp dIx (mVar i) (mC (.int j)) Γ M k kx :=
  ⟨_, hΓ, j, ds, x, rfl, by show mls (M b) = _; rw [hm]; rfl, atI_nat hx, h⟩
theorem set_box {M : Mh} {b : Addr} {ds : List D} {x : D} {i j : Nat} {Γ : DL.Env} {De : DEnds} {kx : XKd} {me : ME} (hΓ : Γ[i]? = some (some (.ref b))) (hm : M b = some (.lst ds)) (hj : j < ds.length) (he : ∀ k : DK, k x M → me Γ M k kx) (h : De.nx Γ (setM M b (.lst (ds.set j x)))) : mSetIx me (mVar i) (mC (.int j)) De Γ M kx :=
  he _ ⟨_, hΓ, b, ds, j, j, rfl, hm, rfl, by unfold ixN; rw [if_pos (Int.natCast_nonneg _), if_pos (by simpa using hj)]; simp, h⟩
theorem at_of' {xs : List D} {z : Int} {j : Nat} {v : D} (e : z = (j : Int)) (h : xs[j]? = some v) : atI xs z = some v := by
  rw [e]
  exact atI_nat h
theorem pull_body (b : Addr) (n : Int) (ds : List D) (M : Mh) (k : DK) (hb : BoxD ds) (h1 : 0 < n) (h2 : n < 1073741824) (hm : M b = some (.lst ds)) (hk : ∀ r ds', 0 ≤ r → r < n → BoxD ds' → k (.int r) (setM M b (.lst ds'))) :
    b__law_pull { nx := fun _ M' => k .non M', rt := k } (startD 5 [.ref b, .int n]) M noX := by
  obtain ⟨ns, i, big, mix, cnt, rfl, g1, g2, g3, g4⟩ := hb
  unfold b__law_pull
  refine set_box (x := .int (cnt + 1)) (j := 4) rfl hm (by show 4 < 5; decide) (fun k' h' => ix_box (j := 4) rfl hm rfl h') ?_
  -- the last part: the box as it stands, any big that is not negative
  have last : ∀ (M1 : Mh) (Γ : DL.Env) (i big mix : Int), Γ.length = 5 → Γ[0]? = some (some (.ref b)) → Γ[1]? = some (some (.int n)) → M1 = setM M b (.lst [.lst (ns.map D.int), .int i, .int big, .int mix, .int (cnt + 1)]) → 0 ≤ i → 0 ≤ big → 0 ≤ mix → mix < 2147483648 →
      (mSeq (mIfS (mTest (mOp dGt (mOp dIx (mVar 0) (mC (.int 2))) (mC (.int 0)))) (mSeq (mAsg (mOp dMod (mCB cInt (mCons (mOp dIx (mVar 0) (mC (.int 2))) mNil)) (mVar 1)) (.nm 3)) (mSeq (mSetIx (mOp dDiv (mOp dIx (mVar 0) (mC (.int 2))) (mVar 1)) (mVar 0) (mC (.int 2))) (mRet (mVar 3)))) mNext) (mSeq (mAsg (mOp dMod (mCB cInt (mCons (mOp dAdd (mOp dMul (mOp dIx (mVar 0) (mC (.int 3))) (mOp dIx (mVar 0) (mC (.int 3)))) (mOp dMul (mOp dIx (mVar 0) (mC (.int 4))) (mC (.int 8317)))) mNil)) (mC (.int 2147483549))) (.nm 4)) (mSeq (mSetIx (mOp dMod (mCB cInt (mCons (mOp dAdd (mOp dAdd (mOp dMul (mVar 4) (mC (.int 15973))) (mOp dMul (mOp dIx (mVar 0) (mC (.int 3))) (mC (.int 60107)))) (mC (.int 54013))) mNil)) (mC (.int 2147483629))) (mVar 0) (mC (.int 3))) (mRet (mOp dMod (mCB cInt (mCons (mOp dDiv (mOp dIx (mVar 0) (mC (.int 3))) (mC (.int 64))) mNil)) (mVar 1)))))) { nx := fun _ M' => k .non M', rt := k } Γ M1 noX := by
    intro M1 Γ i big mix hl hΓ hΓ1 hM gi gb gm gm2
    have hb : M1 b = some (.lst [.lst (ns.map D.int), .int i, .int big, .int mix, .int (cnt + 1)]) := by rw [hM]; exact setM_at
    refine ix_box (j := 2) hΓ hb rfl ⟨big, 0, rfl, rfl, trivial, _, rfl, ?_⟩
    by_cases hbig : 0 < big
    · rw [decide_eq_true hbig]
      refine ix_box (j := 2) hΓ hb rfl ⟨big, rfl, _, hΓ1, big, n, rfl, rfl, h1, _, rfl, ?_⟩
      have hΓa : (Γ.set 3 (some (.int (big % n))))[0]? = some (some (.ref b)) := by rw [List.getElem?_set_ne (by decide)]; exact hΓ
      have hΓb : (Γ.set 3 (some (.int (big % n))))[1]? = some (some (.int n)) := by rw [List.getElem?_set_ne (by decide)]; exact hΓ1
      dsimp only
      refine set_box (x := .int (big / n)) (j := 2) hΓa hb (by show 2 < 5; decide) ?_ ?_
      · intro k' h'
        exact ix_box (j := 2) hΓa hb rfl ⟨_, hΓb, big, n, rfl, rfl, ⟨h1, h2⟩, h'⟩
      refine ⟨_, List.getElem?_set_self (by omega), ?_⟩
      rw [hM, setM_setM]
      exact hk _ _ (Int.emod_nonneg _ (by omega)) (Int.emod_lt_of_pos _ h1) ⟨ns, i, big / n, mix, cnt + 1, rfl, gi, Int.ediv_nonneg gb (by omega), gm, gm2⟩
    · rw [decide_eq_false hbig]
      refine ix_box (j := 3) hΓ hb rfl (ix_box (j := 3) hΓ hb rfl ⟨.inl ⟨by omega, by omega⟩, ?_⟩)
      refine ix_box (j := 4) hΓ hb rfl ⟨.inr ⟨by decide, by decide⟩, _, rfl, _, 2147483549, rfl, rfl, (by show (0 : Int) < 2147483549; decide), _, rfl, ?_⟩
      dsimp only
      have gt := Int.emod_nonneg (mix * mix + (cnt + 1) * 8317) (show (2147483549 : Int) ≠ 0 by decide)
      have gt2 := Int.emod_lt_of_pos (mix * mix + (cnt + 1) * 8317) (show (0 : Int) < 2147483549 by decide)
      generalize (mix * mix + (cnt + 1) * 8317) % 2147483549 = tw at gt gt2
      have hΓ' : (Γ.set 4 (some (.int tw)))[0]? = some (some (.ref b)) := by rw [List.getElem?_set_ne (by decide)]; exact hΓ
      have hΓ1' : (Γ.set 4 (some (.int tw)))[1]? = some (some (.int n)) := by rw [List.getElem?_set_ne (by decide)]; exact hΓ1
      have hΓ4 : (Γ.set 4 (some (.int tw)))[4]? = some (some (.int tw)) := List.getElem?_set_self (by omega)
      have gz := Int.emod_nonneg (tw * 15973 + mix * 60107 + 54013) (show (2147483629 : Int) ≠ 0 by decide)
      have gz2 := Int.emod_lt_of_pos (tw * 15973 + mix * 60107 + 54013) (show (0 : Int) < 2147483629 by decide)
      refine set_box (x := .int ((tw * 15973 + mix * 60107 + 54013) % 2147483629)) (j := 3) hΓ' hb (by show 3 < 5; decide) ?_ ?_
      · intro k' h'
        exact ⟨_, hΓ4, .inr ⟨by decide, by decide⟩, ix_box (j := 3) hΓ' hb rfl ⟨.inr ⟨by decide, by decide⟩, _, rfl, _, 2147483629, rfl, rfl, (by show (0 : Int) < 2147483629; decide), h'⟩⟩
      generalize (tw * 15973 + mix * 60107 + 54013) % 2147483629 = mx at gz gz2
      refine ix_box (j := 3) hΓ' setM_at rfl ⟨mx, 64, rfl, rfl, ⟨by decide, by decide⟩, _, rfl, _, hΓ1', _, n, rfl, rfl, h1, ?_⟩
      rw [hM, setM_setM]
      exact hk _ _ (Int.emod_nonneg _ (by omega)) (Int.emod_lt_of_pos _ h1) ⟨ns, i, big, mx, cnt + 1, rfl, gi, gb, gz, by omega⟩
  have hb : setM M b (.lst [.lst (ns.map D.int), .int i, .int big, .int mix, .int (cnt + 1)]) b = some (.lst [.lst (ns.map D.int), .int i, .int big, .int mix, .int (cnt + 1)]) := setM_at
  refine ix_box (j := 2) rfl hb rfl ⟨_, rfl, ?_⟩
  by_cases hz : big = 0
  · rw [decide_eq_true hz]
    refine ix_box (j := 1) rfl hb rfl ?_
    refine ix_box (j := 0) rfl hb rfl ⟨_, rfl, _, rfl, i, _, rfl, rfl, trivial, _, rfl, ?_⟩
    by_cases hi : i < ((ns.map D.int).length : Int)
    · rw [decide_eq_true hi]
      rw [List.length_map] at hi
      have hn : (ns.map D.int)[i.toNat]? = some (.int ns[i.toNat]) := by
        rw [List.getElem?_map, List.getElem?_eq_getElem (by omega)]
        rfl
      have ei : i = ((i.toNat : Nat) : Int) := by omega
      generalize hc : ns[i.toNat] = c at hn
      refine ix_box (j := 0) rfl hb rfl (ix_box (j := 1) rfl hb rfl ⟨i, _, _, rfl, rfl, at_of' ei hn, _, rfl, ?_⟩)
      dsimp only [startD, List.map_cons, List.map_nil, List.cons_append, List.nil_append, List.length_cons, List.length_nil, List.set_cons_zero, List.set_cons_succ, List.replicate_succ, List.replicate_zero, Nat.reduceAdd, Nat.reduceSub]
      refine set_box (x := .int (i + 1)) (i := 0) (j := 1) (Γ := [some (.ref b), some (.int n), some (.int c), none, none]) rfl hb (by show 1 < 5; decide) ?_ ?_
      · intro k' h'
        exact ix_box (j := 1) rfl hb rfl h'
      refine ⟨_, rfl, c, rfl, _, _, rfl, rfl, ⟨by decide, by decide, by decide⟩, _, _, rfl, rfl, trivial, _, rfl, ?_⟩
      have hb2 : setM (setM M b (.lst [.lst (ns.map D.int), .int i, .int big, .int mix, .int (cnt + 1)])) b (.lst [.lst (ns.map D.int), .int (i + 1), .int big, .int mix, .int (cnt + 1)]) b = some (.lst [.lst (ns.map D.int), .int (i + 1), .int big, .int mix, .int (cnt + 1)]) := setM_at
      have ha : 0 ≤ (if c < 0 then -c else c) := by split <;> omega
      dsimp only
      by_cases hc18 : (10 : Int) ^ Int.toNat 18 ≤ (if c < 0 then -c else c)
      · rw [decide_eq_true hc18, if_pos rfl]
        dsimp only [List.set_cons_zero, List.set_cons_succ]
        refine set_box (x := .int (if c < 0 then -c else c)) (i := 0) (j := 2) (Γ := [some (.ref b), some (.int n), some (.int c), none, none]) rfl hb2 (by show 2 < 5; decide) ?_ ?_
        · intro k' h'
          exact ⟨_, rfl, c, rfl, h'⟩
        exact last _ _ (i + 1) (if c < 0 then -c else c) mix rfl rfl rfl (by rw [setM_setM, setM_setM]; rfl) (by omega) ha g3 g4
      · rw [decide_eq_false hc18, if_neg (by decide)]
        dsimp only [List.set_cons_zero, List.set_cons_succ]
        have gz := Int.emod_nonneg (mix * 41389 + c % 1000003 * 733 + 31) (show (2147483629 : Int) ≠ 0 by decide)
        have gz2 := Int.emod_lt_of_pos (mix * 41389 + c % 1000003 * 733 + 31) (show (0 : Int) < 2147483629 by decide)
        refine set_box (x := .int ((mix * 41389 + c % 1000003 * 733 + 31) % 2147483629)) (i := 0) (j := 3) (Γ := [some (.ref b), some (.int n), some (.int c), none, none]) rfl hb2 (by show 3 < 5; decide) ?_ ?_
        · intro k' h'
          exact ix_box (j := 3) rfl hb2 rfl ⟨.inr ⟨by decide, by decide⟩, _, rfl, c, rfl, c, 1000003, rfl, rfl, (by show (0 : Int) < 1000003; decide), .inr ⟨by decide, by decide⟩, _, rfl, _, 2147483629, rfl, rfl, (by show (0 : Int) < 2147483629; decide), h'⟩
        exact last _ _ (i + 1) big _ rfl rfl rfl (by rw [setM_setM, setM_setM]; rfl) (by omega) (by omega) gz (by omega)
    · rw [decide_eq_false hi]
      exact last _ _ i big mix rfl rfl rfl rfl g1 g2 g3 g4
  · rw [decide_eq_false hz]
    exact last _ _ i big mix rfl rfl rfl rfl g1 g2 g3 g4
end CM
namespace CM
open PySem L2 DL
/-! ### loops -/
theorem for_inv {t : Tg} {G : Mh → Prop} {body : MS} {De : DEnds} {kx : XKd} (P : DL.Env → Mh → Prop) : ∀ (ds : List D) {Γ : DL.Env} {M : Mh}, P Γ M →
    (∀ d ∈ ds, ∀ Γ M, P Γ M → G M ∧ ∃ Γ1, bindT t d Γ = some Γ1 ∧ ∀ nx : DL.Env → Mh → Prop, (∀ Γ2 M2, P Γ2 M2 → nx Γ2 M2) → body { De with nx := nx, ct := nx, bk := De.nx } Γ1 M kx) →
    (∀ Γ M, P Γ M → G M ∧ De.nx Γ M) → loopFor t G body De kx ds Γ M
  | [], Γ, M, h, _, he => he Γ M h
  | d :: ds, Γ, M, h, hs, he => by
    obtain ⟨g, Γ1, e, hb⟩ := hs d List.mem_cons_self Γ M h
    exact ⟨g, Γ1, e, hb _ fun Γ2 M2 h2 => for_inv P ds h2 (fun d' hd => hs d' (List.mem_cons_of_mem _ hd)) he⟩
theorem cut_ints (ns : List Int) (lo hi : Option Int) : ∃ ms : List Int, cutD (ns.map D.int) lo hi = ms.map D.int ∧ ms.length ≤ ns.length := by
  refine ⟨(ns.drop (HT.sIx ns.length 0 lo)).take (HT.sIx ns.length ns.length hi - HT.sIx ns.length 0 lo), ?_, ?_⟩
  · unfold cutD
    rw [List.length_map, List.map_take, List.map_drop]
  · rw [List.length_take, List.length_drop]
    omega
theorem box_body (ns : List Int) (M : Mh) (k : DK) (hn : ns.length ≤ 63) (hk : ∀ p ds, M p = none → BoxD ds → k (.ref p) (setM M p (.lst ds))) :
    b__law_box { nx := fun _ M' => k .non M', rt := k } (startD 3 [.scr ns]) M noX := by
  obtain ⟨ms, e, hl⟩ := cut_ints ns none (some 63)
  unfold b__law_box
  refine ⟨_, rfl, ?_⟩
  refine ⟨_, rfl, _, rfl, ?_⟩
  show loopFor _ _ _ _ _ (cutD (ns.map D.int) none (some 63)) _ _
  rw [e]
  refine for_inv (fun Γ M' => M' = M ∧ ∃ mx c, Γ = [some (.scr ns), some (.int mx), c] ∧ 0 ≤ mx ∧ mx < 2147483587) _ ⟨rfl, 10010, none, rfl, by decide, by decide⟩ ?_ ?_
  · rintro d hd Γ M' ⟨rfl, mx, c, rfl, g1, g2⟩
    obtain ⟨n, _, rfl⟩ := List.mem_map.mp hd
    refine ⟨trivial, _, rfl, fun nx hnx => ?_⟩
    have gz := Int.emod_nonneg (mx * 50021 + n % 1000003 * 769 + 17) (show (2147483587 : Int) ≠ 0 by decide)
    have gz2 := Int.emod_lt_of_pos (mx * 50021 + n % 1000003 * 769 + 17) (show (0 : Int) < 2147483587 by decide)
    refine ⟨_, rfl, .inr ⟨by decide, by decide⟩, _, rfl, n, rfl, n, 1000003, rfl, rfl, (by show (0 : Int) < 1000003; decide), .inr ⟨by decide, by decide⟩, _, rfl, _, 2147483587, rfl, rfl, (by show (0 : Int) < 2147483587; decide), _, rfl, ?_⟩
    exact hnx _ _ ⟨rfl, _, _, rfl, gz, gz2⟩
  · rintro Γ M' ⟨rfl, mx, c, rfl, g1, g2⟩
    refine ⟨trivial, _, rfl, _, rfl, _, _, rfl, rfl, _, rfl, by show 5 ≤ sizeLine; decide, fun p hp => ?_⟩
    have e2 : cutD (ns.map D.int) none (some (63 : Int)) = ms.map D.int := e
    show k (.ref p) (setM M' p (.lst [.lst (cutD (ns.map D.int) none (some 63)), .int 0, .int 0, .int mx, .int 0]))
    rw [e2]
    exact hk p _ hp ⟨ms, 0, 0, mx, 0, rfl, by decide, by decide, g1, by omega⟩
/-! ### one of some -/
def itemsOf (M : Mh) : D → Option (List D)
  | .str z => some (signs z)
  | d => sqOf M d
def sOf : MF := fun ds M k _ => ∃ b d es, ds = [.ref b, d] ∧ M b = some .box ∧ itemsOf M d = some es ∧ 0 < es.length ∧ es.length ≤ 1000000 ∧ ∀ x ∈ es, k x M
theorem of_ok (ds : List D) (M : Mh) (k : DK) (kx : XKd) (h : sOf ds M k kx) : b__law_of sPull { nx := fun _ M' => k .non M', rt := k } (startD 2 ds) M noX := by
  obtain ⟨b, d, es, rfl, hb, hi, h0, hl, h⟩ := h
  unfold b__law_of
  have fin : ∀ r : Int, 0 ≤ r → r < (es.length : Int) → ∃ x, es[r.toNat]? = some x ∧ k x M := fun r h1 h2 => by
    have hlt : r.toNat < es.length := by omega
    exact ⟨es[r.toNat], List.getElem?_eq_getElem hlt, h _ (List.getElem_mem hlt)⟩
  cases d with
  | str z =>
    have e : signs z = es := Option.some.inj hi
    have hz : z.length = es.length := by rw [← e]; unfold signs; simp; rfl
    refine ⟨_, rfl, _, rfl, _, rfl, _, rfl, ⟨by rw [hz]; exact sz_le hl, ?_⟩⟩
    refine ⟨b, z.length, rfl, hb, by omega, by omega, fun r h1 h2 => ?_⟩
    obtain ⟨x, g1, g2⟩ := fin r h1 (by omega)
    rw [← e] at g1
    unfold signs at g1
    rw [List.getElem?_map] at g1
    cases c : z.cps.toList[r.toNat]? with
    | none => rw [c] at g1; cases g1
    | some y =>
      rw [c] at g1
      cases g1
      refine ⟨r, y, rfl, by rw [hz]; exact sz_le hl, ?_, g2⟩
      rw [show r = ((r.toNat : Nat) : Int) by omega]
      exact atI_nat c
  | tup xs =>
    refine ⟨_, rfl, _, rfl, _, rfl, _, rfl, es, hi, b, es.length, rfl, hb, by omega, by omega, fun r h1 h2 => ?_⟩
    obtain ⟨x, g1, g2⟩ := fin r h1 h2
    exact ⟨r, es, x, rfl, hi, at_of' (show r = ((r.toNat : Nat) : Int) by omega) g1, g2⟩
  | lst xs =>
    refine ⟨_, rfl, _, rfl, _, rfl, _, rfl, es, hi, b, es.length, rfl, hb, by omega, by omega, fun r h1 h2 => ?_⟩
    obtain ⟨x, g1, g2⟩ := fin r h1 h2
    exact ⟨r, es, x, rfl, hi, at_of' (show r = ((r.toNat : Nat) : Int) by omega) g1, g2⟩
  | ref a =>
    refine ⟨_, rfl, _, rfl, _, rfl, _, rfl, es, hi, b, es.length, rfl, hb, by omega, by omega, fun r h1 h2 => ?_⟩
    obtain ⟨x, g1, g2⟩ := fin r h1 h2
    exact ⟨r, es, x, rfl, hi, at_of' (show r = ((r.toNat : Nat) : Int) by omega) g1, g2⟩
  | non => cases hi
  | bl _ => cases hi
  | int _ => cases hi
  | ty _ => cases hi
  | scr _ => cases hi
/-! ### odd values -/
def oddL : List D := [.non, .bl true, .bl false, .str "", .str "A", .str "a1", .str "sevenst", .int (-1), .int 7, .tup [.int 1, .str "a"], .lst [.int 1], .tup [], .int (10 ^ 14)]
def sOdd : MF := fun ds M k _ => ∃ b d es, ds = [.ref b, d] ∧ M b = some .box ∧ lsOf M d = some es ∧ es.length ≤ 1000 ∧ ∀ x ∈ oddL ++ es, k x M
theorem odd_ok (ds : List D) (M : Mh) (k : DK) (kx : XKd) (h : sOdd ds M k kx) : b__law_odd sOf { nx := fun _ M' => k .non M', rt := k } (startD 2 ds) M noX := by
  obtain ⟨b, d, es, rfl, hb, hi, hl, h⟩ := h
  have hs : oddL.length + es.length ≤ sizeLine := sz_le (by show 13 + es.length ≤ 1000000; omega)
  have key : sOf [.ref b, .lst (oddL ++ es)] M k noX := ⟨b, _, _, rfl, hb, rfl, by rw [List.length_append]; show 0 < 13 + es.length; omega, by rw [List.length_append]; show 13 + es.length ≤ 1000000; omega, h⟩
  unfold b__law_odd
  refine ⟨_, rfl, 1, rfl, by show 2 ≤ sizeLine; decide, by show 1 ≤ sizeLine; decide, Nat.zero_le _, 10, 14, rfl, rfl, ⟨by decide, by decide, by decide⟩, by show 13 ≤ sizeLine; decide, _, rfl, ?_⟩
  cases d with
  | lst xs => exact ⟨oddL, es, rfl, hi, hs, key⟩
  | ref a => exact ⟨oddL, es, rfl, hi, hs, key⟩
  | non => cases hi
  | bl _ => cases hi
  | int _ => cases hi
  | str _ => cases hi
  | tup _ => cases hi
  | ty _ => cases hi
  | scr _ => cases hi
end CM
namespace CM
open PySem L2 DL
/-! ### the same data -/
mutual
/-- plain data, nested fewer than n deep, of lists and tuples that are not long -/
def pureN : Nat → D → Bool
  | 0, _ => false
  | _ + 1, .non => true
  | _ + 1, .bl _ => true
  | _ + 1, .int _ => true
  | _ + 1, .str _ => true
  | n + 1, .tup ds => pureAll n ds
  | n + 1, .lst ds => pureAll n ds
  | _ + 1, _ => false
def pureAll : Nat → List D → Bool
  | _, [] => true
  | n, d :: ds => pureN n d && pureAll n ds
end
mutual
def shortD : D → Bool
  | .tup ds => decide (ds.length ≤ 1000000) && shortAll ds
  | .lst ds => decide (ds.length ≤ 1000000) && shortAll ds
  | _ => true
def shortAll : List D → Bool
  | [] => true
  | d :: ds => shortD d && shortAll ds
end
theorem pureAll_mem {n : Nat} : ∀ {ds : List D}, pureAll n ds = true → ∀ d ∈ ds, pureN n d = true
  | [], _, d, h => by cases h
  | e :: es, h, d, hd => by
    rw [pureAll, Bool.and_eq_true] at h
    rcases List.mem_cons.mp hd with rfl | hd
    · exact h.1
    · exact pureAll_mem h.2 d hd
theorem shortAll_mem : ∀ {ds : List D}, shortAll ds = true → ∀ d ∈ ds, shortD d = true
  | [], _, d, h => by cases h
  | e :: es, h, d, hd => by
    rw [shortAll, Bool.and_eq_true] at h
    rcases List.mem_cons.mp hd with rfl | hd
    · exact h.1
    · exact shortAll_mem h.2 d hd
def sSame (n : Nat) : MF := fun ds M k _ => ∃ d, ds = [d, d] ∧ pureN n d = true ∧ shortD d = true ∧ k (.bl true) M
theorem pairs_self (ds : List D) : pairs ds ds = ds.map fun d => .tup [d, d] := by
  unfold pairs
  induction ds with
  | nil => rfl
  | cons d ds ih => simp only [List.zip_cons_cons, List.map_cons, ih]
theorem all_true {α : Type} (xs : List α) : (xs.map fun _ => true).all id = true := by simp
theorem pure_ty {n : Nat} {d : D} (M : Mh) (h : pureN n d = true) : tyN M d ∈ tys := by
  cases n with
  | zero => rw [pureN] at h; cases h
  | succ n =>
    cases d with
    | non => show "NoneType" ∈ tys; decide
    | bl _ => show "bool" ∈ tys; decide
    | int _ => show "int" ∈ tys; decide
    | str _ => show "str" ∈ tys; decide
    | tup _ => show "tuple" ∈ tys; decide
    | lst _ => show "list" ∈ tys; decide
    | ref a => simp [pureN] at h
    | ty _ => simp [pureN] at h
    | scr _ => simp [pureN] at h
theorem same_ok (n : Nat) (ds : List D) (M : Mh) (k : DK) (kx : XKd) (h : sSame (n + 1) ds M k kx) : b__law_same (sSame n) { nx := fun _ M' => k .non M', rt := k } (startD 4 ds) M noX := by
  obtain ⟨d, rfl, hp, hs, h⟩ := h
  unfold b__law_same
  have ht := pure_ty M hp
  have comp : ∀ (es : List D) (G : Mh → Prop), G M → pureAll n es = true → shortAll es = true → loopLc (.tp [.nm 2, .nm 3]) G mYes (mCall (sSame n) (mCons (mVar 2) (mCons (mVar 3) mNil))) [some d, some d, none, none] (fun acc M2 => cAll [.lst acc] M2 k) noX [] (pairs es es) M := fun es G hG h1 h2 => by
    refine lc_map (fun _ => .bl true) hG (fun p hp => ?_) ?_
    · rw [pairs_self] at hp
      obtain ⟨x, hx, rfl⟩ := List.mem_map.mp hp
      exact ⟨_, rfl, fun k' hk => ⟨_, rfl, _, rfl, x, rfl, pureAll_mem h1 x hx, shortAll_mem h2 x hx, hk⟩⟩
    · refine ⟨_, _, (pairs es es).map fun _ => true, rfl, rfl, bls_map (fun _ => true) _, ?_⟩
      rw [all_true]
      exact h
  cases d with
  | non => exact ⟨_, rfl, _, rfl, _, rfl, _, rfl, _, rfl, h⟩
  | bl b =>
    refine ⟨_, rfl, _, rfl, _, rfl, _, rfl, ?_⟩
    refine ⟨_, rfl, ht, _, rfl, ?_⟩
    refine ⟨_, rfl, ht, _, rfl, ?_⟩
    refine ⟨_, rfl, ht, _, rfl, _, rfl, ht, _, rfl, _, rfl, _, rfl, ?_⟩
    show k (.bl (decide (b = b))) M
    rw [decide_eq_true rfl]
    exact h
  | int i =>
    refine ⟨_, rfl, _, rfl, _, rfl, _, rfl, ?_⟩
    refine ⟨_, rfl, ht, _, rfl, ?_⟩
    refine ⟨_, rfl, ht, _, rfl, _, rfl, ht, _, rfl, ?_⟩
    refine ⟨_, rfl, ht, _, rfl, _, rfl, ht, _, rfl, _, rfl, _, rfl, ?_⟩
    show k (.bl (decide (i = i))) M
    rw [decide_eq_true rfl]
    exact h
  | str i =>
    refine ⟨_, rfl, _, rfl, _, rfl, _, rfl, ?_⟩
    refine ⟨_, rfl, ht, _, rfl, ?_⟩
    refine ⟨_, rfl, ht, _, rfl, _, rfl, ht, _, rfl, ?_⟩
    refine ⟨_, rfl, ht, _, rfl, ?_⟩
    refine ⟨_, rfl, ht, _, rfl, _, rfl, ht, _, rfl, _, rfl, _, rfl, ?_⟩
    show k (.bl (decide (i = i))) M
    rw [decide_eq_true rfl]
    exact h
  | tup es =>
    rw [pureN] at hp
    rw [shortD, Bool.and_eq_true, decide_eq_true_eq] at hs
    have hl : (pairs es es).length ≤ sizeLine := by rw [pairs_len, Nat.min_self]; exact sz_le hs.1
    refine ⟨_, rfl, _, rfl, _, rfl, _, rfl, ?_⟩
    refine ⟨_, rfl, ht, _, rfl, ?_⟩
    refine ⟨_, rfl, ht, _, rfl, ht, _, rfl, _, rfl, ht, _, rfl, ht, _, rfl, ?_⟩
    refine ⟨_, rfl, _, rfl, es, rfl, _, rfl, _, rfl, es, rfl, ?_⟩
    refine ⟨true, by show D.bl (decide ((es.length : Int) = es.length)) = _; rw [decide_eq_true rfl], ?_⟩
    exact ⟨_, rfl, _, rfl, hl, comp es _ trivial hp hs.2⟩
  | lst es =>
    rw [pureN] at hp
    rw [shortD, Bool.and_eq_true, decide_eq_true_eq] at hs
    have hl : (pairs es es).length ≤ sizeLine := by rw [pairs_len, Nat.min_self]; exact sz_le hs.1
    refine ⟨_, rfl, _, rfl, _, rfl, _, rfl, ?_⟩
    refine ⟨_, rfl, ht, _, rfl, ?_⟩
    refine ⟨_, rfl, ht, _, rfl, ht, _, rfl, _, rfl, ht, _, rfl, ht, _, rfl, ?_⟩
    refine ⟨_, rfl, _, rfl, es, rfl, _, rfl, _, rfl, es, rfl, ?_⟩
    refine ⟨true, by show D.bl (decide ((es.length : Int) = es.length)) = _; rw [decide_eq_true rfl], ?_⟩
    exact ⟨_, rfl, _, rfl, es, es, rfl, rfl, hl, comp es _ ⟨rfl, rfl⟩ hp hs.2⟩
  | ref a => simp [pureN] at hp
  | ty _ => simp [pureN] at hp
  | scr _ => simp [pureN] at hp
end CM
namespace CM
open PySem L2 DL
/-! ### names that are drawn: the plain part -/
def L26 : List Nat := [97, 98, 99, 100, 101, 102, 103, 104, 105, 106, 107, 108, 109, 110, 111, 112, 113, 114, 115, 116, 117, 118, 119, 120, 121, 122]
theorem letters_L : letters.cps.toList = L26 := by decide +kernel
theorem L26_nodup : L26.Nodup := by decide
def badW : List Str := ["own", "name", "tick", "worth"]
/-- a name that is no word of the language -/
def Good (w : Str) : Prop := isNameS w = true ∧ w ∉ badW
def cand (cs : List Nat) (r : Nat) (q : Int) (j : Nat) : List Nat := cs.take r ++ L26.getD ((q + 7 * (j : Int)) % 26).toNat 0 :: cs.drop r
theorem ix26 (q : Int) (j : Nat) : ((q + 7 * (j : Int)) % 26).toNat < 26 := by
  have := Int.emod_lt_of_pos (q + 7 * (j : Int)) (show (0 : Int) < 26 by decide)
  have := Int.emod_nonneg (q + 7 * (j : Int)) (show (26 : Int) ≠ 0 by decide)
  omega
theorem cand_len (cs : List Nat) (r : Nat) (q : Int) (j : Nat) : (cand cs r q j).length = cs.length + 1 := by
  unfold cand
  rw [List.length_append, List.length_cons, List.length_take, List.length_drop]
  omega
theorem L26_get {i : Nat} (h : i < 26) : L26[i]? = some (L26.getD i 0) := by
  rw [List.getD_eq_getElem?_getD, List.getElem?_eq_getElem (show i < L26.length from h)]
  rfl
theorem cand_all {cs : List Nat} (h : ∀ c ∈ cs, c ∈ L26) (r : Nat) (q : Int) (j : Nat) : ∀ c ∈ cand cs r q j, c ∈ L26 := fun c hc => by
  unfold cand at hc
  rcases List.mem_append.mp hc with hc | hc
  · exact h c (List.mem_of_mem_take hc)
  · rcases List.mem_cons.mp hc with rfl | hc
    · exact List.mem_of_getElem? (L26_get (ix26 q j))
    · exact h c (List.mem_of_mem_drop hc)
theorem cand_inj {cs : List Nat} {r : Nat} {q : Int} {i j : Nat} (hi : i < 26) (hj : j < 26) (h : cand cs r q i = cand cs r q j) : i = j := by
  unfold cand at h
  have h1 := List.append_cancel_left h
  injection h1 with h2 _
  have e1 := L26_get (ix26 q i)
  have e2 := L26_get (ix26 q j)
  rw [h2] at e1
  have := nd_ix L26_nodup e1 e2
  have a1 := Int.emod_nonneg (q + 7 * (i : Int)) (show (26 : Int) ≠ 0 by decide)
  have a2 := Int.emod_nonneg (q + 7 * (j : Int)) (show (26 : Int) ≠ 0 by decide)
  omega
theorem cand_name {cs : List Nat} (h : ∀ c ∈ cs, c ∈ L26) (hl : cs.length ≤ 5) (r : Nat) (q : Int) (j : Nat) : isNameS ⟨(cand cs r q j).toArray⟩ = true := by
  unfold isNameS
  have hn : (⟨(cand cs r q j).toArray⟩ : Str).length = cs.length + 1 := by
    show (cand cs r q j).toArray.size = _
    rw [List.size_toArray, cand_len]
  rw [hn, Bool.and_eq_true, Bool.and_eq_true, decide_eq_true_eq, decide_eq_true_eq, List.all_eq_true]
  refine ⟨⟨by omega, by omega⟩, fun c hc => ?_⟩
  rw [decide_eq_true_eq, letters_L]
  exact cand_all h r q j c hc
theorem filter_two {α : Type} (p : α → Bool) : ∀ xs : List α, (xs.filter p).length + (xs.filter fun w => !p w).length = xs.length
  | [] => rfl
  | x :: xs => by
    have ih := filter_two p xs
    cases q : p x with
    | true =>
      rw [List.filter_cons_of_pos q, List.filter_cons_of_neg (by rw [q]; decide), List.length_cons, List.length_cons]
      omega
    | false =>
      rw [List.filter_cons_of_neg (by rw [q]; decide), List.filter_cons_of_pos (by rw [q]; rfl), List.length_cons, List.length_cons]
      omega
theorem nodup_map_on {α β : Type} {f : α → β} : ∀ {l : List α}, l.Nodup → (∀ x ∈ l, ∀ y ∈ l, f x = f y → x = y) → (l.map f).Nodup
  | [], _, _ => List.nodup_nil
  | a :: l, h, g => by
    rw [List.nodup_cons] at h
    rw [List.map_cons, List.nodup_cons]
    refine ⟨fun hm => ?_, nodup_map_on h.2 fun x hx y hy => g x (List.mem_cons_of_mem _ hx) y (List.mem_cons_of_mem _ hy)⟩
    obtain ⟨x, hx, e⟩ := List.mem_map.mp hm
    have := g x (List.mem_cons_of_mem _ hx) a List.mem_cons_self e
    subst this
    exact h.1 hx
theorem bad_len : ∀ w ∈ badW, w.length = 3 ∨ w.length = 4 ∨ w.length = 5 := by decide +kernel
theorem bad3 : ∀ w ∈ badW, w.length = 3 → w = "own" := by decide +kernel
/-- what the helper hands back -/
def named (cs : List Nat) (r : Nat) (q : Int) (n : Nat) : List Str := (((List.range (n + 2)).map fun j => (⟨(cand cs r q j).toArray⟩ : Str)).filter fun w => decide (w ∉ badW)).take n
theorem named_ok {cs : List Nat} (h : ∀ c ∈ cs, c ∈ L26) (hl : cs.length = 0 ∨ cs.length = 1 ∨ cs.length = 2 ∨ cs.length = 5) {r : Nat} {q : Int} {n : Nat} (hn : n ≤ 20) : (named cs r q n).length = n ∧ (named cs r q n).Nodup ∧ ∀ w ∈ named cs r q n, Good w := by
  have nd : ((List.range (n + 2)).map fun j => (⟨(cand cs r q j).toArray⟩ : Str)).Nodup := by
    refine nodup_map_on List.nodup_range fun i hi j hj e => ?_
    have hi := List.mem_range.mp hi
    have hj := List.mem_range.mp hj
    have e1 : (cand cs r q i).toArray = (cand cs r q j).toArray := congrArg Str.cps e
    have e2 : cand cs r q i = cand cs r q j := by simpa using congrArg Array.toList e1
    exact cand_inj (by omega) (by omega) e2
  have all : ∀ w ∈ ((List.range (n + 2)).map fun j => (⟨(cand cs r q j).toArray⟩ : Str)), isNameS w = true ∧ w.length = cs.length + 1 := fun w hw => by
    obtain ⟨j, _, rfl⟩ := List.mem_map.mp hw
    refine ⟨cand_name h (by omega) r q j, ?_⟩
    show (cand cs r q j).toArray.size = _
    rw [List.size_toArray, cand_len]
  generalize hX : ((List.range (n + 2)).map fun j => (⟨(cand cs r q j).toArray⟩ : Str)) = xs at nd all
  have hlen : xs.length = n + 2 := by rw [← hX]; simp
  have hnm : named cs r q n = (xs.filter fun w => decide (w ∉ badW)).take n := by rw [← hX]; rfl
  have hmany : n ≤ (xs.filter fun w => decide (w ∉ badW)).length := by
    have h1 := filter_two (fun w => decide (w ∉ badW)) xs
    have h2 : (xs.filter fun w => !decide (w ∉ badW)).length ≤ 1 := by
      have hsub : ∀ w ∈ xs.filter (fun w => !decide (w ∉ badW)), w = ("own" : Str) := fun w hw => by
        obtain ⟨g1, g2⟩ := List.mem_filter.mp hw
        have g3 : w ∈ badW := by simpa using g2
        have g4 := (all w g1).2
        rcases bad_len w g3 with g5 | g5 | g5
        · exact bad3 w g3 g5
        · omega
        · omega
      have hnd : (xs.filter fun w => !decide (w ∉ badW)).Nodup := nd.filter _
      generalize xs.filter (fun w => !decide (w ∉ badW)) = ys at hsub hnd
      match ys, hsub, hnd with
      | [], _, _ => exact Nat.zero_le _
      | [_], _, _ => exact Nat.le_refl _
      | a :: b :: t, hsub, hnd =>
        have e1 := hsub a List.mem_cons_self
        have e2 := hsub b (List.mem_cons_of_mem _ List.mem_cons_self)
        rw [e1, e2] at hnd
        simp at hnd
    omega
  rw [hnm]
  refine ⟨by rw [List.length_take]; omega, (nd.filter _).sublist (List.take_sublist _ _), fun w hw => ?_⟩
  obtain ⟨g1, g2⟩ := List.mem_filter.mp (List.mem_of_mem_take hw)
  exact ⟨(all w g1).1, by simpa using g2⟩
end CM
namespace CM
open PySem L2 DL TL
def sNames : MF := fun ds M k _ => ∃ b n, ds = [.ref b, .int n] ∧ M b = some .box ∧ 0 ≤ n ∧ n ≤ 20 ∧ ∀ ws : List Str, (ws.length : Int) = n → ws.Nodup → (∀ w ∈ ws, Good w) → k (.lst (ws.map D.str)) M
theorem all_signs : ∀ {ys : List D}, (∀ y ∈ ys, ∃ c ∈ L26, y = .str ⟨#[c]⟩) → ∃ cs : List Nat, (∀ c ∈ cs, c ∈ L26) ∧ ys = cs.map (fun c => D.str ⟨#[c]⟩)
  | [], _ => ⟨[], ⟨fun c h => (List.not_mem_nil h).elim, rfl⟩⟩
  | y :: ys, h => by
    obtain ⟨c, hc, rfl⟩ := h y List.mem_cons_self
    obtain ⟨cs, h1, rfl⟩ := all_signs fun z hz => h z (List.mem_cons_of_mem _ hz)
    exact ⟨c :: cs, fun z hz => by rcases List.mem_cons.mp hz with rfl | hz; exact hc; exact h1 z hz, rfl⟩
theorem tx_signs : ∀ cs : List Nat, txOf (cs.map fun c => D.str ⟨#[c]⟩) = some (cs.map fun c => (⟨#[c]⟩ : Str))
  | [] => rfl
  | c :: cs => by
    show (txOf (cs.map fun c => D.str ⟨#[c]⟩)).map (⟨#[c]⟩ :: ·) = _
    rw [tx_signs cs]
    rfl
theorem joinL_signs : ∀ cs : List Nat, joinL [] (cs.map fun c => [c]) = cs
  | [] => rfl
  | [c] => rfl
  | c :: d :: cs => by
    have := joinL_signs (d :: cs)
    show [c] ++ ([] ++ joinL [] ((d :: cs).map fun c => [c])) = _
    rw [this]
    rfl
theorem str_ext {x y : Str} (h : x.cps.toList = y.cps.toList) : x = y := by
  cases x
  cases y
  simp only [Str.mk.injEq]
  simpa using congrArg List.toArray h
theorem join_signs (cs : List Nat) : Txt.join "" (cs.map fun c => (⟨#[c]⟩ : Str)) = ⟨cs.toArray⟩ := by
  refine str_ext ?_
  rw [join_eq]
  show tl (Str.join "" (cs.map fun c => (⟨#[c]⟩ : Str))) = cs
  rw [tl_join, List.map_map]
  exact joinL_signs cs
theorem cut_lo (cs : List Nat) (r : Nat) (h : r ≤ cs.length) : cutS ⟨cs.toArray⟩ none (some (r : Int)) = ⟨(cs.take r).toArray⟩ := by
  unfold cutS
  rw [HT.sIx_nat, HT.sIx_none]
  show (⟨((cs.drop 0).take (min r cs.length - 0)).toArray⟩ : Str) = _
  rw [List.drop_zero, Nat.sub_zero, Nat.min_eq_left h]
theorem cut_hi (cs : List Nat) (r : Nat) (h : r ≤ cs.length) : cutS ⟨cs.toArray⟩ (some (r : Int)) none = ⟨(cs.drop r).toArray⟩ := by
  unfold cutS
  rw [HT.sIx_nat, HT.sIx_none]
  show (⟨((cs.drop (min r cs.length)).take (cs.length - min r cs.length)).toArray⟩ : Str) = _
  rw [Nat.min_eq_left h, ← List.length_drop, List.take_length]
theorem inF_strs (w : Str) : ∀ ws : List Str, inF (.str w) (ws.map D.str) = decide (w ∈ ws)
  | [] => by simp [inF]
  | v :: ws => by
    have ih := inF_strs w ws
    unfold inF at ih ⊢
    rw [List.map_cons, List.any_cons, ih]
    show ((v == w) || decide (w ∈ ws)) = decide (w ∈ v :: ws)
    rw [Bool.eq_iff_iff]
    simp only [Bool.or_eq_true, beq_iff_eq, decide_eq_true_eq, List.mem_cons]
    constructor
    · rintro (h | h)
      · exact .inl h.symm
      · exact .inr h
    · rintro (h | h)
      · exact .inl h.symm
      · exact .inr h
theorem cut_strs (ws : List Str) (n : Nat) : cutD (ws.map D.str) none (some (n : Int)) = (ws.take n).map D.str := by
  unfold cutD
  rw [HT.sIx_nat, HT.sIx_none, List.drop_zero, Nat.sub_zero, List.length_map, ← List.map_take]
  congr 1
  rw [List.take_eq_take_iff]
  omega
theorem filter_strs (p : D → Bool) (ws : List Str) : (ws.map D.str).filter p = (ws.filter fun w => p (.str w)).map D.str := by
  rw [List.filter_map]
  rfl
theorem intsD_mem {n : Nat} {d : D} (h : d ∈ intsD 0 n) : ∃ j : Nat, j < n ∧ d = .int (j : Int) := by
  unfold intsD at h
  obtain ⟨j, hj, rfl⟩ := List.mem_map.mp h
  exact ⟨j, List.mem_range.mp hj, by simp⟩
theorem sum_ones : ∀ cs : List Nat, (cs.map fun _ => 1).sum = cs.length
  | [] => rfl
  | c :: cs => by
    rw [List.map_cons, List.sum_cons, sum_ones cs, List.length_cons]
    omega
theorem names_ok (ds : List D) (M : Mh) (k : DK) (kx : XKd) (h : sNames ds M k kx) : b__law_names sOf sPull { nx := fun _ M' => k .non M', rt := k } (startD 9 ds) M noX := by
  obtain ⟨b, n, rfl, hb, h0, h20, hk⟩ := h
  unfold b__law_names
  refine ⟨_, rfl, ?_⟩
  -- stem
  refine ⟨_, rfl, _, rfl, by show 4 ≤ sizeLine; decide, b, _, [.int 0, .int 1, .int 2, .int 5], rfl, hb, rfl, by decide, by decide, fun x hx => ?_⟩
  obtain ⟨m, hm, rfl⟩ : ∃ m : Nat, (m = 0 ∨ m = 1 ∨ m = 2 ∨ m = 5) ∧ x = .int (m : Int) := by
    simp only [List.mem_cons, List.not_mem_nil, or_false] at hx
    rcases hx with rfl | rfl | rfl | rfl
    · exact ⟨0, .inl rfl, rfl⟩
    · exact ⟨1, .inr (.inl rfl), rfl⟩
    · exact ⟨2, .inr (.inr (.inl rfl)), rfl⟩
    · exact ⟨5, .inr (.inr (.inr rfl)), rfl⟩
  have hli : (intsD 0 (m : Int).toNat).length = m := by unfold intsD; simp
  refine ⟨m, rfl, by omega, by omega, by rw [hli]; exact sz_le (by omega), ?_⟩
  refine lc_wp (fun _ y => ∃ c ∈ L26, y = .str ⟨#[c]⟩) trivial (fun d _ => ⟨_, rfl, fun k' hk' => ⟨_, rfl, _, rfl, b, _, signs letters, rfl, hb, rfl, ?_, ?_, fun y hy => hk' y ?_⟩⟩) fun ys hl hp => ?_
  · unfold signs; rw [List.length_map, letters_L]; decide
  · unfold signs; rw [List.length_map, letters_L]; decide
  · unfold signs at hy
    obtain ⟨c, hc, rfl⟩ := List.mem_map.mp hy
    rw [letters_L] at hc
    exact ⟨c, hc, rfl⟩
  rw [hli] at hl
  obtain ⟨cs, hcs, rfl⟩ := all_signs (ys := ys) fun y hy => by
    obtain ⟨i, hi, e⟩ := List.mem_iff_getElem.mp hy
    have hi2 : i < (intsD 0 (m : Int).toNat).length := by rw [hli, ← hl]; exact hi
    exact hp i _ y (List.getElem?_eq_getElem hi2) (by rw [List.getElem?_eq_getElem hi, e])
  rw [List.length_map] at hl
  refine ⟨_, _, rfl, tx_signs cs, ?_, ?_⟩
  · rw [List.map_map, List.length_map]
    have e : cs.map ((fun s : Str => s.length) ∘ fun c => (⟨#[c]⟩ : Str)) = cs.map fun _ => 1 := rfl
    have z : ("" : Str).length = 0 := by decide +kernel
    rw [e, z]
    rw [sum_ones]
    omega
  rw [join_signs]
  refine ⟨_, rfl, ?_⟩
  -- spot, first
  have hsl : (⟨cs.toArray⟩ : Str).length = cs.length := by show cs.toArray.size = _; simp
  refine ⟨_, rfl, _, rfl, _, rfl, by rw [hsl]; exact sz_le (by omega), ?_⟩
  refine ⟨b, _, rfl, hb, by rw [hsl]; omega, by rw [hsl]; omega, fun r h1 h2 => ?_⟩
  rw [hsl] at h2
  refine ⟨_, rfl, b, 26, rfl, hb, by decide, by decide, fun q h3 h4 => ?_⟩
  refine ⟨by show 2 ≤ sizeLine; decide, _, rfl, ?_⟩
  obtain ⟨rn, rfl⟩ : ∃ rn : Nat, r = (rn : Int) := ⟨r.toNat, by omega⟩
  have hr : rn ≤ cs.length := by omega
  -- found
  obtain ⟨nn, rfl⟩ : ∃ nn : Nat, n = (nn : Int) := ⟨n.toNat, by omega⟩
  have hl2 : (intsD 0 ((nn : Int) + 2).toNat).length = nn + 2 := by unfold intsD; simp; omega
  refine ⟨_, rfl, _, rfl, by omega, by omega, by rw [hl2]; exact sz_le (by omega), ?_⟩
  refine lc_map (fun d => match d with | .int j => .str ⟨(cand cs rn q j.toNat).toArray⟩ | _ => .non) trivial (fun d hd => ?_) ?_
  · obtain ⟨j, hj, rfl⟩ := intsD_mem hd
    refine ⟨_, rfl, fun k' hk' => ?_⟩
    have hx := ix26 q j
    have hx0 := Int.emod_nonneg (q + 7 * (j : Int)) (show (26 : Int) ≠ 0 by decide)
    refine ⟨_, rfl, _, rfl, rn, rfl, by rw [hsl]; exact sz_le (by omega), ?_⟩
    refine ⟨_, rfl, _, rfl, _, rfl, .inl ⟨by decide, by decide⟩, _, rfl, _, 26, rfl, rfl, (by show (0 : Int) < 26; decide), (q + 7 * (j : Int)) % 26, L26.getD ((q + 7 * (j : Int)) % 26).toNat 0, rfl, ?_, ?_, ?_⟩
    · exact sz_le (by decide +kernel)
    · rw [show ("abcdefghijklmnopqrstuvwxyz" : Str) = letters from rfl, letters_L]
      have e := L26_get hx
      generalize ((q + 7 * (j : Int)) % 26) = z at hx hx0 e ⊢
      rw [show z = ((z.toNat : Nat) : Int) by omega]
      exact atI_nat e
    · have e1 : cutS ⟨cs.toArray⟩ none (some (rn : Int)) = ⟨(cs.take rn).toArray⟩ := cut_lo cs rn hr
      have e2 : cutS ⟨cs.toArray⟩ (some (rn : Int)) none = ⟨(cs.drop rn).toArray⟩ := cut_hi cs rn hr
      rw [e1]
      have l1 : (⟨(cs.take rn).toArray⟩ : Str).length ≤ 5 := by show (cs.take rn).toArray.size ≤ 5; simp; omega
      have l2 : (⟨(cs.drop rn).toArray⟩ : Str).length ≤ 5 := by show (cs.drop rn).toArray.size ≤ 5; simp; omega
      refine ⟨sz_le ?_, _, rfl, _, rfl, rn, rfl, by rw [hsl]; exact sz_le (by omega), ?_⟩
      · show _ + 1 ≤ 1000000
        omega
      · rw [e2]
        have l3 : ((⟨(cs.take rn).toArray⟩ : Str) ++ (⟨#[L26.getD ((q + 7 * (j : Int)) % 26).toNat 0]⟩ : Str)).length ≤ 6 := by
          show ((cs.take rn).toArray ++ #[L26.getD ((q + 7 * (j : Int)) % 26).toNat 0]).size ≤ 6
          rw [Array.size_append]
          show (cs.take rn).toArray.size + 1 ≤ 6
          have : (cs.take rn).toArray.size ≤ 5 := l1
          omega
        refine ⟨sz_le (by omega), ?_⟩
        have e3 : (⟨(cs.take rn).toArray⟩ : Str) ++ (⟨#[L26.getD ((q + 7 * (j : Int)) % 26).toNat 0]⟩ : Str) ++ (⟨(cs.drop rn).toArray⟩ : Str) = ⟨(cand cs rn q j).toArray⟩ := by
          refine str_ext ?_
          show tl (_ ++ _ ++ _) = _
          rw [tl_append, tl_append]
          show cs.take rn ++ [L26.getD ((q + 7 * (j : Int)) % 26).toNat 0] ++ cs.drop rn = cand cs rn q j
          unfold cand
          simp
        rw [e3]
        exact hk'
  · have e4 : (intsD 0 ((nn : Int) + 2).toNat).map (fun d => match d with | .int j => D.str ⟨(cand cs rn q j.toNat).toArray⟩ | _ => .non) = ((List.range (nn + 2)).map fun j => (⟨(cand cs rn q j).toArray⟩ : Str)).map D.str := by
      unfold intsD
      rw [List.map_map, List.map_map, show ((nn : Int) + 2).toNat = nn + 2 by omega]
      refine List.map_congr_left fun j _ => ?_
      show D.str ⟨(cand cs rn q ((0 : Int) + (j : Int)).toNat).toArray⟩ = _
      rw [Int.zero_add, Int.toNat_natCast]
      rfl
    rw [List.nil_append, e4]
    refine ⟨_, rfl, ?_⟩
    have hln : (((List.range (nn + 2)).map fun j => (⟨(cand cs rn q j).toArray⟩ : Str)).map D.str).length = nn + 2 := by simp
    refine ⟨_, rfl, by rw [hln]; exact sz_le (by omega), ?_⟩
    refine lc_filter (fun d => !inF d (badW.map D.str)) (fun d => d) trivial (fun d hd => ?_) ?_
    · obtain ⟨w, _, rfl⟩ := List.mem_map.mp hd
      refine ⟨_, rfl, fun k' hk' => ?_, fun k' hk' => ⟨_, rfl, hk'⟩⟩
      exact ⟨_, rfl, by show 4 ≤ sizeLine; decide, badW.map D.str, rfl, rfl, rfl, _, rfl, hk'⟩
    · rw [List.nil_append, List.map_id', filter_strs]
      refine ⟨_, rfl, nn, rfl, _, rfl, ?_⟩
      rw [cut_strs]
      have e5 : (((List.range (nn + 2)).map fun j => (⟨(cand cs rn q j).toArray⟩ : Str)).filter fun w => !inF (.str w) (badW.map D.str)).take nn = named cs rn q nn := by
        unfold named
        congr 1
        refine List.filter_congr fun w _ => ?_
        rw [inF_strs]
        simp
      rw [e5]
      obtain ⟨w1, w2, w3⟩ := named_ok hcs (by omega) (r := rn) (q := q) (n := nn) (by omega)
      exact hk _ (by omega) w2 w3
end CM
namespace CM
open PySem L2 DL TL
/-! ### names of columns -/
def splitD (z : Str) : List Str := (spl [46] 0 [] (tl z)).map fun l => ⟨l.toArray⟩
theorem split_dot (z : Str) : Txt.split z "." = splitD z := by
  refine map_tl_inj ?_
  rw [split_spl z "." (by decide +kernel) (kind_ok (by decide +kernel))]
  unfold splitD
  rw [List.map_map]
  have e : tl "." = [46] := by decide +kernel
  rw [e]
  exact (List.map_id _).symm
theorem spl_no {l : List Nat} (h : 46 ∉ l) : ∀ acc : List Nat, spl [46] 0 acc l = [acc ++ l] := by
  induction l with
  | nil => intro acc; rw [spl_nil, List.append_nil]
  | cons c r ih =>
    intro acc
    rw [spl_miss (pre_of_head _ _ fun e => h (by rw [e]; exact List.mem_cons_self)), ih fun g => h (List.mem_cons_of_mem _ g), List.append_assoc]
    rfl
theorem spl_one {l r : List Nat} (h : 46 ∉ l) : ∀ acc : List Nat, spl [46] 0 acc (l ++ 46 :: r) = (acc ++ l) :: spl [46] 0 [] r := by
  induction l with
  | nil =>
    intro acc
    have e : spl [46] 0 acc (46 :: r) = acc :: spl [46] 0 [] r := spl_hit (pre_self [46] r)
    rw [List.nil_append, e, List.append_nil]
  | cons c l ih =>
    intro acc
    rw [List.cons_append, spl_miss (pre_of_head _ _ fun e => h (by rw [e]; exact List.mem_cons_self)), ih fun g => h (List.mem_cons_of_mem _ g), List.append_assoc]
    rfl
theorem spl_len : ∀ (l acc : List Nat), ∀ p ∈ spl [46] 0 acc l, p.length ≤ acc.length + l.length
  | [], acc, p, h => by
    rw [spl_nil] at h
    rw [List.mem_singleton.mp h]
    exact Nat.le_refl _
  | c :: r, acc, p, h => by
    cases q : pre [46] (c :: r) with
    | true =>
      rw [spl_hit q] at h
      rcases List.mem_cons.mp h with rfl | h
      · exact Nat.le_add_right _ _
      · have := spl_len r [] p h
        rw [List.length_nil] at this
        rw [List.length_cons]
        omega
    | false =>
      rw [spl_miss q] at h
      have := spl_len r (acc ++ [c]) p h
      rw [List.length_append, List.length_cons, List.length_nil] at this
      rw [List.length_cons]
      omega
theorem spl_many : ∀ (l acc : List Nat), (spl [46] 0 acc l).length ≤ 1 + l.length
  | [], acc => by rw [spl_nil]; exact Nat.le_refl _
  | c :: r, acc => by
    cases q : pre [46] (c :: r) with
    | true =>
      have e : spl [46] 0 acc (c :: r) = acc :: spl [46] 0 [] r := spl_hit q
      rw [e, List.length_cons, List.length_cons]
      have := spl_many r []
      omega
    | false =>
      rw [spl_miss q, List.length_cons]
      have := spl_many r (acc ++ [c])
      omega
def isColS (z : Str) : Bool := decide ((splitD z).length ≤ 2) && (splitD z).all isNameS
def isCol : D → Bool
  | .str z => isColS z
  | _ => false
theorem name_dot {w : Str} (h : isNameS w = true) : 46 ∉ tl w := fun hm => by
  unfold isNameS at h
  rw [Bool.and_eq_true, List.all_eq_true] at h
  have := h.2 46 hm
  rw [decide_eq_true_eq, letters_L] at this
  exact absurd this (by decide)
theorem col_name {w : Str} (h : isNameS w = true) : isColS w = true := by
  have e : splitD w = [w] := by
    unfold splitD
    rw [spl_no (name_dot h), List.nil_append]
    exact congrArg (fun x => [x]) (mk_tl w)
  unfold isColS
  rw [e, List.all_cons, h]
  rfl
theorem col_two {v w : Str} (hv : isNameS v = true) (hw : isNameS w = true) : isColS (v ++ "." ++ w) = true := by
  have e : splitD (v ++ "." ++ w) = [v, w] := by
    unfold splitD
    have e1 : tl "." = [46] := by decide +kernel
    rw [tl_append, tl_append, e1, List.append_assoc]
    show (spl [46] 0 [] (tl v ++ 46 :: tl w)).map _ = _
    rw [spl_one (name_dot hv), spl_no (name_dot hw), List.nil_append, List.nil_append, List.map_cons, List.map_cons, List.map_nil, mk_tl, mk_tl]
  unfold isColS
  rw [e, List.all_cons, List.all_cons, hv, hw]
  rfl
def sIsColName : MF := fun ds M k _ => ∃ d, ds = [d] ∧ tyN M d ∈ tys ∧ (∀ z, d = .str z → z.length ≤ 1000) ∧ k (.bl (isCol d)) M
/-! ### tests -/
def partsT : TabD := [("is", .int 3), ("has", .int 2), ("not", .int 2), ("and", .int 3), ("or", .int 3)]
def partsI (z : Str) : Int := if z = "is" then 3 else if z = "has" then 2 else if z = "not" then 2 else if z = "and" then 3 else if z = "or" then 3 else 0
theorem parts_get (z : Str) : (partsT.lookup z).getD (.int 0) = .int (partsI z) := by
  unfold partsT partsI
  simp only [List.lookup_cons, List.lookup_nil]
  have key : ∀ (y : Str) (n : Int) (o : Option D) (j : Int), o.getD (.int 0) = .int j → (match z == y with | true => some (D.int n) | false => o).getD (.int 0) = D.int (if z = y then n else j) := fun y n o j h => by
    by_cases e : z = y
    · rw [beq_iff_eq.mpr e, if_pos e]
      rfl
    · rw [beq_eq_false_iff_ne.mpr e, if_neg e]
      exact h
  exact key _ _ _ _ (key _ _ _ _ (key _ _ _ _ (key _ _ _ _ (key _ _ none 0 rfl))))
/-- value is a test of at most so many levels -/
def isT : Nat → D → Bool
  | n + 1, .tup (.str h :: ds) => decide (partsI h = ((.str h :: ds : List D).length : Int)) && if h = "is" then isCol (ds.getD 0 .non) && isName (ds.getD 1 .non) else if h = "has" then isName (ds.getD 0 .non) else ds.all (isT n)
  | _, _ => false
mutual
/-- plain data with short texts -/
def okD : Nat → D → Bool
  | 0, _ => false
  | _ + 1, .non => true
  | _ + 1, .bl _ => true
  | _ + 1, .int _ => true
  | _ + 1, .str z => decide (z.length ≤ 1000)
  | n + 1, .tup ds => decide (ds.length ≤ 1000) && okAll n ds
  | n + 1, .lst ds => decide (ds.length ≤ 1000) && okAll n ds
  | _ + 1, _ => false
def okAll : Nat → List D → Bool
  | _, [] => true
  | n, d :: ds => okD n d && okAll n ds
end
theorem okAll_mem {n : Nat} : ∀ {ds : List D}, okAll n ds = true → ∀ d ∈ ds, okD n d = true
  | [], _, d, h => by cases h
  | e :: es, h, d, hd => by
    rw [okAll, Bool.and_eq_true] at h
    rcases List.mem_cons.mp hd with rfl | hd
    · exact h.1
    · exact okAll_mem h.2 d hd
theorem ok_ty {n : Nat} {d : D} (M : Mh) (h : okD n d = true) : tyN M d ∈ tys := by
  cases n with
  | zero => rw [okD] at h; cases h
  | succ n =>
    cases d with
    | non => show "NoneType" ∈ tys; decide
    | bl _ => show "bool" ∈ tys; decide
    | int _ => show "int" ∈ tys; decide
    | str _ => show "str" ∈ tys; decide
    | tup _ => show "tuple" ∈ tys; decide
    | lst _ => show "list" ∈ tys; decide
    | ref a => simp [okD] at h
    | ty _ => simp [okD] at h
    | scr _ => simp [okD] at h
theorem ok_str {n : Nat} {d : D} (h : okD n d = true) : ∀ z, d = .str z → z.length ≤ 1000 := fun z e => by
  subst e
  cases n with
  | zero => rw [okD] at h; cases h
  | succ n => rw [okD] at h; simpa using h
mutual
theorem okD_up : ∀ (n : Nat) (d : D), okD n d = true → okD (n + 1) d = true
  | 0, _, h => by rw [okD] at h; cases h
  | n + 1, .non, _ => by rw [okD]
  | n + 1, .bl _, _ => by rw [okD]
  | n + 1, .int _, _ => by rw [okD]
  | n + 1, .str z, h => by rw [okD] at h ⊢; exact h
  | n + 1, .tup ds, h => by
    rw [okD, Bool.and_eq_true] at h ⊢
    exact ⟨h.1, okAll_up n ds h.2⟩
  | n + 1, .lst ds, h => by
    rw [okD, Bool.and_eq_true] at h ⊢
    exact ⟨h.1, okAll_up n ds h.2⟩
  | n + 1, .ref _, h => by simp [okD] at h
  | n + 1, .ty _, h => by simp [okD] at h
  | n + 1, .scr _, h => by simp [okD] at h
theorem okAll_up : ∀ (n : Nat) (ds : List D), okAll n ds = true → okAll (n + 1) ds = true
  | _, [], _ => by rw [okAll]
  | n, d :: ds, h => by
    rw [okAll, Bool.and_eq_true] at h ⊢
    exact ⟨okD_up n d h.1, okAll_up n ds h.2⟩
end
theorem okD_le {n m : Nat} (hm : n ≤ m) {d : D} (h : okD n d = true) : okD m d = true := by
  induction hm with
  | refl => exact h
  | step _ ih => exact okD_up _ _ ih
def sIsTest (n : Nat) : MF := fun ds M k _ => ∃ (d : D) (m j : Nat), ds = [d, .int (m : Int)] ∧ m < n ∧ okD j d = true ∧ k (.bl (isT m d)) M
/-- a test that is drawn, of just so many levels -/
inductive FT : Nat → D → Prop
  | is {c w : Str} : isColS c = true → c.length ≤ 1000 → isNameS w = true → FT 1 (.tup [.str "is", .str c, .str w])
  | has {w : Str} : isNameS w = true → FT 1 (.tup [.str "has", .str w])
  | not {n : Nat} {d : D} : FT n d → FT (n + 1) (.tup [.str "not", d])
  | two {n m : Nat} {h : Str} {d e : D} : h = "and" ∨ h = "or" → FT n d → FT m e → m ≤ n → FT (n + 1) (.tup [.str h, d, e])
  | owt {n m : Nat} {h : Str} {d e : D} : h = "and" ∨ h = "or" → FT n d → FT m e → m ≤ n → FT (n + 1) (.tup [.str h, e, d])
theorem FT.pos {n : Nat} {d : D} (h : FT n d) : 1 ≤ n := by cases h <;> omega
theorem isNameS_len {w : Str} (h : isNameS w = true) : 1 ≤ w.length ∧ w.length ≤ 6 := by
  unfold isNameS at h
  rw [Bool.and_eq_true, Bool.and_eq_true, decide_eq_true_eq, decide_eq_true_eq] at h
  exact h.1
theorem is_not {m : Nat} {d : D} : isT (m + 1) (.tup [.str "not", d]) = isT m d := by
  show (true && (isT m d && true)) = _
  rw [Bool.true_and, Bool.and_true]
theorem is_two {m : Nat} {h : Str} (hh : h = "and" ∨ h = "or") {d e : D} : isT (m + 1) (.tup [.str h, d, e]) = (isT m d && isT m e) := by
  rcases hh with rfl | rfl
  · show (true && (isT m d && (isT m e && true))) = _
    rw [Bool.true_and, Bool.and_true]
  · show (true && (isT m d && (isT m e && true))) = _
    rw [Bool.true_and, Bool.and_true]
theorem is_is {m : Nat} {c w : D} : isT (m + 1) (.tup [.str "is", c, w]) = (isCol c && isName w) := by
  show (true && (isCol c && isName w)) = _
  rw [Bool.true_and]
theorem is_has {m : Nat} {w : D} : isT (m + 1) (.tup [.str "has", w]) = isName w := by
  show (true && isName w) = _
  rw [Bool.true_and]
theorem FT.isT {n : Nat} {d : D} (h : FT n d) : ∀ m, CM.isT m d = decide (n ≤ m) := by
  have pos := h.pos
  intro m
  cases m with
  | zero => rw [decide_eq_false (by omega)]; cases h <;> rfl
  | succ m =>
    induction h generalizing m with
    | is h1 _ h2 =>
      rw [is_is]
      show (isColS _ && isNameS _) = _
      rw [h1, h2, decide_eq_true (by omega)]
      rfl
    | has h1 =>
      rw [is_has]
      show isNameS _ = _
      rw [h1, decide_eq_true (by omega)]
    | @not n d h ih =>
      rw [is_not]
      cases m with
      | zero =>
        have := h.pos
        rw [decide_eq_false (by omega)]
        cases h <;> rfl
      | succ m =>
        rw [ih h.pos]
        exact decide_eq_decide.mpr (by omega)
    | @two n m' hd d e hh h1 h2 hl ih1 ih2 =>
      rw [is_two hh]
      cases m with
      | zero =>
        have := h1.pos
        rw [decide_eq_false (by omega)]
        cases h1 <;> rfl
      | succ m =>
        rw [ih1 h1.pos, ih2 h2.pos]
        by_cases g : n ≤ m + 1
        · rw [decide_eq_true g, decide_eq_true (by omega), decide_eq_true (by omega)]; rfl
        · rw [decide_eq_false g, decide_eq_false (show ¬ n + 1 ≤ m + 1 + 1 by omega)]; rfl
    | @owt n m' hd d e hh h1 h2 hl ih1 ih2 =>
      rw [is_two hh]
      cases m with
      | zero =>
        have := h1.pos
        rw [decide_eq_false (by omega)]
        cases h2 <;> rfl
      | succ m =>
        rw [ih1 h1.pos, ih2 h2.pos]
        by_cases g : n ≤ m + 1
        · rw [decide_eq_true g, decide_eq_true (show m' ≤ m + 1 by omega), decide_eq_true (by omega)]; rfl
        · rw [decide_eq_false g, decide_eq_false (show ¬ n + 1 ≤ m + 1 + 1 by omega), Bool.and_false]
theorem len_and : ("and" : Str).length = 3 := by decide +kernel
theorem len_or : ("or" : Str).length = 2 := by decide +kernel
theorem hd_len {h : Str} (hh : h = "and" ∨ h = "or") : decide (h.length ≤ 1000) = true := by
  rcases hh with rfl | rfl
  · rw [len_and]; rfl
  · rw [len_or]; rfl
theorem l_is : decide (("is" : Str).length ≤ 1000) = true := by decide +kernel
theorem l_has : decide (("has" : Str).length ≤ 1000) = true := by decide +kernel
theorem l_not : decide (("not" : Str).length ≤ 1000) = true := by decide +kernel
theorem FT.ok {n : Nat} {d : D} (h : FT n d) : okD (n + 1) d = true := by
  induction h with
  | is _ h1 h2 =>
    have := isNameS_len h2
    simp only [okD, okAll, List.length_cons, List.length_nil]
    rw [decide_eq_true h1, l_is, decide_eq_true (show (_ : Str).length ≤ 1000 from Nat.le_trans this.2 (by decide))]
    rfl
  | has h2 =>
    have := isNameS_len h2
    simp only [okD, okAll, List.length_cons, List.length_nil]
    rw [l_has, decide_eq_true (show (_ : Str).length ≤ 1000 from Nat.le_trans this.2 (by decide))]
    rfl
  | not h ih =>
    simp only [okD, okAll, List.length_cons, List.length_nil, ih, l_not]
    rfl
  | two hh h1 h2 hl ih1 ih2 =>
    have := okD_le (show _ ≤ _ by exact Nat.succ_le_succ hl) ih2
    simp only [okD, okAll, List.length_cons, List.length_nil, ih1, this]
    rw [hd_len hh]
    rfl
  | owt hh h1 h2 hl ih1 ih2 =>
    have := okD_le (show _ ≤ _ by exact Nat.succ_le_succ hl) ih2
    simp only [okD, okAll, List.length_cons, List.length_nil, ih1, this]
    rw [hd_len hh]
    rfl
/-- five names -/
def Five (d : D) (w0 w1 w2 w3 w4 : Str) : Prop := d = .lst [.str w0, .str w1, .str w2, .str w3, .str w4] ∧ isNameS w0 = true ∧ isNameS w1 = true ∧ isNameS w2 = true ∧ isNameS w3 = true ∧ isNameS w4 = true
def sFree (n : Nat) : MF := fun ds M k _ => ∃ b d w0 w1 w2 w3 w4, ∃ m : Nat, ds = [.ref b, d, .int (m : Int)] ∧ M b = some .box ∧ Five d w0 w1 w2 w3 w4 ∧ 1 ≤ m ∧ m ≤ n ∧ ∀ t, FT m t → k t M
/-- what is no test -/
def NT (d : D) : Prop := (∀ m, isT m d = false) ∧ ∃ j, okD j d = true
def sBent (n : Nat) : MF := fun ds M k _ => ∃ b t ws, ∃ m : Nat, ds = [.ref b, t, ws] ∧ M b = some .box ∧ FT m t ∧ m ≤ n ∧ ∀ d, NT d → k d M
end CM
namespace CM
open PySem L2 DL TL
/-! ### tests that are drawn, over five names -/
inductive GT (w0 w1 w2 w3 w4 : Str) : Nat → D → Prop
  | is {c : Str} : c = w0 ∨ c = w1 ∨ c = w2 ++ "." ++ w0 → GT w0 w1 w2 w3 w4 1 (.tup [.str "is", .str c, .str w3])
  | has : GT w0 w1 w2 w3 w4 1 (.tup [.str "has", .str w4])
  | not {n : Nat} {d : D} : GT w0 w1 w2 w3 w4 n d → GT w0 w1 w2 w3 w4 (n + 1) (.tup [.str "not", d])
  | two {n m : Nat} {h : Str} {d e : D} : h = "and" ∨ h = "or" → GT w0 w1 w2 w3 w4 n d → GT w0 w1 w2 w3 w4 m e → m ≤ n → GT w0 w1 w2 w3 w4 (n + 1) (.tup [.str h, d, e])
  | owt {n m : Nat} {h : Str} {d e : D} : h = "and" ∨ h = "or" → GT w0 w1 w2 w3 w4 n d → GT w0 w1 w2 w3 w4 m e → m ≤ n → GT w0 w1 w2 w3 w4 (n + 1) (.tup [.str h, e, d])
theorem GT.pos {w0 w1 w2 w3 w4 : Str} {n : Nat} {d : D} (h : GT w0 w1 w2 w3 w4 n d) : 1 ≤ n := by cases h <;> omega
theorem dot1 : ("." : Str).length = 1 := by decide +kernel
theorem col_len {w0 w2 : Str} : (w2 ++ "." ++ w0).length = w2.length + 1 + w0.length := by
  rw [len_tl, tl_append, tl_append, List.length_append, List.length_append, ← len_tl, ← len_tl, ← len_tl, dot1]
theorem GT.ft {w0 w1 w2 w3 w4 : Str} {n : Nat} {d : D} (g0 : isNameS w0 = true) (g1 : isNameS w1 = true) (g2 : isNameS w2 = true) (g3 : isNameS w3 = true) (g4 : isNameS w4 = true) (h : GT w0 w1 w2 w3 w4 n d) : FT n d := by
  have l0 := isNameS_len g0
  have l1 := isNameS_len g1
  have l2 := isNameS_len g2
  induction h with
  | is hc =>
    rcases hc with rfl | rfl | rfl
    · exact .is (col_name g0) (by omega) g3
    · exact .is (col_name g1) (by omega) g3
    · exact .is (col_two g2 g0) (by rw [col_len]; omega) g3
  | has => exact .has g4
  | not _ ih => exact .not ih
  | two hh _ _ hl ih1 ih2 => exact .two hh ih1 ih2 hl
  | owt hh _ _ hl ih1 ih2 => exact .owt hh ih1 ih2 hl
def sGrow (n : Nat) : MF := fun ds M k _ => ∃ b d w0 w1 w2 w3 w4, ∃ m : Nat, ds = [.ref b, d, .int (m : Int)] ∧ M b = some .box ∧ Five d w0 w1 w2 w3 w4 ∧ 1 ≤ m ∧ m ≤ n ∧ ∀ t, GT w0 w1 w2 w3 w4 m t → k t M
def b__law_free_test (s : MF) : MS := (mSeq (mIfS (mTest (mOp dEq (mVar 2) (mC (.int 1)))) (mSeq (mAsg (mCall sOf (mCons (mVar 0) (mCons (mLst (mCons (mOp dIx (mVar 1) (mC (.int 0))) (mCons (mOp dIx (mVar 1) (mC (.int 1))) (mCons (mOp dAdd (mOp dAdd (mOp dIx (mVar 1) (mC (.int 2))) (mC (.str "."))) (mOp dIx (mVar 1) (mC (.int 0)))) mNil)))) mNil))) (.nm 3)) (mRet (mIf (mTest (mOp dGt (mCall sPull (mCons (mVar 0) (mCons (mC (.int 3)) mNil))) (mC (.int 0)))) (mTup (mCons (mC (.str "is")) (mCons (mVar 3) (mCons (mOp dIx (mVar 1) (mC (.int 3))) mNil)))) (mTup (mCons (mC (.str "has")) (mCons (mOp dIx (mVar 1) (mC (.int 4))) mNil)))))) mNext) (mSeq (mPar 4 5 (mCons (mCall sPull (mCons (mVar 0) (mCons (mC (.int 3)) mNil))) (mCons (mCall s (mCons (mVar 0) (mCons (mVar 1) (mCons (mOp dSub (mVar 2) (mC (.int 1))) mNil)))) mNil))) (mSeq (mIfS (mTest (mOp dEq (mVar 4) (mC (.int 0)))) (mRet (mTup (mCons (mC (.str "not")) (mCons (mVar 5) mNil)))) mNext) (mSeq (mAsg (mCall s (mCons (mVar 0) (mCons (mVar 1) (mCons (mOp dAdd (mC (.int 1)) (mCall sPull (mCons (mVar 0) (mCons (mCB cMin (mCons (mOp dSub (mVar 2) (mC (.int 1))) (mCons (mC (.int 2)) mNil))) mNil)))) mNil)))) (.nm 6)) (mRet (mIf (mTest (mOp dEq (mCall sPull (mCons (mVar 0) (mCons (mC (.int 2)) mNil))) (mC (.int 0)))) (mTup (mCons (mOp dIx (mLst (mCons (mC (.str "and")) (mCons (mC (.str "or")) mNil))) (mOp dSub (mVar 4) (mC (.int 1)))) (mCons (mVar 5) (mCons (mVar 6) mNil)))) (mTup (mCons (mOp dIx (mLst (mCons (mC (.str "and")) (mCons (mC (.str "or")) mNil))) (mOp dSub (mVar 4) (mC (.int 1)))) (mCons (mVar 6) (mCons (mVar 5) mNil))))))))))
theorem grow_ok (n : Nat) (ds : List D) (M : Mh) (k : DK) (kx : XKd) (h : sGrow (n + 1) ds M k kx) : b__law_free_test (sGrow n) { nx := fun _ M' => k .non M', rt := k } (startD 7 ds) M noX := by
  obtain ⟨b, d, w0, w1, w2, w3, w4, m, rfl, hb, ⟨rfl, g0, g1, g2, g3, g4⟩, h1, hn, hk⟩ := h
  have l0 := isNameS_len g0
  have l1 := isNameS_len g1
  have l2 := isNameS_len g2
  have dl : ("." : Str).length = 1 := by decide +kernel
  have l3 : (w2 ++ ".").length = w2.length + 1 := by rw [len_tl, tl_append, List.length_append, ← len_tl, ← len_tl, dl]
  have l4 : (w2 ++ "." ++ w0).length = w2.length + 1 + w0.length := by rw [len_tl, tl_append, List.length_append, ← len_tl, ← len_tl, l3]
  unfold b__law_free_test
  refine ⟨_, rfl, _, rfl, ?_⟩
  by_cases hm : m = 1
  · subst hm
    refine ⟨_, rfl, _, rfl, 0, _, _, rfl, rfl, rfl, _, rfl, 1, _, _, rfl, rfl, rfl, _, rfl, 2, _, _, rfl, rfl, rfl, sz_le (by omega), _, rfl, 0, _, _, rfl, rfl, rfl, sz_le (by omega), sz_le (by show 3 ≤ 1000000; decide), ?_⟩
    refine ⟨b, _, _, rfl, hb, rfl, by show 0 < 3; decide, by show 3 ≤ 1000000; decide, fun x hx => ⟨_, rfl, ?_⟩⟩
    obtain ⟨c, rfl, c1⟩ : ∃ c : Str, x = .str c ∧ (c = w0 ∨ c = w1 ∨ c = w2 ++ "." ++ w0) := by
      simp only [List.mem_cons, List.not_mem_nil, or_false] at hx
      rcases hx with rfl | rfl | rfl
      · exact ⟨_, rfl, .inl rfl⟩
      · exact ⟨_, rfl, .inr (.inl rfl)⟩
      · exact ⟨_, rfl, .inr (.inr rfl)⟩
    refine ⟨_, rfl, b, 3, rfl, hb, by decide, by decide, fun r r1 r2 => ⟨_, _, rfl, rfl, trivial, _, rfl, ?_⟩⟩
    by_cases hr : 0 < r
    · rw [decide_eq_true hr]
      exact ⟨_, rfl, _, rfl, 3, _, _, rfl, rfl, rfl, sz_le (by show 3 ≤ 1000000; decide), hk _ (.is c1)⟩
    · rw [decide_eq_false hr]
      exact ⟨_, rfl, 4, _, _, rfl, rfl, rfl, sz_le (by show 2 ≤ 1000000; decide), hk _ .has⟩
  · obtain ⟨m, rfl⟩ : ∃ m' : Nat, m = m' + 1 := ⟨m - 1, by omega⟩
    rw [show (if false = true then !decide (((m + 1 : Nat) : Int) = 1) else decide (((m + 1 : Nat) : Int) = 1)) = false from decide_eq_false (by omega)]
    have five : Five (.lst [.str w0, .str w1, .str w2, .str w3, .str w4]) w0 w1 w2 w3 w4 := ⟨rfl, g0, g1, g2, g3, g4⟩
    have em : ((m + 1 : Nat) : Int) - 1 = (m : Int) := by omega
    refine ⟨_, rfl, b, 3, rfl, hb, by decide, by decide, fun way q1 q2 => ?_⟩
    refine ⟨_, rfl, _, rfl, _, rfl, _, _, rfl, rfl, trivial, b, _, w0, w1, w2, w3, w4, m, by show [D.ref b, _, D.int (((m + 1 : Nat) : Int) - 1)] = _; rw [em], hb, five, by omega, by omega, fun part hp => ⟨_, _, rfl, ?_⟩⟩
    refine ⟨_, rfl, _, rfl, ?_⟩
    by_cases hw : way = 0
    · subst hw
      exact ⟨_, rfl, sz_le (by show 2 ≤ 1000000; decide), hk _ (.not hp)⟩
    · rw [show (if false = true then !decide (way = 0) else decide (way = 0)) = false from decide_eq_false hw]
      refine ⟨_, rfl, _, rfl, _, rfl, _, rfl, _, _, rfl, rfl, trivial, _, _, rfl, ?_⟩
      have hmin : 0 < (if (2 : Int) < ((m + 1 : Nat) : Int) - 1 then 2 else ((m + 1 : Nat) : Int) - 1) ∧ (if (2 : Int) < ((m + 1 : Nat) : Int) - 1 then 2 else ((m + 1 : Nat) : Int) - 1) ≤ m ∧ (if (2 : Int) < ((m + 1 : Nat) : Int) - 1 then 2 else ((m + 1 : Nat) : Int) - 1) ≤ 2 := by
        split <;> omega
      dsimp only
      generalize (if (2 : Int) < ((m + 1 : Nat) : Int) - 1 then 2 else ((m + 1 : Nat) : Int) - 1) = mn at hmin
      refine ⟨b, mn, rfl, hb, by omega, by omega, fun r r1 r2 => ?_⟩
      obtain ⟨rn, rfl⟩ : ∃ rn : Nat, r = (rn : Int) := ⟨r.toNat, by omega⟩
      refine ⟨b, _, w0, w1, w2, w3, w4, rn + 1, by show [D.ref b, _, D.int (1 + (rn : Int))] = _; rw [show 1 + (rn : Int) = ((rn + 1 : Nat) : Int) by omega], hb, five, by omega, by omega, fun other ho => ⟨_, rfl, ?_⟩⟩
      refine ⟨_, rfl, b, 2, rfl, hb, by decide, by decide, fun r3 _ _ => ⟨_, rfl, ?_⟩⟩
      have hw2 : way = 1 ∨ way = 2 := by omega
      by_cases h3 : r3 = 0
      · rw [show (if false = true then !decide (r3 = 0) else decide (r3 = 0)) = true from decide_eq_true h3]
        rcases hw2 with rfl | rfl
        · exact ⟨sz_le (by show 2 ≤ 1000000; decide), _, rfl, _, _, rfl, rfl, trivial, 0, _, _, rfl, rfl, rfl, _, rfl, _, rfl, sz_le (by show 3 ≤ 1000000; decide), hk _ (.two (.inl rfl) hp ho (by omega))⟩
        · exact ⟨sz_le (by show 2 ≤ 1000000; decide), _, rfl, _, _, rfl, rfl, trivial, 1, _, _, rfl, rfl, rfl, _, rfl, _, rfl, sz_le (by show 3 ≤ 1000000; decide), hk _ (.two (.inr rfl) hp ho (by omega))⟩
      · rw [show (if false = true then !decide (r3 = 0) else decide (r3 = 0)) = false from decide_eq_false h3]
        rcases hw2 with rfl | rfl
        · exact ⟨sz_le (by show 2 ≤ 1000000; decide), _, rfl, _, _, rfl, rfl, trivial, 0, _, _, rfl, rfl, rfl, _, rfl, _, rfl, sz_le (by show 3 ≤ 1000000; decide), hk _ (.owt (.inl rfl) hp ho (by omega))⟩
        · exact ⟨sz_le (by show 2 ≤ 1000000; decide), _, rfl, _, _, rfl, rfl, trivial, 1, _, _, rfl, rfl, rfl, _, rfl, _, rfl, sz_le (by show 3 ≤ 1000000; decide), hk _ (.owt (.inr rfl) hp ho (by omega))⟩

/-! ### what a test says of a row -/
def trIs (kvs : List (Key × D)) : D → D → Bool
  | .str c, .str w => eqS ((getG kvs (.inr c)).getD .non) (.str w) == some true
  | _, _ => false
def blOf : Option D → Bool
  | some (.bl b) => b
  | _ => false
def trHas (kvs : List (Key × D)) : D → Bool
  | .str c => blOf (getG kvs (.inr c))
  | _ => false
def tr (kvs : List (Key × D)) : Nat → D → Bool
  | n + 1, .tup (.str h :: ds) => if h = "is" then trIs kvs (ds.getD 0 .non) (ds.getD 1 .non) else if h = "has" then trHas kvs (ds.getD 0 .non) else if h = "not" then !tr kvs n (ds.getD 0 .non) else if h = "and" then ds.all (tr kvs n) else ds.any (tr kvs n)
  | _, _ => false
section
variable {kvs : List (Key × D)} {n : Nat} {c d e : D}
theorem tr_is : tr kvs (n + 1) (.tup [.str "is", c, d]) = trIs kvs c d := rfl
theorem tr_has : tr kvs (n + 1) (.tup [.str "has", c]) = trHas kvs c := rfl
theorem tr_not : tr kvs (n + 1) (.tup [.str "not", c]) = !tr kvs n c := rfl
theorem tr_and : tr kvs (n + 1) (.tup [.str "and", c, d]) = (tr kvs n c && tr kvs n d) := by
  show (tr kvs n c && (tr kvs n d && true)) = _
  rw [Bool.and_true]
theorem tr_or : tr kvs (n + 1) (.tup [.str "or", c, d]) = (tr kvs n c || tr kvs n d) := by
  show (tr kvs n c || (tr kvs n d || false)) = _
  rw [Bool.or_false]
end
theorem tr_up {kvs : List (Key × D)} {w0 w1 w2 w3 w4 : Str} {m : Nat} {t : D} (h : GT w0 w1 w2 w3 w4 m t) : ∀ n, m ≤ n → tr kvs (n + 1) t = tr kvs n t := by
  induction h with
  | is hc =>
    intro n hn
    obtain ⟨n, rfl⟩ : ∃ k, n = k + 1 := ⟨n - 1, by omega⟩
    rw [tr_is, tr_is]
  | has =>
    intro n hn
    obtain ⟨n, rfl⟩ : ∃ k, n = k + 1 := ⟨n - 1, by omega⟩
    rw [tr_has, tr_has]
  | not _ ih =>
    intro n hn
    obtain ⟨n, rfl⟩ : ∃ k, n = k + 1 := ⟨n - 1, by omega⟩
    rw [tr_not, tr_not, ih n (by omega)]
  | two hh _ _ hl ih1 ih2 =>
    intro n hn
    obtain ⟨n, rfl⟩ : ∃ k, n = k + 1 := ⟨n - 1, by omega⟩
    rcases hh with rfl | rfl
    · rw [tr_and, tr_and, ih1 n (by omega), ih2 n (by omega)]
    · rw [tr_or, tr_or, ih1 n (by omega), ih2 n (by omega)]
  | owt hh _ _ hl ih1 ih2 =>
    intro n hn
    obtain ⟨n, rfl⟩ : ∃ k, n = k + 1 := ⟨n - 1, by omega⟩
    rcases hh with rfl | rfl
    · rw [tr_and, tr_and, ih1 n (by omega), ih2 n (by omega)]
    · rw [tr_or, tr_or, ih1 n (by omega), ih2 n (by omega)]
def RowOk (w4 : Str) (kvs : List (Key × D)) : Prop := (∀ p ∈ kvs, flat p.2 = true) ∧ ∀ x, getG kvs (.inr w4) = some x → ∃ b, x = .bl b
theorem getG_mem {j : Key} : ∀ {kvs : List (Key × D)} {x : D}, getG kvs j = some x → ∃ p ∈ kvs, p.2 = x
  | [], x, h => by cases h
  | p :: r, x, h => by
    by_cases e : p.1 = j
    · rw [getG_pos e] at h
      exact ⟨p, List.mem_cons_self, Option.some.inj h⟩
    · rw [getG_neg e] at h
      obtain ⟨q, h1, h2⟩ := getG_mem h
      exact ⟨q, List.mem_cons_of_mem _ h1, h2⟩
theorem eq_flat {d : D} {w : Str} {M : Mh} {k : DK} (h : flat d = true) (hk : k (.bl (eqS d (.str w) == some true)) M) : dEqB false d (.str w) M k := by
  cases d with
  | non => exact hk
  | bl _ => exact hk
  | int _ => exact hk
  | str z =>
    have e : (some (decide (z = w)) == some true) = decide (z = w) := by cases decide (z = w) <;> rfl
    have hk : k (.bl (some (decide (z = w)) == some true)) M := hk
    rw [e] at hk
    exact hk
  | _ => cases h
def sHolds (n : Nat) : MF := fun ds M k _ => ∃ w0 w1 w2 w3 w4 t a kvs, ∃ m : Nat, ds = [t, .ref a] ∧ M a = some (.dct kvs) ∧ RowOk w4 kvs ∧ GT w0 w1 w2 w3 w4 m t ∧ m ≤ n ∧ k (.bl (tr kvs n t)) M
def sTruth (n : Nat) : MF := sHolds n
/-! ### a dict that grows -/
theorem getG_map (k j : Key) (d : D) : ∀ kvs : List (Key × D), getG (kvs.map fun kv => if kv.1 = k then (kv.1, d) else kv) j = (getG kvs j).map fun x => if j = k then d else x
  | [] => rfl
  | p :: r => by
    have ih := getG_map k j d r
    rw [List.map_cons]
    by_cases h : p.1 = k
    · rw [if_pos h]
      by_cases e : p.1 = j
      · rw [getG_pos (p := (p.1, d)) e, getG_pos e, Option.map_some, if_pos (e.symm.trans h)]
      · rw [getG_neg (p := (p.1, d)) e, getG_neg e, ih]
    · rw [if_neg h]
      by_cases e : p.1 = j
      · rw [getG_pos (p := p) e, getG_pos e, Option.map_some, if_neg (fun z => h (e.trans z))]
      · rw [getG_neg (p := p) e, getG_neg e, ih]
theorem getG_other {k j : Key} (h : j ≠ k) (d : D) : ∀ kvs : List (Key × D), getG (kvs ++ [(k, d)]) j = getG kvs j
  | [] => getG_neg (p := (k, d)) (r := []) fun e => h e.symm
  | p :: r => by
    rw [List.cons_append]
    by_cases e : p.1 = j
    · rw [getG_pos e, getG_pos e]
    · rw [getG_neg e, getG_neg e, getG_other h d r]
theorem getG_put_ne {k j : Key} (h : j ≠ k) (d : D) (kvs : List (Key × D)) : getG (putG kvs k d) j = getG kvs j := by
  unfold putG
  split
  · rw [getG_map]
    simp only [if_neg h]
    cases getG kvs j <;> rfl
  · exact getG_other h d kvs
theorem put_flat {k : Key} {d : D} {kvs : List (Key × D)} (hd : flat d = true) (h : ∀ p ∈ kvs, flat p.2 = true) : ∀ p ∈ putG kvs k d, flat p.2 = true := by
  intro p hp
  unfold putG at hp
  split at hp
  · obtain ⟨q, h1, h2⟩ := List.mem_map.mp hp
    split at h2
    · rw [← h2]; exact hd
    · rw [← h2]; exact h q h1
  · rcases List.mem_append.mp hp with hp | hp
    · exact h p hp
    · rw [List.mem_singleton.mp hp]; exact hd
theorem put_len (kvs : List (Key × D)) (k : Key) (d : D) : (putG kvs k d).length ≤ kvs.length + 1 := by
  unfold putG
  split
  · rw [List.length_map]; omega
  · rw [List.length_append]; exact Nat.le_refl _
theorem put_nd {k : Key} {d : D} {kvs : List (Key × D)} (h : (kvs.map (·.1)).Nodup) : ((putG kvs k d).map (·.1)).Nodup := by
  unfold putG
  split
  · rw [List.map_map]
    have e : ((fun p : Key × D => p.1) ∘ fun kv => if kv.1 = k then (kv.1, d) else kv) = fun p => p.1 := by
      funext p
      show (if p.1 = k then (p.1, d) else p).1 = p.1
      split <;> rfl
    rw [e]
    exact h
  · rename_i hn
    rw [List.map_append, List.nodup_append]
    refine ⟨h, by simp, fun a ha b hb e => ?_⟩
    simp only [List.map_cons, List.map_nil, List.mem_singleton] at hb
    subst e hb
    obtain ⟨p, h1, h2⟩ := List.mem_map.mp ha
    exact hn (List.any_eq_true.mpr ⟨p, h1, decide_eq_true h2⟩)
theorem getG_put_some {k : Key} {d : D} : ∀ {kvs : List (Key × D)} {x : D}, getG (putG kvs k d) k = some x → x = d := by
  intro kvs x h
  unfold putG at h
  split at h
  · rw [getG_map] at h
    cases q : getG kvs k with
    | none => rw [q] at h; cases h
    | some y =>
      rw [q] at h
      simp only [Option.map_some, if_true] at h
      exact (Option.some.inj h).symm
  · rename_i hn
    have key : ∀ l : List (Key × D), ¬ (l.any fun kv => decide (kv.1 = k)) = true → getG (l ++ [(k, d)]) k = some d := fun l => by
      induction l with
      | nil => intro _; exact getG_pos (p := (k, d)) rfl
      | cons p r ih =>
        intro hl
        rw [List.any_cons, Bool.or_eq_true, not_or] at hl
        rw [List.cons_append, getG_neg (p := p) (fun e => hl.1 (decide_eq_true e))]
        exact ih hl.2
    rw [key kvs hn] at h
    exact (Option.some.inj h).symm
theorem for_invN {t : Tg} {G : Mh → Prop} {body : MS} {De : DEnds} {kx : XKd} (P : Nat → DL.Env → Mh → Prop) : ∀ (ds : List D) {Γ : DL.Env} {M : Mh}, P ds.length Γ M →
    (∀ d ∈ ds, ∀ n Γ M, P (n + 1) Γ M → G M ∧ ∃ Γ1, bindT t d Γ = some Γ1 ∧ ∀ nx : DL.Env → Mh → Prop, (∀ Γ2 M2, P n Γ2 M2 → nx Γ2 M2) → body { De with nx := nx, ct := nx, bk := De.nx } Γ1 M kx) →
    (∀ Γ M, P 0 Γ M → G M ∧ De.nx Γ M) → loopFor t G body De kx ds Γ M
  | [], Γ, M, h, _, he => he Γ M h
  | d :: ds, Γ, M, h, hs, he => by
    obtain ⟨g, Γ1, e, hb⟩ := hs d List.mem_cons_self ds.length Γ M h
    exact ⟨g, Γ1, e, hb _ fun Γ2 M2 h2 => for_invN P ds h2 (fun d' hd => hs d' (List.mem_cons_of_mem _ hd)) he⟩
end CM
set_option maxHeartbeats 4000000
namespace K04
open PySem L2 DL
def top (i : Nat) : Stmt := PySem.Challenge.pw_bothlots_k04_tests_hold.main.body.getD i (.Pass ⟨0, 0, 0, 0⟩)
abbrev st_holds : Stmt := top 1
abbrev st__law_box : Stmt := top 3
abbrev st__law_pull : Stmt := top 4
abbrev st__law_of : Stmt := top 5
abbrev st__law_names : Stmt := top 6
abbrev st__law_same : Stmt := top 7
abbrev st__law_free_test : Stmt := top 8
abbrev st__law_truth : Stmt := top 9
abbrev st_law : Stmt := top 10
abbrev FnP (K : PySem.W.Frag) (x : Str) (st : Stmt) (f : Addr) (fd : FuncData) (kws : List (Str × V) := []) : Prop := FunD K x x (defArgs st) (defBody st) (defScope st) [] kws f fd
structure Txt (w : World) (K : PySem.W.Frag) (mg : Str → Option Value) : Prop where
  b_abs : mg "abs" = none
  b_all : mg "all" = none
  b_any : mg "any" = none
  b_bool : mg "bool" = none
  b_dict : mg "dict" = none
  b_int : mg "int" = none
  b_isinstance : mg "isinstance" = none
  b_len : mg "len" = none
  b_list : mg "list" = none
  b_min : mg "min" = none
  b_range : mg "range" = none
  b_str : mg "str" = none
  b_tuple : mg "tuple" = none
  b_zip : mg "zip" = none
/-! holds -/
abbrev N_holds : List Str := ["test", "row", "word", "parts", "part"]
theorem sc_holds : FnScope N_holds ["test", "row"] (defScope st_holds) := ⟨rfl, rfl, rfl, by decide +kernel, rfl, by decide +kernel, by decide +kernel⟩
def b_holds (holdsN : Nat) : MS := (mSeq (mAsg (mOp dIx (mVar 0) (mC (.int 0))) (.nm 2)) (mSeq (mIfS (mTest (mOp dEq (mVar 2) (mC (.str "is")))) (mRet (mOp dEq (mDGet2 (mVar 1) (mOp dIx (mVar 0) (mC (.int 1))) (mC .non)) (mOp dIx (mVar 0) (mC (.int 2))))) mNext) (mSeq (mIfS (mTest (mOp dEq (mVar 2) (mC (.str "has")))) (mRet (mDGet2 (mVar 1) (mOp dIx (mVar 0) (mC (.int 1))) (mC (.bl false)))) mNext) (mSeq (mIfS (mTest (mOp dEq (mVar 2) (mC (.str "not")))) (mRet (mNotV (mCall (CM.sHolds holdsN) (mCons (mOp dIx (mVar 0) (mC (.int 1))) (mCons (mVar 1) mNil))))) mNext) (mSeq (mAsg (mLc (.nm 4) (mSeqI (mSl dSlice (mVar 0) (mPart (mC (.int 1))) mNoPart)) mYes (mCall (CM.sHolds holdsN) (mCons (mVar 4) (mCons (mVar 1) mNil))) [4]) (.nm 3)) (mRet (mIf (mTest (mOp dEq (mVar 2) (mC (.str "and")))) (mCB cAll (mCons (mVar 3) mNil)) (mCB cAny (mCons (mVar 3) mNil)))))))))
theorem ok_holds {holdsN : Nat} {P : Program} {w : World} {K : PySem.W.Frag} {mg : Str → Option Value} {base : Heap} {f : Addr} {fd : FuncData} {k : Nat} {s : MF} {f_holds : Addr} {fd_holds : FuncData} {k_holds : Nat} (F : FnP K "holds" st_holds f fd) (T : Txt w K mg) (D_holds : Df P w K mg base CX0 k_holds f_holds fd_holds "holds" ["test", "row"] (CM.sHolds holdsN)) (hk_holds : k_holds ≤ k) (S_holds_2 : Binds K fd_holds ["test", "row"] [])
    (len : ∀ ds M k kx, s ds M k kx → ds.length = 2) (hs : ∀ ds M k kx, s ds M k kx → b_holds holdsN { nx := fun _ M' => k .non M', rt := k } (startD 5 ds) M noX) : FnOk P w K mg base CX0 (k + 1) f fd ["test", "row"] (spI K s) :=
  d_ok0 F sc_holds (fun cdv A outer sh H E hr => (dss_cons (ds_set (i := 2) sc_holds.nd rfl (Or.inl rfl) (de_ix dx_seq (de_var 0) de_int (fun _ _ => rfl))) (dss_cons (ds_if (dt_cmp (do_eq hr.units) (de_var 2) de_str (nomark _)) (dss_one (ds_ret (de_cmp (do_eq hr.units) (de_dget2 (hu_of hr) (de_var 1) (de_ix dx_seq (de_var 0) de_int (fun _ _ => rfl)) de_non ⟨rfl, rfl, rfl, rfl⟩) (de_ix dx_seq (de_var 0) de_int (fun _ _ => rfl)) (nomark _)))) dss_nil) (dss_cons (ds_if (dt_cmp (do_eq hr.units) (de_var 2) de_str (nomark _)) (dss_one (ds_ret (de_dget2 (hu_of hr) (de_var 1) (de_ix dx_seq (de_var 0) de_int (fun _ _ => rfl)) de_bl ⟨rfl, rfl, rfl, rfl⟩))) dss_nil) (dss_cons (ds_if (dt_cmp (do_eq hr.units) (de_var 2) de_str (nomark _)) (dss_one (ds_ret (de_not (de_callD D_holds (hr.mono hk_holds) rfl S_holds_2 passN (da_cons (de_ix dx_seq (de_var 0) de_int (fun _ _ => rfl)) (da_cons (de_var 1) da_nil)))))) dss_nil) (dss_cons (ds_setLc (E' := E0) (i := 3) rfl sc_holds.nd rfl rfl (sw_true rfl rfl rfl (by decide +kernel)) (di_seq (de_slice ds_slice (de_var 0) (dp_some de_int) dp_none)) (blkOk_by (own := [("part", 4)]) (N := N_holds) (sc := defScope st_holds) (by decide +kernel)) (by decide +kernel) (fun _ _ _ _ _ => (dg_nm (i := 4) sc_holds.nd rfl)) (fun _ _ _ _ _ => dts_nil) (fun _ _ _ _ _ => (de_callD D_holds (hr.mono hk_holds) rfl S_holds_2 passN (da_cons (de_var 4) (da_cons (de_var 1) da_nil))))) (dss_one (ds_ret (de_if (dt_cmp (do_eq hr.units) (de_var 2) de_str (nomark _)) (de_callB (dc_all rfl) rfl T.b_all bb_all (da_cons (de_var 3) da_nil)) (de_callB (dc_any rfl) rfl T.b_any bb_any (da_cons (de_var 3) da_nil))))))))))) len hs
/-! _law_box -/
abbrev N__law_box : List Str := ["_law_script", "_law_mixed", "_law_cell"]
theorem sc__law_box : FnScope N__law_box ["_law_script"] (defScope st__law_box) := ⟨rfl, rfl, rfl, by decide +kernel, rfl, by decide +kernel, by decide +kernel⟩
theorem ok__law_box {P : Program} {w : World} {K : PySem.W.Frag} {mg : Str → Option Value} {base : Heap} {f : Addr} {fd : FuncData} {k : Nat} {s : MF}  (F : FnP K "_law_box" st__law_box f fd) (T : Txt w K mg) 
    (len : ∀ ds M k kx, s ds M k kx → ds.length = 1) (hs : ∀ ds M k kx, s ds M k kx → CM.b__law_box { nx := fun _ M' => k .non M', rt := k } (startD 3 ds) M noX) : FnOk P w K mg base CX0 (k + 1) f fd ["_law_script"] (spI K s) :=
  d_ok0 F sc__law_box (fun cdv A outer sh H E hr => (dss_cons (ds_set (i := 1) sc__law_box.nd rfl (Or.inl rfl) de_int) (dss_cons (ds_for PassesOwn.never rfl (di_seq (de_slice ds_slice (de_var 0) dp_none (dp_some de_int))) (dg_nm (i := 2) sc__law_box.nd rfl) (dss_one (ds_set (i := 1) sc__law_box.nd rfl (Or.inl rfl) (de_op do_mod (de_callTy dc_int rfl T.b_int bt_int (da_cons (de_op do_add (de_op do_add (de_op do_mul (de_var 1) de_int) (de_op do_mul (de_op do_mod (de_callTy dc_int rfl T.b_int bt_int (da_cons (de_var 2) da_nil)) de_int) de_int)) de_int) da_nil)) de_int)))) (dss_one (ds_ret (de_lstM (da_cons (de_callTy dc_list rfl T.b_list bt_list (da_cons (de_slice ds_slice (de_var 0) dp_none (dp_some de_int)) da_nil)) (da_cons de_int (da_cons de_int (da_cons (de_var 1) (da_cons de_int da_nil))))))))))) len hs
/-! _law_pull -/
abbrev N__law_pull : List Str := ["_law_box_here", "_law_many", "_law_cell", "_law_digit", "_law_twice"]
theorem sc__law_pull : FnScope N__law_pull ["_law_box_here", "_law_many"] (defScope st__law_pull) := ⟨rfl, rfl, rfl, by decide +kernel, rfl, by decide +kernel, by decide +kernel⟩
theorem ok__law_pull {P : Program} {w : World} {K : PySem.W.Frag} {mg : Str → Option Value} {base : Heap} {f : Addr} {fd : FuncData} {k : Nat} {s : MF}  (F : FnP K "_law_pull" st__law_pull f fd) (T : Txt w K mg) 
    (len : ∀ ds M k kx, s ds M k kx → ds.length = 2) (hs : ∀ ds M k kx, s ds M k kx → CM.b__law_pull { nx := fun _ M' => k .non M', rt := k } (startD 5 ds) M noX) : FnOk P w K mg base CX0 (k + 1) f fd ["_law_box_here", "_law_many"] (spI K s) :=
  d_ok0 F sc__law_pull (fun cdv A outer sh H E hr => (dss_cons (ds_setIx (de_op do_add (de_ix dx_seq (de_var 0) de_int (fun _ _ => rfl)) de_int) (de_var 0) de_int) (dss_cons (ds_if (PW.pt (dw_and (dt_cmp (do_eq hr.units) (de_ix dx_seq (de_var 0) de_int (fun _ _ => rfl)) de_int (nomark _)) (dw_and1 (dt_cmp do_lt (de_ix dx_seq (de_var 0) de_int (fun _ _ => rfl)) (de_callB dc_len rfl T.b_len bb_len (da_cons (de_ix dx_seq (de_var 0) de_int (fun _ _ => rfl)) da_nil)) (nomark _))))) (dss_cons (ds_set (i := 2) sc__law_pull.nd rfl (Or.inl rfl) (de_ix dx_seq (de_ix dx_seq (de_var 0) de_int (fun _ _ => rfl)) (de_ix dx_seq (de_var 0) de_int (fun _ _ => rfl)) (fun _ _ => rfl))) (dss_cons (ds_setIx (de_op do_add (de_ix dx_seq (de_var 0) de_int (fun _ _ => rfl)) de_int) (de_var 0) de_int) (dss_one (ds_if (dt_cmp do_ge (de_callB dc_abs rfl T.b_abs bb_abs (da_cons (de_var 2) da_nil)) (de_op do_pow de_int de_int) (nomark _)) (dss_one (ds_setIx (de_callB dc_abs rfl T.b_abs bb_abs (da_cons (de_var 2) da_nil)) (de_var 0) de_int)) (dss_one (ds_setIx (de_op do_mod (de_callTy dc_int rfl T.b_int bt_int (da_cons (de_op do_add (de_op do_add (de_op do_mul (de_ix dx_seq (de_var 0) de_int (fun _ _ => rfl)) de_int) (de_op do_mul (de_op do_mod (de_callTy dc_int rfl T.b_int bt_int (da_cons (de_var 2) da_nil)) de_int) de_int)) de_int) da_nil)) de_int) (de_var 0) de_int)))))) dss_nil) (dss_cons (ds_if (dt_cmp do_gt (de_ix dx_seq (de_var 0) de_int (fun _ _ => rfl)) de_int (nomark _)) (dss_cons (ds_set (i := 3) sc__law_pull.nd rfl (Or.inl rfl) (de_op do_mod (de_callTy dc_int rfl T.b_int bt_int (da_cons (de_ix dx_seq (de_var 0) de_int (fun _ _ => rfl)) da_nil)) (de_var 1))) (dss_cons (ds_setIx (de_op do_div (de_ix dx_seq (de_var 0) de_int (fun _ _ => rfl)) (de_var 1)) (de_var 0) de_int) (dss_one (ds_ret (de_var 3))))) dss_nil) (dss_cons (ds_set (i := 4) sc__law_pull.nd rfl (Or.inl rfl) (de_op do_mod (de_callTy dc_int rfl T.b_int bt_int (da_cons (de_op do_add (de_op do_mul (de_ix dx_seq (de_var 0) de_int (fun _ _ => rfl)) (de_ix dx_seq (de_var 0) de_int (fun _ _ => rfl))) (de_op do_mul (de_ix dx_seq (de_var 0) de_int (fun _ _ => rfl)) de_int)) da_nil)) de_int)) (dss_cons (ds_setIx (de_op do_mod (de_callTy dc_int rfl T.b_int bt_int (da_cons (de_op do_add (de_op do_add (de_op do_mul (de_var 4) de_int) (de_op do_mul (de_ix dx_seq (de_var 0) de_int (fun _ _ => rfl)) de_int)) de_int) da_nil)) de_int) (de_var 0) de_int) (dss_one (ds_ret (de_op do_mod (de_callTy dc_int rfl T.b_int bt_int (da_cons (de_op do_div (de_ix dx_seq (de_var 0) de_int (fun _ _ => rfl)) de_int) da_nil)) (de_var 1)))))))))) len hs
/-! _law_of -/
abbrev N__law_of : List Str := ["_law_box_here", "_law_some"]
theorem sc__law_of : FnScope N__law_of ["_law_box_here", "_law_some"] (defScope st__law_of) := ⟨rfl, rfl, rfl, by decide +kernel, rfl, by decide +kernel, by decide +kernel⟩
theorem ok__law_of {P : Program} {w : World} {K : PySem.W.Frag} {mg : Str → Option Value} {base : Heap} {f : Addr} {fd : FuncData} {k : Nat} {s : MF} {f__law_pull : Addr} {fd__law_pull : FuncData} {k__law_pull : Nat} (F : FnP K "_law_of" st__law_of f fd) (T : Txt w K mg) (D__law_pull : Df P w K mg base CX0 k__law_pull f__law_pull fd__law_pull "_law_pull" ["_law_box_here", "_law_many"] sPull) (hk__law_pull : k__law_pull ≤ k) (S__law_pull_2 : Binds K fd__law_pull ["_law_box_here", "_law_many"] [])
    (len : ∀ ds M k kx, s ds M k kx → ds.length = 2) (hs : ∀ ds M k kx, s ds M k kx → CM.b__law_of sPull { nx := fun _ M' => k .non M', rt := k } (startD 2 ds) M noX) : FnOk P w K mg base CX0 (k + 1) f fd ["_law_box_here", "_law_some"] (spI K s) :=
  d_ok0 F sc__law_of (fun cdv A outer sh H E hr => (dss_one (ds_ret (de_ix dx_seq (de_var 1) (de_callD D__law_pull (hr.mono hk__law_pull) rfl S__law_pull_2 passN (da_cons (de_var 0) (da_cons (de_callB dc_len rfl T.b_len bb_len (da_cons (de_var 1) da_nil)) da_nil))) (fun _ _ => rfl))))) len hs
/-! _law_names -/
abbrev N__law_names : List Str := ["_law_box_here", "_law_many", "_law_letters", "_law_stem", "_law_k", "_law_spot", "_law_first", "_law_found", "_law_word"]
theorem sc__law_names : FnScope N__law_names ["_law_box_here", "_law_many"] (defScope st__law_names) := ⟨rfl, rfl, rfl, by decide +kernel, rfl, by decide +kernel, by decide +kernel⟩
theorem ok__law_names {P : Program} {w : World} {K : PySem.W.Frag} {mg : Str → Option Value} {base : Heap} {f : Addr} {fd : FuncData} {k : Nat} {s : MF} {f__law_of : Addr} {fd__law_of : FuncData} {k__law_of : Nat} {f__law_pull : Addr} {fd__law_pull : FuncData} {k__law_pull : Nat} (F : FnP K "_law_names" st__law_names f fd) (T : Txt w K mg) (D__law_of : Df P w K mg base CX0 k__law_of f__law_of fd__law_of "_law_of" ["_law_box_here", "_law_some"] CM.sOf) (hk__law_of : k__law_of ≤ k) (D__law_pull : Df P w K mg base CX0 k__law_pull f__law_pull fd__law_pull "_law_pull" ["_law_box_here", "_law_many"] sPull) (hk__law_pull : k__law_pull ≤ k) (S__law_of_2 : Binds K fd__law_of ["_law_box_here", "_law_some"] []) (S__law_pull_2 : Binds K fd__law_pull ["_law_box_here", "_law_many"] [])
    (len : ∀ ds M k kx, s ds M k kx → ds.length = 2) (hs : ∀ ds M k kx, s ds M k kx → CM.b__law_names CM.sOf sPull { nx := fun _ M' => k .non M', rt := k } (startD 9 ds) M noX) : FnOk P w K mg base CX0 (k + 1) f fd ["_law_box_here", "_law_many"] (spI K s) :=
  d_ok0 F sc__law_names (fun cdv A outer sh H E hr => (dss_cons (ds_set (i := 2) sc__law_names.nd rfl (Or.inr rfl) de_str) (dss_cons (ds_set (i := 3) sc__law_names.nd rfl (Or.inr rfl) (de_join de_str (de_lc (E' := E0) rfl sc__law_names.nd (di_range1 rfl T.b_range (de_callD D__law_of (hr.mono hk__law_of) rfl S__law_of_2 passN (da_cons (de_var 0) (da_cons (de_lst (da_cons de_int (da_cons de_int (da_cons de_int (da_cons de_int da_nil))))) da_nil)))) (blkOk_by (own := [("_law_k", 4)]) (N := N__law_names) (sc := defScope st__law_names) (by decide +kernel)) (by decide +kernel) (fun _ _ _ _ _ => (dg_nm (i := 4) sc__law_names.nd rfl)) (fun _ _ _ _ _ => dts_nil) (fun _ _ _ _ _ => (de_callD D__law_of (hr.mono hk__law_of) rfl S__law_of_2 passN (da_cons (de_var 0) (da_cons (de_var 2) da_nil))))))) (dss_cons (ds_asg (de_tup (da_cons (de_callD D__law_pull (hr.mono hk__law_pull) rfl S__law_pull_2 passN (da_cons (de_var 0) (da_cons (de_op do_add (de_callB dc_len rfl T.b_len bb_len (da_cons (de_var 3) da_nil)) de_int) da_nil))) (da_cons (de_callD D__law_pull (hr.mono hk__law_pull) rfl S__law_pull_2 passN (da_cons (de_var 0) (da_cons de_int da_nil))) da_nil))) (dg_tp rfl rfl (dgs_cons (dg_nm (i := 5) sc__law_names.nd rfl) (dgs_cons (dg_nm (i := 6) sc__law_names.nd rfl) dgs_nil)))) (dss_cons (ds_setLc (E' := E0) (i := 7) rfl sc__law_names.nd rfl rfl (sw_true rfl rfl rfl (by decide +kernel)) (di_range1 rfl T.b_range (de_op do_add (de_var 1) de_int)) (blkOk_by (own := [("_law_k", 4)]) (N := N__law_names) (sc := defScope st__law_names) (by decide +kernel)) (by decide +kernel) (fun _ _ _ _ _ => (dg_nm (i := 4) sc__law_names.nd rfl)) (fun _ _ _ _ _ => dts_nil) (fun _ _ _ _ _ => (de_op do_add (de_op do_add (de_slice ds_slice (de_var 3) dp_none (dp_some (de_var 5))) (de_ix dx_seq (de_var 2) (de_op do_mod (de_callTy dc_int rfl T.b_int bt_int (da_cons (de_op do_add (de_var 6) (de_op do_mul de_int (de_var 4))) da_nil)) de_int) (fun _ _ => rfl))) (de_slice ds_slice (de_var 3) (dp_some (de_var 5)) dp_none)))) (dss_one (ds_ret (de_slice ds_slice (de_lc (E' := E0) rfl sc__law_names.nd (di_seq (de_var 7)) (blkOk_by (own := [("_law_word", 8)]) (N := N__law_names) (sc := defScope st__law_names) (by decide +kernel)) (by decide +kernel) (fun _ _ _ _ _ => (dg_nm (i := 8) sc__law_names.nd rfl)) (fun _ _ _ _ _ => (dts_one (dt_cmp do_notIn (de_var 8) (de_lst (da_cons de_str (da_cons de_str (da_cons de_str (da_cons de_str da_nil))))) (by rfl)))) (fun _ _ _ _ _ => (de_var 8))) dp_none (dp_some (de_var 1)))))))))) len hs
/-! _law_same -/
abbrev N__law_same : List Str := ["_law_found", "_law_due", "_law_a", "_law_b"]
theorem sc__law_same : FnScope N__law_same ["_law_found", "_law_due"] (defScope st__law_same) := ⟨rfl, rfl, rfl, by decide +kernel, rfl, by decide +kernel, by decide +kernel⟩
theorem ok__law_same {sameN : Nat} {P : Program} {w : World} {K : PySem.W.Frag} {mg : Str → Option Value} {base : Heap} {f : Addr} {fd : FuncData} {k : Nat} {s : MF} {f__law_same : Addr} {fd__law_same : FuncData} {k__law_same : Nat} (F : FnP K "_law_same" st__law_same f fd) (T : Txt w K mg) (D__law_same : Df P w K mg base CX0 k__law_same f__law_same fd__law_same "_law_same" ["_law_found", "_law_due"] (CM.sSame sameN)) (hk__law_same : k__law_same ≤ k) (S__law_same_2 : Binds K fd__law_same ["_law_found", "_law_due"] [])
    (len : ∀ ds M k kx, s ds M k kx → ds.length = 2) (hs : ∀ ds M k kx, s ds M k kx → CM.b__law_same (CM.sSame sameN) { nx := fun _ M' => k .non M', rt := k } (startD 4 ds) M noX) : FnOk P w K mg base CX0 (k + 1) f fd ["_law_found", "_law_due"] (spI K s) :=
  d_ok0 F sc__law_same (fun cdv A outer sh H E hr => (dss_cons (ds_if (PW.pt (dw_or (dt_cmp do_is (de_var 1) de_non (nomark _)) (dw_or1 (dt_cmp do_is (de_var 0) de_non (nomark _))))) (dss_one (ds_ret (de_and (de_cmp do_is (de_var 1) de_non (nomark _)) (de_one (de_cmp do_is (de_var 0) de_non (nomark _)))))) dss_nil) (dss_cons (ds_if (dt_val (de_isi2 rfl T.b_isinstance (de_var 1) rfl T.b_list bt_list (by decide) rfl T.b_tuple bt_tuple (by decide))) (dss_cons (ds_if (PW.pt (dw_or (dt_cmp (do_ne hr.units) (de_isi rfl T.b_isinstance (de_var 0) rfl T.b_list bt_list (by decide)) (de_isi rfl T.b_isinstance (de_var 1) rfl T.b_list bt_list (by decide)) (nomark _)) (dw_or1 (dt_cmp (do_ne hr.units) (de_isi rfl T.b_isinstance (de_var 0) rfl T.b_tuple bt_tuple (by decide)) (de_isi rfl T.b_isinstance (de_var 1) rfl T.b_tuple bt_tuple (by decide)) (nomark _))))) (dss_one (ds_ret de_bl)) dss_nil) (dss_one (ds_ret (de_and (de_cmp (do_eq hr.units) (de_callB dc_len rfl T.b_len bb_len (da_cons (de_var 0) da_nil)) (de_callB dc_len rfl T.b_len bb_len (da_cons (de_var 1) da_nil)) (nomark _)) (de_one (de_callB (dc_all rfl) rfl T.b_all bb_all (da_cons (de_lc (E' := E0) rfl sc__law_same.nd (di_zip rfl T.b_zip (de_var 0) (de_var 1)) (blkOk_by (own := [("_law_a", 2), ("_law_b", 3)]) (N := N__law_same) (sc := defScope st__law_same) (by decide +kernel)) (by decide +kernel) (fun _ _ _ _ _ => (dg_tp rfl rfl (dgs_cons (dg_nm (i := 2) sc__law_same.nd rfl) (dgs_cons (dg_nm (i := 3) sc__law_same.nd rfl) dgs_nil)))) (fun _ _ _ _ _ => dts_nil) (fun _ _ _ _ _ => (de_callD D__law_same (hr.mono hk__law_same) rfl S__law_same_2 passN (da_cons (de_var 2) (da_cons (de_var 3) da_nil))))) da_nil))))))) dss_nil) (dss_cons (ds_if (PW.pt (dw_or (dt_val (de_isi rfl T.b_isinstance (de_var 1) rfl T.b_bool bt_bool (by decide))) (dw_or1 (dt_val (de_isi rfl T.b_isinstance (de_var 0) rfl T.b_bool bt_bool (by decide)))))) (dss_one (ds_ret (de_and (de_isi rfl T.b_isinstance (de_var 1) rfl T.b_bool bt_bool (by decide)) (de_and (de_isi rfl T.b_isinstance (de_var 0) rfl T.b_bool bt_bool (by decide)) (de_one (de_cmp (do_eq hr.units) (de_var 0) (de_var 1) (nomark _))))))) dss_nil) (dss_cons (ds_if (dt_val (de_isi rfl T.b_isinstance (de_var 1) rfl T.b_int bt_int (by decide))) (dss_one (ds_ret (de_and (de_isi rfl T.b_isinstance (de_var 0) rfl T.b_int bt_int (by decide)) (de_one (de_cmp (do_eq hr.units) (de_var 0) (de_var 1) (nomark _)))))) dss_nil) (dss_one (ds_ret (de_and (de_isi rfl T.b_isinstance (de_var 0) rfl T.b_str bt_str (by decide)) (de_and (de_isi rfl T.b_isinstance (de_var 1) rfl T.b_str bt_str (by decide)) (de_one (de_cmp (do_eq hr.units) (de_var 0) (de_var 1) (nomark _)))))))))))) len hs
/-! _law_free_test -/
abbrev N__law_free_test : List Str := ["_law_box_here", "_law_words", "_law_deep", "_law_column", "_law_way", "_law_part", "_law_other"]
theorem sc__law_free_test : FnScope N__law_free_test ["_law_box_here", "_law_words", "_law_deep"] (defScope st__law_free_test) := ⟨rfl, rfl, rfl, by decide +kernel, rfl, by decide +kernel, by decide +kernel⟩
theorem ok__law_free_test {growN : Nat} {P : Program} {w : World} {K : PySem.W.Frag} {mg : Str → Option Value} {base : Heap} {f : Addr} {fd : FuncData} {k : Nat} {s : MF} {f__law_of : Addr} {fd__law_of : FuncData} {k__law_of : Nat} {f__law_pull : Addr} {fd__law_pull : FuncData} {k__law_pull : Nat} {f__law_free_test : Addr} {fd__law_free_test : FuncData} {k__law_free_test : Nat} (F : FnP K "_law_free_test" st__law_free_test f fd) (T : Txt w K mg) (D__law_of : Df P w K mg base CX0 k__law_of f__law_of fd__law_of "_law_of" ["_law_box_here", "_law_some"] CM.sOf) (hk__law_of : k__law_of ≤ k) (D__law_pull : Df P w K mg base CX0 k__law_pull f__law_pull fd__law_pull "_law_pull" ["_law_box_here", "_law_many"] sPull) (hk__law_pull : k__law_pull ≤ k) (D__law_free_test : Df P w K mg base CX0 k__law_free_test f__law_free_test fd__law_free_test "_law_free_test" ["_law_box_here", "_law_words", "_law_deep"] (CM.sGrow growN)) (hk__law_free_test : k__law_free_test ≤ k) (S__law_of_2 : Binds K fd__law_of ["_law_box_here", "_law_some"] []) (S__law_pull_2 : Binds K fd__law_pull ["_law_box_here", "_law_many"] []) (S__law_free_test_3 : Binds K fd__law_free_test ["_law_box_here", "_law_words", "_law_deep"] [])
    (len : ∀ ds M k kx, s ds M k kx → ds.length = 3) (hs : ∀ ds M k kx, s ds M k kx → CM.b__law_free_test (CM.sGrow growN) { nx := fun _ M' => k .non M', rt := k } (startD 7 ds) M noX) : FnOk P w K mg base CX0 (k + 1) f fd ["_law_box_here", "_law_words", "_law_deep"] (spI K s) :=
  d_ok0 F sc__law_free_test (fun cdv A outer sh H E hr => (dss_cons (ds_if (dt_cmp (do_eq hr.units) (de_var 2) de_int (nomark _)) (dss_cons (ds_set (i := 3) sc__law_free_test.nd rfl (Or.inl rfl) (de_callD D__law_of (hr.mono hk__law_of) rfl S__law_of_2 passN (da_cons (de_var 0) (da_cons (de_lst (da_cons (de_ix dx_seq (de_var 1) de_int (fun _ _ => rfl)) (da_cons (de_ix dx_seq (de_var 1) de_int (fun _ _ => rfl)) (da_cons (de_op do_add (de_op do_add (de_ix dx_seq (de_var 1) de_int (fun _ _ => rfl)) de_str) (de_ix dx_seq (de_var 1) de_int (fun _ _ => rfl))) da_nil)))) da_nil)))) (dss_one (ds_ret (de_if (dt_cmp do_gt (de_callD D__law_pull (hr.mono hk__law_pull) rfl S__law_pull_2 passN (da_cons (de_var 0) (da_cons de_int da_nil))) de_int (nomark _)) (de_tup (da_cons de_str (da_cons (de_var 3) (da_cons (de_ix dx_seq (de_var 1) de_int (fun _ _ => rfl)) da_nil)))) (de_tup (da_cons de_str (da_cons (de_ix dx_seq (de_var 1) de_int (fun _ _ => rfl)) da_nil))))))) dss_nil) (dss_cons (ds_par (i := 4) (j := 5) rfl sc__law_free_test.nd rfl rfl (by decide) rfl rfl (da_cons (de_callD D__law_pull (hr.mono hk__law_pull) rfl S__law_pull_2 passN (da_cons (de_var 0) (da_cons de_int da_nil))) (da_cons (de_callD D__law_free_test (hr.mono hk__law_free_test) rfl S__law_free_test_3 passN (da_cons (de_var 0) (da_cons (de_var 1) (da_cons (de_op do_sub (de_var 2) de_int) da_nil)))) da_nil)) (ps_par rfl sc__law_free_test.nd rfl rfl (by decide) rfl rfl (da_cons (de_callD D__law_pull (hr.mono hk__law_pull) rfl S__law_pull_2 passN (da_cons (de_var 0) (da_cons de_int da_nil))) (da_cons (de_callD D__law_free_test (hr.mono hk__law_free_test) rfl S__law_free_test_3 passN (da_cons (de_var 0) (da_cons (de_var 1) (da_cons (de_op do_sub (de_var 2) de_int) da_nil)))) da_nil)) rfl)) (dss_cons (ds_if (dt_cmp (do_eq hr.units) (de_var 4) de_int (nomark _)) (dss_one (ds_ret (de_tup (da_cons de_str (da_cons (de_var 5) da_nil))))) dss_nil) (dss_cons (ds_set (i := 6) sc__law_free_test.nd rfl (Or.inl rfl) (de_callD D__law_free_test (hr.mono hk__law_free_test) rfl S__law_free_test_3 passN (da_cons (de_var 0) (da_cons (de_var 1) (da_cons (de_op do_add de_int (de_callD D__law_pull (hr.mono hk__law_pull) rfl S__law_pull_2 passN (da_cons (de_var 0) (da_cons (de_callB (dc_min rfl) rfl T.b_min bb_min (da_cons (de_op do_sub (de_var 2) de_int) (da_cons de_int da_nil))) da_nil)))) da_nil))))) (dss_one (ds_ret (de_if (dt_cmp (do_eq hr.units) (de_callD D__law_pull (hr.mono hk__law_pull) rfl S__law_pull_2 passN (da_cons (de_var 0) (da_cons de_int da_nil))) de_int (nomark _)) (de_tup (da_cons (de_ix dx_seq (de_lst (da_cons de_str (da_cons de_str da_nil))) (de_op do_sub (de_var 4) de_int) (fun _ _ => rfl)) (da_cons (de_var 5) (da_cons (de_var 6) da_nil)))) (de_tup (da_cons (de_ix dx_seq (de_lst (da_cons de_str (da_cons de_str da_nil))) (de_op do_sub (de_var 4) de_int) (fun _ _ => rfl)) (da_cons (de_var 6) (da_cons (de_var 5) da_nil)))))))))))) len hs
/-! _law_truth -/
abbrev N__law_truth : List Str := ["_law_item", "_law_had", "_law_both", "_law_part"]
theorem sc__law_truth : FnScope N__law_truth ["_law_item", "_law_had"] (defScope st__law_truth) := ⟨rfl, rfl, rfl, by decide +kernel, rfl, by decide +kernel, by decide +kernel⟩
def b__law_truth (truthN : Nat) : MS := (mSeq (mIfS (mTest (mOp dEq (mOp dIx (mVar 0) (mC (.int 0))) (mC (.str "is")))) (mRet (mAndV (mOp (dDInB false) (mOp dIx (mVar 0) (mC (.int 1))) (mVar 1)) (mOp dEq (mOp dDIx (mVar 1) (mOp dIx (mVar 0) (mC (.int 1)))) (mOp dIx (mVar 0) (mC (.int 2)))))) mNext) (mSeq (mIfS (mTest (mOp dEq (mOp dIx (mVar 0) (mC (.int 0))) (mC (.str "has")))) (mRet (mAndV (mOp (dDInB false) (mOp dIx (mVar 0) (mC (.int 1))) (mVar 1)) (mOp dDIx (mVar 1) (mOp dIx (mVar 0) (mC (.int 1)))))) mNext) (mSeq (mIfS (mTest (mOp dEq (mOp dIx (mVar 0) (mC (.int 0))) (mC (.str "not")))) (mRet (mNotV (mCall (CM.sTruth truthN) (mCons (mOp dIx (mVar 0) (mC (.int 1))) (mCons (mVar 1) mNil))))) mNext) (mSeq (mAsg (mLc (.nm 3) (mSeqI (mSl dSlice (mVar 0) (mPart (mC (.int 1))) mNoPart)) mYes (mCall (CM.sTruth truthN) (mCons (mVar 3) (mCons (mVar 1) mNil))) [3]) (.nm 2)) (mRet (mIf (mTest (mOp dEq (mOp dIx (mVar 0) (mC (.int 0))) (mC (.str "and")))) (mAndV (mOp dIx (mVar 2) (mC (.int 0))) (mOp dIx (mVar 2) (mC (.int 1)))) (mOrV (mOp dIx (mVar 2) (mC (.int 0))) (mOp dIx (mVar 2) (mC (.int 1))))))))))
theorem ok__law_truth {truthN : Nat} {P : Program} {w : World} {K : PySem.W.Frag} {mg : Str → Option Value} {base : Heap} {f : Addr} {fd : FuncData} {k : Nat} {s : MF} {f__law_truth : Addr} {fd__law_truth : FuncData} {k__law_truth : Nat} (F : FnP K "_law_truth" st__law_truth f fd) (T : Txt w K mg) (D__law_truth : Df P w K mg base CX0 k__law_truth f__law_truth fd__law_truth "_law_truth" ["_law_item", "_law_had"] (CM.sTruth truthN)) (hk__law_truth : k__law_truth ≤ k) (S__law_truth_2 : Binds K fd__law_truth ["_law_item", "_law_had"] [])
    (len : ∀ ds M k kx, s ds M k kx → ds.length = 2) (hs : ∀ ds M k kx, s ds M k kx → b__law_truth truthN { nx := fun _ M' => k .non M', rt := k } (startD 4 ds) M noX) : FnOk P w K mg base CX0 (k + 1) f fd ["_law_item", "_law_had"] (spI K s) :=
  d_ok0 F sc__law_truth (fun cdv A outer sh H E hr => (dss_cons (ds_if (dt_cmp (do_eq hr.units) (de_ix dx_seq (de_var 0) de_int (fun _ _ => rfl)) de_str (nomark _)) (dss_one (ds_ret (de_and (de_din (hu_of hr) (de_ix dx_seq (de_var 0) de_int (fun _ _ => rfl)) (de_var 1)) (de_one (de_cmp (do_eq hr.units) (de_dix (hu_of hr) (de_var 1) (de_ix dx_seq (de_var 0) de_int (fun _ _ => rfl)) (fun _ _ => rfl)) (de_ix dx_seq (de_var 0) de_int (fun _ _ => rfl)) (nomark _)))))) dss_nil) (dss_cons (ds_if (dt_cmp (do_eq hr.units) (de_ix dx_seq (de_var 0) de_int (fun _ _ => rfl)) de_str (nomark _)) (dss_one (ds_ret (de_and (de_din (hu_of hr) (de_ix dx_seq (de_var 0) de_int (fun _ _ => rfl)) (de_var 1)) (de_one (de_dix (hu_of hr) (de_var 1) (de_ix dx_seq (de_var 0) de_int (fun _ _ => rfl)) (fun _ _ => rfl)))))) dss_nil) (dss_cons (ds_if (dt_cmp (do_eq hr.units) (de_ix dx_seq (de_var 0) de_int (fun _ _ => rfl)) de_str (nomark _)) (dss_one (ds_ret (de_not (de_callD D__law_truth (hr.mono hk__law_truth) rfl S__law_truth_2 passN (da_cons (de_ix dx_seq (de_var 0) de_int (fun _ _ => rfl)) (da_cons (de_var 1) da_nil)))))) dss_nil) (dss_cons (ds_setLc (E' := E0) (i := 2) rfl sc__law_truth.nd rfl rfl (sw_true rfl rfl rfl (by decide +kernel)) (di_seq (de_slice ds_slice (de_var 0) (dp_some de_int) dp_none)) (blkOk_by (own := [("_law_part", 3)]) (N := N__law_truth) (sc := defScope st__law_truth) (by decide +kernel)) (by decide +kernel) (fun _ _ _ _ _ => (dg_nm (i := 3) sc__law_truth.nd rfl)) (fun _ _ _ _ _ => dts_nil) (fun _ _ _ _ _ => (de_callD D__law_truth (hr.mono hk__law_truth) rfl S__law_truth_2 passN (da_cons (de_var 3) (da_cons (de_var 1) da_nil))))) (dss_one (ds_ret (de_if (dt_cmp (do_eq hr.units) (de_ix dx_seq (de_var 0) de_int (fun _ _ => rfl)) de_str (nomark _)) (de_and (de_ix dx_seq (de_var 2) de_int (fun _ _ => rfl)) (de_one (de_ix dx_seq (de_var 2) de_int (fun _ _ => rfl)))) (de_or (de_ix dx_seq (de_var 2) de_int (fun _ _ => rfl)) (de_one (de_ix dx_seq (de_var 2) de_int (fun _ _ => rfl)))))))))))) len hs
/-! law -/
abbrev N_law : List Str := ["_law_script", "_law_box_here", "_law_turn", "_law_words", "_law_ask", "_law_known", "_law_column", "_law_kept"]
theorem sc_law : FnScope N_law ["_law_script"] (defScope st_law) := ⟨rfl, rfl, rfl, by decide +kernel, rfl, by decide +kernel, by decide +kernel⟩
def b_law_1 : MS := (mAsg (mCall CM.sNames (mCons (mVar 1) (mCons (mC (.int 5)) mNil))) (.nm 3))  -- line 75
def b_law_2 : MS := (mAsg (mCall (CM.sGrow 5) (mCons (mVar 1) (mCons (mVar 3) (mCons (mOp dAdd (mC (.int 1)) (mCall sPull (mCons (mVar 1) (mCons (mC (.int 5)) mNil)))) mNil)))) (.nm 4))  -- line 76
def b_law_3 : MS := (mAsg mDNew (.nm 5))  -- line 77
def b_law_4 : MS := (mFor (.nm 6) (mSeqI (mLst (mCons (mOp dIx (mVar 3) (mC (.int 0))) (mCons (mOp dIx (mVar 3) (mC (.int 1))) (mCons (mOp dAdd (mOp dAdd (mOp dIx (mVar 3) (mC (.int 2))) (mC (.str "."))) (mOp dIx (mVar 3) (mC (.int 0)))) mNil))))) (mIfS (mTest (mOp dGt (mCall sPull (mCons (mVar 1) (mCons (mC (.int 4)) mNil))) (mC (.int 0)))) (mDPut (mCall CM.sOf (mCons (mVar 1) (mCons (mLst (mCons (mOp dIx (mVar 3) (mC (.int 3))) (mCons (mOp dIx (mVar 3) (mC (.int 3))) (mCons (mOp dIx (mVar 3) (mC (.int 0))) (mCons (mC .non) mNil))))) mNil))) (mVar 5) (mVar 6)) mNext))  -- line 78
def b_law_5 : MS := (mIfS (mTest (mOp dGt (mCall sPull (mCons (mVar 1) (mCons (mC (.int 3)) mNil))) (mC (.int 0)))) (mDPut (mOp dEq (mCall sPull (mCons (mVar 1) (mCons (mC (.int 2)) mNil))) (mC (.int 0))) (mVar 5) (mOp dIx (mVar 3) (mC (.int 4)))) mNext)  -- line 81
def b_law_6 : MS := (mAsg (mCB cDictD (mCons (mVar 5) mNil)) (.nm 7))  -- line 83
def b_law_7 : MS := (mIfS (mOr (mNot (mTest (mCall (CM.sSame 4) (mCons (mLst (mCons (mCall (CM.sHolds 6) (mCons (mVar 4) (mCons (mVar 5) mNil))) (mCons (mCallN 0 2 (CM.sHolds 6) (pick [(false, 1), (false, 0)]) mNil (mCons (mVar 5) (mCons (mTup (mCons (mC (.str "not")) (mCons (mVar 4) mNil))) mNil))) mNil))) (mCons (mLst (mCons (mCall (CM.sTruth 6) (mCons (mVar 4) (mCons (mVar 7) mNil))) (mCons (mNotV (mCall (CM.sTruth 6) (mCons (mVar 4) (mCons (mVar 7) mNil)))) mNil))) mNil))))) (mTest (mOp (dSameD true) (mVar 5) (mVar 7)))) (mRet (mC (.bl false))) mNext)  -- line 84
def b_law_8 : MS := (mAsg (mCall sBox (mCons (mVar 0) mNil)) (.nm 1))  -- line 73
def b_law_9 : MS := (mFor (.nm 2) (mRange1 (mC (.int 8))) (mSeq b_law_1 (mSeq b_law_2 (mSeq b_law_3 (mSeq b_law_4 (mSeq b_law_5 (mSeq b_law_6 b_law_7)))))))  -- line 74
def b_law_10 : MS := (mRet (mC (.bl true)))  -- line 86
def b_law : MS := (mSeq b_law_8 (mSeq b_law_9 b_law_10))
theorem ok_law {P : Program} {w : World} {K : PySem.W.Frag} {mg : Str → Option Value} {base : Heap} {f : Addr} {fd : FuncData} {k : Nat} {s : MF} {f__law_box : Addr} {fd__law_box : FuncData} {k__law_box : Nat} {f__law_names : Addr} {fd__law_names : FuncData} {k__law_names : Nat} {f__law_free_test : Addr} {fd__law_free_test : FuncData} {k__law_free_test : Nat} {f__law_pull : Addr} {fd__law_pull : FuncData} {k__law_pull : Nat} {f__law_of : Addr} {fd__law_of : FuncData} {k__law_of : Nat} {f__law_same : Addr} {fd__law_same : FuncData} {k__law_same : Nat} {f__law_truth : Addr} {fd__law_truth : FuncData} {k__law_truth : Nat} {f_holds : Addr} {fd_holds : FuncData} {k_holds : Nat} (F : FnP K "law" st_law f fd) (T : Txt w K mg) (D__law_box : Df P w K mg base CX0 k__law_box f__law_box fd__law_box "_law_box" ["_law_script"] sBox) (hk__law_box : k__law_box ≤ k) (D__law_names : Df P w K mg base CX0 k__law_names f__law_names fd__law_names "_law_names" ["_law_box_here", "_law_many"] CM.sNames) (hk__law_names : k__law_names ≤ k) (D__law_free_test : Df P w K mg base CX0 k__law_free_test f__law_free_test fd__law_free_test "_law_free_test" ["_law_box_here", "_law_words", "_law_deep"] (CM.sGrow 5)) (hk__law_free_test : k__law_free_test ≤ k) (D__law_pull : Df P w K mg base CX0 k__law_pull f__law_pull fd__law_pull "_law_pull" ["_law_box_here", "_law_many"] sPull) (hk__law_pull : k__law_pull ≤ k) (D__law_of : Df P w K mg base CX0 k__law_of f__law_of fd__law_of "_law_of" ["_law_box_here", "_law_some"] CM.sOf) (hk__law_of : k__law_of ≤ k) (D__law_same : Df P w K mg base CX0 k__law_same f__law_same fd__law_same "_law_same" ["_law_found", "_law_due"] (CM.sSame 4)) (hk__law_same : k__law_same ≤ k) (D__law_truth : Df P w K mg base CX0 k__law_truth f__law_truth fd__law_truth "_law_truth" ["_law_item", "_law_had"] (CM.sTruth 6)) (hk__law_truth : k__law_truth ≤ k) (D_holds : Df P w K mg base CX0 k_holds f_holds fd_holds "holds" ["test", "row"] (CM.sHolds 6)) (hk_holds : k_holds ≤ k) (S__law_box_1 : Binds K fd__law_box ["_law_script"] []) (S__law_names_2 : Binds K fd__law_names ["_law_box_here", "_law_many"] []) (S__law_pull_2 : Binds K fd__law_pull ["_law_box_here", "_law_many"] []) (S__law_free_test_3 : Binds K fd__law_free_test ["_law_box_here", "_law_words", "_law_deep"] []) (S__law_of_2 : Binds K fd__law_of ["_law_box_here", "_law_some"] []) (S__law_truth_2 : Binds K fd__law_truth ["_law_item", "_law_had"] []) (S_holds_0_row_test : Shape K fd_holds ["test", "row"] 0 ["row", "test"] (pick [(false, 1), (false, 0)])) (S_holds_2 : Binds K fd_holds ["test", "row"] []) (S__law_same_2 : Binds K fd__law_same ["_law_found", "_law_due"] [])
    (len : ∀ ds M k kx, s ds M k kx → ds.length = 1) (hs : ∀ ds M k kx, s ds M k kx → b_law { nx := fun _ M' => k .non M', rt := k } (startD 8 ds) M noX) : FnOk P w K mg base CX0 (k + 1) f fd ["_law_script"] (spI K s) :=
  d_ok0 F sc_law (fun cdv A outer sh H E hr => (dss_cons (ds_set (i := 1) sc_law.nd rfl (Or.inl rfl) (de_callD D__law_box (hr.mono hk__law_box) rfl S__law_box_1 passN (da_cons (de_var 0) da_nil))) (dss_cons (ds_for PassesOwn.never rfl (di_range1 rfl T.b_range de_int) (dg_nm (i := 2) sc_law.nd rfl) (dss_cons (ds_set (i := 3) sc_law.nd rfl (Or.inl rfl) (de_callD D__law_names (hr.mono hk__law_names) rfl S__law_names_2 passN (da_cons (de_var 1) (da_cons de_int da_nil)))) (dss_cons (ds_set (i := 4) sc_law.nd rfl (Or.inl rfl) (de_callD D__law_free_test (hr.mono hk__law_free_test) rfl S__law_free_test_3 passN (da_cons (de_var 1) (da_cons (de_var 3) (da_cons (de_op do_add de_int (de_callD D__law_pull (hr.mono hk__law_pull) rfl S__law_pull_2 passN (da_cons (de_var 1) (da_cons de_int da_nil)))) da_nil))))) (dss_cons (ds_set (i := 5) sc_law.nd rfl (Or.inl rfl) de_dnew) (dss_cons (ds_for PassesOwn.never rfl (di_seq (de_lst (da_cons (de_ix dx_seq (de_var 3) de_int (fun _ _ => rfl)) (da_cons (de_ix dx_seq (de_var 3) de_int (fun _ _ => rfl)) (da_cons (de_op do_add (de_op do_add (de_ix dx_seq (de_var 3) de_int (fun _ _ => rfl)) de_str) (de_ix dx_seq (de_var 3) de_int (fun _ _ => rfl))) da_nil))))) (dg_nm (i := 6) sc_law.nd rfl) (dss_one (ds_if (dt_cmp do_gt (de_callD D__law_pull (hr.mono hk__law_pull) rfl S__law_pull_2 passN (da_cons (de_var 1) (da_cons de_int da_nil))) de_int (nomark _)) (dss_one (ds_dput (hu_of hr) (de_callD D__law_of (hr.mono hk__law_of) rfl S__law_of_2 passN (da_cons (de_var 1) (da_cons (de_lst (da_cons (de_ix dx_seq (de_var 3) de_int (fun _ _ => rfl)) (da_cons (de_ix dx_seq (de_var 3) de_int (fun _ _ => rfl)) (da_cons (de_ix dx_seq (de_var 3) de_int (fun _ _ => rfl)) (da_cons de_non da_nil))))) da_nil))) (de_var 5) (de_var 6))) dss_nil))) (dss_cons (ds_if (dt_cmp do_gt (de_callD D__law_pull (hr.mono hk__law_pull) rfl S__law_pull_2 passN (da_cons (de_var 1) (da_cons de_int da_nil))) de_int (nomark _)) (dss_one (ds_dput (hu_of hr) (de_cmp (do_eq hr.units) (de_callD D__law_pull (hr.mono hk__law_pull) rfl S__law_pull_2 passN (da_cons (de_var 1) (da_cons de_int da_nil))) de_int (nomark _)) (de_var 5) (de_ix dx_seq (de_var 3) de_int (fun _ _ => rfl)))) dss_nil) (dss_cons (ds_set (i := 7) sc_law.nd rfl (Or.inl rfl) (de_callTy dc_dictD rfl T.b_dict bt_dict (da_cons (de_var 5) da_nil))) (dss_one (ds_if (PW.pt (dw_or (dt_not (dt_val (de_callD D__law_same (hr.mono hk__law_same) rfl S__law_same_2 passN (da_cons (de_lst (da_cons (de_callD D_holds (hr.mono hk_holds) rfl S_holds_2 passN (da_cons (de_var 4) (da_cons (de_var 5) da_nil))) (da_cons (de_callN0 D_holds (hr.mono hk_holds) rfl S_holds_0_row_test passN (dk_cons (de_var 5) (dk_cons (de_tup (da_cons de_str (da_cons (de_var 4) da_nil))) dk_nil))) da_nil))) (da_cons (de_lst (da_cons (de_callD D__law_truth (hr.mono hk__law_truth) rfl S__law_truth_2 passN (da_cons (de_var 4) (da_cons (de_var 7) da_nil))) (da_cons (de_not (de_callD D__law_truth (hr.mono hk__law_truth) rfl S__law_truth_2 passN (da_cons (de_var 4) (da_cons (de_var 7) da_nil)))) da_nil))) da_nil))))) (dw_or1 (dt_cmp (do_neD (Nat.lt_of_succ_lt (hu_of hr))) (de_var 5) (de_var 7) (nomark _))))) (dss_one (ds_ret de_bl)) dss_nil))))))))) (dss_one (ds_ret de_bl))))) len hs
def dd_holds : He.DefD := ⟨("holds", none), "holds", "holds", defArgs st_holds, defBody st_holds, defScope st_holds, [], []⟩
def dd__law_box : He.DefD := ⟨("_law_box", none), "_law_box", "_law_box", defArgs st__law_box, defBody st__law_box, defScope st__law_box, [], []⟩
def dd__law_pull : He.DefD := ⟨("_law_pull", none), "_law_pull", "_law_pull", defArgs st__law_pull, defBody st__law_pull, defScope st__law_pull, [], []⟩
def dd__law_of : He.DefD := ⟨("_law_of", none), "_law_of", "_law_of", defArgs st__law_of, defBody st__law_of, defScope st__law_of, [], []⟩
def dd__law_names : He.DefD := ⟨("_law_names", none), "_law_names", "_law_names", defArgs st__law_names, defBody st__law_names, defScope st__law_names, [], []⟩
def dd__law_same : He.DefD := ⟨("_law_same", none), "_law_same", "_law_same", defArgs st__law_same, defBody st__law_same, defScope st__law_same, [], []⟩
def dd__law_free_test : He.DefD := ⟨("_law_free_test", none), "_law_free_test", "_law_free_test", defArgs st__law_free_test, defBody st__law_free_test, defScope st__law_free_test, [], []⟩
def dd__law_truth : He.DefD := ⟨("_law_truth", none), "_law_truth", "_law_truth", defArgs st__law_truth, defBody st__law_truth, defScope st__law_truth, [], []⟩
def dd_law : He.DefD := ⟨("law", none), "law", "law", defArgs st_law, defBody st_law, defScope st_law, [], []⟩
def hfn : List He.DefD := [dd_holds, dd__law_box, dd__law_pull, dd__law_of, dd__law_names, dd__law_same, dd__law_free_test, dd__law_truth, dd_law]
def hfa : List He.Fa := [.glo "holds", .glo "_law_box", .glo "_law_pull", .glo "_law_of", .glo "_law_names", .glo "_law_same", .glo "_law_free_test", .glo "_law_truth", .glo "law", .free "abs", .free "all", .free "any", .free "bool", .free "dict", .free "int", .free "isinstance", .free "len", .free "list", .free "min", .free "range", .free "str", .free "tuple", .free "zip"]
def hex (K : PySem.W.Frag) : Bool := true
abbrev hR : PySem.W.OpenRow := PySem.W.OpenLaw.row PySem.Challenge.rw_bothlots_k04_tests_hold
def hts : List He.Tab := []
abbrev hk : PySem.W.Hook := He.hookX 4 hfa hfn hts [] hex
section
variable {w : World} {K : PySem.W.Frag} {h : Heap} {mg : Str → Option Value} (X : K.In h) (G : h.Ns mainGlobals mg) (c : He.SaysX hfa hfn hts [] hex w h K)
include X G c
theorem txt : Txt w K mg := ⟨He.free_ok X G (c.t.d.fact 9 (f := .free "abs") rfl), He.free_ok X G (c.t.d.fact 10 (f := .free "all") rfl), He.free_ok X G (c.t.d.fact 11 (f := .free "any") rfl), He.free_ok X G (c.t.d.fact 12 (f := .free "bool") rfl), He.free_ok X G (c.t.d.fact 13 (f := .free "dict") rfl), He.free_ok X G (c.t.d.fact 14 (f := .free "int") rfl), He.free_ok X G (c.t.d.fact 15 (f := .free "isinstance") rfl), He.free_ok X G (c.t.d.fact 16 (f := .free "len") rfl), He.free_ok X G (c.t.d.fact 17 (f := .free "list") rfl), He.free_ok X G (c.t.d.fact 18 (f := .free "min") rfl), He.free_ok X G (c.t.d.fact 19 (f := .free "range") rfl), He.free_ok X G (c.t.d.fact 20 (f := .free "str") rfl), He.free_ok X G (c.t.d.fact 21 (f := .free "tuple") rfl), He.free_ok X G (c.t.d.fact 22 (f := .free "zip") rfl)⟩
theorem g_holds : mg "holds" = some (.ref (He.fAd K ("holds", none))) := He.glo_ok X G (c.t.d.fact 0 (f := .glo "holds") rfl)
theorem g__law_box : mg "_law_box" = some (.ref (He.fAd K ("_law_box", none))) := He.glo_ok X G (c.t.d.fact 1 (f := .glo "_law_box") rfl)
theorem g__law_pull : mg "_law_pull" = some (.ref (He.fAd K ("_law_pull", none))) := He.glo_ok X G (c.t.d.fact 2 (f := .glo "_law_pull") rfl)
theorem g__law_of : mg "_law_of" = some (.ref (He.fAd K ("_law_of", none))) := He.glo_ok X G (c.t.d.fact 3 (f := .glo "_law_of") rfl)
theorem g__law_names : mg "_law_names" = some (.ref (He.fAd K ("_law_names", none))) := He.glo_ok X G (c.t.d.fact 4 (f := .glo "_law_names") rfl)
theorem g__law_same : mg "_law_same" = some (.ref (He.fAd K ("_law_same", none))) := He.glo_ok X G (c.t.d.fact 5 (f := .glo "_law_same") rfl)
theorem g__law_free_test : mg "_law_free_test" = some (.ref (He.fAd K ("_law_free_test", none))) := He.glo_ok X G (c.t.d.fact 6 (f := .glo "_law_free_test") rfl)
theorem g__law_truth : mg "_law_truth" = some (.ref (He.fAd K ("_law_truth", none))) := He.glo_ok X G (c.t.d.fact 7 (f := .glo "_law_truth") rfl)
theorem g_law : mg "law" = some (.ref (He.fAd K ("law", none))) := He.glo_ok X G (c.t.d.fact 8 (f := .glo "law") rfl)
end
section
variable {w : World} {K : PySem.W.Frag} {h : Heap} (c : He.SaysX hfa hfn hts [] hex w h K)
include c
theorem F_holds : ∃ fd, FnP K "holds" st_holds (He.fAd K ("holds", none)) fd := c.t.d.def_ 0 (d := dd_holds) rfl
theorem F__law_box : ∃ fd, FnP K "_law_box" st__law_box (He.fAd K ("_law_box", none)) fd := c.t.d.def_ 1 (d := dd__law_box) rfl
theorem F__law_pull : ∃ fd, FnP K "_law_pull" st__law_pull (He.fAd K ("_law_pull", none)) fd := c.t.d.def_ 2 (d := dd__law_pull) rfl
theorem F__law_of : ∃ fd, FnP K "_law_of" st__law_of (He.fAd K ("_law_of", none)) fd := c.t.d.def_ 3 (d := dd__law_of) rfl
theorem F__law_names : ∃ fd, FnP K "_law_names" st__law_names (He.fAd K ("_law_names", none)) fd := c.t.d.def_ 4 (d := dd__law_names) rfl
theorem F__law_same : ∃ fd, FnP K "_law_same" st__law_same (He.fAd K ("_law_same", none)) fd := c.t.d.def_ 5 (d := dd__law_same) rfl
theorem F__law_free_test : ∃ fd, FnP K "_law_free_test" st__law_free_test (He.fAd K ("_law_free_test", none)) fd := c.t.d.def_ 6 (d := dd__law_free_test) rfl
theorem F__law_truth : ∃ fd, FnP K "_law_truth" st__law_truth (He.fAd K ("_law_truth", none)) fd := c.t.d.def_ 7 (d := dd__law_truth) rfl
theorem F_law : ∃ fd, FnP K "law" st_law (He.fAd K ("law", none)) fd := c.t.d.def_ 8 (d := dd_law) rfl
end
theorem B_holds_2 {K : PySem.W.Frag} {f : Addr} {fd : FuncData} (F : FnP K "holds" st_holds f fd) : Binds K fd ["test", "row"] [] := F.bindsN fun _ _ _ _ _ _ us hl => match us, hl with | [_, _], _ => rfl
theorem B__law_pull_2 {K : PySem.W.Frag} {f : Addr} {fd : FuncData} (F : FnP K "_law_pull" st__law_pull f fd) : Binds K fd ["_law_box_here", "_law_many"] [] := F.bindsN fun _ _ _ _ _ _ us hl => match us, hl with | [_, _], _ => rfl
theorem B__law_of_2 {K : PySem.W.Frag} {f : Addr} {fd : FuncData} (F : FnP K "_law_of" st__law_of f fd) : Binds K fd ["_law_box_here", "_law_some"] [] := F.bindsN fun _ _ _ _ _ _ us hl => match us, hl with | [_, _], _ => rfl
theorem B__law_same_2 {K : PySem.W.Frag} {f : Addr} {fd : FuncData} (F : FnP K "_law_same" st__law_same f fd) : Binds K fd ["_law_found", "_law_due"] [] := F.bindsN fun _ _ _ _ _ _ us hl => match us, hl with | [_, _], _ => rfl
theorem B__law_free_test_3 {K : PySem.W.Frag} {f : Addr} {fd : FuncData} (F : FnP K "_law_free_test" st__law_free_test f fd) : Binds K fd ["_law_box_here", "_law_words", "_law_deep"] [] := F.bindsN fun _ _ _ _ _ _ us hl => match us, hl with | [_, _, _], _ => rfl
theorem B__law_truth_2 {K : PySem.W.Frag} {f : Addr} {fd : FuncData} (F : FnP K "_law_truth" st__law_truth f fd) : Binds K fd ["_law_item", "_law_had"] [] := F.bindsN fun _ _ _ _ _ _ us hl => match us, hl with | [_, _], _ => rfl
theorem B__law_box_1 {K : PySem.W.Frag} {f : Addr} {fd : FuncData} (F : FnP K "_law_box" st__law_box f fd) : Binds K fd ["_law_script"] [] := F.bindsN fun _ _ _ _ _ _ us hl => match us, hl with | [_], _ => rfl
theorem B__law_names_2 {K : PySem.W.Frag} {f : Addr} {fd : FuncData} (F : FnP K "_law_names" st__law_names f fd) : Binds K fd ["_law_box_here", "_law_many"] [] := F.bindsN fun _ _ _ _ _ _ us hl => match us, hl with | [_, _], _ => rfl
theorem B_holds_0_row_test {K : PySem.W.Frag} {f : Addr} {fd : FuncData} (F : FnP K "holds" st_holds f fd) : Shape K fd ["test", "row"] 0 ["row", "test"] (pick [(false, 1), (false, 0)]) := shape_pick _ F fun _ _ _ _ _ _ us ws l1 l2 => match us, ws, l1, l2 with | [], [_, _], _, _ => rfl
end K04
set_option maxHeartbeats 1000000
namespace K04
open PySem L2 DL CM TL
theorem cut2 (x a : D) : cutD [x, a] (some 1) none = [a] := rfl
theorem cut3 (x a b : D) : cutD [x, a, b] (some 1) none = [a, b] := rfl
theorem q_is_is : (if false = true then !decide (("is" : Str) = "is") else decide (("is" : Str) = "is")) = true := by decide +kernel
theorem q_is_has : (if false = true then !decide (("is" : Str) = "has") else decide (("is" : Str) = "has")) = false := by decide +kernel
theorem q_is_not : (if false = true then !decide (("is" : Str) = "not") else decide (("is" : Str) = "not")) = false := by decide +kernel
theorem q_is_and : (if false = true then !decide (("is" : Str) = "and") else decide (("is" : Str) = "and")) = false := by decide +kernel
theorem q_has_is : (if false = true then !decide (("has" : Str) = "is") else decide (("has" : Str) = "is")) = false := by decide +kernel
theorem q_has_has : (if false = true then !decide (("has" : Str) = "has") else decide (("has" : Str) = "has")) = true := by decide +kernel
theorem q_has_not : (if false = true then !decide (("has" : Str) = "not") else decide (("has" : Str) = "not")) = false := by decide +kernel
theorem q_has_and : (if false = true then !decide (("has" : Str) = "and") else decide (("has" : Str) = "and")) = false := by decide +kernel
theorem q_not_is : (if false = true then !decide (("not" : Str) = "is") else decide (("not" : Str) = "is")) = false := by decide +kernel
theorem q_not_has : (if false = true then !decide (("not" : Str) = "has") else decide (("not" : Str) = "has")) = false := by decide +kernel
theorem q_not_not : (if false = true then !decide (("not" : Str) = "not") else decide (("not" : Str) = "not")) = true := by decide +kernel
theorem q_not_and : (if false = true then !decide (("not" : Str) = "and") else decide (("not" : Str) = "and")) = false := by decide +kernel
theorem q_and_is : (if false = true then !decide (("and" : Str) = "is") else decide (("and" : Str) = "is")) = false := by decide +kernel
theorem q_and_has : (if false = true then !decide (("and" : Str) = "has") else decide (("and" : Str) = "has")) = false := by decide +kernel
theorem q_and_not : (if false = true then !decide (("and" : Str) = "not") else decide (("and" : Str) = "not")) = false := by decide +kernel
theorem q_and_and : (if false = true then !decide (("and" : Str) = "and") else decide (("and" : Str) = "and")) = true := by decide +kernel
theorem q_or_is : (if false = true then !decide (("or" : Str) = "is") else decide (("or" : Str) = "is")) = false := by decide +kernel
theorem q_or_has : (if false = true then !decide (("or" : Str) = "has") else decide (("or" : Str) = "has")) = false := by decide +kernel
theorem q_or_not : (if false = true then !decide (("or" : Str) = "not") else decide (("or" : Str) = "not")) = false := by decide +kernel
theorem q_or_and : (if false = true then !decide (("or" : Str) = "and") else decide (("or" : Str) = "and")) = false := by decide +kernel

theorem get_flat {kvs : List (Key × D)} (h : ∀ p ∈ kvs, flat p.2 = true) (j : Key) : flat ((getG kvs j).getD .non) = true := by
  cases q : getG kvs j with
  | none => rfl
  | some x =>
    obtain ⟨p, h1, h2⟩ := getG_mem q
    rw [← h2]
    exact h p h1
theorem get_bl {kvs : List (Key × D)} {w : Str} (h : RowOk w kvs) : (getG kvs (.inr w)).getD (.bl false) = .bl (trHas kvs (.str w)) := by
  show (getG kvs (.inr w)).getD (.bl false) = .bl (blOf (getG kvs (.inr w)))
  cases q : getG kvs (.inr w) with
  | none => rfl
  | some x =>
    obtain ⟨b, rfl⟩ := h.2 x q
    rfl
theorem holds_ok (n : Nat) (ds : List D) (M : Mh) (k : DK) (kx : XKd) (h : sHolds (n + 1) ds M k kx) : b_holds n { nx := fun _ M' => k .non M', rt := k } (startD 5 ds) M noX := by
  obtain ⟨w0, w1, w2, w3, w4, t, a, kvs, m, rfl, ha, hrow, gt, hm, h⟩ := h
  have two : ∀ (hd : Str) (d e : D) (m1 m2 : Nat), hd = "and" ∨ hd = "or" → GT w0 w1 w2 w3 w4 m1 d → GT w0 w1 w2 w3 w4 m2 e → m1 ≤ n → m2 ≤ n → k (.bl (tr kvs (n + 1) (.tup [.str hd, d, e]))) M → b_holds n { nx := fun _ M' => k .non M', rt := k } (startD 5 [.tup [.str hd, d, e], .ref a]) M noX := by
    intro hd d e m1 m2 hh g1 g2 l1 l2 h
    unfold b_holds
    refine ⟨_, rfl, 0, _, _, rfl, rfl, rfl, _, rfl, ?_⟩
    have comp : ∀ (Γ : DL.Env) (kk : List D → Mh → Prop), Γ.length = 5 → Γ[1]? = some (some (.ref a)) → kk [.bl (tr kvs n d), .bl (tr kvs n e)] M → loopLc (.nm 4) anyG mYes (mCall (sHolds n) (mCons (mVar 4) (mCons (mVar 1) mNil))) Γ kk noX [] [d, e] M := by
      intro Γ kk hl hΓ hkk
      refine lc_map (fun x => .bl (tr kvs n x)) trivial (fun x hx => ?_) hkk
      refine ⟨_, rfl, fun k' hk => ⟨_, List.getElem?_set_self (by omega), _, by rw [List.getElem?_set_ne (by decide)]; exact hΓ, ?_⟩⟩
      simp only [List.mem_cons, List.not_mem_nil, or_false] at hx
      rcases hx with rfl | rfl
      · exact ⟨w0, w1, w2, w3, w4, _, a, kvs, m1, rfl, ha, hrow, g1, l1, hk⟩
      · exact ⟨w0, w1, w2, w3, w4, _, a, kvs, m2, rfl, ha, hrow, g2, l2, hk⟩
    rcases hh with rfl | rfl
    · refine ⟨_, rfl, _, rfl, ?_⟩
      rw [q_and_is]
      refine ⟨_, rfl, _, rfl, ?_⟩
      rw [q_and_has]
      refine ⟨_, rfl, _, rfl, ?_⟩
      rw [q_and_not]
      refine ⟨_, rfl, 1, rfl, sz_le (by show 2 ≤ 1000000; decide), comp _ _ rfl rfl ⟨_, rfl, ?_⟩⟩
      refine ⟨_, rfl, _, rfl, ?_⟩
      rw [q_and_and]
      rw [tr_and] at h
      refine ⟨_, rfl, _, _, _, rfl, rfl, rfl, ?_⟩
      show k (.bl (tr kvs n d && (tr kvs n e && true))) M
      rw [Bool.and_true]
      exact h
    · refine ⟨_, rfl, _, rfl, ?_⟩
      rw [q_or_is]
      refine ⟨_, rfl, _, rfl, ?_⟩
      rw [q_or_has]
      refine ⟨_, rfl, _, rfl, ?_⟩
      rw [q_or_not]
      refine ⟨_, rfl, 1, rfl, sz_le (by show 2 ≤ 1000000; decide), comp _ _ rfl rfl ⟨_, rfl, ?_⟩⟩
      refine ⟨_, rfl, _, rfl, ?_⟩
      rw [q_or_and]
      rw [tr_or] at h
      refine ⟨_, rfl, _, _, _, rfl, rfl, rfl, ?_⟩
      show k (.bl (tr kvs n d || (tr kvs n e || false))) M
      rw [Bool.or_false]
      exact h
  cases gt with
  | @is c hc =>
    unfold b_holds
    refine ⟨_, rfl, 0, _, _, rfl, rfl, rfl, _, rfl, ?_⟩
    refine ⟨_, rfl, _, rfl, ?_⟩
    rw [q_is_is]
    refine ⟨_, rfl, a, rfl, ⟨kvs, ha⟩, _, rfl, 1, _, _, rfl, rfl, rfl, kvs, _, ha, rfl, _, rfl, 2, _, _, rfl, rfl, rfl, ?_⟩
    exact eq_flat (get_flat hrow.1 _) h
  | has =>
    unfold b_holds
    refine ⟨_, rfl, 0, _, _, rfl, rfl, rfl, _, rfl, ?_⟩
    refine ⟨_, rfl, _, rfl, ?_⟩
    rw [q_has_is]
    refine ⟨_, rfl, _, rfl, ?_⟩
    rw [q_has_has]
    refine ⟨_, rfl, a, rfl, ⟨kvs, ha⟩, _, rfl, 1, _, _, rfl, rfl, rfl, kvs, _, ha, rfl, ?_⟩
    rw [get_bl hrow]
    exact h
  | @not m d g =>
    unfold b_holds
    refine ⟨_, rfl, 0, _, _, rfl, rfl, rfl, _, rfl, ?_⟩
    refine ⟨_, rfl, _, rfl, ?_⟩
    rw [q_not_is]
    refine ⟨_, rfl, _, rfl, ?_⟩
    rw [q_not_has]
    refine ⟨_, rfl, _, rfl, ?_⟩
    rw [q_not_not]
    exact ⟨_, rfl, 1, _, _, rfl, rfl, rfl, _, rfl, w0, w1, w2, w3, w4, d, a, kvs, m, rfl, ha, hrow, g, by omega, _, rfl, h⟩
  | @two m m' hd d e hh g1 g2 hl => exact two hd d e _ _ hh g1 g2 (by omega) (by omega) h
  | @owt m m' hd d e hh g1 g2 hl => exact two hd e d _ _ hh g2 g1 (by omega) (by omega) h
theorem truth_ok (n : Nat) (ds : List D) (M : Mh) (k : DK) (kx : XKd) (h : sTruth (n + 1) ds M k kx) : b__law_truth n { nx := fun _ M' => k .non M', rt := k } (startD 4 ds) M noX := by
  obtain ⟨w0, w1, w2, w3, w4, t, a, kvs, m, rfl, ha, hrow, gt, hm, h⟩ := h
  have two : ∀ (hd : Str) (d e : D) (m1 m2 : Nat), hd = "and" ∨ hd = "or" → GT w0 w1 w2 w3 w4 m1 d → GT w0 w1 w2 w3 w4 m2 e → m1 ≤ n → m2 ≤ n → k (.bl (tr kvs (n + 1) (.tup [.str hd, d, e]))) M → b__law_truth n { nx := fun _ M' => k .non M', rt := k } (startD 4 [.tup [.str hd, d, e], .ref a]) M noX := by
    intro hd d e m1 m2 hh g1 g2 l1 l2 h
    unfold b__law_truth
    refine ⟨_, rfl, 0, _, _, rfl, rfl, rfl, _, rfl, ?_⟩
    have comp : ∀ (Γ : DL.Env) (kk : List D → Mh → Prop), Γ.length = 4 → Γ[1]? = some (some (.ref a)) → kk [.bl (tr kvs n d), .bl (tr kvs n e)] M → loopLc (.nm 3) anyG mYes (mCall (sTruth n) (mCons (mVar 3) (mCons (mVar 1) mNil))) Γ kk noX [] [d, e] M := by
      intro Γ kk hl hΓ hkk
      refine lc_map (fun x => .bl (tr kvs n x)) trivial (fun x hx => ?_) hkk
      refine ⟨_, rfl, fun k' hk => ⟨_, List.getElem?_set_self (by omega), _, by rw [List.getElem?_set_ne (by decide)]; exact hΓ, ?_⟩⟩
      simp only [List.mem_cons, List.not_mem_nil, or_false] at hx
      rcases hx with rfl | rfl
      · exact ⟨w0, w1, w2, w3, w4, _, a, kvs, m1, rfl, ha, hrow, g1, l1, hk⟩
      · exact ⟨w0, w1, w2, w3, w4, _, a, kvs, m2, rfl, ha, hrow, g2, l2, hk⟩
    rcases hh with rfl | rfl
    · rw [q_and_is]
      refine ⟨_, rfl, 0, _, _, rfl, rfl, rfl, _, rfl, ?_⟩
      rw [q_and_has]
      refine ⟨_, rfl, 0, _, _, rfl, rfl, rfl, _, rfl, ?_⟩
      rw [q_and_not]
      refine ⟨_, rfl, 1, rfl, sz_le (by show 2 ≤ 1000000; decide), comp _ _ rfl rfl ⟨_, rfl, ?_⟩⟩
      refine ⟨_, rfl, 0, _, _, rfl, rfl, rfl, _, rfl, ?_⟩
      rw [q_and_and]
      rw [tr_and] at h
      refine ⟨_, rfl, 0, _, _, rfl, rfl, rfl, _, rfl, ?_⟩
      cases q : tr kvs n d with
      | true =>
        rw [q, Bool.true_and] at h
        exact ⟨_, rfl, 1, _, _, rfl, rfl, rfl, h⟩
      | false =>
        rw [q, Bool.false_and] at h
        exact h
    · rw [q_or_is]
      refine ⟨_, rfl, 0, _, _, rfl, rfl, rfl, _, rfl, ?_⟩
      rw [q_or_has]
      refine ⟨_, rfl, 0, _, _, rfl, rfl, rfl, _, rfl, ?_⟩
      rw [q_or_not]
      refine ⟨_, rfl, 1, rfl, sz_le (by show 2 ≤ 1000000; decide), comp _ _ rfl rfl ⟨_, rfl, ?_⟩⟩
      refine ⟨_, rfl, 0, _, _, rfl, rfl, rfl, _, rfl, ?_⟩
      rw [q_or_and]
      rw [tr_or] at h
      refine ⟨_, rfl, 0, _, _, rfl, rfl, rfl, _, rfl, ?_⟩
      cases q : tr kvs n d with
      | true =>
        rw [q, Bool.true_or] at h
        exact h
      | false =>
        rw [q, Bool.false_or] at h
        exact ⟨_, rfl, 1, _, _, rfl, rfl, rfl, h⟩
  cases gt with
  | @is c hc =>
    unfold b__law_truth
    refine ⟨_, rfl, 0, _, _, rfl, rfl, rfl, _, rfl, ?_⟩
    rw [q_is_is]
    refine ⟨_, rfl, 1, _, _, rfl, rfl, rfl, _, rfl, a, kvs, _, rfl, ha, rfl, _, rfl, ?_⟩
    have h : k (.bl (eqS ((getG kvs (.inr c)).getD .non) (.str w3) == some true)) M := h
    cases q : getG kvs (.inr c) with
    | none =>
      rw [q] at h
      exact h
    | some x =>
      rw [q] at h
      refine ⟨_, rfl, _, rfl, 1, _, _, rfl, rfl, rfl, a, kvs, _, x, rfl, ha, rfl, q, _, rfl, 2, _, _, rfl, rfl, rfl, ?_⟩
      have hf := get_flat hrow.1 (.inr c)
      rw [q] at hf
      exact eq_flat hf h
  | has =>
    unfold b__law_truth
    refine ⟨_, rfl, 0, _, _, rfl, rfl, rfl, _, rfl, ?_⟩
    rw [q_has_is]
    refine ⟨_, rfl, 0, _, _, rfl, rfl, rfl, _, rfl, ?_⟩
    rw [q_has_has]
    refine ⟨_, rfl, 1, _, _, rfl, rfl, rfl, _, rfl, a, kvs, _, rfl, ha, rfl, _, rfl, ?_⟩
    have h : k (.bl (blOf (getG kvs (.inr w4)))) M := h
    cases q : getG kvs (.inr w4) with
    | none =>
      rw [q] at h
      exact h
    | some x =>
      rw [q] at h
      obtain ⟨b, rfl⟩ := hrow.2 x q
      exact ⟨_, rfl, _, rfl, 1, _, _, rfl, rfl, rfl, a, kvs, _, _, rfl, ha, rfl, q, h⟩
  | @not m d g =>
    unfold b__law_truth
    refine ⟨_, rfl, 0, _, _, rfl, rfl, rfl, _, rfl, ?_⟩
    rw [q_not_is]
    refine ⟨_, rfl, 0, _, _, rfl, rfl, rfl, _, rfl, ?_⟩
    rw [q_not_has]
    refine ⟨_, rfl, 0, _, _, rfl, rfl, rfl, _, rfl, ?_⟩
    rw [q_not_not]
    exact ⟨_, rfl, 1, _, _, rfl, rfl, rfl, _, rfl, w0, w1, w2, w3, w4, d, a, kvs, m, rfl, ha, hrow, g, by omega, _, rfl, h⟩
  | @two m m' hd d e hh g1 g2 hl => exact two hd d e _ _ hh g1 g2 (by omega) (by omega) h
  | @owt m m' hd d e hh g1 g2 hl => exact two hd e d _ _ hh g2 g1 (by omega) (by omega) h

def sLaw : MF := fun ds M k _ => ∃ ns : List Int, ds = [.scr ns] ∧ ns.length ≤ 63 ∧ ∀ M', k (.bl true) M'
theorem setM_ne {M : Mh} {a b : Addr} {o : MO} (h : b ≠ a) : setM M a o b = M b := by
  unfold setM
  rw [if_neg h]
theorem col_ne {w0 w2 w4 : Str} (h : isNameS w4 = true) : w4 ≠ w2 ++ "." ++ w0 := fun e => by
  have := name_dot h
  rw [e, tl_append, tl_append] at this
  have e1 : tl "." = [46] := by decide +kernel
  rw [e1] at this
  exact this (by simp)
theorem turn_ok (p : Addr) (M : Mh) (hb : M p = some .box) (nx : DL.Env → Mh → Prop) (De : DEnds) (x0 x2 x3 x4 x5 x6 x7 : Option D)
    (hnx : ∀ M' x3 x4 x5 x6 x7, M' p = some .box → nx [x0, some (.ref p), x2, x3, x4, x5, x6, x7] M') :
    (mSeq b_law_1 (mSeq b_law_2 (mSeq b_law_3 (mSeq b_law_4 (mSeq b_law_5 (mSeq b_law_6 b_law_7)))))) { De with nx := nx, ct := nx, bk := De.nx } [x0, some (.ref p), x2, x3, x4, x5, x6, x7] M noX := by
  refine ⟨_, rfl, p, 5, rfl, hb, by decide, by decide, fun ws hl nd hg => ⟨_, rfl, ?_⟩⟩
  obtain ⟨w0, w1, w2, w3, w4, rfl⟩ : ∃ w0 w1 w2 w3 w4, ws = [w0, w1, w2, w3, w4] := by
    match ws, hl with
    | [a, b, c, d, e], _ => exact ⟨a, b, c, d, e, rfl⟩
  have g0 := (hg w0 (by simp)).1
  have g2 := (hg w2 (by simp)).1
  have g4 := (hg w4 (by simp)).1
  have l0 := isNameS_len g0
  have l2 := isNameS_len g2
  have five : Five (.lst [.str w0, .str w1, .str w2, .str w3, .str w4]) w0 w1 w2 w3 w4 := ⟨rfl, g0, (hg w1 (by simp)).1, g2, (hg w3 (by simp)).1, g4⟩
  have n0 : w4 ≠ w0 := fun e => by subst e; simp at nd
  have n1 : w4 ≠ w1 := fun e => by subst e; simp at nd
  have n2 : w4 ≠ w2 ++ "." ++ w0 := col_ne g4
  -- the test
  refine ⟨_, rfl, _, rfl, _, rfl, p, 5, rfl, hb, by decide, by decide, fun r r1 r2 => ?_⟩
  obtain ⟨rn, rfl⟩ : ∃ rn : Nat, r = (rn : Int) := ⟨r.toNat, by omega⟩
  refine ⟨p, _, w0, w1, w2, w3, w4, rn + 1, by show [D.ref p, _, D.int (1 + (rn : Int))] = _; rw [show 1 + (rn : Int) = ((rn + 1 : Nat) : Int) by omega]; rfl, hb, five, by omega, by omega, fun t gt => ⟨_, rfl, ?_⟩⟩
  -- the row
  refine fun q hq => ⟨_, rfl, ?_⟩
  have hqp : q ≠ p := fun e => by rw [e, hb] at hq; cases hq
  have hb1 : setM M q (.dct []) p = some .box := by rw [setM_ne (Ne.symm hqp)]; exact hb
  have hq1 : setM M q (.dct []) q = some (.dct []) := setM_at
  dsimp only [List.set_cons_zero, List.set_cons_succ]
  generalize setM M q (.dct []) = M1 at hb1 hq1
  have ld : ("." : Str).length = 1 := dot1
  have lc : (w2 ++ ".").length = w2.length + 1 := by rw [len_tl, tl_append, List.length_append, ← len_tl, ← len_tl, ld]
  refine ⟨_, rfl, 0, _, _, rfl, rfl, rfl, _, rfl, 1, _, _, rfl, rfl, rfl, _, rfl, 2, _, _, rfl, rfl, rfl, sz_le (by omega), _, rfl, 0, _, _, rfl, rfl, rfl, sz_le (by omega), sz_le (by show 3 ≤ 1000000; decide), ?_⟩
  refine for_invN (fun n Γ M' => M' p = some .box ∧ ∃ kvs x6, M' q = some (.dct kvs) ∧ kvs.length + n ≤ 3 ∧ (kvs.map (·.1)).Nodup ∧ (∀ e ∈ kvs, flat e.2 = true) ∧ getG kvs (.inr w4) = none ∧ Γ = [x0, some (.ref p), x2, some (.lst [.str w0, .str w1, .str w2, .str w3, .str w4]), some t, some (.ref q), x6, x7]) _ ⟨hb1, [], x6, hq1, by show 0 + 3 ≤ 3; decide, List.nodup_nil, (fun e he => (List.not_mem_nil he).elim), rfl, rfl⟩ ?_ ?_
  · rintro d hd n Γ M' ⟨hb', kvs, y6, hq', hlen, hnd, hfl, hno, rfl⟩
    obtain ⟨c, rfl, hc⟩ : ∃ c : Str, d = .str c ∧ w4 ≠ c := by
      simp only [List.mem_cons, List.not_mem_nil, or_false] at hd
      rcases hd with rfl | rfl | rfl
      · exact ⟨_, rfl, n0⟩
      · exact ⟨_, rfl, n1⟩
      · exact ⟨_, rfl, n2⟩
    refine ⟨trivial, _, rfl, fun nx2 hnx2 => ?_⟩
    refine ⟨_, rfl, p, 4, rfl, hb', by decide, by decide, fun r _ _ => ⟨_, _, rfl, rfl, trivial, _, rfl, ?_⟩⟩
    by_cases hr : 0 < r
    · rw [decide_eq_true hr]
      refine ⟨_, rfl, _, rfl, 3, _, _, rfl, rfl, rfl, _, rfl, 3, _, _, rfl, rfl, rfl, _, rfl, 0, _, _, rfl, rfl, rfl, sz_le (by show 4 ≤ 1000000; decide), p, _, _, rfl, hb', rfl, by show 0 < 4; decide, by show 4 ≤ 1000000; decide, fun v hv => ?_⟩
      have hvf : flat v = true := by
        simp only [List.mem_cons, List.not_mem_nil, or_false] at hv
        rcases hv with rfl | rfl | rfl | rfl <;> rfl
      refine ⟨_, rfl, _, rfl, q, kvs, _, rfl, hq', rfl, Nat.lt_of_le_of_lt (show kvs.length ≤ 3 by omega) (by decide), ?_⟩
      refine hnx2 _ _ ⟨by rw [setM_ne (Ne.symm hqp)]; exact hb', _, _, setM_at, ?_, put_nd hnd, put_flat hvf hfl, ?_, rfl⟩
      · have := put_len kvs (.inr c) v
        omega
      · rw [getG_put_ne (fun e => hc (Sum.inr.inj e))]
        exact hno
    · rw [decide_eq_false hr]
      exact hnx2 _ _ ⟨hb', kvs, _, hq', by omega, hnd, hfl, hno, rfl⟩
  · rintro Γ M2 ⟨hb2, kvs, y6, hq2, hlen, hnd, hfl, hno, rfl⟩
    refine ⟨trivial, ?_⟩
    have rest : ∀ (M3 : Mh) (kvs : List (Key × D)), M3 p = some .box → M3 q = some (.dct kvs) → (kvs.map (·.1)).Nodup → RowOk w4 kvs →
        (mSeq b_law_6 b_law_7) { De with nx := nx, ct := nx, bk := De.nx } [x0, some (.ref p), x2, some (.lst [.str w0, .str w1, .str w2, .str w3, .str w4]), some t, some (.ref q), y6, x7] M3 noX := by
      intro M3 kvs hb3 hq3 hnd hrow
      refine ⟨_, rfl, q, kvs, rfl, hq3, fun q2 hq2 => ⟨_, rfl, ?_⟩⟩
      have n1 : q ≠ q2 := fun e => by rw [← e, hq3] at hq2; cases hq2
      have n2 : p ≠ q2 := fun e => by rw [← e, hb3] at hq2; cases hq2
      have hb4 : setM M3 q2 (.dct kvs) p = some .box := by rw [setM_ne n2]; exact hb3
      have hq4 : setM M3 q2 (.dct kvs) q = some (.dct kvs) := by rw [setM_ne n1]; exact hq3
      have hr4 : setM M3 q2 (.dct kvs) q2 = some (.dct kvs) := setM_at
      dsimp only [List.set_cons_zero, List.set_cons_succ]
      generalize setM M3 q2 (.dct kvs) = M4 at hb4 hq4 hr4
      refine ⟨_, rfl, _, rfl, w0, w1, w2, w3, w4, t, q, kvs, rn + 1, rfl, hq4, hrow, gt, by omega, ?_⟩
      refine ⟨_, rfl, _, rfl, sz_le (by show 2 ≤ 1000000; decide), rfl, rfl, w0, w1, w2, w3, w4, .tup [.str "not", t], q, kvs, rn + 2, rfl, hq4, hrow, .not gt, by omega, sz_le (by show 2 ≤ 1000000; decide), ?_⟩
      refine ⟨_, rfl, _, rfl, w0, w1, w2, w3, w4, t, q2, kvs, rn + 1, rfl, hr4, hrow, gt, by omega, ?_⟩
      refine ⟨_, rfl, _, rfl, w0, w1, w2, w3, w4, t, q2, kvs, rn + 1, rfl, hr4, hrow, gt, by omega, _, rfl, sz_le (by show 2 ≤ 1000000; decide), ?_⟩
      refine ⟨.lst [.bl (tr kvs 6 t), .bl (!tr kvs 6 t)], ?_, rfl, rfl, true, rfl, ?_⟩
      · rw [tr_not, ← tr_up gt 5 (by omega)]
      · exact ⟨_, rfl, _, rfl, q, q2, kvs, rfl, rfl, hq4, hr4, hnd, hrow.1, _, rfl, hnx _ _ _ _ _ _ hb4⟩
    refine ⟨_, rfl, p, 3, rfl, hb2, by decide, by decide, fun r _ _ => ⟨_, _, rfl, rfl, trivial, _, rfl, ?_⟩⟩
    by_cases hr : 0 < r
    · rw [decide_eq_true hr]
      refine ⟨_, rfl, p, 2, rfl, hb2, by decide, by decide, fun s _ _ => ?_⟩
      refine ⟨_, rfl, _, rfl, 4, _, _, rfl, rfl, rfl, q, kvs, _, rfl, hq2, rfl, Nat.lt_of_le_of_lt (show kvs.length ≤ 3 by omega) (by decide), ?_⟩
      refine rest _ _ (by rw [setM_ne (Ne.symm hqp)]; exact hb2) setM_at (put_nd hnd) ⟨put_flat rfl hfl, fun x hx => ⟨_, getG_put_some hx⟩⟩
    · rw [decide_eq_false hr]
      exact rest _ _ hb2 hq2 hnd ⟨hfl, fun x hx => by rw [hno] at hx; cases hx⟩
theorem law_ok (ds : List D) (M : Mh) (k : DK) (kx : XKd) (h : sLaw ds M k kx) : b_law { nx := fun _ M' => k .non M', rt := k } (startD 8 ds) M noX := by
  obtain ⟨ns, rfl, hl, hk⟩ := h
  refine ⟨_, rfl, ns, rfl, hl, fun p hp => ⟨_, rfl, ?_⟩⟩
  have hb : setM M p .box p = some .box := setM_at
  generalize setM M p .box = M1 at hb
  refine ⟨8, rfl, by decide, by decide, ?_⟩
  refine for_inv (fun Γ M' => M' p = some .box ∧ ∃ x0 x2 x3 x4 x5 x6 x7, Γ = [x0, some (.ref p), x2, x3, x4, x5, x6, x7]) _ ⟨hb, _, _, _, _, _, _, _, rfl⟩ ?_ ?_
  · rintro d hd Γ M' ⟨hb', x0, x2, x3, x4, x5, x6, x7, rfl⟩
    refine ⟨trivial, _, rfl, fun nx hnx => ?_⟩
    exact turn_ok p M' hb' nx _ x0 (some d) x3 x4 x5 x6 x7 fun _ _ _ _ _ _ hb2 => hnx _ _ ⟨hb2, _, _, _, _, _, _, _, rfl⟩
  · rintro Γ M' ⟨hb', _⟩
    exact ⟨trivial, hk _⟩
/-! ### all together -/
theorem facts {P : Program} {w : World} {K : PySem.W.Frag} {h : Heap} {mg : Str → Option Value} {f : Addr} (X : K.In h) (G : h.Ns mainGlobals mg) (hlw : mg ("law" : Str) = some (.ref f)) (c : He.SaysX hfa hfn hts [] hex w h K) :
    ∃ fd : FuncData, (∀ (s : Shared) (v : Value), BindsTo s fd ⟨[v], []⟩ [("_law_script", v)]) ∧ ∀ base : Heap, K.In base → base.Ns mainGlobals mg → FnOk P w K mg base CX0 12 f fd ["_law_script"] (spI K sLaw) := by
  have T := txt X G c
  obtain ⟨fd_holds, F_holds⟩ := F_holds c
  obtain ⟨fd__law_box, F__law_box⟩ := F__law_box c
  obtain ⟨fd__law_pull, F__law_pull⟩ := F__law_pull c
  obtain ⟨fd__law_of, F__law_of⟩ := F__law_of c
  obtain ⟨fd__law_names, F__law_names⟩ := F__law_names c
  obtain ⟨fd__law_same, F__law_same⟩ := F__law_same c
  obtain ⟨fd__law_free_test, F__law_free_test⟩ := F__law_free_test c
  obtain ⟨fd__law_truth, F__law_truth⟩ := F__law_truth c
  obtain ⟨fd_law, F_law⟩ := F_law c
  have e := hlw.symm.trans (g_law X G c)
  cases e
  have b := FunD.bindsA (ps := ["_law_script"]) F_law fun _ _ _ _ _ _ us hl => match us, hl with | [_], _ => rfl
  refine ⟨fd_law, fun s v => b s [v] rfl, fun base _ _ => ?_⟩
  have D_holds : ∀ n : Nat, Df P w K mg base CX0 (n + 1) _ fd_holds "holds" ["test", "row"] (CM.sHolds n) := fun n => by
    induction n with
    | zero => exact ⟨fn_false fun _ _ _ _ ⟨_, _, _, _, _, _, _, _, m, _, _, _, q1, q2, _⟩ => (by have := q1.pos; omega), g_holds X G c, F_holds.kp⟩
    | succ n ih => exact ⟨ok_holds (k := n + 1) F_holds T ih (by first | decide | omega) (B_holds_2 F_holds) (fun _ _ _ _ ⟨_, _, _, _, _, _, _, _, _,  e, _⟩ => by rw [e]; rfl) (holds_ok n), g_holds X G c, F_holds.kp⟩
  have D__law_box : Df P w K mg base CX0 1 _ fd__law_box "_law_box" ["_law_script"] sBox := ⟨box_box (m := fun ds M k _ => ds.length = 1 ∧ CM.b__law_box { nx := fun _ M' => k .non M', rt := k } (startD 3 ds) M noX) (ok__law_box (k := 0) F__law_box T (fun _ _ _ _ q => q.1) fun _ _ _ _ q => q.2) fun ns M k hl hk => ⟨rfl, CM.box_body ns M k hl hk⟩, g__law_box X G c, F__law_box.kp⟩
  have D__law_pull : Df P w K mg base CX0 1 _ fd__law_pull "_law_pull" ["_law_box_here", "_law_many"] sPull := ⟨pull_box (m := fun ds M k _ => ds.length = 2 ∧ CM.b__law_pull { nx := fun _ M' => k .non M', rt := k } (startD 5 ds) M noX) (ok__law_pull (k := 0) F__law_pull T (fun _ _ _ _ q => q.1) fun _ _ _ _ q => q.2) fun b n ds M k h1 h2 h3 h4 h5 => ⟨rfl, CM.pull_body b n ds M k h1 h2 h3 h4 h5⟩, g__law_pull X G c, F__law_pull.kp⟩
  have D__law_of : Df P w K mg base CX0 2 _ fd__law_of "_law_of" ["_law_box_here", "_law_some"] CM.sOf := ⟨ok__law_of (k := 1) F__law_of T D__law_pull (by first | decide | omega) (B__law_pull_2 F__law_pull) (fun _ _ _ _ ⟨_, _, _,  e, _⟩ => by rw [e]; rfl) CM.of_ok, g__law_of X G c, F__law_of.kp⟩
  have D__law_names : Df P w K mg base CX0 3 _ fd__law_names "_law_names" ["_law_box_here", "_law_many"] CM.sNames := ⟨ok__law_names (k := 2) F__law_names T D__law_of (by first | decide | omega) D__law_pull (by first | decide | omega) (B__law_of_2 F__law_of) (B__law_pull_2 F__law_pull) (fun _ _ _ _ ⟨_, _,  e, _⟩ => by rw [e]; rfl) CM.names_ok, g__law_names X G c, F__law_names.kp⟩
  have D__law_same : ∀ n : Nat, Df P w K mg base CX0 (n + 1) _ fd__law_same "_law_same" ["_law_found", "_law_due"] (CM.sSame n) := fun n => by
    induction n with
    | zero => exact ⟨fn_false fun _ _ _ _ ⟨d, _, q, _⟩ => (by rw [CM.pureN] at q; exact Bool.false_ne_true q), g__law_same X G c, F__law_same.kp⟩
    | succ n ih => exact ⟨ok__law_same (k := n + 1) F__law_same T ih (by first | decide | omega) (B__law_same_2 F__law_same) (fun _ _ _ _ ⟨_,  e, _⟩ => by rw [e]; rfl) (CM.same_ok n), g__law_same X G c, F__law_same.kp⟩
  have D__law_free_test : ∀ n : Nat, Df P w K mg base CX0 (n + 2) _ fd__law_free_test "_law_free_test" ["_law_box_here", "_law_words", "_law_deep"] (CM.sGrow n) := fun n => by
    induction n with
    | zero => exact ⟨fn_false fun _ _ _ _ ⟨_, _, _, _, _, _, _, m, _, _, _, q1, q2, _⟩ => (by omega), g__law_free_test X G c, F__law_free_test.kp⟩
    | succ n ih => exact ⟨ok__law_free_test (k := n + 2) F__law_free_test T D__law_of (by first | decide | omega) D__law_pull (by first | decide | omega) ih (by first | decide | omega) (B__law_of_2 F__law_of) (B__law_pull_2 F__law_pull) (B__law_free_test_3 F__law_free_test) (fun _ _ _ _ ⟨_, _, _, _, _, _, _, _,  e, _⟩ => by rw [e]; rfl) (CM.grow_ok n), g__law_free_test X G c, F__law_free_test.kp⟩
  have D__law_truth : ∀ n : Nat, Df P w K mg base CX0 (n + 1) _ fd__law_truth "_law_truth" ["_law_item", "_law_had"] (CM.sTruth n) := fun n => by
    induction n with
    | zero => exact ⟨fn_false fun _ _ _ _ ⟨_, _, _, _, _, _, _, _, m, _, _, _, q1, q2, _⟩ => (by have := q1.pos; omega), g__law_truth X G c, F__law_truth.kp⟩
    | succ n ih => exact ⟨ok__law_truth (k := n + 1) F__law_truth T ih (by first | decide | omega) (B__law_truth_2 F__law_truth) (fun _ _ _ _ ⟨_, _, _, _, _, _, _, _, _,  e, _⟩ => by rw [e]; rfl) (truth_ok n), g__law_truth X G c, F__law_truth.kp⟩
  exact ok_law (k := 11) F_law T D__law_box (by first | decide | omega) D__law_names (by first | decide | omega) (D__law_free_test 5) (by first | decide | omega) D__law_pull (by first | decide | omega) D__law_of (by first | decide | omega) (D__law_same 4) (by first | decide | omega) (D__law_truth 6) (by first | decide | omega) (D_holds 6) (by first | decide | omega) (B__law_box_1 F__law_box) (B__law_names_2 F__law_names) (B__law_pull_2 F__law_pull) (B__law_free_test_3 F__law_free_test) (B__law_of_2 F__law_of) (B__law_truth_2 F__law_truth) (B_holds_0_row_test F_holds) (B_holds_2 F_holds) (B__law_same_2 F__law_same) (fun _ _ _ _ ⟨_,  e, _⟩ => by rw [e]; rfl) law_ok
end K04
open PySem PySem.W PySem.Calls PyProof.Rows
set_option maxHeartbeats 0 in
theorem PySem.Challenge.cw_bothlots_k04_tests_hold_holds : PySem.Challenge.rw_bothlots_k04_tests_hold.Holds := by
  w_on; o_law
  o_head K04.hk
  case hw => w_witness2
  case hc =>
    refine L2.walk_ofE (l := PySem.Challenge.rw_bothlots_k04_tests_hold) (n := 63) (k := 12) (x := "_law_script") (CX := L2.CX0) rfl (by decide) (by kernel_rfl) ⟨rfl, by decide, by decide⟩ ?F (fun _ _ _ _ z => z)
    intro w mg fa h Y G hmg0
    obtain ⟨K, KX, c⟩ := Y
    have hmg : mg ("law" : PySem.Str) = some (.ref fa) := hmg0
    obtain ⟨fd, hb, hF⟩ := K04.facts (P := (PySem.Challenge.rw_bothlots_k04_tests_hold).prog) (w := w) KX G hmg c
    exact ⟨K, fd, DL.spI K K04.sLaw, KX, hb, fun H a ns hl _ hS => DL.law_start hS fun M => ⟨ns, rfl, hl, fun _ => rfl⟩, hF⟩
#print axioms PySem.Challenge.cw_bothlots_k04_tests_hold_holds
